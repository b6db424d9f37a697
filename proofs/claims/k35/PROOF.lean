import PyProof.Rows.All
import Wide.All
import OpenK.AllK
import Wide.FinOn
import HandS.ForMost
import HandS.Exc
import HandS.ExcOwn
import HandS.WordsExc
import HandS.Lambda
import HandS.TupAny
import HandS.Flow
import HandS.Style
import HandS.Deep
import HandS.NoneIn
import KE.GoesNew
import KE.GoesMore
import KE.GoesEnum
import HandS.Wide
import HandS.IsInst
import HandS.SortInts
import HandS.TupLe
import PyProof.IsRules
import HandS.Defaults
import HandS.Ends
import HandS.HeadEnd
import PyProof.ReprRoads
import HandS.SortRule
import HandS.Dict
import HandS.HeadNt
import HandS.Conv
import HandS.Star
import HandS.Comp
import HandS.TupSets
import HandS.SetFor
import PyProof.Rows.SortShellAny
import HandS.EndTab
import HandS.HeadHook4
import PySem.Challenge.RW_commonkeys_k35_whole_foldings
import HandS.Head0
import HandS.Head1
import HandS.Head2
import HandS.HeadHook1
import HandS.HeadHook2
import HandS.HeadHook3
import Lean
section
set_option Elab.async false
set_option linter.all false
set_option maxRecDepth 100000
set_option maxHeartbeats 1000000
set_option autoImplicit false
/-! The deep layer, part 0: values without addresses, memory, what they mean over the abstract heap. -/
namespace D
open PySem PySem.Spec PyProof.Rows L2

/-- the tables that the law's code objects have, each with the name of what is made there -/
class TBL where
  T : List (Addr × Str)
/-- a value; tuples, lists that nobody changes any more and instances that nobody changes are told by what they hold; ref: a thing that may change, by its place in the memory -/
inductive Dv where
  | non | bl (b : Bool) | int (i : Int) | str (x : Str) | tup (l : List Dv) | lst (l : List Dv)
  | obj (C : Addr) (ks : List Str) (l : List Dv) | ref (i : Nat) | adr (a : Addr)
  | frz (l : List Dv) | ty (n : String) | dic
/-- what may change -/
inductive MO where
  | lst (l : List Dv)
  | ins (C : Addr) (ks : List Str) (l : List Dv)
abbrev Mem := List MO
abbrev Loc := List (Option Dv)
/-- where the memory's things lie; what is hidden for now (a list that a comprehension makes) -/
structure Fr where
  ad : Nat → Addr
  hid : Addr → Prop
instance : CoeFun Fr (fun _ => Nat → Addr) := ⟨Fr.ad⟩
/-- beside the memory -/
def Bes (n : Nat) (f : Fr) (a : Addr) : Prop := (∀ i, i < n → f i ≠ a) ∧ ¬ f.hid a

mutual
def RD (n : Nat) (f : Fr) (H : Hp) : Dv → V → Prop
  | .non, v => v = .non
  | .bl b, v => v = .bl b
  | .int i, v => v = .int i
  | .str x, v => v = .str x
  | .tup l, v => l.length ≤ sizeLine ∧ ∃ a xs, v = .ref a ∧ H a = some (.tup xs) ∧ Bes n f a ∧ RDs n f H l xs
  | .lst l, v => l.length ≤ sizeLine ∧ ∃ a xs, v = .ref a ∧ H a = some (.lst xs) ∧ Bes n f a ∧ RDs n f H l xs
  | .frz l, v => l.length ≤ sizeLine ∧ ∃ a o xs, v = .ref a ∧ H a = some (.frz o (.lst xs)) ∧ Bes n f a ∧ RDs n f H l xs
  | .obj C ks l, v => ∃ a dx fs, v = .ref a ∧ H a = some (.ins C dx fs) ∧ Bes n f a ∧ fs.map (·.1) = ks ∧ RDs n f H l (fs.map (·.2))
  | .ref i, v => i < n ∧ v = .ref (f i)
  | .adr a, v => v = .ref a
  | .ty n, v => v = .ty n
  | .dic, v => ∃ a, v = .ref a ∧ H a = some (.dK []) ∧ Bes n f a
def RDs (n : Nat) (f : Fr) (H : Hp) : List Dv → List V → Prop
  | [], xs => xs = []
  | d :: l, xs => ∃ v r, xs = v :: r ∧ RD n f H d v ∧ RDs n f H l r
end
/-- later: more memory, what stood beside it stands -/
structure Lt (n : Nat) (f : Fr) (H : Hp) (n' : Nat) (f' : Fr) (H' : Hp) : Prop where
  le : n ≤ n'
  ag : ∀ i, i < n → f' i = f i
  kp : ∀ a o, H a = some o → (∀ i, i < n → f i ≠ a) → (∀ ps, o ≠ .tbl ps) → H' a = some o
  fr : ∀ i, n ≤ i → i < n' → H (f' i) = none
  dm : ∀ a, H' a = none → H a = none
  hd : f'.hid = f.hid
section
variable {n n1 n2 : Nat} {f f1 f2 : Fr} {H H1 H2 : Hp}
theorem Lt.refl : Lt n f H n f H := ⟨Nat.le_refl _, fun _ _ => rfl, fun _ _ e _ _ => e, fun _ h1 h2 => absurd h1 (Nat.not_le.mpr h2), fun _ e => e, rfl⟩
theorem Lt.same (s : Same H H1) : Lt n f H n f H1 := ⟨Nat.le_refl _, fun _ _ => rfl, fun a o e _ _ => s a o e, fun _ h1 h2 => absurd h1 (Nat.not_le.mpr h2), fun _ e => s.free e, rfl⟩
theorem Lt.trans (a : Lt n f H n1 f1 H1) (b : Lt n1 f1 H1 n2 f2 H2) : Lt n f H n2 f2 H2 where
  le := Nat.le_trans a.le b.le
  ag := fun i h => (b.ag i (Nat.lt_of_lt_of_le h a.le)).trans (a.ag i h)
  kp := fun x o e h z => b.kp x o (a.kp x o e h z) (fun i hi => by
    by_cases q : i < n
    · rw [a.ag i q]; exact h i q
    · intro w
      have := a.fr i (Nat.le_of_not_lt q) hi
      rw [w, e] at this; cases this) z
  fr := fun i h1 h2 => by
    by_cases q : i < n1
    · rw [b.ag i q]; exact a.fr i h1 q
    · exact a.dm _ (b.fr i (Nat.le_of_not_lt q) h2)
  dm := fun x e => a.dm x (b.dm x e)
  hd := b.hd.trans a.hd
/-- an address beside the memory, later -/
theorem Lt.beside (a : Lt n f H n1 f1 H1) {x : Addr} {o : HO} (e : H x = some o) (h : Bes n f x) : Bes n1 f1 x := ⟨fun i hi w => (by
  by_cases q : i < n
  · rw [a.ag i q] at w; exact h.1 i q w
  · have := a.fr i (Nat.le_of_not_lt q) hi
    rw [w, e] at this; cases this), fun w => h.2 (by rw [← a.hd]; exact w)⟩
/-- what a value leans on -/
structure Rm (n : Nat) (f : Fr) (H : Hp) (n' : Nat) (f' : Fr) (H' : Hp) : Prop where
  ix : ∀ i, i < n → i < n' ∧ f' i = f i
  kp : ∀ a o, H a = some o → Bes n f a → (∀ ps, o ≠ .tbl ps) → H' a = some o ∧ Bes n' f' a
theorem Lt.rm (a : Lt n f H n1 f1 H1) : Rm n f H n1 f1 H1 := ⟨fun i h => ⟨Nat.lt_of_lt_of_le h a.le, a.ag i h⟩, fun x o e h z => ⟨a.kp x o e h.1 z, a.beside e h⟩⟩
mutual
theorem RD.rm (a : Rm n f H n1 f1 H1) : ∀ {d : Dv} {v : V}, RD n f H d v → RD n1 f1 H1 d v
  | .non, _, h => h
  | .bl _, _, h => h
  | .int _, _, h => h
  | .str _, _, h => h
  | .adr _, _, h => h
  | .ty _, _, h => h
  | .dic, v, h => by
    obtain ⟨x, e, hx, hb⟩ : ∃ x, v = .ref x ∧ H x = some (.dK []) ∧ Bes n f x := h
    obtain ⟨q1, q2⟩ := a.kp x _ hx hb (fun _ w => by cases w)
    exact ⟨x, e, q1, q2⟩
  | .ref i, v, h => by
    obtain ⟨h1, h2⟩ : i < n ∧ v = .ref (f i) := h
    exact ⟨(a.ix i h1).1, by rw [(a.ix i h1).2]; exact h2⟩
  | .tup l, v, h => by
    obtain ⟨z, x, xs, e, hx, hb, r⟩ : l.length ≤ sizeLine ∧ ∃ x xs, v = .ref x ∧ H x = some (.tup xs) ∧ Bes n f x ∧ RDs n f H l xs := h
    obtain ⟨q1, q2⟩ := a.kp x _ hx hb (fun _ w => by cases w)
    exact ⟨z, x, xs, e, q1, q2, RDs.rm a r⟩
  | .lst l, v, h => by
    obtain ⟨z, x, xs, e, hx, hb, r⟩ : l.length ≤ sizeLine ∧ ∃ x xs, v = .ref x ∧ H x = some (.lst xs) ∧ Bes n f x ∧ RDs n f H l xs := h
    obtain ⟨q1, q2⟩ := a.kp x _ hx hb (fun _ w => by cases w)
    exact ⟨z, x, xs, e, q1, q2, RDs.rm a r⟩
  | .frz l, v, h => by
    obtain ⟨z, x, o, xs, e, hx, hb, r⟩ : l.length ≤ sizeLine ∧ ∃ x o xs, v = .ref x ∧ H x = some (.frz o (.lst xs)) ∧ Bes n f x ∧ RDs n f H l xs := h
    obtain ⟨q1, q2⟩ := a.kp x _ hx hb (fun _ w => by cases w)
    exact ⟨z, x, o, xs, e, q1, q2, RDs.rm a r⟩
  | .obj C ks l, v, h => by
    obtain ⟨x, dx, fs, e, hx, hb, hk, r⟩ : ∃ (x dx : Addr) (fs : List (Str × V)), v = .ref x ∧ H x = some (.ins C dx fs) ∧ Bes n f x ∧ fs.map (fun q => q.1) = ks ∧ RDs n f H l (fs.map (fun q : Str × V => q.2)) := h
    obtain ⟨q1, q2⟩ := a.kp x _ hx hb (fun _ w => by cases w)
    exact ⟨x, dx, fs, e, q1, q2, hk, RDs.rm a r⟩
theorem RDs.rm (a : Rm n f H n1 f1 H1) : ∀ {l : List Dv} {xs : List V}, RDs n f H l xs → RDs n1 f1 H1 l xs
  | [], _, h => h
  | d :: l, xs, h => by
    obtain ⟨v, r, e, h1, h2⟩ : ∃ v r, xs = v :: r ∧ RD n f H d v ∧ RDs n f H l r := h
    exact ⟨v, r, e, RD.rm a h1, RDs.rm a h2⟩
end
theorem RD.mono (a : Lt n f H n1 f1 H1) {d : Dv} {v : V} (h : RD n f H d v) : RD n1 f1 H1 d v := h.rm a.rm
theorem RDs.mono (a : Lt n f H n1 f1 H1) {l : List Dv} {xs : List V} (h : RDs n f H l xs) : RDs n1 f1 H1 l xs := h.rm a.rm
end
section
variable {n : Nat} {f : Fr} {H : Hp}
theorem RDs.nil : RDs n f H [] [] := rfl
theorem RDs.cons {d : Dv} {v : V} {l : List Dv} {xs : List V} (h : RD n f H d v) (t : RDs n f H l xs) : RDs n f H (d :: l) (v :: xs) := ⟨v, xs, rfl, h, t⟩
theorem RDs.length : ∀ {l : List Dv} {xs : List V}, RDs n f H l xs → xs.length = l.length
  | [], xs, h => by rw [show xs = [] from h]; rfl
  | d :: l, xs, h => by
    obtain ⟨v, r, rfl, _, h2⟩ : ∃ v r, xs = v :: r ∧ RD n f H d v ∧ RDs n f H l r := h
    simp [RDs.length h2]
theorem RDs.get : ∀ {l : List Dv} {xs : List V} {i : Nat} {d : Dv}, RDs n f H l xs → l[i]? = some d → ∃ v, xs[i]? = some v ∧ RD n f H d v
  | [], _, _, _, _, e => by simp at e
  | d :: l, xs, 0, x, h, e => by
    obtain ⟨v, r, rfl, h1, _⟩ : ∃ v r, xs = v :: r ∧ RD n f H d v ∧ RDs n f H l r := h
    simp at e; subst e
    exact ⟨v, rfl, h1⟩
  | d :: l, xs, i + 1, x, h, e => by
    obtain ⟨v, r, rfl, _, h2⟩ : ∃ v r, xs = v :: r ∧ RD n f H d v ∧ RDs n f H l r := h
    obtain ⟨w, e1, e2⟩ := RDs.get (i := i) (d := x) h2 (by simpa using e)
    exact ⟨w, by simpa using e1, e2⟩
theorem RDs.at_ {l : List Dv} {xs : List V} {i : Nat} {v : V} (h : RDs n f H l xs) (e : xs[i]? = some v) : ∃ d, l[i]? = some d ∧ RD n f H d v := by
  have hl := h.length
  have hi : i < l.length := by rw [← hl]; exact (List.getElem?_eq_some_iff.mp e).1
  obtain ⟨w, e1, e2⟩ := h.get (List.getElem?_eq_getElem hi)
  rw [e] at e1; cases e1
  exact ⟨_, List.getElem?_eq_getElem hi, e2⟩
theorem RDs.of : ∀ {l : List Dv} {xs : List V}, xs.length = l.length → (∀ (i : Nat) (d : Dv) (v : V), l[i]? = some d → xs[i]? = some v → RD n f H d v) → RDs n f H l xs
  | [], xs, h, _ => List.length_eq_zero_iff.mp h
  | d :: l, [], h, _ => by simp at h
  | d :: l, v :: xs, h, k => ⟨v, xs, rfl, k 0 d v rfl rfl, RDs.of (by simpa using h) fun i x y e1 e2 => k (i + 1) x y (by simpa using e1) (by simpa using e2)⟩
theorem RDs.app : ∀ {l l2 : List Dv} {xs ys : List V}, RDs n f H l xs → RDs n f H l2 ys → RDs n f H (l ++ l2) (xs ++ ys)
  | [], _, xs, _, h, g => by rw [show xs = [] from h]; exact g
  | d :: l, _, xs, _, h, g => by
    obtain ⟨v, r, rfl, h1, h2⟩ : ∃ v r, xs = v :: r ∧ RD n f H d v ∧ RDs n f H l r := h
    exact ⟨v, _, rfl, h1, RDs.app h2 g⟩
theorem RDs.set {l : List Dv} {xs : List V} {i : Nat} {d : Dv} {v : V} (h : RDs n f H l xs) (r : RD n f H d v) : RDs n f H (l.set i d) (xs.set i v) := by
  refine RDs.of (by simp [h.length]) fun j x y e1 e2 => ?_
  by_cases q : j = i
  · subst q
    rw [List.getElem?_set] at e1 e2
    simp at e1 e2
    rw [← e1.2, ← e2.2]; exact r
  · rw [List.getElem?_set_ne (Ne.symm q)] at e1 e2
    obtain ⟨w, g1, g2⟩ := h.get e1
    rw [e2] at g1; cases g1
    exact g2
theorem RDs.take {l : List Dv} {xs : List V} (k : Nat) (h : RDs n f H l xs) : RDs n f H (l.take k) (xs.take k) := by
  refine RDs.of (by simp [h.length]) fun j x y e1 e2 => ?_
  by_cases q : j < k
  · rw [List.getElem?_take_of_lt q] at e1 e2
    obtain ⟨w, g1, g2⟩ := h.get e1
    rw [e2] at g1; cases g1
    exact g2
  · rw [List.getElem?_take_eq_none (Nat.le_of_not_lt q)] at e1; cases e1
theorem RDs.drop {l : List Dv} {xs : List V} (k : Nat) (h : RDs n f H l xs) : RDs n f H (l.drop k) (xs.drop k) := by
  refine RDs.of (by simp [h.length]) fun j x y e1 e2 => ?_
  rw [List.getElem?_drop] at e1 e2
  obtain ⟨w, g1, g2⟩ := h.get e1
  rw [e2] at g1; cases g1
  exact g2
theorem RDs.rev {l : List Dv} {xs : List V} (h : RDs n f H l xs) : RDs n f H l.reverse xs.reverse := by
  refine RDs.of (by simp [h.length]) fun j x y e1 e2 => ?_
  have hj : j < l.length := by have := (List.getElem?_eq_some_iff.mp e1).1; simpa using this
  rw [List.getElem?_reverse hj] at e1
  rw [List.getElem?_reverse (by rw [h.length]; exact hj), h.length] at e2
  obtain ⟨w, g1, g2⟩ := h.get e1
  rw [e2] at g1; cases g1
  exact g2
end
variable [TBL]
/-- the memory's things stand -/
def RO (n : Nat) (f : Fr) (H : Hp) (a : Addr) : MO → Prop
  | .lst l => l.length ≤ sizeLine ∧ ∃ xs, H a = some (.lst xs) ∧ RDs n f H l xs
  | .ins C ks l => ∃ dx fs, H a = some (.ins C dx fs) ∧ fs.map (·.1) = ks ∧ RDs n f H l (fs.map (·.2))
structure RM (f : Fr) (H : Hp) (M : Mem) : Prop where
  ob : ∀ (i : Nat) (o : MO), M[i]? = some o → RO M.length f H (f i) o
  inj : ∀ i j, i < M.length → j < M.length → f i = f j → i = j
  hi : ∀ a, f.hid a → H a ≠ none ∧ ∀ i, i < M.length → f i ≠ a
  ta : LamX.Tabs TBL.T H
/-- the locals stand -/
structure RL (n : Nat) (f : Fr) (H : Hp) (l : Loc) (s : L2.St) : Prop where
  len : s.length = l.length
  at_ : ∀ (i : Nat) (d : Dv), l[i]? = some (some d) → ∃ v, s[i]? = some (some v) ∧ RD n f H d v
section
variable {n n1 : Nat} {f f1 : Fr} {H H1 : Hp} {M M1 : Mem} {l : Loc} {s : L2.St}
theorem tabs_put {T : List (Addr × Str)} {p : Addr} {u o : HO} (t : LamX.Tabs T H) (h : H p = some u) (n1 : ∀ ps, u ≠ .tbl ps) (n2 : ∀ φ, u ≠ .ext φ) : LamX.Tabs T (upd H p o) := fun q hq => by
  obtain ⟨ps, a1, a2, a3⟩ := t q hq
  have d1 : q.1 ≠ p := fun w => by rw [w, h] at a1; exact n1 ps (Option.some.inj a1)
  refine ⟨ps, by rw [upd_ne d1]; exact a1, a2, fun pos cv hc => ?_⟩
  obtain ⟨c, e1, e2⟩ := a3 pos cv hc
  have d2 : c ≠ p := fun w => by rw [w, h] at e2; exact n2 _ (Option.some.inj e2)
  exact ⟨c, e1, by rw [upd_ne d2]; exact e2⟩
theorem RO.some {a : Addr} {o : MO} (h : RO n f H a o) : ∃ u, H a = some u ∧ Mut (some u) := by
  cases o with
  | lst l => obtain ⟨_, xs, e, _⟩ := h; exact ⟨_, e, trivial⟩
  | ins C ks l => obtain ⟨dx, fs, e, _⟩ := h; exact ⟨_, e, trivial⟩
theorem RM.some (m : RM f H M) {i : Nat} (h : i < M.length) : ∃ u, H (f i) = some u ∧ Mut (some u) := (m.ob i _ (List.getElem?_eq_getElem h)).some
theorem RM.ne0 (m : RM f H M) {p : Addr} (h : H p = none) : ∀ i, i < M.length → f i ≠ p := fun i hi e => by
  obtain ⟨u, q, _⟩ := m.some hi
  rw [e, h] at q; cases q
theorem RM.ne (m : RM f H M) {p : Addr} (h : H p = none) : Bes M.length f p := ⟨m.ne0 h, fun z => (m.hi p z).1 h⟩
theorem RO.mono {a : Addr} {o : MO} (x : Lt n f H n1 f1 H1) (e : H1 a = H a) (h : RO n f H a o) : RO n1 f1 H1 a o := by
  cases o with
  | lst l => obtain ⟨z, xs, q, r⟩ := h; exact ⟨z, xs, e.trans q, r.mono x⟩
  | ins C ks l => obtain ⟨dx, fs, q, k, r⟩ := h; exact ⟨dx, fs, e.trans q, k, r.mono x⟩
theorem RM.same (m : RM f H M) (s : Same H H1) : RM f H1 M := ⟨fun i o e => by
  have h := m.ob i o e
  obtain ⟨u, q, _⟩ := h.some
  exact h.mono (Lt.same s) ((s _ _ q).trans q.symm), m.inj, fun a z => ⟨fun e => (m.hi a z).1 (s.free e), (m.hi a z).2⟩, m.ta.ext s⟩
theorem RL.mono (r : RL n f H l s) (x : Lt n f H n1 f1 H1) : RL n1 f1 H1 l s := ⟨r.len, fun i d e => by
  obtain ⟨v, e1, e2⟩ := r.at_ i d e
  exact ⟨v, e1, e2.mono x⟩⟩
theorem RL.set (r : RL n f H l s) {i : Nat} {d : Dv} {v : V} (h : RD n f H d v) : RL n f H (l.set i (some d)) (s.set i (some v)) := ⟨by simp [r.len], fun j x e => by
  by_cases q : j = i
  · subst q
    rw [List.getElem?_set] at e
    simp at e
    refine ⟨v, ?_, e.2 ▸ h⟩
    rw [List.getElem?_set]; simp [r.len, e.1]
  · rw [List.getElem?_set_ne (Ne.symm q)] at e
    rw [List.getElem?_set_ne (Ne.symm q)]
    exact r.at_ j x e⟩
theorem RL.unset (r : RL n f H l s) (i : Nat) (o : Option V) : RL n f H (l.set i none) (s.set i o) := ⟨by simp [r.len], fun j x e => by
  by_cases q : j = i
  · subst q
    rw [List.getElem?_set] at e
    simp at e
  · rw [List.getElem?_set_ne (Ne.symm q)] at e
    rw [List.getElem?_set_ne (Ne.symm q)]
    exact r.at_ j x e⟩
/-- a new thing beside the memory -/
theorem same_new {p : Addr} {o : HO} (h : H p = none) : Same H (upd H p o) := fun b x e => by
  rw [upd_ne (ne_of_none e h)]; exact e
theorem rd_tup (m : RM f H M) {p : Addr} {ds : List Dv} {xs : List V} (h : H p = none) (r : RDs M.length f H ds xs) (z : ds.length ≤ sizeLine) : RD M.length f (upd H p (.tup xs)) (.tup ds) (.ref p) :=
  ⟨z, p, xs, rfl, upd_same, m.ne h, r.mono (Lt.same (same_new h))⟩
theorem rd_lst (m : RM f H M) {p : Addr} {ds : List Dv} {xs : List V} (h : H p = none) (r : RDs M.length f H ds xs) (z : ds.length ≤ sizeLine) : RD M.length f (upd H p (.lst xs)) (.lst ds) (.ref p) :=
  ⟨z, p, xs, rfl, upd_same, m.ne h, r.mono (Lt.same (same_new h))⟩
/-- a new thing, to the memory's end -/
def ext (f : Fr) (n : Nat) (p : Addr) : Fr := ⟨fun i => if i = n then p else f i, f.hid⟩
theorem ext_self {p : Addr} : ext f n p n = p := if_pos rfl
theorem ext_lt {p : Addr} {i : Nat} (h : i < n) : ext f n p i = f i := if_neg (Nat.ne_of_lt h)
theorem lt_new {p : Addr} {o : HO} (h : H p = none) : Lt n f H (n + 1) (ext f n p) (upd H p o) where
  le := Nat.le_succ _
  ag := fun i hi => ext_lt hi
  kp := fun a u e _ _ => same_new h a u e
  fr := fun i h1 h2 => by
    have : i = n := by omega
    subst this
    rw [ext_self]; exact h
  dm := fun a e => (same_new h).free e
  hd := rfl
theorem RM.new (m : RM f H M) {p : Addr} {o : MO} {u : HO} (h : H p = none) (r : RO (M.length + 1) (ext f M.length p) (upd H p u) p o) : RM (ext f M.length p) (upd H p u) (M ++ [o]) where
  ob := fun i x e => by
    rw [List.length_append, List.length_singleton]
    by_cases q : i < M.length
    · rw [List.getElem?_append_left q] at e
      rw [ext_lt q]
      obtain ⟨w, hw, _⟩ := m.some q
      exact (m.ob i x e).mono (lt_new h) (upd_ne (ne_of_none hw h))
    · have hi : i < (M ++ [o]).length := (List.getElem?_eq_some_iff.mp e).1
      rw [List.length_append, List.length_singleton] at hi
      have : i = M.length := by omega
      subst this
      rw [List.getElem?_append_right (Nat.le_refl _)] at e
      simp at e
      subst e
      rw [ext_self]; exact r
  inj := fun i j hi hj e => by
    rw [List.length_append, List.length_singleton] at hi hj
    by_cases qi : i < M.length
    · by_cases qj : j < M.length
      · rw [ext_lt qi, ext_lt qj] at e; exact m.inj i j qi qj e
      · have : j = M.length := by omega
        subst this
        rw [ext_lt qi, ext_self] at e
        exact absurd e (m.ne0 h i qi)
    · have : i = M.length := by omega
      subst this
      by_cases qj : j < M.length
      · rw [ext_lt qj, ext_self] at e
        exact absurd e.symm (m.ne0 h j qj)
      · omega
  hi := fun a z => ⟨fun e => (m.hi a z).1 ((same_new h).free e), fun i hi e => by
    rw [List.length_append, List.length_singleton] at hi
    by_cases q : i < M.length
    · rw [ext_lt q] at e; exact (m.hi a z).2 i q e
    · have : i = M.length := by omega
      subst this
      rw [ext_self] at e
      subst e
      exact (m.hi p z).1 h⟩
  ta := m.ta.ext (same_new h)
/-- a thing of the memory is changed -/
theorem lt_set {i : Nat} {o : HO} (hi : i < n) (there : H (f i) ≠ none) : Lt n f H n f (upd H (f i) o) where
  le := Nat.le_refl _
  ag := fun _ _ => rfl
  kp := fun a u e hb _ => by rw [upd_ne (Ne.symm (hb i hi))]; exact e
  fr := fun _ h1 h2 => absurd h1 (Nat.not_le.mpr h2)
  dm := fun a e => by
    by_cases q : a = f i
    · rw [q, upd_same] at e; cases e
    · rw [upd_ne q] at e; exact e
  hd := rfl
theorem RM.set (m : RM f H M) {i : Nat} {o : MO} {u : HO} (hi : i < M.length) (r : RO M.length f (upd H (f i) u) (f i) o) : RM f (upd H (f i) u) (M.set i o) where
  ob := fun j x e => by
    rw [List.length_set]
    by_cases q : j = i
    · subst q
      rw [List.getElem?_set] at e
      simp at e
      rw [← e.2]; exact r
    · rw [List.getElem?_set_ne (Ne.symm q)] at e
      have hj : j < M.length := (List.getElem?_eq_some_iff.mp e).1
      obtain ⟨w, hw, _⟩ := m.some hi
      exact (m.ob j x e).mono (lt_set hi (by rw [hw]; exact fun z => by cases z)) (upd_ne fun z => q (m.inj j i hj hi z))
  inj := fun a b ha hb e => by
    rw [List.length_set] at ha hb
    exact m.inj a b ha hb e
  hi := fun a z => ⟨fun e => by
    by_cases q : a = f i
    · rw [q, upd_same] at e; cases e
    · rw [upd_ne q] at e; exact (m.hi a z).1 e, fun j hj => (m.hi a z).2 j (by rw [List.length_set] at hj; exact hj)⟩
  ta := by
    have h := m.ob i _ (List.getElem?_eq_getElem hi)
    cases q : M[i] with
    | lst l =>
      rw [q] at h
      obtain ⟨_, xs, e, _⟩ := h
      exact tabs_put m.ta e (fun _ w => by cases w) fun _ w => by cases w
    | ins C ks l =>
      rw [q] at h
      obtain ⟨dx, fs, e, _⟩ := h
      exact tabs_put m.ta e (fun _ w => by cases w) fun _ w => by cases w
end
/-! ### hidden for a while -/
def Fr.hide (f : Fr) (p : Addr) : Fr := ⟨f.ad, fun a => f.hid a ∨ a = p⟩
/-- f's places, the hidden ones as in g -/
def Fr.as (f g : Fr) : Fr := ⟨f.ad, g.hid⟩
section
variable {n : Nat} {f : Fr} {H : Hp} {p : Addr} {M : Mem} {l : Loc} {s : L2.St} {o : HO}
theorem rm_hide (hp : H p = none) : Rm n f H n (f.hide p) (upd H p o) := ⟨fun i h => ⟨h, rfl⟩, fun a u e b _ => ⟨by rw [upd_ne (ne_of_none e hp)]; exact e, b.1, fun w => w.elim b.2 (ne_of_none e hp)⟩⟩
theorem rm_show {g : Fr} (h : ∀ a, g.hid a → f.hid a) : Rm n f H n (f.as g) H := ⟨fun i h => ⟨h, rfl⟩, fun a u e b _ => ⟨e, b.1, fun w => b.2 (h a w)⟩⟩
theorem rm_chg (hh : f.hid p) : Rm n f H n f (upd H p o) := ⟨fun i h => ⟨h, rfl⟩, fun a u e b _ => ⟨by rw [upd_ne fun z => b.2 (by rw [z]; exact hh)]; exact e, b⟩⟩
theorem RO.rm {n1 : Nat} {f1 : Fr} {H1 : Hp} {a : Addr} {b : MO} (x : Rm n f H n1 f1 H1) (e : H1 a = H a) (h : RO n f H a b) : RO n1 f1 H1 a b := by
  cases b with
  | lst l => obtain ⟨z, xs, q, r⟩ := h; exact ⟨z, xs, e.trans q, r.rm x⟩
  | ins C ks l => obtain ⟨dx, fs, q, k, r⟩ := h; exact ⟨dx, fs, e.trans q, k, r.rm x⟩
theorem RL.rm {n1 : Nat} {f1 : Fr} {H1 : Hp} (r : RL n f H l s) (x : Rm n f H n1 f1 H1) : RL n1 f1 H1 l s := ⟨r.len, fun i d e => by
  obtain ⟨v, e1, e2⟩ := r.at_ i d e
  exact ⟨v, e1, e2.rm x⟩⟩
theorem Rm.trans {n1 n2 : Nat} {f1 f2 : Fr} {H1 H2 : Hp} (a : Rm n f H n1 f1 H1) (b : Rm n1 f1 H1 n2 f2 H2) : Rm n f H n2 f2 H2 := ⟨fun i h => ⟨(b.ix i (a.ix i h).1).1, ((b.ix i (a.ix i h).1).2).trans (a.ix i h).2⟩, fun x o e h z => let ⟨e1, h1⟩ := a.kp x o e h z; b.kp x o e1 h1 z⟩
theorem RM.hide (m : RM f H M) (hp : H p = none) : RM (f.hide p) (upd H p o) M := ⟨fun i b e => by
    obtain ⟨u, q, _⟩ := (m.ob i b e).some
    exact (m.ob i b e).rm (rm_hide hp) (upd_ne (ne_of_none q hp)), m.inj, fun a z => by
    rcases z with z | z
    · exact ⟨fun e => (m.hi a z).1 ((same_new hp).free e), (m.hi a z).2⟩
    · subst z; exact ⟨fun e => (by rw [upd_same] at e; cases e), m.ne0 hp⟩, m.ta.ext (same_new hp)⟩
theorem RM.show (m : RM f H M) {g : Fr} (h : ∀ a, g.hid a → f.hid a) : RM (f.as g) H M := ⟨fun i b e => (m.ob i b e).rm (rm_show h) rfl, m.inj, fun a z => m.hi a (h a z), m.ta⟩
theorem RM.chg (m : RM f H M) (hh : f.hid p) {va : List V} (hv : H p = Option.some (HO.lst va)) : RM f (upd H p o) M := ⟨fun i b e => (m.ob i b e).rm (rm_chg hh) (upd_ne ((m.hi p hh).2 i (List.getElem?_eq_some_iff.mp e).1)), m.inj, fun a z => ⟨fun e => (by
    by_cases q : a = p
    · rw [q, upd_same] at e; cases e
    · rw [upd_ne q] at e; exact (m.hi a z).1 e), (m.hi a z).2⟩, tabs_put m.ta hv (fun _ w => by cases w) fun _ w => by cases w⟩
end
end D
end

section
set_option Elab.async false
set_option linter.all false
set_option maxRecDepth 100000
set_option maxHeartbeats 1000000
set_option autoImplicit false
/-! The deep layer, part 1: judgements, expressions. -/
namespace D
open PySem PySem.Spec PyProof.Rows L2
variable [TBL]
abbrev PD := Dv → Mem → Prop
abbrev PX := Addr → Option Dv → Mem → Prop
abbrev DE := Loc → Mem → PD → PX → Prop
abbrev DT := Loc → Mem → (Bool → Mem → Prop) → PX → Prop
abbrev DA := Loc → Mem → (List Dv → Mem → Prop) → PX → Prop
/-- an exception's one field -/
def RX (n : Nat) (f : Fr) (H : Hp) : Option Dv → Option Addr → Prop
  | some d, some a => ∃ v, H a = some (.xd [(("at" : Str), v)]) ∧ RD n f H d v
  | none, none => True
  | _, _ => False
def KX (W : WX) (s : L2.St) (n : Nat) (f : Fr) (H : Hp) (X : PX) : Prop :=
  ∀ (f' : Fr) (H' : Hp) (M' : Mem) (C : Addr) (d : Option Dv) (a : Option Addr), Lt n f H M'.length f' H' → RM f' H' M' → RX M'.length f' H' d a → X C d M' → W (.ref C) a s H'
def KE (n : Nat) (f : Fr) (H : Hp) (P : PD) (Q : VK) : Prop :=
  ∀ (f' : Fr) (H' : Hp) (M' : Mem) (d : Dv) (v : V), Lt n f H M'.length f' H' → RM f' H' M' → RD M'.length f' H' d v → P d M' → Q v H'
def KT (n : Nat) (f : Fr) (H : Hp) (P : Bool → Mem → Prop) (Q : Bool → Hp → Prop) : Prop :=
  ∀ (f' : Fr) (H' : Hp) (M' : Mem) (b : Bool), Lt n f H M'.length f' H' → RM f' H' M' → P b M' → Q b H'
def KA (n : Nat) (f : Fr) (H : Hp) (P : List Dv → Mem → Prop) (Q : List V → Hp → Prop) : Prop :=
  ∀ (f' : Fr) (H' : Hp) (M' : Mem) (ds : List Dv) (vs : List V), Lt n f H M'.length f' H' → RM f' H' M' → RDs M'.length f' H' ds vs → P ds M' → Q vs H'
section
variable {W : WX} {s : L2.St} {n n1 : Nat} {f f1 : Fr} {H H1 : Hp} {X : PX}
theorem KX.mono (k : KX W s n f H X) (x : Lt n f H n1 f1 H1) : KX W s n1 f1 H1 X := fun f' H' M' C d a y m r h => k f' H' M' C d a (x.trans y) m r h
theorem KE.mono {P : PD} {Q : VK} (k : KE n f H P Q) (x : Lt n f H n1 f1 H1) : KE n1 f1 H1 P Q := fun f' H' M' d v y m r h => k f' H' M' d v (x.trans y) m r h
theorem KT.mono {P : Bool → Mem → Prop} {Q : Bool → Hp → Prop} (k : KT n f H P Q) (x : Lt n f H n1 f1 H1) : KT n1 f1 H1 P Q := fun f' H' M' b y m h => k f' H' M' b (x.trans y) m h
theorem KA.mono {P : List Dv → Mem → Prop} {Q : List V → Hp → Prop} (k : KA n f H P Q) (x : Lt n f H n1 f1 H1) : KA n1 f1 H1 P Q := fun f' H' M' d v y m r h => k f' H' M' d v (x.trans y) m r h
end
def lE (W : WX) (t : DE) : TE := fun s H Q => ∃ (f : Fr) (l : Loc) (M : Mem) (P : PD) (X : PX), RM f H M ∧ RL M.length f H l s ∧ t l M P X ∧ KE M.length f H P Q ∧ KX W s M.length f H X
def lT (W : WX) (t : DT) : TT := fun s H Q => ∃ (f : Fr) (l : Loc) (M : Mem) (P : Bool → Mem → Prop) (X : PX), RM f H M ∧ RL M.length f H l s ∧ t l M P X ∧ KT M.length f H P Q ∧ KX W s M.length f H X
def lA (W : WX) (t : DA) : TA := fun s H Q => ∃ (f : Fr) (l : Loc) (M : Mem) (P : List Dv → Mem → Prop) (X : PX), RM f H M ∧ RL M.length f H l s ∧ t l M P X ∧ KA M.length f H P Q ∧ KX W s M.length f H X
abbrev JE (X : Cx) (W : WX) (e : Expr) (t : DE) : Prop := PE X e (lE W t)
abbrev JT (X : Cx) (W : WX) (e : Expr) (t : DT) : Prop := PT X e (lT W t)
abbrev JW (X : Cx) (W : WX) (e : Expr) (t : DT) : Prop := PW X e (lT W t)
abbrev JA (X : Cx) (W : WX) (es : List Expr) (t : DA) : Prop := PA X es (lA W t)
section
variable {X : Cx} {e : Expr}
theorem pe_imp {t t' : TE} (h : PE X e t') (g : ∀ s H Q, t s H Q → t' s H Q) : PE X e t := ⟨fun pins s σ H Q I hw => h.run pins s σ H Q I (g _ _ _ hw)⟩
theorem pt_imp {t t' : TT} (h : PT X e t') (g : ∀ s H Q, t s H Q → t' s H Q) : PT X e t := ⟨fun pins s σ H Q I hw => h.run pins s σ H Q I (g _ _ _ hw)⟩
theorem pw_imp {t t' : TT} (h : PW X e t') (g : ∀ s H Q, t s H Q → t' s H Q) : PW X e t := ⟨fun wh pins s σ H Q I hw => h.run wh pins s σ H Q I (g _ _ _ hw)⟩
theorem pa_imp {es : List Expr} {t t' : TA} (h : PA X es t') (g : ∀ s H Q, t s H Q → t' s H Q) : PA X es t := ⟨fun pos pins s σ H Q I hw => h.run pos pins s σ H Q I (g _ _ _ hw)⟩
end
/-! ### what values hold -/
def lstD (M : Mem) : Dv → Option (List Dv)
  | .lst l => some l
  | .frz l => some l
  | .ref i => match M[i]? with
    | some (.lst l) => some l
    | _ => none
  | _ => none
def seqD (M : Mem) : Dv → Option (List Dv)
  | .tup l => some l
  | .lst l => some l
  | .frz l => some l
  | .ref i => match M[i]? with
    | some (.lst l) => some l
    | _ => none
  | _ => none
/-- a list that + takes -/
def lstW (M : Mem) : Dv → Option (List Dv)
  | .lst l => some l
  | .ref i => match M[i]? with
    | some (.lst l) => some l
    | _ => none
  | _ => none
section
variable {f : Fr} {H : Hp} {M : Mem} {d : Dv} {v : V} {l : List Dv}
theorem rd_lstM {K : PySem.W.Frag} (m : RM f H M) (r : RD M.length f H d v) (e : lstD M d = some l) : ∃ a xs, v = .ref a ∧ SqL K H a xs ∧ RDs M.length f H l xs ∧ l.length ≤ sizeLine := by
  cases d with
  | lst l' =>
    obtain ⟨z, a, xs, rfl, hx, _, h⟩ : l'.length ≤ sizeLine ∧ ∃ a xs, v = .ref a ∧ H a = some (.lst xs) ∧ Bes M.length f a ∧ RDs M.length f H l' xs := r
    cases (show some l' = some l from e)
    exact ⟨a, xs, rfl, .inl (.inl hx), h, z⟩
  | frz l' =>
    obtain ⟨z, a, o, xs, rfl, hx, _, h⟩ : l'.length ≤ sizeLine ∧ ∃ a o xs, v = .ref a ∧ H a = some (.frz o (.lst xs)) ∧ Bes M.length f a ∧ RDs M.length f H l' xs := r
    cases (show some l' = some l from e)
    exact ⟨a, xs, rfl, .inl (.inr ⟨o, hx⟩), h, z⟩
  | ref i =>
    obtain ⟨h1, rfl⟩ : i < M.length ∧ v = .ref (f i) := r
    have e' : (match M[i]? with | some (.lst l) => some l | _ => none) = some l := e
    cases q : M[i]? with
    | none => rw [q] at e'; cases e'
    | some o =>
      rw [q] at e'
      cases o with
      | lst l2 =>
        cases e'
        obtain ⟨z, xs, hx, h⟩ : l.length ≤ sizeLine ∧ ∃ xs, H (f i) = some (.lst xs) ∧ RDs M.length f H l xs := m.ob i _ q
        exact ⟨f i, xs, rfl, .inl (.inl hx), h, z⟩
      | ins _ _ _ => cases e'
  | _ => cases (show none = some l from e)
theorem rd_lstW (m : RM f H M) (r : RD M.length f H d v) (e : lstW M d = some l) : ∃ a xs, v = .ref a ∧ H a = some (.lst xs) ∧ RDs M.length f H l xs ∧ l.length ≤ sizeLine := by
  cases d with
  | lst l' =>
    obtain ⟨z, a, xs, rfl, hx, _, h⟩ : l'.length ≤ sizeLine ∧ ∃ a xs, v = .ref a ∧ H a = some (.lst xs) ∧ Bes M.length f a ∧ RDs M.length f H l' xs := r
    cases (show some l' = some l from e)
    exact ⟨a, xs, rfl, hx, h, z⟩
  | ref i =>
    obtain ⟨h1, rfl⟩ : i < M.length ∧ v = .ref (f i) := r
    have e' : (match M[i]? with | some (.lst l) => some l | _ => none) = some l := e
    cases q : M[i]? with
    | none => rw [q] at e'; cases e'
    | some o =>
      rw [q] at e'
      cases o with
      | lst l2 =>
        cases e'
        obtain ⟨z, xs, hx, h⟩ : l.length ≤ sizeLine ∧ ∃ xs, H (f i) = some (.lst xs) ∧ RDs M.length f H l xs := m.ob i _ q
        exact ⟨f i, xs, rfl, hx, h, z⟩
      | ins _ _ _ => cases e'
  | _ => cases (show none = some l from e)
theorem rd_tupM {K : PySem.W.Frag} (r : RD M.length f H (.tup l) v) : ∃ a xs, v = .ref a ∧ SqT K H a xs ∧ RDs M.length f H l xs ∧ l.length ≤ sizeLine := by
  obtain ⟨z, a, xs, rfl, hx, _, h⟩ : l.length ≤ sizeLine ∧ ∃ a xs, v = .ref a ∧ H a = some (.tup xs) ∧ Bes M.length f a ∧ RDs M.length f H l xs := r
  exact ⟨a, xs, rfl, .inl (.inl hx), h, z⟩
theorem seq_cases (e : seqD M d = some l) : d = .tup l ∨ lstD M d = some l := by
  cases d with
  | tup l' => cases (show some l' = some l from e); exact .inl rfl
  | lst l' => exact .inr e
  | frz l' => exact .inr e
  | ref i => exact .inr e
  | _ => cases (show none = some l from e)
theorem rd_seqM {K : PySem.W.Frag} (m : RM f H M) (r : RD M.length f H d v) (e : seqD M d = some l) : ∃ a xs, v = .ref a ∧ (SqL K H a xs ∨ SqT K H a xs) ∧ RDs M.length f H l xs ∧ l.length ≤ sizeLine := by
  rcases seq_cases e with rfl | e
  · obtain ⟨a, xs, h1, h2, h3⟩ := rd_tupM (K := K) r
    exact ⟨a, xs, h1, .inr h2, h3⟩
  · obtain ⟨a, xs, h1, h2, h3⟩ := rd_lstM (K := K) m r e
    exact ⟨a, xs, h1, .inl h2, h3⟩
end
/-- truth -/
def truD (M : Mem) : Dv → Option Bool
  | .non => some false
  | .bl b => some b
  | .int i => some (i != 0)
  | .tup l => some (!l.isEmpty)
  | .lst l => some (!l.isEmpty)
  | .frz l => some (!l.isEmpty)
  | .ref i => match M[i]? with
    | some (.lst l) => some (!l.isEmpty)
    | _ => none
  | _ => none
theorem isEmpty_rds {n : Nat} {f : Fr} {H : Hp} {l : List Dv} {xs : List V} (h : RDs n f H l xs) : xs.isEmpty = l.isEmpty := by
  have := h.length
  cases l with
  | nil => rw [show xs = [] from h]; rfl
  | cons d r =>
    cases xs with
    | nil => simp at this
    | cons _ _ => rfl
theorem tru_rd {K : PySem.W.Frag} {f : Fr} {H : Hp} {M : Mem} {d : Dv} {v : V} {b : Bool} (m : RM f H M) (r : RD M.length f H d v) (e : truD M d = some b) : TruV K v H b := by
  cases d with
  | non => rw [show v = .non from r]; cases (show some false = some b from e); exact rfl
  | bl c => rw [show v = .bl c from r]; cases (show some c = some b from e); exact rfl
  | int i => rw [show v = .int i from r]; cases (show some (i != 0) = some b from e); exact rfl
  | tup l =>
    cases (show some (!l.isEmpty) = some b from e)
    obtain ⟨a, xs, rfl, h1, h2, _⟩ := rd_tupM (K := K) r
    exact .inr (.inl ⟨xs, h1, by rw [isEmpty_rds h2]⟩)
  | lst l =>
    cases (show some (!l.isEmpty) = some b from e)
    obtain ⟨a, xs, rfl, h1, h2, _⟩ := rd_lstM (K := K) (l := l) m r rfl
    exact .inl ⟨xs, h1, by rw [isEmpty_rds h2]⟩
  | frz l =>
    cases (show some (!l.isEmpty) = some b from e)
    obtain ⟨a, xs, rfl, h1, h2, _⟩ := rd_lstM (K := K) (l := l) m r rfl
    exact .inl ⟨xs, h1, by rw [isEmpty_rds h2]⟩
  | ref i =>
    have e' : (match M[i]? with | some (.lst l) => some (!l.isEmpty) | _ => none) = some b := e
    cases q : M[i]? with
    | none => rw [q] at e'; cases e'
    | some o =>
      rw [q] at e'
      cases o with
      | lst l =>
        cases e'
        obtain ⟨a, xs, rfl, h1, h2, _⟩ := rd_lstM (K := K) (l := l) m r (by show (match M[i]? with | some (.lst l) => some l | _ => none) = some l; rw [q])
        exact .inl ⟨xs, h1, by rw [isEmpty_rds h2]⟩
      | ins _ _ _ => cases e'
  | _ => cases (show none = some b from e)
/-! ### names, constants -/
def dVar (i : Nat) : DE := fun l M P _ => ∃ d, l[i]? = some (some d) ∧ P d M
def dC (d : Dv) : DE := fun _ M P _ => P d M
section
variable {X : Cx} {W : WX} {pos : Pos}
theorem je_var {i : Nat} {x : Str} (hN : X.N[i]? = some x) (hv : Vis X.env.scope x) (hd : (x == ("__debug__" : Str)) = false := by decide) (hcd : (x == ("__classdict__" : Str)) = false := by decide) : JE X W (.Name x pos) (dVar i) :=
  pe_imp (pe_var hN hv hd hcd) fun s H Q ⟨f, l, M, P, Y, m, rl, ⟨d, e, p⟩, k, _⟩ => by
    obtain ⟨v, e1, e2⟩ := rl.at_ i d e
    exact ⟨v, e1, k f H M d v Lt.refl m e2 p⟩
theorem jv (i : Nat) {x : Str} (hN : X.N[i]? = some x := by rfl) (hv : Vis X.env.scope x := by first | exact Or.inl rfl | exact Or.inr (Or.inl rfl) | exact Or.inr (Or.inr rfl)) (hd : (x == ("__debug__" : Str)) = false := by decide)
    (hcd : (x == ("__classdict__" : Str)) = false := by decide) : JE X W (.Name x pos) (dVar i) := je_var hN hv hd hcd
theorem je_con {e : Expr} {v : V} {d : Dv} (h : PE X e (tC v)) (r : ∀ n f H, RD n f H d v) : JE X W e (dC d) :=
  pe_imp h fun s H Q ⟨f, l, M, P, Y, m, rl, p, k, _⟩ => k f H M d v Lt.refl m (r _ _ _) p
theorem je_int {i j} : JE X W (.Constant (.int i) j pos) (dC (.int i)) := je_con pe_int fun _ _ _ => rfl
theorem je_bl {b j} : JE X W (.Constant (.bool b) j pos) (dC (.bl b)) := je_con pe_bl fun _ _ _ => rfl
theorem je_non {j} : JE X W (.Constant .none j pos) (dC .non) := je_con pe_non fun _ _ _ => rfl
theorem je_str {x j} : JE X W (.Constant (.str x) j pos) (dC (.str x)) := je_con pe_str fun _ _ _ => rfl
/-- a def, a class of the module, as a value -/
theorem je_glob {x : Str} {a : Addr} (hg : Gl X x) (hm : X.mg x = some (.ref a)) (hd : (x == ("__debug__" : Str)) = false := by decide) : JE X W (.Name x pos) (dC (.adr a)) :=
  je_con (pe_glob (v := .ref a) hg hm rfl hd) fun _ _ _ => rfl
end
/-! ### operations on values that leave the memory as it is -/
def Op2 (r : R2) (g : Dv → Dv → Mem → (Dv → Prop) → Prop) : Prop :=
  ∀ (f : Fr) (H : Hp) (M : Mem) (x y : Dv) (v u : V) (P : Dv → Prop) (Q : VK), RM f H M → RD M.length f H x v → RD M.length f H y u → g x y M P →
    (∀ w H' d, Same H H' → RD M.length f H' d w → P d → Q w H') → r v u H Q
def Op1 (r : V → Hp → VK → Prop) (g : Dv → Mem → (Dv → Prop) → Prop) : Prop :=
  ∀ (f : Fr) (H : Hp) (M : Mem) (x : Dv) (v : V) (P : Dv → Prop) (Q : VK), RM f H M → RD M.length f H x v → g x M P →
    (∀ w H' d, Same H H' → RD M.length f H' d w → P d → Q w H') → r v H Q
def Opn (r : List V → Hp → VK → Prop) (g : List Dv → Mem → (Dv → Prop) → Prop) : Prop :=
  ∀ (f : Fr) (H : Hp) (M : Mem) (xs : List Dv) (vs : List V) (P : Dv → Prop) (Q : VK), RM f H M → RDs M.length f H xs vs → g xs M P →
    (∀ w H' d, Same H H' → RD M.length f H' d w → P d → Q w H') → r vs H Q
def dOp (g : Dv → Dv → Mem → (Dv → Prop) → Prop) (ta tb : DE) : DE := fun l M P X => ta l M (fun x M1 => tb l M1 (fun y M2 => g x y M2 fun d => P d M2) X) X
def dUn (g : Dv → Mem → (Dv → Prop) → Prop) (ta : DE) : DE := fun l M P X => ta l M (fun x M1 => g x M1 fun d => P d M1) X
def dCB (g : List Dv → Mem → (Dv → Prop) → Prop) (t : DA) : DE := fun l M P X => t l M (fun xs M1 => g xs M1 fun d => P d M1) X
section
variable {X : Cx} {W : WX} {pos : Pos} {a b : Expr} {ta tb : DE}
theorem op2_T {r : R2} {g : Dv → Dv → Mem → (Dv → Prop) → Prop} (hg : Op2 r g) (s : L2.St) (H : Hp) (Q : VK) (h : lE W (dOp g ta tb) s H Q) : tOp r (lE W ta) (lE W tb) s H Q := by
  obtain ⟨f, l, M, P, Y, m, rl, h, k, kx⟩ := h
  refine ⟨f, l, M, _, Y, m, rl, h, fun f1 H1 M1 x v L1 m1 r1 h1 => ?_, kx⟩
  refine ⟨f1, l, M1, _, Y, m1, rl.mono L1, h1, fun f2 H2 M2 y u L2 m2 r2 h2 => ?_, kx.mono L1⟩
  exact hg f2 H2 M2 x y v u _ Q m2 (r1.mono L2) r2 h2 fun w H3 d sm rd p => k f2 H3 M2 d w ((L1.trans L2).trans (Lt.same sm)) (m2.same sm) rd p
theorem je_op {op : Operator} {r : R2} {g : Dv → Dv → Mem → (Dv → Prop) → Prop} (ho : OpR X (binaryOp op) r) (hg : Op2 r g) (ha : JE X W a ta) (hb : JE X W b tb) : JE X W (.BinOp a op b pos) (dOp g ta tb) :=
  pe_imp (pe_op ho ha hb) (op2_T hg)
theorem je_cmp {op : CmpOp} {r : R2} {g : Dv → Dv → Mem → (Dv → Prop) → Prop} (ho : OpR X (compareOp op) r) (hg : Op2 r g) (ha : JE X W a ta) (hb : JE X W b tb) (hm : behindInMarks op b = false) : JE X W (.Compare a [op] [b] pos) (dOp g ta tb) :=
  pe_imp (pe_cmpR ho ha hb hm) (op2_T hg)
theorem je_ix {r : R2} {g : Dv → Dv → Mem → (Dv → Prop) → Prop} (hr : IxR X r) (hg : Op2 r g) (ha : JE X W a ta) (hb : JE X W b tb) (hs : PlainIx b) : JE X W (.Subscript a b pos) (dOp g ta tb) :=
  pe_imp (pe_ix hr ha hb hs) (op2_T hg)
theorem je_un {op : UnaryOp} {r : V → Hp → VK → Prop} {g : Dv → Mem → (Dv → Prop) → Prop} (ho : UnR X (unaryOp op) r) (hg : Op1 r g) (ha : JE X W a ta) : JE X W (.UnaryOp op a pos) (dUn g ta) :=
  pe_imp (pe_un ho ha) fun s H Q ⟨f, l, M, P, Y, m, rl, h, k, kx⟩ => ⟨f, l, M, _, Y, m, rl, h, fun f1 H1 M1 x v L1 m1 r1 h1 =>
    hg f1 H1 M1 x v _ Q m1 r1 h1 fun w H3 d sm rd p => k f1 H3 M1 d w (L1.trans (Lt.same sm)) (m1.same sm) rd p, kx⟩
/-- a value that is True or False, as a test -/
def dTest (t : DE) : DT := fun l M P X => t l M (fun d M1 => ∃ k, d = .bl k ∧ P k M1) X
theorem test_T (t : DE) (s : L2.St) (H : Hp) (Q : Bool → Hp → Prop) (h : lT W (dTest t) s H Q) : tTest (lE W t) s H Q := by
  obtain ⟨f, l, M, P, Y, m, rl, h, k, kx⟩ := h
  refine ⟨f, l, M, _, Y, m, rl, h, fun f1 H1 M1 x v L1 m1 r1 h1 => ?_, kx⟩
  obtain ⟨c, rfl, p⟩ := h1
  exact ⟨c, r1, k f1 H1 M1 c L1 m1 p⟩
theorem jt_cmp {op : CmpOp} {r : R2} {g : Dv → Dv → Mem → (Dv → Prop) → Prop} (ho : OpR X (compareOp op) r) (hg : Op2 r g) (ha : JE X W a ta) (hb : JE X W b tb) (hm : behindInMarks op b = false) : JT X W (.Compare a [op] [b] pos) (dTest (dOp g ta tb)) :=
  pt_imp (pt_cmpR ho ha hb hm) fun s H Q h => by
    obtain ⟨f, l, M, P, Y, m, rl, h, k, kx⟩ := h
    refine op2_T hg s H _ ⟨f, l, M, _, Y, m, rl, h, fun f1 H1 M1 x v L1 m1 r1 h1 => ?_, kx⟩
    obtain ⟨c, rfl, p⟩ := h1
    exact ⟨c, r1, k f1 H1 M1 c L1 m1 p⟩
/-- any value, as a test -/
def dTru (t : DE) : DT := fun l M P X => t l M (fun d M1 => ∃ k, truD M1 d = some k ∧ P k M1) X
theorem jt_tru {e : Expr} {t : DE} (h : JE X W e t) (he : ∀ whole, isTrue e X.env whole = (do let v ← whole; standAt e.pos; holding [v] (truthy v)) := by intro _; rfl) : JT X W e (dTru t) :=
  pt_imp (pt_truth h he) fun s H Q ⟨f, l, M, P, Y, m, rl, h, k, kx⟩ => ⟨f, l, M, _, Y, m, rl, h, fun f1 H1 M1 x v L1 m1 r1 ⟨c, e1, p⟩ => ⟨c, tru_rd m1 r1 e1, k f1 H1 M1 c L1 m1 p⟩, kx⟩
/-! ### and, or, not, if -/
def dAnd (t u : DT) : DT := fun l M P X => t l M (fun c M1 => if c = true then u l M1 P X else P false M1) X
def dOr (t u : DT) : DT := fun l M P X => t l M (fun c M1 => if c = true then P true M1 else u l M1 P X) X
def dNot (t : DT) : DT := fun l M P X => t l M (fun c M1 => P (!c) M1) X
variable {rest : List Expr} {tA tB : DT}
theorem jw_and1 (h : JT X W a tA) : JW X W (.BoolOp .And [a] pos) tA := pw_and1 h
theorem jw_or1 (h : JT X W a tA) : JW X W (.BoolOp .Or [a] pos) tA := pw_or1 h
theorem jw_and (ha : JT X W a tA) (hb : JW X W (.BoolOp .And (b :: rest) pos) tB) : JW X W (.BoolOp .And (a :: b :: rest) pos) (dAnd tA tB) :=
  pw_imp (pw_and ha hb) fun s H Q ⟨f, l, M, P, Y, m, rl, h, k, kx⟩ => ⟨f, l, M, _, Y, m, rl, h, fun f1 H1 M1 c L1 m1 h1 => by
    cases c with
    | true => rw [if_pos rfl] at h1 ⊢; exact ⟨f1, l, M1, P, Y, m1, rl.mono L1, h1, k.mono L1, kx.mono L1⟩
    | false => rw [if_neg Bool.false_ne_true] at h1 ⊢; exact k f1 H1 M1 false L1 m1 h1, kx⟩
theorem jw_or (ha : JT X W a tA) (hb : JW X W (.BoolOp .Or (b :: rest) pos) tB) : JW X W (.BoolOp .Or (a :: b :: rest) pos) (dOr tA tB) :=
  pw_imp (pw_or ha hb) fun s H Q ⟨f, l, M, P, Y, m, rl, h, k, kx⟩ => ⟨f, l, M, _, Y, m, rl, h, fun f1 H1 M1 c L1 m1 h1 => by
    cases c with
    | true => rw [if_pos rfl] at h1 ⊢; exact k f1 H1 M1 true L1 m1 h1
    | false => rw [if_neg Bool.false_ne_true] at h1 ⊢; exact ⟨f1, l, M1, P, Y, m1, rl.mono L1, h1, k.mono L1, kx.mono L1⟩, kx⟩
theorem jt_not (ha : JT X W a tA) : JT X W (.UnaryOp .Not a pos) (dNot tA) :=
  pt_imp (pt_not ha) fun s H Q ⟨f, l, M, P, Y, m, rl, h, k, kx⟩ => ⟨f, l, M, _, Y, m, rl, h, fun f1 H1 M1 c L1 m1 h1 => k f1 H1 M1 (!c) L1 m1 h1, kx⟩
/-- as values, by truth -/
def dAndV (t u : DE) : DE := fun l M P X => t l M (fun d M1 => ∃ c, truD M1 d = some c ∧ if c = true then u l M1 P X else P d M1) X
def dOrV (t u : DE) : DE := fun l M P X => t l M (fun d M1 => ∃ c, truD M1 d = some c ∧ if c = true then P d M1 else u l M1 P X) X
def dNotV (t : DE) : DE := fun l M P X => t l M (fun d M1 => ∃ c, truD M1 d = some c ∧ P (.bl (!c)) M1) X
theorem je_one {op} {t : DE} (h : JE X W a t) : JE X W (.BoolOp op [a] pos) t := pe_one h
theorem je_and (ha : JE X W a ta) (hb : JE X W (.BoolOp .And (b :: rest) pos) tb) : JE X W (.BoolOp .And (a :: b :: rest) pos) (dAndV ta tb) :=
  pe_imp (pe_andT ha hb) fun s H Q ⟨f, l, M, P, Y, m, rl, h, k, kx⟩ => ⟨f, l, M, _, Y, m, rl, h, fun f1 H1 M1 d v L1 m1 r1 ⟨c, e1, h1⟩ => ⟨c, tru_rd m1 r1 e1, by
    cases c with
    | true => rw [if_pos rfl] at h1 ⊢; exact ⟨f1, l, M1, P, Y, m1, rl.mono L1, h1, k.mono L1, kx.mono L1⟩
    | false => rw [if_neg Bool.false_ne_true] at h1 ⊢; exact k f1 H1 M1 d v L1 m1 r1 h1⟩, kx⟩
theorem je_or (ha : JE X W a ta) (hb : JE X W (.BoolOp .Or (b :: rest) pos) tb) : JE X W (.BoolOp .Or (a :: b :: rest) pos) (dOrV ta tb) :=
  pe_imp (pe_orT ha hb) fun s H Q ⟨f, l, M, P, Y, m, rl, h, k, kx⟩ => ⟨f, l, M, _, Y, m, rl, h, fun f1 H1 M1 d v L1 m1 r1 ⟨c, e1, h1⟩ => ⟨c, tru_rd m1 r1 e1, by
    cases c with
    | true => rw [if_pos rfl] at h1 ⊢; exact k f1 H1 M1 d v L1 m1 r1 h1
    | false => rw [if_neg Bool.false_ne_true] at h1 ⊢; exact ⟨f1, l, M1, P, Y, m1, rl.mono L1, h1, k.mono L1, kx.mono L1⟩⟩, kx⟩
theorem je_not (ha : JE X W a ta) : JE X W (.UnaryOp .Not a pos) (dNotV ta) :=
  pe_imp (pe_notT ha) fun s H Q ⟨f, l, M, P, Y, m, rl, h, k, kx⟩ => ⟨f, l, M, _, Y, m, rl, h, fun f1 H1 M1 d v L1 m1 r1 ⟨c, e1, h1⟩ => ⟨c, tru_rd m1 r1 e1, k f1 H1 M1 (.bl (!c)) (.bl (!c)) L1 m1 rfl h1⟩, kx⟩
def dIf (c : DT) (t u : DE) : DE := fun l M P X => c l M (fun b M1 => if b = true then t l M1 P X else u l M1 P X) X
theorem je_if {c : Expr} (hc : JT X W c tA) (ha : JE X W a ta) (hb : JE X W b tb) : JE X W (.IfExp c a b pos) (dIf tA ta tb) :=
  pe_imp (pe_ifExp hc ha hb) fun s H Q ⟨f, l, M, P, Y, m, rl, h, k, kx⟩ => ⟨f, l, M, _, Y, m, rl, h, fun f1 H1 M1 c L1 m1 h1 => by
    cases c with
    | true => rw [if_pos rfl] at h1 ⊢; exact ⟨f1, l, M1, P, Y, m1, rl.mono L1, h1, k.mono L1, kx.mono L1⟩
    | false => rw [if_neg Bool.false_ne_true] at h1 ⊢; exact ⟨f1, l, M1, P, Y, m1, rl.mono L1, h1, k.mono L1, kx.mono L1⟩, kx⟩
/-! ### argument lists, displays -/
def dNil : DA := fun _ M P _ => P [] M
def dCons (t : DE) (u : DA) : DA := fun l M P X => t l M (fun d M1 => u l M1 (fun ds M2 => P (d :: ds) M2) X) X
variable {e : Expr} {es : List Expr} {t : DE} {u : DA}
theorem ja_nil : JA X W [] dNil := pa_imp pa_nil fun s H Q ⟨f, l, M, P, Y, m, rl, h, k, kx⟩ => k f H M [] [] Lt.refl m rfl h
theorem ja_cons (ha : JE X W e t) (hr : JA X W es u) (hs : starEach (e :: es) X.env = (false, eval e X.env) :: starEach es X.env := by rfl) : JA X W (e :: es) (dCons t u) :=
  pa_imp (pa_cons ha hr hs) fun s H Q ⟨f, l, M, P, Y, m, rl, h, k, kx⟩ => ⟨f, l, M, _, Y, m, rl, h, fun f1 H1 M1 d v L1 m1 r1 h1 =>
    ⟨f1, l, M1, _, Y, m1, rl.mono L1, h1, fun f2 H2 M2 ds vs L2 m2 r2 h2 => k f2 H2 M2 (d :: ds) (v :: vs) (L1.trans L2) m2 (.cons (r1.mono L2) r2) h2, kx.mono L1⟩, kx⟩
def dTup (u : DA) : DE := fun l M P X => u l M (fun ds M1 => ds.length ≤ sizeLine ∧ P (.tup ds) M1) X
def dLst (u : DA) : DE := fun l M P X => u l M (fun ds M1 => ds.length ≤ sizeLine ∧ P (.lst ds) M1) X
/-- a new list that will be changed -/
def dLstM (u : DA) : DE := fun l M P X => u l M (fun ds M1 => ds.length ≤ sizeLine ∧ P (.ref M1.length) (M1 ++ [.lst ds])) X
theorem je_tup {x1} (h : JA X W es u) : JE X W (.Tuple es x1 pos) (dTup u) :=
  pe_imp (pe_tup h) fun s H Q ⟨f, l, M, P, Y, m, rl, h, k, kx⟩ => ⟨f, l, M, _, Y, m, rl, h, fun f1 H1 M1 ds vs L1 m1 r1 ⟨z, h1⟩ =>
    ⟨by rw [r1.length]; exact z, fun p hp => k f1 _ M1 (.tup ds) (.ref p) (L1.trans (Lt.same (same_new hp))) (m1.same (same_new hp)) (rd_tup m1 hp r1 z) h1⟩, kx⟩
theorem je_lst (h : JA X W es u) : JE X W (.List es pos) (dLst u) :=
  pe_imp (pe_lst h) fun s H Q ⟨f, l, M, P, Y, m, rl, h, k, kx⟩ => ⟨f, l, M, _, Y, m, rl, h, fun f1 H1 M1 ds vs L1 m1 r1 ⟨z, h1⟩ =>
    ⟨by rw [r1.length]; exact z, fun p hp => k f1 _ M1 (.lst ds) (.ref p) (L1.trans (Lt.same (same_new hp))) (m1.same (same_new hp)) (rd_lst m1 hp r1 z) h1⟩, kx⟩
theorem rm_newl {f : Fr} {H : Hp} {M : Mem} {p : Addr} {ds : List Dv} {vs : List V} (m : RM f H M) (hp : H p = none) (r : RDs M.length f H ds vs) (z : ds.length ≤ sizeLine) :
    RM (ext f M.length p) (upd H p (.lst vs)) (M ++ [.lst ds]) := m.new hp ⟨z, vs, upd_same, r.mono (lt_new hp)⟩
theorem rd_newl {f : Fr} {H : Hp} {M : Mem} {p : Addr} {o : MO} : RD (M ++ [o]).length (ext f M.length p) H (.ref M.length) (.ref p) := ⟨by simp, by rw [ext_self]⟩
theorem lt_newl {f : Fr} {H : Hp} {M : Mem} {p : Addr} {o : MO} {u : HO} (h : H p = none) : Lt M.length f H (M ++ [o]).length (ext f M.length p) (upd H p u) := by
  rw [List.length_append]; exact lt_new h
theorem je_lstM (h : JA X W es u) : JE X W (.List es pos) (dLstM u) :=
  pe_imp (pe_lst h) fun s H Q ⟨f, l, M, P, Y, m, rl, h, k, kx⟩ => ⟨f, l, M, _, Y, m, rl, h, fun f1 H1 M1 ds vs L1 m1 r1 ⟨z, h1⟩ =>
    ⟨by rw [r1.length]; exact z, fun p hp => k _ _ (M1 ++ [.lst ds]) (.ref M1.length) (.ref p) (L1.trans (lt_newl hp)) (rm_newl m1 hp r1 z) rd_newl h1⟩, kx⟩
/-! ### built-in functions and types, called -/
theorem je_callB {r : List V → Hp → VK → Prop} {g : List Dv → Mem → (Dv → Prop) → Prop} {id : String} {x : Str} {p : Pos} (hc : CallR X (.builtin id) r) (hr : Opn r g) (hg : Gl X x) (hm : X.mg x = none) (hv : bootBuiltins x = some (.builtin id)) (ha : JA X W (e :: es) u) (hn : x ≠ "__name__" := by decide)
    (hdb : (x == ("__debug__" : Str)) = false := by decide) (he : starEach (e :: es) X.env = (false, eval e X.env) :: starEach es X.env := by rfl) (hpl : (backTo pos (starEach es X.env)).any (·.1) = false := by rfl) : JE X W (.Call (.Name x p) (e :: es) [] pos) (dCB g u) :=
  pe_imp (pe_callB hc hg hm hv ha hn hdb he hpl) fun s H Q ⟨f, l, M, P, Y, m, rl, h, k, kx⟩ => ⟨f, l, M, _, Y, m, rl, h, fun f1 H1 M1 ds vs L1 m1 r1 h1 =>
    hr f1 H1 M1 ds vs _ Q m1 r1 h1 fun w H3 d sm rd p => k f1 H3 M1 d w (L1.trans (Lt.same sm)) (m1.same sm) rd p, kx⟩
theorem je_callTy {r : List V → Hp → VK → Prop} {g : List Dv → Mem → (Dv → Prop) → Prop} {T : String} {x : Str} {p : Pos} (hc : CallR X (.type T) r) (hr : Opn r g) (hg : Gl X x) (hm : X.mg x = none) (hv : bootBuiltins x = some (.type T)) (ha : JA X W (e :: es) u) (hn : x ≠ "__name__" := by decide)
    (hdb : (x == ("__debug__" : Str)) = false := by decide) (he : starEach (e :: es) X.env = (false, eval e X.env) :: starEach es X.env := by rfl) (hpl : (backTo pos (starEach es X.env)).any (·.1) = false := by rfl) : JE X W (.Call (.Name x p) (e :: es) [] pos) (dCB g u) :=
  pe_imp (pe_callTy hc hg hm hv ha hn hdb he hpl) fun s H Q ⟨f, l, M, P, Y, m, rl, h, k, kx⟩ => ⟨f, l, M, _, Y, m, rl, h, fun f1 H1 M1 ds vs L1 m1 r1 h1 =>
    hr f1 H1 M1 ds vs _ Q m1 r1 h1 fun w H3 d sm rd p => k f1 H3 M1 d w (L1.trans (Lt.same sm)) (m1.same sm) rd p, kx⟩
/-! ### own defs, called -/
abbrev DSp := List Dv → Mem → PD → PX → Prop
def spOf (S : DSp) : Sp := fun vs H Q E => ∃ (f : Fr) (M : Mem) (ds : List Dv) (P : PD) (X : PX), RM f H M ∧ RDs M.length f H ds vs ∧ S ds M P X ∧ KE M.length f H P Q ∧ KX (fun c d _ H => E c d H) [] M.length f H X
/-- a def keeps its promise, called where no repr is under way -/
structure FnG (P : Program) (w : World) (K : PySem.W.Frag) (mg : Str → Option Value) (base : Heap) (k : Nat) (f : Addr) (fd : FuncData) (ps : List Str) (S : DSp) : Prop where
  len : ∀ ds M Pd X, S ds M Pd X → ds.length = ps.length
  run : ∀ (A : Around) (outer : List Env) (s : Shared) (H : Hp) (args : Args) (us : List Value) (vs : List V) (Q : VK) (E : XK), Room k A → A.guards = some [] → Env0 P w K mg base A outer s H → BindsTo s fd args (ps.zip us) → Vals vs us → spOf S vs H Q E →
    codeAny (model P w) A (.call (.ref f) args) (CR (L2.CX P w) outer P w H s Q E) s
theorem FnG.mono {P : Program} {w : World} {K : PySem.W.Frag} {mg : Str → Option Value} {base : Heap} {j k : Nat} {f : Addr} {fd : FuncData} {ps : List Str} {S : DSp} (F : FnG P w K mg base j f fd ps S) (h : j ≤ k) : FnG P w K mg base k f fd ps S :=
  ⟨F.len, fun A outer s H args us vs Q E hr => F.run A outer s H args us vs Q E (hr.mono h)⟩
theorem FnG.imp {P : Program} {w : World} {K : PySem.W.Frag} {mg : Str → Option Value} {base : Heap} {k : Nat} {f : Addr} {fd : FuncData} {ps : List Str} {S S' : DSp} (F : FnG P w K mg base k f fd ps S) (h : ∀ ds M Pd X, S' ds M Pd X → S ds M Pd X) : FnG P w K mg base k f fd ps S' :=
  ⟨fun ds M Pd X q => F.len ds M Pd X (h _ _ _ _ q), fun A outer s H args us vs Q E hr hgu e0 hb rv ⟨f, M, ds, Pd, Y, m, r, q, k, kx⟩ => F.run A outer s H args us vs Q E hr hgu e0 hb rv ⟨f, M, ds, Pd, Y, m, r, h _ _ _ _ q, k, kx⟩⟩
theorem run_g {S : DSp} {k : Nat} {f : Addr} {fd : FuncData} {ps : List Str} (F : FnG X.prog X.w X.K X.mg X.base k f fd ps S) (hr : Room k X.A) (hgu : X.A.guards = some []) {E : L2.St → XK} {pins : List (Addr × Obj)} {σ : L2.St} {H : Hp} {s : Shared} {Q : VK} {args : Args} {us : List Value} {vs : List V}
    (hx : PassesAt (L2.CX X.prog X.w) X σ (E σ)) (I : Inv X pins σ H s) (b : BindsTo s fd args (ps.zip us)) (r : Vals vs us) (h : spOf S vs H Q (E σ)) :
    codeAny (model X.prog X.w) X.A (.call (.ref f) args) (fun r s' => match r with | .ok (.ret u) => EP X pins σ Q u s' | .ok _ => False | .error e => X.xe e s') s :=
  codeAny_mono (F.run X.A X.stack s H args us vs Q (E σ) hr hgu I.env0 b r h) fun res s' hq => by
    cases res with
    | error e => exact hx pins H s e s' I hq
    | ok fl =>
      cases fl with
      | ret u => exact I.after hq
      | next => exact hq
      | brk => exact hq
      | cont => exact hq
def dCall (S : DSp) (u : DA) : DE := fun l M P X => u l M (fun ds M1 => S ds M1 P X) X
theorem je_call {S : DSp} {k : Nat} {f : Addr} {fd : FuncData} {ps : List Str} {x : Str} {p : Pos} (F : FnG X.prog X.w X.K X.mg X.base k f fd ps S) (hr : Room k X.A) (hgu : X.A.guards = some []) (tk : Takes X W) (hg : Gl X x) (hm : X.mg x = some (.ref f)) (hk : PySem.W.keepIn X.K (.ref f) = true) (hb : Binds X.K fd ps [])
    (ha : JA X W (e :: es) u) (hdb : (x == ("__debug__" : Str)) = false := by decide) (he : starEach (e :: es) X.env = (false, eval e X.env) :: starEach es X.env := by rfl) (hpl : (backTo pos (starEach es X.env)).any (·.1) = false := by rfl) :
    JE X W (.Call (.Name x p) (e :: es) [] pos) (dCall S u) := by
  refine ⟨fun pins s σ H Q I ⟨f0, l, M, Pd, Y, m, rl, h, k, kx⟩ => ?_⟩
  refine wpAny_Call_Name_kw (ld_glob I hg hm ?_ hdb)
  refine PySem.W.callWith_K (h₀ := X.base) I.ok.mod.kin hk (thn (ha.run pos pins s σ H (fun vs H1 => spOf S vs H1 Q (WE W σ)) I ⟨f0, l, M, _, Y, m, rl, h, fun f1 H1 M1 ds vs L1 m1 r1 h1 =>
    ⟨f1, M1, ds, Pd, Y, m1, r1, h1, k.mono L1, fun f' H' M' C d a L2 m2 r2 h2 => kx f' H' M' C d a (L1.trans L2) m2 r2 h2⟩, kx⟩) fun us s1 ⟨vs, H1, I1, r, q⟩ => ⟨I1.kIn, ?_⟩) he hpl
  have hl : us.length = ps.length := by
    obtain ⟨f2, M2, ds, P2, Y2, _, r2, h2, _, _⟩ := q
    rw [← r.length, r2.length]; exact F.len _ _ _ _ h2
  have b := hb s1 us I1.kIn (by rw [List.append_nil]; exact hl)
  rw [List.append_nil] at b
  refine wpAny_call (codeAny_mono (run_g F hr hgu (E := WE W) (passAt tk σ) I1 b r q) fun res s' hq => ?_)
  cases res with
  | error e => exact hq
  | ok fl => cases fl <;> exact hq
end
end D
end

section
set_option Elab.async false
set_option linter.all false
set_option maxRecDepth 100000
set_option maxHeartbeats 1000000
set_option autoImplicit false
/-! The deep layer, part 2: statements, targets, loops, comprehensions, defs. -/
namespace D
open PySem PySem.Spec PyProof.Rows L2
variable [TBL]
structure DK where
  nx : Loc → Mem → Prop
  rt : PD
  bk : Loc → Mem → Prop
  ct : Loc → Mem → Prop
  xc : Addr → Option Dv → Loc → Mem → Prop
abbrev DS := DK → Loc → Mem → Prop
structure KS (W : WX) (n : Nat) (f : Fr) (H : Hp) (E : DK) (D : Ends) : Prop where
  nx : ∀ (f' : Fr) (H' : Hp) (s' : L2.St) (l' : Loc) (M' : Mem), Lt n f H M'.length f' H' → RM f' H' M' → RL M'.length f' H' l' s' → E.nx l' M' → D.nx s' H'
  rt : ∀ (f' : Fr) (H' : Hp) (M' : Mem) (d : Dv) (v : V), Lt n f H M'.length f' H' → RM f' H' M' → RD M'.length f' H' d v → E.rt d M' → D.rt v H'
  bk : ∀ (f' : Fr) (H' : Hp) (s' : L2.St) (l' : Loc) (M' : Mem), Lt n f H M'.length f' H' → RM f' H' M' → RL M'.length f' H' l' s' → E.bk l' M' → D.bk s' H'
  ct : ∀ (f' : Fr) (H' : Hp) (s' : L2.St) (l' : Loc) (M' : Mem), Lt n f H M'.length f' H' → RM f' H' M' → RL M'.length f' H' l' s' → E.ct l' M' → D.ct s' H'
  xc : ∀ (f' : Fr) (H' : Hp) (s' : L2.St) (l' : Loc) (M' : Mem) (C : Addr) (d : Option Dv) (a : Option Addr), Lt n f H M'.length f' H' → RM f' H' M' → RL M'.length f' H' l' s' → RX M'.length f' H' d a → E.xc C d l' M' → W (.ref C) a s' H'
def lS (W : WX) (t : DS) : TS := fun D s H => ∃ (f : Fr) (l : Loc) (M : Mem) (E : DK), RM f H M ∧ RL M.length f H l s ∧ t E l M ∧ KS W M.length f H E D
section
variable {W : WX} {n n1 : Nat} {f f1 : Fr} {H H1 : Hp} {E : DK} {D : Ends} {s : L2.St} {l : Loc}
theorem KS.mono (k : KS W n f H E D) (x : Lt n f H n1 f1 H1) : KS W n1 f1 H1 E D :=
  ⟨fun f' H' s' l' M' y => k.nx f' H' s' l' M' (x.trans y), fun f' H' M' d v y => k.rt f' H' M' d v (x.trans y), fun f' H' s' l' M' y => k.bk f' H' s' l' M' (x.trans y),
    fun f' H' s' l' M' y => k.ct f' H' s' l' M' (x.trans y), fun f' H' s' l' M' C d a y => k.xc f' H' s' l' M' C d a (x.trans y)⟩
theorem KS.kx (k : KS W n f H E D) (r : RL n f H l s) : KX W s n f H (fun C d M => E.xc C d l M) := fun f' H' M' C d a x m rx h => k.xc f' H' s l M' C d a x m (r.mono x) rx h
end
abbrev JS (X : Cx) (W : WX) (st : Stmt) (t : DS) : Prop := PS X st (lS W t)
abbrev JSs (X : Cx) (W : WX) (st : List Stmt) (t : DS) : Prop := PSs X st (lS W t)
section
variable {X : Cx} {W : WX} {st : Stmt} {rest : List Stmt} {t u : DS} {e : Expr} {te : DE} {pos : Pos}
theorem ps_imp {t t' : TS} (h : PS X st t') (g : ∀ D s H, t D s H → t' D s H) : PS X st t := ⟨fun pins s σ H D I hw => h.run pins s σ H D I (g _ _ _ hw)⟩
theorem pss_imp {t t' : TS} (h : PSs X rest t') (g : ∀ D s H, t D s H → t' D s H) : PSs X rest t := ⟨fun pins s σ H D I hw => h.run pins s σ H D I (g _ _ _ hw)⟩
def dNext : DS := fun E l M => E.nx l M
def dSeq (t u : DS) : DS := fun E l M => t { E with nx := u E } l M
theorem js_nil : JSs X W [] dNext := pss_imp pss_nil fun D s H ⟨f, l, M, E, m, r, h, k⟩ => k.nx f H s l M Lt.refl m r h
theorem js_cons (h1 : JS X W st t) (h2 : JSs X W rest u) : JSs X W (st :: rest) (dSeq t u) :=
  pss_imp (pss_cons h1 h2) fun D s H ⟨f, l, M, E, m, r, h, k⟩ => ⟨f, l, M, { E with nx := u E }, m, r, h,
    ⟨fun f' H' s' l' M' x m' r' h' => ⟨f', l', M', E, m', r', h', k.mono x⟩, k.rt, k.bk, k.ct, k.xc⟩⟩
theorem js_one (h1 : JS X W st t) : JSs X W [st] t := pss_one h1
theorem js_pass : JS X W (.Pass pos) dNext := ps_imp ps_pass fun D s H ⟨f, l, M, E, m, r, h, k⟩ => k.nx f H s l M Lt.refl m r h
def dBreak : DS := fun E l M => E.bk l M
def dCont : DS := fun E l M => E.ct l M
theorem js_break : JS X W (.Break pos) dBreak := ps_imp ps_break fun D s H ⟨f, l, M, E, m, r, h, k⟩ => k.bk f H s l M Lt.refl m r h
theorem js_continue : JS X W (.Continue pos) dCont := ps_imp ps_continue fun D s H ⟨f, l, M, E, m, r, h, k⟩ => k.ct f H s l M Lt.refl m r h
def dDrop (te : DE) : DS := fun E l M => te l M (fun _ M1 => E.nx l M1) (fun C d M1 => E.xc C d l M1)
theorem js_expr (he : JE X W e te) (hs : swapsWith e none pos.line X.env = pure false := by rfl) : JS X W (.Expr e pos) (dDrop te) :=
  ps_imp (ps_expr he hs) fun D s H ⟨f, l, M, E, m, r, h, k⟩ => ⟨f, l, M, _, _, m, r, h, fun f' H' M' d v x m' _ h' => k.nx f' H' s l M' x m' (r.mono x) h', k.kx r⟩
def dRet (te : DE) : DS := fun E l M => te l M E.rt (fun C d M1 => E.xc C d l M1)
theorem js_ret (he : JE X W e te) : JS X W (.Return (some e) pos) (dRet te) :=
  ps_imp (ps_ret he) fun D s H ⟨f, l, M, E, m, r, h, k⟩ => ⟨f, l, M, _, _, m, r, h, fun f' H' M' d v x m' r' h' => k.rt f' H' M' d v x m' r' h', k.kx r⟩
def dRetN : DS := fun E _ M => E.rt .non M
theorem js_retN : JS X W (.Return none pos) dRetN := ps_imp ps_retN fun D s H ⟨f, l, M, E, m, r, h, k⟩ => k.rt f H M .non .non Lt.refl m rfl h
def dIfS (c : DT) (t u : DS) : DS := fun E l M => c l M (fun b M1 => if b = true then t E l M1 else u E l M1) (fun C d M1 => E.xc C d l M1)
theorem js_if {c : Expr} {a b : List Stmt} {tc : DT} (hc : JT X W c tc) (ha : JSs X W a t) (hb : JSs X W b u) : JS X W (.If c a b pos) (dIfS tc t u) :=
  ps_imp (ps_if hc ha hb) fun D s H ⟨f, l, M, E, m, r, h, k⟩ => ⟨f, l, M, _, _, m, r, h, fun f' H' M' b x m' h' => by
    cases b with
    | true => rw [if_pos rfl] at h' ⊢; exact ⟨f', l, M', E, m', r.mono x, h', k.mono x⟩
    | false => rw [if_neg Bool.false_ne_true] at h' ⊢; exact ⟨f', l, M', E, m', r.mono x, h', k.mono x⟩, k.kx r⟩
/-! ### targets -/
/-- only the slots in ws changed -/
structure Ch (ws : List Nat) (s s' : L2.St) : Prop where
  len : s'.length = s.length
  out : ∀ j, j ∉ ws → s'[j]? = s[j]?
theorem Ch.refl (ws : List Nat) (s : L2.St) : Ch ws s s := ⟨rfl, fun _ _ => rfl⟩
theorem Ch.trans {ws : List Nat} {s s1 s2 : L2.St} (a : Ch ws s s1) (b : Ch ws s1 s2) : Ch ws s s2 := ⟨b.len.trans a.len, fun j h => (b.out j h).trans (a.out j h)⟩
abbrev DG := Dv → Loc → Mem → (Loc → Mem → Prop) → Prop
abbrev DGs := List Dv → Loc → Mem → (Loc → Mem → Prop) → Prop
def KG (ws : List Nat) (s : L2.St) (n : Nat) (f : Fr) (H : Hp) (P : Loc → Mem → Prop) (Q : L2.St → Hp → Prop) : Prop :=
  ∀ (f' : Fr) (H' : Hp) (s' : L2.St) (l' : Loc) (M' : Mem), Lt n f H M'.length f' H' → RM f' H' M' → RL M'.length f' H' l' s' → Ch ws s s' → P l' M' → Q s' H'
def lG (ws : List Nat) (g : DG) : TG := fun v s H Q => ∃ (f : Fr) (l : Loc) (M : Mem) (d : Dv) (P : Loc → Mem → Prop), RM f H M ∧ RL M.length f H l s ∧ RD M.length f H d v ∧ g d l M P ∧ KG ws s M.length f H P Q
def lGs (ws : List Nat) (g : DGs) : TGs := fun v s H Q => ∃ (f : Fr) (l : Loc) (M : Mem) (d : List Dv) (P : Loc → Mem → Prop), RM f H M ∧ RL M.length f H l s ∧ RDs M.length f H d v ∧ g d l M P ∧ KG ws s M.length f H P Q
abbrev JG (X : Cx) (ws : List Nat) (tg : Expr) (g : DG) : Prop := PG X tg (lG ws g)
abbrev JGs (X : Cx) (ws : List Nat) (tg : List Expr) (g : DGs) : Prop := PGs X tg (lGs ws g)
theorem pg_imp {tg : Expr} {t t' : TG} (h : PG X tg t') (g : ∀ v s H Q, t v s H Q → t' v s H Q) : PG X tg t := ⟨fun pins s σ H v u Q I r hw => h.run pins s σ H v u Q I r (g _ _ _ _ hw)⟩
theorem pgs_imp {tg : List Expr} {t t' : TGs} (h : PGs X tg t') (g : ∀ v s H Q, t v s H Q → t' v s H Q) : PGs X tg t := ⟨fun pins s σ H v u Q I r hw => h.run pins s σ H v u Q I r (g _ _ _ _ hw)⟩
theorem pg_or {tg : Expr} {t t' : TG} (h : PG X tg t) (h' : PG X tg t') : PG X tg (fun v s H Q => t v s H Q ∨ t' v s H Q) := ⟨fun pins s σ H v u Q I r hw => hw.elim (h.run pins s σ H v u Q I r) (h'.run pins s σ H v u Q I r)⟩
def gN (i : Nat) : DG := fun d l M P => P (l.set i (some d)) M
theorem jg_name {ws : List Nat} {i : Nat} {x : Str} (hw : i ∈ ws) (hN : X.N.Nodup) (hi : X.N[i]? = some x) (hx : L2.Loc X.env.scope x) (hf : X.fn x = true ∨ X.env.scope.names.lookup x = some .local := by first | exact .inl rfl | exact .inr rfl | assumption) : JG X ws (.Name x pos) (gN i) :=
  pg_imp (pg_name hN hi hx hf) fun v s H Q ⟨f, l, M, d, P, m, r, rd, h, k⟩ => k f H _ _ M Lt.refl m (r.set rd) ⟨by simp, fun j hj => by
    rw [List.getElem?_set_ne]
    intro e; subst e; exact hj hw⟩ h
def gsNil : DGs := fun ds l M P => ds = [] ∧ P l M
def gsCons (g : DG) (r : DGs) : DGs := fun ds l M P => ∃ d rs, ds = d :: rs ∧ g d l M fun l1 M1 => r rs l1 M1 P
theorem jgs_nil {ws : List Nat} : JGs X ws [] gsNil := pgs_imp pgs_nil fun v s H Q ⟨f, l, M, ds, P, m, r, rd, ⟨e, h⟩, k⟩ => by
  subst e
  exact ⟨rd, k f H s l M Lt.refl m r (Ch.refl ws s) h⟩
theorem jgs_cons {ws : List Nat} {es : List Expr} {g : DG} {gr : DGs} (h1 : JG X ws e g) (h2 : JGs X ws es gr) (hs : (assignEach (e :: es) X.env).map (·.2) = assign e X.env :: (assignEach es X.env).map (·.2) := by rfl) : JGs X ws (e :: es) (gsCons g gr) :=
  pgs_imp (pgs_cons h1 h2 hs) fun v s H Q ⟨f, l, M, ds, P, m, r, rd, ⟨d, rs, e, h⟩, k⟩ => by
    subst e
    obtain ⟨v1, vr, rfl, r1, r2⟩ : ∃ v1 vr, v = v1 :: vr ∧ RD M.length f H d v1 ∧ RDs M.length f H rs vr := rd
    refine ⟨v1, vr, rfl, f, l, M, d, _, m, r, r1, h, fun f' H' s' l' M' x m' r' c h' => ?_⟩
    exact ⟨f', l', M', rs, P, m', r', r2.mono x, h', fun f2 H2 s2 l2 M2 y m2 r2 c2 h2 => k f2 H2 s2 l2 M2 (x.trans y) m2 r2 (c.trans c2) h2⟩
/-- (a, b, ..) = a tuple or a list of that length -/
def gT (n : Nat) (g : DGs) : DG := fun d l M P => ∃ ds, seqD M d = some ds ∧ ds.length = n ∧ g ds l M P
theorem jg_tup {ws : List Nat} {es : List Expr} {k : Nat} {g : DGs} {n : Nat} (hc : X.calm = true) (h : JGs X ws es g) (hn : (assignEach es X.env).length = n := by rfl) (hst : (assignEach es X.env).findIdx? (·.1) = none := by rfl) : JG X ws (.Tuple es k pos) (gT n g) :=
  pg_imp (pg_or (pg_tup hc h hn hst) (pg_unl hc h hn hst)) fun v s H Q ⟨f, l, M, d, P, m, r, rd, ⟨ds, e, hl, h⟩, k⟩ => by
    obtain ⟨a, xs, rfl, hq, r2, _⟩ := rd_seqM (K := X.K) m rd e
    rcases hq with hq | hq
    · exact .inr ⟨a, xs, rfl, hq, by rw [r2.length, hl], f, l, M, ds, P, m, r, r2, h, k⟩
    · exact .inl ⟨a, xs, rfl, hq, by rw [r2.length, hl], f, l, M, ds, P, m, r, r2, h, k⟩
/-- xs[i] = .., xs a list that is changed -/
def noX : PX := fun _ _ _ => False
theorem kx_no {s : L2.St} {n : Nat} {f : Fr} {H : Hp} : KX (fun _ _ _ _ => False) s n f H noX := fun _ _ _ _ _ _ _ _ _ h => h
theorem kx_noW {W : WX} {s : L2.St} {n : Nat} {f : Fr} {H : Hp} : KX W s n f H noX := fun _ _ _ _ _ _ _ _ _ h => h.elim
def gSub (to ti : DE) : DG := fun d l M P => to l M (fun o M1 => ti l M1 (fun i M2 => ∃ r k xs j, o = .ref r ∧ i = .int k ∧ M2[r]? = some (.lst xs) ∧ ixN xs.length k = some j ∧ P l (M2.set r (.lst (xs.set j d)))) noX) noX
theorem jg_sub {ws : List Nat} {o i : Expr} {to ti : DE} (ho : JE X (fun _ _ _ _ => False) o to) (hi : JE X (fun _ _ _ _ => False) i ti) (ha : ∀ v, assign (.Subscript o i pos) X.env v = (do
      let ov ← holding [v] (eval o X.env)
      let iv ← holding [v, ov] (eval i X.env)
      standAt pos
      holding [v, ov, iv] (setItem ov iv v)
      release [v, ov, iv] []) := by intro _; rfl) : JG X ws (.Subscript o i pos) (gSub to ti) :=
  pg_imp (L2.pg_sub ho hi set_list ha) fun v s H Q ⟨f, l, M, d, P, m, r, rd, h, k⟩ => by
    refine ⟨f, l, M, _, _, m, r, h, fun f1 H1 M1 od ov x1 m1 r1 h1 => ?_, kx_no⟩
    refine ⟨f1, l, M1, _, _, m1, r.mono x1, h1, fun f2 H2 M2 id iv x2 m2 r2 h2 => ?_, kx_no⟩
    obtain ⟨rr, kk, xs, j, rfl, rfl, hM, hj, h3⟩ := h2
    obtain ⟨hlt, rfl⟩ : rr < M2.length ∧ ov = .ref (f2 rr) := r1.mono x2
    obtain ⟨z, vs, hH, hv⟩ : xs.length ≤ sizeLine ∧ ∃ vs, H2 (f2 rr) = some (.lst vs) ∧ RDs M2.length f2 H2 xs vs := m2.ob rr _ hM
    have L3 : Lt M2.length f2 H2 (M2.set rr (.lst (xs.set j d))).length f2 (upd H2 (f2 rr) (.lst (vs.set j v))) := by
      rw [List.length_set]; exact lt_set hlt (by rw [hH]; exact fun e => by cases e)
    have L3' : Lt M2.length f2 H2 M2.length f2 (upd H2 (f2 rr) (.lst (vs.set j v))) := lt_set hlt (by rw [hH]; exact fun e => by cases e)
    refine ⟨f2 rr, vs, kk, j, rfl, r2, hH, by rw [hv.length]; exact hj, k f2 _ s l _ ((x1.trans x2).trans L3) (m2.set hlt ⟨by rw [List.length_set]; exact z, _, upd_same, (hv.mono L3').set ((rd.mono (x1.trans x2)).mono L3')⟩) (r.mono ((x1.trans x2).trans L3)) (Ch.refl ws s) h3⟩
/-! ### assignments -/
def dAsg (te : DE) (g : DG) : DS := fun E l M => te l M (fun d M1 => g d l M1 E.nx) (fun C d M1 => E.xc C d l M1)
theorem asg_T {ws : List Nat} {g : DG} (D : Ends) (s : L2.St) (H : Hp) (h : lS W (dAsg te g) D s H) : tAsg (lE W te) (lG ws g) D s H := by
  obtain ⟨f, l, M, E, m, r, h, k⟩ := h
  exact ⟨f, l, M, _, _, m, r, h, fun f' H' M' d v x m' r' h' => ⟨f', l, M', d, _, m', r.mono x, r', h', fun f2 H2 s2 l2 M2 y m2 r2 _ h2 => k.nx f2 H2 s2 l2 M2 (x.trans y) m2 r2 h2⟩, k.kx r⟩
theorem js_asg {tg : Expr} {ws : List Nat} {g : DG} (he : JE X W e te) (hg : JG X ws tg g) (hs : swapsWithSole [tg] e pos.line X.env = pure false := by rfl) (hw : swappedStores [tg] e X.env = pure none := by rfl)
    (h1 : (assignEach [tg] X.env).map (·.2) = [assign tg X.env] := by rfl) : JS X W (.Assign [tg] e pos) (dAsg te g) := ps_imp (ps_asg he hg hs hw h1) asg_T
def dSet (i : Nat) (te : DE) : DS := fun E l M => te l M (fun d M1 => E.nx (l.set i (some d)) M1) (fun C d M1 => E.xc C d l M1)
theorem set_T {i : Nat} (D : Ends) (s : L2.St) (H : Hp) (h : lS W (dSet i te) D s H) : tAsg (lE W te) (gName i) D s H := by
  obtain ⟨f, l, M, E, m, r, h, k⟩ := h
  exact ⟨f, l, M, _, _, m, r, h, fun f' H' M' d v x m' r' h' => k.nx f' H' _ _ M' x m' ((r.mono x).set r') h', k.kx r⟩
theorem js_set {i : Nat} {x : Str} {pos' : Pos} (hN : X.N.Nodup) (hi : X.N[i]? = some x) (hx : L2.Loc X.env.scope x) (he : JE X W e te) (hs : swapsWith e (some (.Name x pos')) pos.line X.env = pure false := by rfl) (hf : X.fn x = true ∨ X.env.scope.names.lookup x = some .local := by first | exact .inl rfl | exact .inr rfl | assumption) :
    JS X W (.Assign [.Name x pos'] e pos) (dSet i te) := ps_imp (ps_set hN hi hx he hs hf) set_T
/-- a, b = x, y with plain local names -/
def dPar (i j : Nat) (u : DA) : DS := fun E l M => u l M (fun ds M1 => ∃ a b, ds = [a, b] ∧ E.nx ((l.set i (some a)).set j (some b)) M1) (fun C d M1 => E.xc C d l M1)
theorem js_par {i j : Nat} {x y : Str} {a b : Expr} {u : DA} {px py pt : Pos} {kt k2 pt2} (hc : X.calm = true) (hN : X.N.Nodup) (hi : X.N[i]? = some x) (hj : X.N[j]? = some y) (hij : i ≠ j)
    (hx : X.env.scope.names.lookup x = some .local) (hy : X.env.scope.names.lookup y = some .local) (ha : JA X W [a, b] u)
    (hw : swappedStores [.Tuple [.Name x px, .Name y py] kt pt] (.Tuple [a, b] k2 pt2) X.env = pure (some [x, y]))
    (hs : swapsWithSole [.Tuple [.Name x px, .Name y py] kt pt] (.Tuple [a, b] k2 pt2) pos.line X.env = pure false := by rfl) :
    JS X W (.Assign [.Tuple [.Name x px, .Name y py] kt pt] (.Tuple [a, b] k2 pt2) pos) (dPar i j u) :=
  ps_imp (ps_par hc hN hi hj hij hx hy ha hw hs) fun D s H ⟨f, l, M, E, m, r, h, k⟩ => ⟨f, l, M, _, _, m, r, h, fun f' H' M' ds vs x m' r' ⟨a, b, e, h'⟩ => by
    subst e
    obtain ⟨va, vr, rfl, r1, vb, vr2, rfl, r2, e3⟩ : ∃ va vr, vs = va :: vr ∧ RD M'.length f' H' a va ∧ ∃ vb vr2, vr = vb :: vr2 ∧ RD M'.length f' H' b vb ∧ vr2 = [] := r'
    subst e3
    exact ⟨va, vb, rfl, k.nx f' H' _ _ M' x m' (((r.mono x).set r1).set r2) h'⟩, k.kx r⟩
def dPar3 (i j q : Nat) (u : DA) : DS := fun E l M => u l M (fun ds M1 => ∃ a b c, ds = [a, b, c] ∧ E.nx (((l.set i (some a)).set j (some b)).set q (some c)) M1) (fun C d M1 => E.xc C d l M1)
theorem dpar3_T {i j q : Nat} {u : DA} (D : Ends) (s : L2.St) (H : Hp) (h : lS W (dPar3 i j q u) D s H) : tPar3 i j q (lA W u) D s H := by
  obtain ⟨f, l, M, E, m, r, h, k⟩ := h
  refine ⟨f, l, M, _, _, m, r, h, fun f' H' M' ds vs x m' r' ⟨a, b, c, e, h'⟩ => ?_, k.kx r⟩
  subst e
  obtain ⟨va, vr, rfl, r1, vb, vr2, rfl, r2, vc, vr3, rfl, r3, e3⟩ : ∃ va vr, vs = va :: vr ∧ RD M'.length f' H' a va ∧ ∃ vb vr2, vr = vb :: vr2 ∧ RD M'.length f' H' b vb ∧ ∃ vc vr3, vr2 = vc :: vr3 ∧ RD M'.length f' H' c vc ∧ vr3 = [] := r'
  subst e3
  exact ⟨va, vb, vc, rfl, k.nx f' H' _ _ M' x m' ((((r.mono x).set r1).set r2).set r3) h'⟩
end
/-! ### what is walked -/
abbrev DI := Loc → Mem → (List Dv → (Mem → Prop) → Mem → Prop) → PX → Prop
/-- the iterator J hands out xs, while chk is so -/
def JOk (J : It) (xs : List Dv) (chk : Mem → Prop) (n : Nat) (f : Fr) (H : Hp) : Prop :=
  ∀ (i : Nat) (f' : Fr) (H' : Hp) (M' : Mem), Rm n f H M'.length f' H' → RM f' H' M' → chk M' →
    (i < xs.length → J.go i H' ∧ ∀ v H'', J.yld i H' v H'' → Same H' H'' ∧ ∃ d, xs[i]? = some d ∧ RD M'.length f' H'' d v) ∧ (i = xs.length → J.stop i H')
theorem JOk.mono {J : It} {xs : List Dv} {chk : Mem → Prop} {n n1 : Nat} {f f1 : Fr} {H H1 : Hp} (j : JOk J xs chk n f H) (x : Lt n f H n1 f1 H1) : JOk J xs chk n1 f1 H1 := fun i f' H' M' y m c => j i f' H' M' (x.rm.trans y) m c
def lI (W : WX) (t : DI) : TI := fun s H R => ∃ (f : Fr) (l : Loc) (M : Mem) (P : List Dv → (Mem → Prop) → Mem → Prop) (X : PX), RM f H M ∧ RL M.length f H l s ∧ t l M P X ∧
  (∀ (f' : Fr) (H' : Hp) (M' : Mem) (xs : List Dv) (chk : Mem → Prop) (J : It), Lt M.length f H M'.length f' H' → RM f' H' M' → chk M' → JOk J xs chk M'.length f' H' → P xs chk M' → R J H') ∧ KX W s M.length f H X
abbrev JI (X : Cx) (W : WX) (tg iter : Expr) (t : DI) : Prop := PI X tg iter (lI W t)
section
variable {X : Cx} {W : WX} {tg iter : Expr} {pos : Pos}
theorem pi_imp {t t' : TI} (h : PI X tg iter t') (g : ∀ s H Q, t s H Q → t' s H Q) : PI X tg iter t := ⟨fun pins s σ H Q I hw => h.run pins s σ H Q I (g _ _ _ hw)⟩
/-- a tuple, a list as it stands at the beginning (one of the memory: while it is not changed) -/
def chkD (d : Dv) (xs : List Dv) : Mem → Prop := fun M => seqD M d = some xs
def iSeq (t : DE) : DI := fun l M P X => t l M (fun d M1 => ∃ xs, seqD M1 d = some xs ∧ P xs (chkD d xs) M1) X
theorem jok_l {K : PySem.W.Frag} {f : Fr} {H : Hp} {M : Mem} {d : Dv} {a : Addr} {xs : List Dv} (r : RD M.length f H d (.ref a)) (hd : ∀ l, d ≠ .tup l) : JOk (Itl K a) xs (chkD d xs) M.length f H := fun i f' H' M' x m c => by
  obtain ⟨b, vs, e, hq, hv, _⟩ := rd_lstM (K := K) m (r.rm x) (by
    rcases seq_cases c with rfl | e
    · exact absurd rfl (hd xs)
    · exact e)
  cases e
  refine ⟨fun hi => ?_, fun hi => ⟨vs, hq, by rw [hv.length, hi]; exact Nat.le_refl _⟩⟩
  obtain ⟨v, e1, e2⟩ := hv.get (List.getElem?_eq_getElem hi)
  refine ⟨⟨vs, v, hq, e1⟩, fun w H'' ⟨e3, hy⟩ => ?_⟩
  subst e3
  have := hy vs hq
  rw [e1] at this; cases this
  exact ⟨Same.refl _, _, List.getElem?_eq_getElem hi, e2⟩
theorem jok_t {K : PySem.W.Frag} {f : Fr} {H : Hp} {M : Mem} {a : Addr} {xs : List Dv} {c : Mem → Prop} (r : RD M.length f H (.tup xs) (.ref a)) : JOk (Itt K a) xs c M.length f H := fun i f' H' M' x m _ => by
  obtain ⟨b, vs, e, hq, hv, _⟩ := rd_tupM (K := K) (r.rm x)
  cases e
  refine ⟨fun hi => ?_, fun hi => ⟨vs, hq, by rw [hv.length, hi]; exact Nat.le_refl _⟩⟩
  obtain ⟨v, e1, e2⟩ := hv.get (List.getElem?_eq_getElem hi)
  refine ⟨⟨vs, v, hq, e1⟩, fun w H'' ⟨e3, hy⟩ => ?_⟩
  subst e3
  have := hy vs hq
  rw [e1] at this; cases this
  exact ⟨Same.refl _, _, List.getElem?_eq_getElem hi, e2⟩
theorem ji_seq {t : DE} (h : JE X W iter t) : JI X W tg iter (iSeq t) := by
  have h1 := pi_list (tg := tg) h
  have h2 := pi_tup (tg := tg) h
  refine ⟨fun pins s σ H R I hw => ?_⟩
  obtain ⟨f, l, M, P, Y, m, r, hw, k, kx⟩ := hw
  -- by cases on what the expression is worth: run it once, then walk
  refine thn (h.run pins s σ H (fun v H1 => ∃ f1 M1 d xs, Lt M.length f H M1.length f1 H1 ∧ RM f1 H1 M1 ∧ RD M1.length f1 H1 d v ∧ seqD M1 d = some xs ∧ P xs (chkD d xs) M1) I ⟨f, l, M, _, Y, m, r, hw, fun f1 H1 M1 d v x m1 r1 ⟨xs, e, p⟩ => ⟨f1, M1, d, xs, x, m1, r1, e, p⟩, kx⟩) fun u s1 ⟨v, H1, I1, rv, f1, M1, d, xs, x, m1, r1, e, p⟩ => ?_
  have fin : ∀ J, JOk J xs (chkD d xs) M1.length f1 H1 → R J H1 := fun J j => k f1 H1 M1 xs _ J x m1 e j p
  obtain ⟨a, vs, rfl, hq, hv, _⟩ := rd_seqM (K := X.K) m1 r1 e
  cases rv
  by_cases ht : ∃ l', d = .tup l'
  · obtain ⟨l', rfl⟩ := ht
    cases (show some l' = some xs from e)
    obtain ⟨b, ws, e2, hq2, hv2, hz⟩ := rd_tupM (K := X.K) r1
    cases e2
    obtain ⟨its, rvv, pp, _⟩ := I1.tuple hq2
    refine wpAny_pyIter_tuple (show s1.heap.IsTuple a its.toArray from pp) ?_
    refine ⟨s1.heap.objs.size, [s1.heap.objs.size], _, _, H1, rfl, I1.kept (t' := s1.toks) fun b o e => Heap.get?_push_of_some _ e, turn_tuple a _, ⟨_, Heap.get?_push_size _ rfl, rfl, rfl⟩, fun b hb => ?_, fin _ (jok_t r1)⟩
    have e : b = s1.heap.objs.size := by simpa using hb
    subst e
    exact I1.fpOk (Nat.le_refl _) (I1.hok.fresh (Nat.le_refl _))
  · have hd : ∀ l', d ≠ .tup l' := fun l' z => ht ⟨l', z⟩
    have e' : lstD M1 d = some xs := (seq_cases e).resolve_left (hd xs)
    obtain ⟨b, ws, e2, hq2, hv2, hz⟩ := rd_lstM (K := X.K) m1 r1 e'
    cases e2
    obtain ⟨its, rvv, pp, _⟩ := I1.list hq2
    refine wpAny_pyIter_list pp.isList ?_
    refine ⟨s1.heap.objs.size, [s1.heap.objs.size], _, _, H1, rfl, I1.kept (t' := s1.toks) fun b o e => Heap.get?_push_of_some _ e, turn_list a _, ⟨_, Heap.get?_push_size _ rfl, rfl, rfl⟩, fun b hb => ?_, fin _ (jok_l r1 hd)⟩
    have e : b = s1.heap.objs.size := by simpa using hb
    subst e
    exact I1.fpOk (Nat.le_refl _) (I1.hok.fresh (Nat.le_refl _))
/-- range(n), range(a, b) -/
def rngD (a b : Int) : List Dv := (List.range (b - a).toNat).map fun i => .int (a + (i : Nat))
theorem jok_r {f : Fr} {H : Hp} {n : Nat} {a b : Int} {c : Mem → Prop} : JOk (Itr a (b - a).toNat) (rngD a b) c n f H := fun i f' H' M' x m _ => by
  have hl : (rngD a b).length = (b - a).toNat := by simp [rngD]
  refine ⟨fun hi => ?_, fun hi => by rw [hl] at hi; exact Nat.le_of_eq hi.symm⟩
  have hi' := hi
  rw [hl] at hi'
  refine ⟨hi', fun v H'' ⟨e1, e2⟩ => ?_⟩
  subst e1 e2
  exact ⟨Same.refl _, .int (a + (i : Nat)), by simp [rngD, hi'], rfl⟩
def iRan1 (u : DA) : DI := fun l M P X => u l M (fun ds M1 => ∃ n, ds = [.int n] ∧ -(2 ^ 62) ≤ n ∧ n < 2 ^ 62 ∧ P (rngD 0 n) (fun _ => True) M1) X
def iRan2 (u : DA) : DI := fun l M P X => u l M (fun ds M1 => ∃ a b, ds = [.int a, .int b] ∧ (-(2 ^ 62) ≤ a ∧ a < 2 ^ 62 ∧ -(2 ^ 62) ≤ b ∧ b < 2 ^ 62) ∧ P (rngD a b) (fun _ => True) M1) X
theorem ji_range1 {a : Expr} {u : DA} {p : Pos} (hg : Gl X "range") (hm : X.mg "range" = none) (ha : JA X W [a] u) (hs : starEach [a] X.env = [(false, eval a X.env)] := by rfl) : JI X W tg (.Call (.Name "range" p) [a] [] pos) (iRan1 u) :=
  pi_imp (pi_range1 hg hm ha hs) fun s H R ⟨f, l, M, P, Y, m, r, h, k, kx⟩ => ⟨f, l, M, _, Y, m, r, h, fun f1 H1 M1 ds vs x m1 r1 ⟨n, e, h1, h2, p⟩ => by
    subst e
    obtain ⟨v, vr, rfl, e1, e2⟩ : ∃ v vr, vs = v :: vr ∧ v = .int n ∧ vr = [] := r1
    subst e1 e2
    have j : JOk (Itr 0 n.toNat) (rngD 0 n) (fun _ => True) M1.length f1 H1 := by
      have := jok_r (f := f1) (H := H1) (n := M1.length) (a := 0) (b := n) (c := fun _ => True)
      rw [Int.sub_zero] at this; exact this
    exact ⟨n, rfl, h1, h2, k f1 H1 M1 _ _ _ x m1 trivial j p⟩, kx⟩
theorem ji_range2 {a b : Expr} {u : DA} {p : Pos} (hg : Gl X "range") (hm : X.mg "range" = none) (ha : JA X W [a, b] u) (hs : starEach [a, b] X.env = [(false, eval a X.env), (false, eval b X.env)] := by rfl) (hs2 : starEach [b] X.env = [(false, eval b X.env)] := by rfl) :
    JI X W tg (.Call (.Name "range" p) [a, b] [] pos) (iRan2 u) :=
  pi_imp (pi_range2 hg hm ha hs hs2) fun s H R ⟨f, l, M, P, Y, m, r, h, k, kx⟩ => ⟨f, l, M, _, Y, m, r, h, fun f1 H1 M1 ds vs x m1 r1 ⟨a, b, e, hb, p⟩ => by
    subst e
    obtain ⟨v, vr, rfl, e1, v2, vr2, rfl, e2, e3⟩ : ∃ v vr, vs = v :: vr ∧ v = .int a ∧ ∃ v2 vr2, vr = v2 :: vr2 ∧ v2 = .int b ∧ vr2 = [] := r1
    subst e1 e2 e3
    exact ⟨a, b, rfl, hb, k f1 H1 M1 _ _ _ x m1 trivial jok_r p⟩, kx⟩
/-! ### for, while -/
def loopS (g : DG) (body : DS) (E : DK) (chk : Mem → Prop) : List Dv → Loc → Mem → Prop
  | [], l, M => chk M ∧ E.nx l M
  | x :: r, l, M => chk M ∧ g x l M fun l2 M2 => body { E with nx := loopS g body E chk r, ct := loopS g body E chk r, bk := E.nx } l2 M2
def dFor (src : DI) (g : DG) (body : DS) : DS := fun E l M => src l M (fun xs chk M1 => loopS g body E chk xs l M1) (fun C d M1 => E.xc C d l M1)
theorem js_for {ws : List Nat} {body : List Stmt} {src : DI} {g : DG} {t : DS} (hp : PassesOwn (model X.prog X.w) X.A X.env X.xe) (hc : X.calm = true) (hi : JI X W tg iter src) (hg : JG X ws tg g) (hb : JSs X W body t)
    (hs : ∀ x, foldedSetIterable iter X.env x = pure x := by intro _; rfl) : JS X W (.For tg iter body [] pos) (dFor src g t) :=
  ps_imp (ps_for hp hc hi hg hb hs) fun D s H ⟨f, l, M, E, m, r, h, k⟩ => by
    refine ⟨f, l, M, _, _, m, r, h, fun f1 H1 M1 xs chk J x1 m1 c1 j h1 => ?_, k.kx r⟩
    have k1 := k.mono x1
    refine ⟨fun i q s' H' => ∃ (f2 : Fr) (l2 : Loc) (M2 : Mem), i + q = xs.length ∧ Lt M1.length f1 H1 M2.length f2 H' ∧ RM f2 H' M2 ∧ RL M2.length f2 H' l2 s' ∧ loopS g t E chk (xs.drop i) l2 M2,
      ⟨xs.length, f1, l, M1, by simp, Lt.refl, m1, r.mono x1, by simpa using h1⟩, ?_⟩
    rintro i q s' H' ⟨f2, l2, M2, hi, x2, m2, r2, h2⟩
    by_cases hlt : i < xs.length
    · obtain ⟨d, hd⟩ : ∃ d, xs[i]? = some d := ⟨_, List.getElem?_eq_getElem hlt⟩
      have ed : xs.drop i = d :: xs.drop (i + 1) := by
        rw [List.drop_eq_getElem_cons hlt]
        congr 1
        rw [List.getElem?_eq_getElem hlt] at hd
        exact Option.some.inj hd
      rw [ed] at h2
      obtain ⟨c2, h2⟩ := h2
      have hj := (j i f2 H' M2 x2.rm m2 c2).1 hlt
      refine .inr ⟨hj.1, fun s3 H3 => ∃ (f3 : Fr) (l3 : Loc) (M3 : Mem), Lt M1.length f1 H1 M3.length f3 H3 ∧ RM f3 H3 M3 ∧ RL M3.length f3 H3 l3 s3 ∧ loopS g t E chk (xs.drop (i + 1)) l3 M3,
        fun s3 H3 ⟨f3, l3, M3, y1, y2, y3, y4⟩ => ⟨q - 1, by omega, f3, l3, M3, by omega, y1, y2, y3, y4⟩, fun v H3 hy => ?_⟩
      obtain ⟨sm, d', hd', rd⟩ := hj.2 v H3 hy
      rw [hd] at hd'; cases hd'
      refine ⟨f2, l2, M2, d, _, m2.same sm, r2.mono (Lt.same sm), rd, h2, fun f4 H4 s4 l4 M4 x4 m4 r4 _ h4 => ?_⟩
      have x5 : Lt M2.length f2 H' M4.length f4 H4 := (Lt.same sm).trans x4
      have k2 := k1.mono (x2.trans x5)
      exact ⟨f4, l4, M4, _, m4, r4, h4, ⟨fun f5 H5 s5 l5 M5 z mm rr hh => ⟨f5, l5, M5, (x2.trans x5).trans z, mm, rr, hh⟩, k2.rt, k2.nx, fun f5 H5 s5 l5 M5 z mm rr hh => ⟨f5, l5, M5, (x2.trans x5).trans z, mm, rr, hh⟩, k2.xc⟩⟩
    · have e : xs.drop i = [] := List.drop_eq_nil_of_le (by omega)
      rw [e] at h2
      exact .inl ⟨(j i f2 H' M2 x2.rm m2 h2.1).2 (by omega), k1.nx f2 H' s' l2 M2 x2 m2 r2 h2.2⟩
def dWhile (c : DT) (t : DS) : DS := fun E l M => ∃ Wh : Nat → Loc → Mem → Prop, (∃ q, Wh q l M) ∧ ∀ q l M, Wh q l M →
  c l M (fun b M1 => if b = true then ∃ N : Loc → Mem → Prop, (∀ l' M', N l' M' → ∃ q', q' < q ∧ Wh q' l' M') ∧ t { E with nx := N, ct := N, bk := E.nx } l M1 else E.nx l M1) (fun C d M1 => E.xc C d l M1)
theorem js_while {c : Expr} {body : List Stmt} {tc : DT} {t : DS} (hp : PassesOwn (model X.prog X.w) X.A X.env X.xe) (hc : JT X W c tc) (hb : JSs X W body t) : JS X W (.While c body [] pos) (dWhile tc t) :=
  ps_imp (ps_while hp hc hb) fun D s H ⟨f, l, M, E, m, r, ⟨Wh, ⟨q0, w0⟩, step⟩, k⟩ => by
    refine ⟨fun q s' H' => ∃ (f1 : Fr) (l1 : Loc) (M1 : Mem), Lt M.length f H M1.length f1 H' ∧ RM f1 H' M1 ∧ RL M1.length f1 H' l1 s' ∧ Wh q l1 M1, ⟨q0, f, l, M, Lt.refl, m, r, w0⟩, ?_⟩
    rintro q s' H' ⟨f1, l1, M1, x1, m1, r1, w1⟩
    refine ⟨f1, l1, M1, _, _, m1, r1, step q l1 M1 w1, fun f2 H2 M2 b x2 m2 h2 => ?_, (k.mono x1).kx r1⟩
    have k2 := k.mono (x1.trans x2)
    cases b with
    | true =>
      rw [if_pos rfl] at h2
      obtain ⟨N, hN, h2⟩ := h2
      refine iteT ⟨fun s3 H3 => ∃ (f3 : Fr) (l3 : Loc) (M3 : Mem), Lt M.length f H M3.length f3 H3 ∧ RM f3 H3 M3 ∧ RL M3.length f3 H3 l3 s3 ∧ N l3 M3, fun s3 H3 ⟨f3, l3, M3, y1, y2, y3, y4⟩ => ?_, f2, l1, M2, _, m2, r1.mono x2, h2,
        ⟨fun f5 H5 s5 l5 M5 z mm rr hh => ⟨f5, l5, M5, (x1.trans x2).trans z, mm, rr, hh⟩, k2.rt, k2.nx, fun f5 H5 s5 l5 M5 z mm rr hh => ⟨f5, l5, M5, (x1.trans x2).trans z, mm, rr, hh⟩, k2.xc⟩⟩
      obtain ⟨q', hq, w'⟩ := hN l3 M3 y4
      exact ⟨q', hq, f3, l3, M3, y1, y2, y3, w'⟩
    | false =>
      rw [if_neg Bool.false_ne_true] at h2
      exact iteF (k2.nx f2 H2 s' l1 M2 Lt.refl m2 (r1.mono x2) h2)
end
/-! ### comprehensions -/
def wipeD (l : Loc) : List Nat → Loc
  | [] => l
  | v :: vs => (wipeD l vs).set v none
theorem RL.wipe {n : Nat} {f : Fr} {H : Hp} {l : Loc} {s : L2.St} (r : RL n f H l s) : ∀ vs : List Nat, RL n f H (wipeD l vs) (wipe s vs)
  | [] => r
  | v :: vs => (r.wipe vs).unset v none
theorem wipe_at (s : L2.St) : ∀ (vs : List Nat) (j : Nat), j ∉ vs → (wipe s vs)[j]? = s[j]?
  | [], j, _ => rfl
  | v :: vs, j, h => by
    unfold wipe
    rw [List.getElem?_set_ne (fun e => h (by rw [e]; exact List.mem_cons_self)), wipe_at s vs j fun z => h (List.mem_cons_of_mem _ z)]
theorem wipe_in (s : L2.St) : ∀ (vs : List Nat) (j : Nat), j ∈ vs → j < s.length → (wipe s vs)[j]? = some none
  | v :: vs, j, h, hl => by
    unfold wipe
    by_cases e : j = v
    · subst e
      rw [List.getElem?_set_self (by rw [wipe_length]; exact hl)]
    · rw [List.getElem?_set_ne (Ne.symm e)]
      exact wipe_in s vs j ((List.mem_cons.mp h).resolve_left e) hl
theorem Ch.wiped {ws vs : List Nat} {s s' : L2.St} (c : Ch ws (wipe s vs) s') (h : ∀ j ∈ ws, j ∈ vs) : wipe s' vs = wipe s vs := by
  apply List.ext_getElem?
  intro j
  have hl : s'.length = s.length := by rw [c.len, wipe_length]
  by_cases e : j ∈ vs
  · by_cases hj : j < s.length
    · rw [wipe_in s' vs j e (by omega), wipe_in s vs j e hj]
    · rw [List.getElem?_eq_none (by rw [wipe_length]; omega), List.getElem?_eq_none (by rw [wipe_length]; omega)]
  · rw [wipe_at s' vs j e, wipe_at s vs j e]
    have := c.out j (fun z => e (h j z))
    rw [wipe_at s vs j e] at this
    exact this
def loopC (g : DG) (tt : DT) (te : DE) (vs : List Nat) (chk : Mem → Prop) : List Dv → List Dv → Loc → Mem → (List Dv → Mem → Prop) → Prop
  | [], acc, _, M, P => chk M ∧ P acc M
  | x :: r, acc, l, M, P => chk M ∧ g x (wipeD l vs) M fun l2 M2 => tt l2 M2 (fun b M3 => if b = true then te l2 M3 (fun y M4 => loopC g tt te vs chk r (acc ++ [y]) l M4 P) noX else loopC g tt te vs chk r acc l M3 P) noX
def dComp (src : DI) (g : DG) (tt : DT) (te : DE) (vs : List Nat) : DE := fun l M P X => src l M (fun xs chk M1 => xs.length ≤ sizeLine ∧ loopC g tt te vs chk xs [] l M1 (fun ys M2 => P (.lst ys) M2)) X
/-- .. a list that will be changed -/
def dCompM (src : DI) (g : DG) (tt : DT) (te : DE) (vs : List Nat) : DE := fun l M P X => src l M (fun xs chk M1 => xs.length ≤ sizeLine ∧ loopC g tt te vs chk xs [] l M1 (fun ys M2 => P (.ref M2.length) (M2 ++ [.lst ys]))) X
def dYes : DT := fun _ M P _ => P true M
abbrev JTs (X : Cx) (W : WX) (ifs : List Expr) (t : DT) : Prop := PTs X ifs (lT W t)
theorem pts_imp {X : Cx} {ifs : List Expr} {t t' : TT} (h : PTs X ifs t') (g : ∀ s H Q, t s H Q → t' s H Q) : PTs X ifs t := ⟨fun pins s σ H Q I hw => h.run pins s σ H Q I (g _ _ _ hw)⟩
theorem jts_nil {X : Cx} {W : WX} : JTs X W [] dYes := pts_imp pts_nil fun s H Q ⟨f, l, M, P, Y, m, rl, h, k, kx⟩ => k f H M true Lt.refl m h
theorem jts_one {X : Cx} {W : WX} {c : Expr} {t : DT} (h : JT X W c t) : JTs X W [c] t := pts_one h
/-- no exception leaves a comprehension -/
abbrev W0 : WX := fun _ _ _ _ => False
section
variable {X : Cx} {W : WX} {pos : Pos} {elt tg iter : Expr} {ifs : List Expr} {scope : Scope} {own : List (Str × Nat)} {src : DI} {g : DG} {tt : DT} {te : DE} {ws : List Nat}
theorem Lt.as_upd {n n1 : Nat} {f f1 : Fr} {H H1 : Hp} {p : Addr} {o : HO} (x : Lt n f H n1 (f1.as f) H1) (hp : H p = none) : Lt n f H n1 (f1.as f) (upd H1 p o) :=
  ⟨x.le, x.ag, fun a u e h z => by rw [upd_ne (ne_of_none e hp)]; exact x.kp a u e h z, x.fr, fun a e => by
    by_cases q : a = p
    · rw [q, upd_same] at e; cases e
    · rw [upd_ne q] at e; exact x.dm a e, rfl⟩
theorem comp_T (hw : ∀ j ∈ ws, j ∈ own.map (·.2)) {Q : VK} {s : L2.St} {H : Hp} {f : Fr} {l : Loc} {M : Mem} {Y : PX} {P : List Dv → Mem → Prop} (m : RM f H M) (r : RL M.length f H l s)
    (h : src l M (fun xs chk M1 => xs.length ≤ sizeLine ∧ loopC g tt te (own.map (·.2)) chk xs [] l M1 P) Y) (kx : KX W s M.length f H Y)
    (fin : ∀ (f1 : Fr) (H1 : Hp) (M1 : Mem) (p : Addr) (ys : List Dv) (vs : List V), Lt M.length f H M1.length (f1.as f) H1 → RM f1 H1 M1 → f1.hid p → (∀ a, f.hid a → f1.hid a ∧ a ≠ p) → H p = none → H1 p = some (.lst vs) → RDs M1.length f1 H1 ys vs → ys.length ≤ sizeLine → P ys M1 → Q (.ref p) H1) :
    tLc (lI W src) (lG ws g) (lT W0 tt) (lE W0 te) (own.map (·.2)) s H Q := by
  refine ⟨f, l, M, _, Y, m, r, h, fun f1 H1 M1 xs chk J x1 m1 c1 j ⟨hz, h1⟩ => ?_, kx⟩
  intro D hD
  have rl1 := r.mono x1
  have hHD : H D = none := x1.dm D hD
  let Wi : Nat → Nat → List Dv → Hp → Prop := fun i n rest H' => ∃ (f2 : Fr) (M2 : Mem) (acc : List Dv) (va : List V), Lt M1.length f1 H1 M2.length (f2.as f1) H' ∧ Rm M1.length f1 H1 M2.length f2 H' ∧ f2.hid = (f1.hide D).hid ∧ RM f2 H' M2 ∧ H' D = some (.lst va) ∧
    RDs M2.length f2 H' acc va ∧ acc.length ≤ i ∧ loopC g tt te (own.map (·.2)) chk rest acc l M2 P
  refine ⟨fun i q H' => i + q = xs.length ∧ Wi i q (xs.drop i) H', ⟨xs.length, by simp, f1.hide D, M1, [], [], Lt.as_upd (f1 := f1.hide D) Lt.refl hD, rm_hide hD, rfl, m1.hide hD, upd_same, rfl, Nat.le_refl _, by simpa using h1⟩, ?_⟩
  rintro i q H' ⟨hi, f2, M2, acc, va, x2, y2, hh2, m2, hDD, ra, hacc, h2⟩
  have hhD : f2.hid D := by rw [hh2]; exact .inr rfl
  have hsub : ∀ a, f1.hid a → f2.hid a := fun a z => by rw [hh2]; exact .inl z
  by_cases hlt : i < xs.length
  · obtain ⟨d, hd⟩ : ∃ d, xs[i]? = some d := ⟨_, List.getElem?_eq_getElem hlt⟩
    have ed : xs.drop i = d :: xs.drop (i + 1) := by
      rw [List.drop_eq_getElem_cons hlt]
      congr 1
      rw [List.getElem?_eq_getElem hlt] at hd
      exact Option.some.inj hd
    rw [ed] at h2
    obtain ⟨c2, h2⟩ := h2
    have hj := (j i f2 H' M2 y2 m2 c2).1 hlt
    refine .inr ⟨hj.1, fun H3 => Wi (i + 1) 0 (xs.drop (i + 1)) H3, fun H3 y => ⟨q - 1, by omega, by omega, y⟩, fun v H3 hy => ?_⟩
    obtain ⟨sm, d', hd', rd⟩ := hj.2 v H3 hy
    rw [hd] at hd'; cases hd'
    have rl2 : RL M2.length f2 H3 l s := (rl1.rm y2).mono (Lt.same sm)
    refine ⟨f2, wipeD l (own.map (·.2)), M2, d, _, m2.same sm, rl2.wipe _, rd, h2, fun f4 H4 s4 l4 M4 x4 m4 r4 ch h4 => ⟨ch.wiped hw, f4, l4, M4, _, _, m4, r4, h4, fun f5 H5 M5 b x5 m5 h5 => ?_, kx_no⟩⟩
    -- up to here
    have upto : ∀ {f6 : Fr} {H6 : Hp} {M6 : Mem}, Lt M2.length f2 H' M6.length f6 H6 → RM f6 H6 M6 → H6 D = some (.lst va) ∧ Lt M1.length f1 H1 M6.length (f6.as f1) H6 ∧ Rm M1.length f1 H1 M6.length f6 H6 ∧ f6.hid = (f1.hide D).hid ∧ RDs M6.length f6 H6 acc va := fun {f6 H6 M6} z m6 => by
      have z' : Lt M2.length (f2.as f1) H' M6.length (f6.as f1) H6 := ⟨z.le, z.ag, z.kp, z.fr, z.dm, rfl⟩
      exact ⟨z.kp D _ hDD (m2.hi D hhD).2 (fun _ w => by cases w), x2.trans z', y2.trans z.rm, z.hd.trans hh2, ra.mono z⟩
    cases b with
    | false =>
      rw [if_neg Bool.false_ne_true] at h5
      obtain ⟨e1, e2, e3, e4, e5⟩ := upto (((Lt.same sm).trans x4).trans x5) m5
      exact iteF ⟨f5, M5, acc, va, e2, e3, e4, m5, e1, e5, Nat.le_succ_of_le hacc, h5⟩
    | true =>
      rw [if_pos rfl] at h5
      refine iteT ⟨f5, l4, M5, _, _, m5, r4.mono x5, h5, fun f6 H6 M6 y vy x6 m6 ry h6 => ?_, kx_no⟩
      obtain ⟨e1, e2, e3, e4, e5⟩ := upto ((((Lt.same sm).trans x4).trans x5).trans x6) m6
      have hh6 : f6.hid D := by rw [e4]; exact .inr rfl
      refine ⟨va, e1, by rw [e5.length]; omega, f6, M6, acc ++ [y], va ++ [vy], e2.as_upd hD, e3.trans (rm_chg hh6), e4, m6.chg hh6 e1, upd_same, (e5.app (.cons ry .nil)).rm (rm_chg hh6), by simp; omega, h6⟩
  · have e : xs.drop i = [] := List.drop_eq_nil_of_le (by omega)
    rw [e] at h2
    refine .inl ⟨(j i f2 H' M2 y2 m2 h2.1).2 (by omega), fin f2 H' M2 D acc va ?_ m2 hhD (fun a z => ⟨hsub a (by rw [x1.hd]; exact z), fun w => (m.hi a z).1 (by rw [w]; exact hHD)⟩) hHD hDD ra (by omega) h2.2⟩
    have x2' : Lt M1.length f1 H1 M2.length (f2.as f) H' := ⟨x2.le, x2.ag, x2.kp, x2.fr, x2.dm, x1.hd.symm⟩
    exact x1.trans x2'
theorem rm_adopt {n : Nat} {f f1 : Fr} {H : Hp} {p : Addr} (hh : f1.hid p) (hs : ∀ a, f.hid a → f1.hid a) : Rm n f1 H (n + 1) (ext (f1.as f) n p) H :=
  ⟨fun i h => ⟨Nat.lt_succ_of_lt h, ext_lt h⟩, fun a u e b _ => ⟨e, fun i hi w => by
    by_cases q : i < n
    · rw [ext_lt q] at w; exact b.1 i q w
    · have : i = n := by omega
      subst this
      rw [ext_self] at w
      exact b.2 (by rw [← w]; exact hh), fun w => b.2 (hs a w)⟩⟩
theorem RM.adopt {f f1 : Fr} {H : Hp} {M : Mem} {p : Addr} {ys : List Dv} {vs : List V} (m : RM f1 H M) (hh : f1.hid p) (hs : ∀ a, f.hid a → f1.hid a ∧ a ≠ p) (hv : H p = Option.some (HO.lst vs)) (r : RDs M.length f1 H ys vs) (hz : ys.length ≤ sizeLine) :
    RM (ext (f1.as f) M.length p) H (M ++ [.lst ys]) where
  ob := fun i b e => by
    rw [List.length_append, List.length_singleton]
    by_cases q : i < M.length
    · rw [List.getElem?_append_left q] at e
      rw [ext_lt q]
      exact (m.ob i b e).rm (rm_adopt hh fun a z => (hs a z).1) rfl
    · have hi : i < (M ++ [MO.lst ys]).length := (List.getElem?_eq_some_iff.mp e).1
      rw [List.length_append, List.length_singleton] at hi
      have : i = M.length := by omega
      subst this
      rw [List.getElem?_append_right (Nat.le_refl _)] at e
      simp at e
      subst e
      rw [ext_self]
      exact ⟨hz, vs, hv, r.rm (rm_adopt hh fun a z => (hs a z).1)⟩
  inj := fun i j hi hj e => by
    rw [List.length_append, List.length_singleton] at hi hj
    by_cases qi : i < M.length
    · by_cases qj : j < M.length
      · rw [ext_lt qi, ext_lt qj] at e; exact m.inj i j qi qj e
      · have : j = M.length := by omega
        subst this
        rw [ext_lt qi, ext_self] at e
        exact absurd e ((m.hi p hh).2 i qi)
    · have : i = M.length := by omega
      subst this
      by_cases qj : j < M.length
      · rw [ext_lt qj, ext_self] at e
        exact absurd e.symm ((m.hi p hh).2 j qj)
      · omega
  hi := fun a z => ⟨(m.hi a (hs a z).1).1, fun i hi e => by
    rw [List.length_append, List.length_singleton] at hi
    by_cases q : i < M.length
    · rw [ext_lt q] at e; exact (m.hi a (hs a z).1).2 i q e
    · have : i = M.length := by omega
      subst this
      rw [ext_self] at e
      exact (hs a z).2 e.symm⟩
  ta := m.ta
theorem Lt.adopt {n n1 : Nat} {f f1 : Fr} {H H1 : Hp} {p : Addr} (x : Lt n f H n1 (f1.as f) H1) (hp : H p = none) : Lt n f H (n1 + 1) (ext (f1.as f) n1 p) H1 :=
  ⟨Nat.le_succ_of_le x.le, fun i h => (ext_lt (Nat.lt_of_lt_of_le h x.le)).trans (x.ag i h), x.kp, fun i h1 h2 => by
    by_cases q : i < n1
    · rw [ext_lt q]; exact x.fr i h1 q
    · have : i = n1 := by omega
      subst this
      rw [ext_self]; exact hp, x.dm, rfl⟩
section
variable {i : Nat} {y : Str} {py spos : Pos}
variable (hc : X.calm = true) (hN : X.N.Nodup) (hw : ∀ j ∈ ws, j ∈ own.map (·.2)) (hi : JI X W tg iter src) (ok : BlkOk X.N X.env.scope scope own)
    (hg : ∀ (s : Shared) (H : Hp) (C : Addr) (cl : List (Str × Addr)) (fp : List Addr), JG (X.blk s H scope (compEnvC scope cl C X.env) fp) ws tg g) (ht : ∀ (s : Shared) (H : Hp) (C : Addr) (cl : List (Str × Addr)) (fp : List Addr), JTs (X.blk s H scope (compEnvC scope cl C X.env) fp) W0 ifs tt)
    (he : ∀ (s : Shared) (H : Hp) (C : Addr) (cl : List (Str × Addr)) (fp : List Addr), JE (X.blk s H scope (compEnvC scope cl C X.env) fp) W0 elt te)
include hc hN hw hi ok hg ht he
theorem je_comp (hs : ∀ x, foldedSetIterable iter X.env x = pure x := by intro _; rfl) :
    JE X W (.ListComp elt [⟨tg, iter, ifs, 0⟩] scope pos) (dComp src g tt te (own.map (·.2))) :=
  pe_imp (pe_lc hc hN hi ok hg ht he hs) fun s H Q ⟨f, l, M, P, Y, m, r, h, k, kx⟩ => comp_T hw m r h kx fun f1 H1 M1 p ys vs x m1 hh hs hp hv ra hz h1 =>
    k _ H1 M1 (.lst ys) _ x (m1.show fun a z => (hs a z).1) ⟨hz, p, vs, rfl, hv, ⟨(m1.hi p hh).2, fun z => (hs p z).2 rfl⟩, ra.rm (rm_show fun a z => (hs a z).1)⟩ h1
theorem je_compM (hs : ∀ x, foldedSetIterable iter X.env x = pure x := by intro _; rfl) :
    JE X W (.ListComp elt [⟨tg, iter, ifs, 0⟩] scope pos) (dCompM src g tt te (own.map (·.2))) :=
  pe_imp (pe_lc hc hN hi ok hg ht he hs) fun s H Q ⟨f, l, M, P, Y, m, r, h, k, kx⟩ => comp_T hw m r h kx fun f1 H1 M1 p ys vs x m1 hh hs hp hv ra hz h1 =>
    k (ext (f1.as f) M1.length p) H1 (M1 ++ [.lst ys]) (.ref M1.length) _ (by rw [List.length_append]; exact x.adopt hp) (m1.adopt hh hs hv ra hz) rd_newl h1
theorem js_comp (hy : X.N[i]? = some y) (hyl : X.env.scope.names.lookup y = some .local) (hsw : swapsWith (.ListComp elt [⟨tg, iter, ifs, 0⟩] scope pos) (some (.Name y py)) spos.line X.env = pure true)
    (hs : ∀ x, foldedSetIterable iter X.env x = pure x := by intro _; rfl) : JS X W (.Assign [.Name y py] (.ListComp elt [⟨tg, iter, ifs, 0⟩] scope pos) spos) (dSet i (dComp src g tt te (own.map (·.2)))) :=
  ps_imp (ps_setLc hc hN hy hyl hsw hi ok hg ht he hs) fun D s H ⟨f, l, M, E, m, r, h, k⟩ => comp_T hw m r h (k.kx r) fun f1 H1 M1 p ys vs x m1 hh hs hp hv ra hz h1 =>
    k.nx _ H1 _ _ M1 x (m1.show fun a z => (hs a z).1) ((r.mono x).set (d := .lst ys) ⟨hz, p, vs, rfl, hv, ⟨(m1.hi p hh).2, fun z => (hs p z).2 rfl⟩, ra.rm (rm_show fun a z => (hs a z).1)⟩) h1
theorem js_compM (hy : X.N[i]? = some y) (hyl : X.env.scope.names.lookup y = some .local) (hsw : swapsWith (.ListComp elt [⟨tg, iter, ifs, 0⟩] scope pos) (some (.Name y py)) spos.line X.env = pure true)
    (hs : ∀ x, foldedSetIterable iter X.env x = pure x := by intro _; rfl) : JS X W (.Assign [.Name y py] (.ListComp elt [⟨tg, iter, ifs, 0⟩] scope pos) spos) (dSet i (dCompM src g tt te (own.map (·.2)))) :=
  ps_imp (ps_setLc hc hN hy hyl hsw hi ok hg ht he hs) fun D s H ⟨f, l, M, E, m, r, h, k⟩ => comp_T hw m r h (k.kx r) fun f1 H1 M1 p ys vs x m1 hh hs hp hv ra hz h1 => by
    have x' : Lt M.length f H (M1 ++ [MO.lst ys]).length (ext (f1.as f) M1.length p) H1 := by rw [List.length_append]; exact x.adopt hp
    exact k.nx _ H1 _ _ (M1 ++ [.lst ys]) x' (m1.adopt hh hs hv ra hz) ((r.mono x').set rd_newl) h1
end
end
end D
end

section
set_option Elab.async false
set_option linter.all false
set_option maxRecDepth 100000
set_option maxHeartbeats 1000000
set_option autoImplicit false
/-! The deep layer, part 3: a def by its body. -/
namespace D
open PySem PySem.Spec PyProof.Rows L2
variable [TBL]
mutual
def cl (n : Nat) : Dv → Bool
  | .ref i => decide (i < n)
  | .tup l => cls n l
  | .lst l => cls n l
  | .frz l => cls n l
  | .obj _ _ l => cls n l
  | _ => true
def cls (n : Nat) : List Dv → Bool
  | [] => true
  | d :: l => cl n d && cls n l
end
def clO (n : Nat) : MO → Bool
  | .lst l => cls n l
  | .ins _ _ l => cls n l
def MemOk (M : Mem) : Prop := ∀ o ∈ M, clO M.length o = true
section
variable {n n1 : Nat} {f : Fr} {H : Hp}
mutual
theorem RD.cl_of : ∀ {d : Dv} {v : V}, RD n f H d v → cl n d = true
  | .non, _, _ => rfl
  | .bl _, _, _ => rfl
  | .int _, _, _ => rfl
  | .str _, _, _ => rfl
  | .adr _, _, _ => rfl
  | .ty _, _, _ => rfl
  | .dic, _, _ => rfl
  | .ref i, v, h => decide_eq_true (show i < n ∧ v = .ref (f i) from h).1
  | .tup l, v, h => by
    obtain ⟨_, x, xs, _, _, _, r⟩ : l.length ≤ sizeLine ∧ ∃ x xs, v = .ref x ∧ H x = some (.tup xs) ∧ Bes n f x ∧ RDs n f H l xs := h
    exact RDs.cl_of r
  | .lst l, v, h => by
    obtain ⟨_, x, xs, _, _, _, r⟩ : l.length ≤ sizeLine ∧ ∃ x xs, v = .ref x ∧ H x = some (.lst xs) ∧ Bes n f x ∧ RDs n f H l xs := h
    exact RDs.cl_of r
  | .frz l, v, h => by
    obtain ⟨_, x, o, xs, _, _, _, r⟩ : l.length ≤ sizeLine ∧ ∃ x o xs, v = .ref x ∧ H x = some (.frz o (.lst xs)) ∧ Bes n f x ∧ RDs n f H l xs := h
    exact RDs.cl_of r
  | .obj C ks l, v, h => by
    obtain ⟨x, dx, fs, _, _, _, _, r⟩ : ∃ (x dx : Addr) (fs : List (Str × V)), v = .ref x ∧ H x = some (.ins C dx fs) ∧ Bes n f x ∧ fs.map (fun q => q.1) = ks ∧ RDs n f H l (fs.map (fun q : Str × V => q.2)) := h
    exact RDs.cl_of r
theorem RDs.cl_of : ∀ {l : List Dv} {xs : List V}, RDs n f H l xs → cls n l = true
  | [], _, _ => rfl
  | d :: l, xs, h => by
    obtain ⟨v, r, e, h1, h2⟩ : ∃ v r, xs = v :: r ∧ RD n f H d v ∧ RDs n f H l r := h
    exact Bool.and_eq_true_iff.mpr ⟨RD.cl_of h1, RDs.cl_of h2⟩
end
mutual
theorem RD.less (hn : n1 ≤ n) : ∀ {d : Dv} {v : V}, RD n f H d v → cl n1 d = true → RD n1 f H d v
  | .non, _, h, _ => h
  | .bl _, _, h, _ => h
  | .int _, _, h, _ => h
  | .str _, _, h, _ => h
  | .adr _, _, h, _ => h
  | .ty _, _, h, _ => h
  | .dic, v, h, _ => by
    obtain ⟨x, e, hx, hb⟩ : ∃ x, v = .ref x ∧ H x = some (.dK []) ∧ Bes n f x := h
    exact ⟨x, e, hx, ⟨fun i hi => hb.1 i (Nat.lt_of_lt_of_le hi hn), hb.2⟩⟩
  | .ref i, v, h, c => ⟨of_decide_eq_true c, (show i < n ∧ v = .ref (f i) from h).2⟩
  | .tup l, v, h, c => by
    obtain ⟨z, x, xs, e, hx, hb, r⟩ : l.length ≤ sizeLine ∧ ∃ x xs, v = .ref x ∧ H x = some (.tup xs) ∧ Bes n f x ∧ RDs n f H l xs := h
    exact ⟨z, x, xs, e, hx, ⟨fun i hi => hb.1 i (Nat.lt_of_lt_of_le hi hn), hb.2⟩, RDs.less hn r c⟩
  | .lst l, v, h, c => by
    obtain ⟨z, x, xs, e, hx, hb, r⟩ : l.length ≤ sizeLine ∧ ∃ x xs, v = .ref x ∧ H x = some (.lst xs) ∧ Bes n f x ∧ RDs n f H l xs := h
    exact ⟨z, x, xs, e, hx, ⟨fun i hi => hb.1 i (Nat.lt_of_lt_of_le hi hn), hb.2⟩, RDs.less hn r c⟩
  | .frz l, v, h, c => by
    obtain ⟨z, x, o, xs, e, hx, hb, r⟩ : l.length ≤ sizeLine ∧ ∃ x o xs, v = .ref x ∧ H x = some (.frz o (.lst xs)) ∧ Bes n f x ∧ RDs n f H l xs := h
    exact ⟨z, x, o, xs, e, hx, ⟨fun i hi => hb.1 i (Nat.lt_of_lt_of_le hi hn), hb.2⟩, RDs.less hn r c⟩
  | .obj C ks l, v, h, c => by
    obtain ⟨x, dx, fs, e, hx, hb, hk, r⟩ : ∃ (x dx : Addr) (fs : List (Str × V)), v = .ref x ∧ H x = some (.ins C dx fs) ∧ Bes n f x ∧ fs.map (fun q => q.1) = ks ∧ RDs n f H l (fs.map (fun q : Str × V => q.2)) := h
    exact ⟨x, dx, fs, e, hx, ⟨fun i hi => hb.1 i (Nat.lt_of_lt_of_le hi hn), hb.2⟩, hk, RDs.less hn r c⟩
theorem RDs.less (hn : n1 ≤ n) : ∀ {l : List Dv} {xs : List V}, RDs n f H l xs → cls n1 l = true → RDs n1 f H l xs
  | [], _, h, _ => h
  | d :: l, xs, h, c => by
    obtain ⟨v, r, e, h1, h2⟩ : ∃ v r, xs = v :: r ∧ RD n f H d v ∧ RDs n f H l r := h
    obtain ⟨c1, c2⟩ := Bool.and_eq_true_iff.mp c
    exact ⟨v, r, e, RD.less hn h1 c1, RDs.less hn h2 c2⟩
end
theorem RO.cl_of {a : Addr} {o : MO} (h : RO n f H a o) : clO n o = true := by
  cases o with
  | lst l => obtain ⟨_, xs, _, r⟩ := h; exact r.cl_of
  | ins C ks l => obtain ⟨dx, fs, _, _, r⟩ := h; exact r.cl_of
theorem RM.ok {M : Mem} (m : RM f H M) : MemOk M := fun o ho => by
  obtain ⟨i, hi⟩ := List.mem_iff_getElem?.mp ho
  exact (m.ob i o hi).cl_of
theorem RO.less (hn : n1 ≤ n) {a : Addr} {o : MO} (h : RO n f H a o) (c : clO n1 o = true) : RO n1 f H a o := by
  cases o with
  | lst l => obtain ⟨z, xs, e, r⟩ := h; exact ⟨z, xs, e, r.less hn c⟩
  | ins C ks l => obtain ⟨dx, fs, e, k, r⟩ := h; exact ⟨dx, fs, e, k, r.less hn c⟩
theorem RM.take {M : Mem} (m : RM f H M) (hn : n ≤ M.length) (c : ∀ o ∈ M.take n, clO n o = true) : RM f H (M.take n) := by
  have hl : (M.take n).length = n := by simp; omega
  refine ⟨fun i o e => ?_, fun i j hi hj e => m.inj i j (by omega) (by omega) e, fun a z => ⟨(m.hi a z).1, fun i hi => (m.hi a z).2 i (by omega)⟩, m.ta⟩
  have hi : i < n := by have := (List.getElem?_eq_some_iff.mp e).1; omega
  rw [hl]
  have hm : o ∈ M.take n := List.mem_of_getElem? e
  rw [List.getElem?_take_of_lt hi] at e
  exact (m.ob i o e).less hn (c o hm)
theorem Lt.less {f0 : Fr} {H0 : Hp} (x : Lt n f0 H0 n1 f H) : Lt n f0 H0 n f H := ⟨Nat.le_refl _, x.ag, x.kp, fun i h1 h2 => absurd h1 (Nat.not_le.mpr h2), x.dm, x.hd⟩
end
/-- what a def hands back, what it left behind that nobody has any more let go -/
def Ret (n : Nat) (P : PD) (d : Dv) (M : Mem) : Prop :=
  P d M ∨ (n ≤ M.length ∧ (∀ o ∈ M.take n, clO n o = true) ∧
    ((cl n d = true ∧ P d (M.take n)) ∨ (∃ i l, d = .ref i ∧ M[i]? = some (.lst l) ∧ n ≤ i ∧ cls n l = true ∧ P (.lst l) (M.take n)) ∨
      (∃ i C ks l, d = .ref i ∧ M[i]? = some (.ins C ks l) ∧ n ≤ i ∧ cls n l = true ∧ P (.obj C ks l) (M.take n))))
def RetX (n : Nat) (X : PX) (C : Addr) (d : Option Dv) (M : Mem) : Prop :=
  X C d M ∨ (n ≤ M.length ∧ (∀ o ∈ M.take n, clO n o = true) ∧ (∀ e, d = some e → cl n e = true) ∧ X C d (M.take n))
def startD (N : List Str) (ds : List Dv) : Loc := ds.map some ++ List.replicate (N.length - ds.length) none
theorem rl_start {n : Nat} {f : Fr} {H : Hp} {N : List Str} {ds : List Dv} {vs : List V} (r : RDs n f H ds vs) : RL n f H (startD N ds) (start N vs) := by
  have hl := r.length
  refine ⟨by simp [L2.start, startD, hl], fun i d e => ?_⟩
  unfold startD at e
  by_cases h : i < ds.length
  · rw [List.getElem?_append_left (by simpa using h), List.getElem?_map] at e
    cases q : ds[i]? with
    | none => rw [q] at e; cases e
    | some x =>
      rw [q] at e; cases e
      obtain ⟨v, e1, e2⟩ := r.get q
      refine ⟨v, ?_, e2⟩
      unfold L2.start
      rw [List.getElem?_append_left (by simp; omega), List.getElem?_map, e1]
      rfl
  · rw [List.getElem?_append_right (by simpa using Nat.le_of_not_lt h), List.getElem?_replicate] at e
    split at e <;> cases e
section
variable {P : Program} {w : World} {K : PySem.W.Frag} {mg : Str → Option Value} {base : Heap}
theorem ret_ok {n : Nat} {f f1 : Fr} {H H1 : Hp} {M1 : Mem} {d : Dv} {v : V} {Pd : PD} {Q : VK} (k : KE n f H Pd Q) (x : Lt n f H M1.length f1 H1) (m : RM f1 H1 M1) (r : RD M1.length f1 H1 d v) (h : Ret n Pd d M1) : Q v H1 := by
  rcases h with h | ⟨hn, hc, h⟩
  · exact k f1 H1 M1 d v x m r h
  · have hl : (M1.take n).length = n := by simp; omega
    have m' := m.take hn hc
    have x' : Lt n f H (M1.take n).length f1 H1 := by rw [hl]; exact x.less
    rcases h with ⟨c, h⟩ | ⟨i, l, rfl, e, hi, c, h⟩ | ⟨i, C, ks, l, rfl, e, hi, c, h⟩
    · exact k f1 H1 _ d v x' m' (by rw [hl]; exact r.less hn c) h
    · obtain ⟨hlt, rfl⟩ : i < M1.length ∧ v = .ref (f1 i) := r
      obtain ⟨z, xs, hH, hr⟩ : l.length ≤ sizeLine ∧ ∃ xs, H1 (f1 i) = some (.lst xs) ∧ RDs M1.length f1 H1 l xs := m.ob i _ e
      refine k f1 H1 _ (.lst l) _ x' m' ⟨z, f1 i, xs, rfl, hH, ⟨fun j hj w => ?_, fun z => (m.hi _ z).2 i hlt rfl⟩, by rw [hl]; exact hr.less hn c⟩ h
      have := m.inj j i (by omega) hlt w
      omega
    · obtain ⟨hlt, rfl⟩ : i < M1.length ∧ v = .ref (f1 i) := r
      obtain ⟨dx, fs, hH, hk, hr⟩ : ∃ (dx : Addr) (fs : List (Str × V)), H1 (f1 i) = some (.ins C dx fs) ∧ fs.map (fun q => q.1) = ks ∧ RDs M1.length f1 H1 l (fs.map (fun q : Str × V => q.2)) := m.ob i _ e
      refine k f1 H1 _ (.obj C ks l) _ x' m' ⟨f1 i, dx, fs, rfl, hH, ⟨fun j hj w => ?_, fun z => (m.hi _ z).2 i hlt rfl⟩, hk, by rw [hl]; exact hr.less hn c⟩ h
      have := m.inj j i (by omega) hlt w
      omega
/-- what is wanted behind a def's body -/
def dkOf (n : Nat) (Pd : PD) (X : PX) : DK := ⟨fun _ M' => Ret n Pd .non M', fun d M' => Ret n Pd d M', fun _ _ => False, fun _ _ => False, fun C d _ M' => RetX n X C d M'⟩
abbrev CF (P : Program) (w : World) (K : PySem.W.Frag) (mg : Str → Option Value) (base : Heap) (N : List Str) (qual : Str) (st : Stmt) (f : Addr) (cdv : Value) (A : Around) (outer : List Env) (s : Shared) (H : Hp) (E : XK) : Cx :=
  cxOf (L2.CX P w) P w K mg base N qual (defScope st) f cdv A outer s H E
theorem body_d {t : DS} {N ps : List Str} {ds : List Dv} {vs : List V} {S : DSp} {f : Fr} {H : Hp} {M : Mem} {Pd : PD} {X : PX} {Q : VK} {E : XK} (hp : t (dkOf M.length Pd X) (startD N ds) M)
    (m : RM f H M) (r : RDs M.length f H ds vs) (k : KE M.length f H Pd Q) (kx : KX (fun c d _ H => E c d H) [] M.length f H X) : lS (fun cls d _ H => E cls d H) t { nx := fun _ H' => Q .non H', rt := Q } (L2.start N vs) H := by
  refine ⟨f, startD N ds, M, _, m, rl_start r, hp, ⟨fun f' H' s' l' M' x m' _ h' => ret_ok (d := .non) (v := .non) k x m' rfl h', fun f' H' M' d v x m' r' h' => ret_ok k x m' r' h', fun _ _ _ _ _ _ _ _ h => h.elim, fun _ _ _ _ _ _ _ _ h => h.elim, fun f' H' s' l' M' C d a x m' _ rx h' => ?_⟩⟩
  rcases h' with h' | ⟨hn, hc, hd, h'⟩
  · exact kx f' H' M' C d a x m' rx h'
  · have hl : (M'.take M.length).length = M.length := by simp; omega
    refine kx f' H' _ C d a (by rw [hl]; exact x.less) (m'.take hn hc) ?_ h'
    rw [hl]
    cases d with
    | none =>
      cases a with
      | none => exact trivial
      | some b => exact (show False from rx).elim
    | some e =>
      cases a with
      | none => exact (show False from rx).elim
      | some b =>
        obtain ⟨v, e1, e2⟩ : ∃ v, H' b = some (.xd [(("at" : Str), v)]) ∧ RD M'.length f' H' e v := rx
        exact ⟨v, e1, e2.less hn (hd e rfl)⟩
/-- f's code object -/
def CodeAt (K : PySem.W.Frag) (f : Addr) (qual : Str) (cdv : Value) : Prop := ∃ (oc : Value) (od : Option Addr) (osl : Array (Option Value)) (fd : FuncData), K.lookup f = some ⟨oc, od, .func fd, osl⟩ ∧ fd.code = cdv ∧ PySem.W.codeIn K cdv qual = true
theorem fn_dC {S : DSp} {x qual : Str} {st : Stmt} {f : Addr} {fd : FuncData} {N ps : List Str} {k : Nat} (F : Fun K x qual st f fd) (Sc : FnScope N ps (defScope st)) (t : DS) (len : ∀ ds M Pd X, S ds M Pd X → ds.length = ps.length)
    (hb : ∀ (cdv : Value) (A : Around) (outer : List Env) (s : Shared) (H : Hp) (E : XK) (W : WX), CodeAt K f qual cdv → Room k (A.deeper (envOfC qual (defScope st) s.heap.objs.size f cdv)) → (A.deeper (envOfC qual (defScope st) s.heap.objs.size f cdv)).guards = some [] →
      Takes (CF P w K mg base N qual st f cdv A outer s H E) W → JSs (CF P w K mg base N qual st f cdv A outer s H E) W (defBody st) t)
    (hp : ∀ ds M Pd X, MemOk M → S ds M Pd X → t (dkOf M.length Pd X) (startD N ds) M) : FnG P w K mg base (k + 1) f fd ps S := by
  obtain ⟨oc, od, kV, doc, pm, an, cdv, ct, osl, rfl, lk, hcd⟩ := F.ex
  refine ⟨len, fun A outer s H args us vs Q E hr hgu e0 hbi rv hsp => ?_⟩
  obtain ⟨f0, M, ds, Pd, X, m, r, h, k0, kx⟩ := hsp
  have inK : K.In s.heap := e0.mod.kin.keeps fun b o e => (e0.bs b o e).1
  have lim : s.heap.NoLimit := e0.mod.nolimit.keeps fun b o e => (e0.bs b o e).1
  have hl : vs.length = ps.length := by rw [r.length]; exact len _ _ _ _ h
  refine codeAny_call_function hr.depth (inK _ _ lk) rfl Sc.co Sc.gen rfl (PySem.W.codeRec_of inK hcd) (hbi _ _ _ _ ?_)
  refine wpAny_newFunctionEnv_cells Sc.kind (fun ⟨n, v⟩ hy => (Sc.par n (List.of_mem_zip hy).1).elim .inl fun q => .inr ⟨q, PySem.W.cellsFrom_some _ _ _ (.inl q)⟩) fun env he s1 x => ?_
  subst he
  refine ⟨lim.keeps x.toInCall.keep, codeAny_func ?_⟩
  have I : Inv (CF P w K mg base N qual st f cdv A outer s H E) [] (L2.start N vs) H s1 := inv_start Sc hr.hd e0 hl rv x
  refine wpAny_mono ((hb cdv A outer s H E _ ⟨_, _, _, _, lk, rfl, hcd⟩ (hr.deeper _) hgu (takes_of rfl rfl rfl rfl)).run [] s1 _ H _ I (body_d (S := S) (ps := ps) (hp ds M Pd X m.ok h) m r k0 kx)) (fun fl s' hs => ?_) fun e s' hs => hs
  have fin : ∀ {σ' : L2.St} {H' : Hp} {v : V} {u : Value}, Inv (CF P w K mg base N qual st f cdv A outer s H E) [] σ' H' s' → RelV v u → Q v H' → CE outer P w H s Q u s' := fun J rv q => ⟨_, _, J.os, J.bare, J.base, J.hok, rv, q⟩
  cases fl with
  | ret u => exact let ⟨v, σ', H', J, rv, q⟩ := hs; fin J rv q
  | next => exact let ⟨σ', H', J, q⟩ := hs; fin (v := V.non) (u := Value.none) J rfl q
  | brk => exact let ⟨_, _, _, q⟩ := hs; q.elim
  | cont => exact let ⟨_, _, _, q⟩ := hs; q.elim
theorem fn_d {S : DSp} {x qual : Str} {st : Stmt} {f : Addr} {fd : FuncData} {N ps : List Str} {k : Nat} (F : Fun K x qual st f fd) (Sc : FnScope N ps (defScope st)) (t : DS) (len : ∀ ds M Pd X, S ds M Pd X → ds.length = ps.length)
    (hb : ∀ (cdv : Value) (A : Around) (outer : List Env) (s : Shared) (H : Hp) (E : XK) (W : WX), Room k (A.deeper (envOfC qual (defScope st) s.heap.objs.size f cdv)) → (A.deeper (envOfC qual (defScope st) s.heap.objs.size f cdv)).guards = some [] →
      Takes (CF P w K mg base N qual st f cdv A outer s H E) W → JSs (CF P w K mg base N qual st f cdv A outer s H E) W (defBody st) t)
    (hp : ∀ ds M Pd X, MemOk M → S ds M Pd X → t (dkOf M.length Pd X) (startD N ds) M) : FnG P w K mg base (k + 1) f fd ps S :=
  fn_dC F Sc t len (fun cdv A outer s H E W _ hr hgu tk => hb cdv A outer s H E W hr hgu tk) hp
end
end D
end

section
set_option Elab.async false
set_option linter.all false
set_option maxRecDepth 100000
set_option maxHeartbeats 1000000
set_option autoImplicit false
/-! The deep layer, part 4: zip and enumerate over lists and tuples, in any mix. -/
namespace D
open PySem PySem.Spec PyProof.Rows L2
variable [TBL]
/-- a list, a tuple that is walked -/
inductive Cmp where
  | l (a : Addr) | t (a : Addr)
namespace Cmp
def ad : Cmp → Addr
  | .l a => a
  | .t a => a
def Sq (K : PySem.W.Frag) (H : Hp) (c : Cmp) (xs : List V) : Prop := match c with
  | .l a => SqL K H a xs
  | .t a => SqT K H a xs
def At (c : Cmp) (h : Heap) (it : Addr) (i : Nat) : Prop := match c with
  | .l a => h.IsListIter it a i
  | .t a => h.IsTupleIter it a i
def Con (c : Cmp) (h : Heap) (its : Array Value) : Prop := match c with
  | .l a => h.IsList a its
  | .t a => h.IsTuple a its
def itO (c : Cmp) : Obj := match c with
  | .l a => { cls := .type "list_iterator", data := .fields #[.ref a, .int 0 0] }
  | .t a => { cls := .type "tuple_iterator", data := .fields #[.ref a, .int 0 0] }
theorem con {X : Cx} {pins : List (Addr × Obj)} {σ : L2.St} {H : Hp} {s : Shared} (I : Inv X pins σ H s) {c : Cmp} {xs : List V} (h : c.Sq X.K H xs) : ∃ its : List Value, Vals xs its ∧ c.Con s.heap its.toArray ∧ c.ad < s.heap.objs.size := by
  cases c with
  | l a => obtain ⟨its, r, p, _⟩ := I.list h; exact ⟨its, r, p.isList, p.lt⟩
  | t a => obtain ⟨its, r, p, _⟩ := I.tuple h; exact ⟨its, r, p, p.lt⟩
theorem inj {X : Cx} {pins : List (Addr × Obj)} {σ : L2.St} {H : Hp} {s : Shared} (I : Inv X pins σ H s) {c : Cmp} {xs ys : List V} (h : c.Sq X.K H xs) (h' : c.Sq X.K H ys) : xs = ys := by
  cases c with
  | l a => exact I.list_inj h h'
  | t a => exact I.tuple_inj h h'
theorem draws {prog : Program} {w : World} {A : Around} (hh : A.handled = none) (c : Cmp) (it : Addr) (hne : c.ad ≠ it) (its : Array Value) :
    Draws prog w A it [it, c.ad] its.size (fun i v => its[i]? = some v) (fun i h => c.At h it i ∧ c.Con h its) := by
  cases c with
  | l a => exact Draws.list hh it a hne its
  | t a => exact Draws.tuple hh it a hne its
theorem begins (c : Cmp) (v : Value) (hv : v = .ref c.ad) (its : Array Value) : Begins v c.itO fun h => c.Con h its := by
  subst hv
  cases c with
  | l a => exact begins_list a its
  | t a => exact begins_tuple a its
theorem at0 {c : Cmp} {h : Heap} {it : Addr} (e : h.get? it = some c.itO) : c.At h it 0 := by
  cases c with
  | l a => exact ⟨_, e, rfl, rfl⟩
  | t a => exact ⟨_, e, rfl, rfl⟩
theorem atK {c : Cmp} {h h' : Heap} {it : Addr} {i : Nat} (x : c.At h it i) (k : ∀ o, h.get? it = some o → h'.get? it = some o) : c.At h' it i := by
  cases c with
  | l a => obtain ⟨o, e, r⟩ := x; exact ⟨o, k o e, r⟩
  | t a => obtain ⟨o, e, r⟩ := x; exact ⟨o, k o e, r⟩
theorem atO {c : Cmp} {h : Heap} {it : Addr} {i : Nat} (x : c.At h it i) : ∃ o, h.get? it = some o ∧ ∀ v, o.data ≠ .cell v := by
  cases c with
  | l a => obtain ⟨o, e, _, d⟩ := x; exact ⟨o, e, fun v q => by rw [d] at q; cases q⟩
  | t a => obtain ⟨o, e, _, d⟩ := x; exact ⟨o, e, fun v q => by rw [d] at q; cases q⟩
end Cmp
/-! ### enumerate -/
def ItE (K : PySem.W.Frag) (c : Cmp) : It :=
  ⟨fun i H => ∃ (xs : List V) (x : V), c.Sq K H xs ∧ xs[i]? = some x, fun i H v H' => ∃ T x, v = .ref T ∧ H T = none ∧ H' = upd H T (.tup [.int (i : Nat), x]) ∧ ∀ xs, c.Sq K H xs → xs[i]? = some x, fun i H => ∃ xs : List V, c.Sq K H xs ∧ i = xs.length⟩
theorem turn_enumG {P : Program} {w : World} {K : PySem.W.Frag} {elts : List Expr} {kk : Nat} {tpos : Pos} (c : Cmp) (e it : Addr) :
    Turn P w K (.Tuple elts kk tpos) (ItE K c) [e, it] e (fun i h => (∃ old, IsEnum h e it ((0 : Int) + (i : Nat)) old) ∧ c.At h it i ∧ e ≠ it ∧ c.ad ≠ it ∧ c.ad ≠ e) where
  mem := by simp
  obj := fun i h st b hb => by
    obtain ⟨⟨old, he⟩, hi, _⟩ := st
    have e' : b = e ∨ b = it := by simpa using hb
    rcases e' with z | z
    · rw [z]; exact ⟨_, he, fun v q => nomatch q⟩
    · rw [z]; exact Cmp.atO hi
  keep := fun i h h' st k => let ⟨⟨old, he⟩, hi, hne⟩ := st; ⟨⟨old, k e (by simp) _ he⟩, Cmp.atK hi fun o q => k it (by simp) o q, hne⟩
  item := by
    intro X hP hw hK hc i pins s σ H E I hf st hg
    subst hP hw hK
    obtain ⟨he, hit, hne, n1, n2⟩ := st
    obtain ⟨xs, x, hq, hx⟩ := hg
    obtain ⟨its, rv, con, hlt⟩ := Cmp.con I hq
    obtain ⟨u, hu, ru⟩ := rv.get hx
    have hi : i < its.toArray.size := by rw [List.size_toArray]; exact (List.getElem?_eq_some_iff.mp hu).1
    refine (GoesN.enumFrom 0 (c.draws (A := X.A.in1) (I.ok.hd hc) it n1 its.toArray) e hne (by simp [hne, Ne.symm n2]) (by simp)).goes i s _ E hi ⟨he, hit, con⟩ fun v h' tk hY st' hk _ => ?_
    obtain ⟨T, t, y, rfl, hT, hy, hTT⟩ := hY
    have ey : y = u := by rw [List.getElem?_toArray] at hy; rw [hy] at hu; exact Option.some.inj hu
    subst ey
    have new : ObjOk X.prog X.w (upd H T (.tup [.int (i : Nat), x])) h' T (.tup [.int (i : Nat), x]) := by
      refine ⟨by show 2 ≤ sizeLine; decide, [.int ((0 : Int) + (i : Nat)) t, y], .cons ⟨t, by rw [Int.zero_add]⟩ (.cons ru .nil), hTT⟩
    have I1 := I.turnedNew (t' := tk) (ch := [e, it]) (fun b ob hb q => hk b ob hb q) hf hT new
    refine ⟨.ref T, _, I1, rfl, ⟨T, x, rfl, I.hok.fresh hT, rfl, fun ys hy => by rw [Cmp.inj I hy hq]; exact hx⟩, ⟨?_, st'.2.1, hne, n1, n2⟩, fun b hb => ?_⟩
    · exact st'.1
    · have hbT : b ≠ T := fun z => by
        obtain ⟨old, h2⟩ := he
        have hb' : b < s.heap.objs.size := by
          have e' : b = e ∨ b = it := by simpa using hb
          rcases e' with w | w
          · rw [w]; exact Heap.lt_size h2
          · rw [w]; obtain ⟨o, q, _⟩ := Cmp.atO hit; exact Heap.lt_size q
        rw [z] at hb'
        exact absurd hb' (Nat.not_lt.mpr hT)
      rw [upd_ne hbT]
      exact (hf b hb).1
  done := by
    intro X hP hw hK hc i pins s σ H E I hf st hg
    subst hP hw hK
    obtain ⟨he, hit, hne, n1, n2⟩ := st
    obtain ⟨xs, hq, hx⟩ := hg
    obtain ⟨its, rv, con, hlt⟩ := Cmp.con I hq
    have hl : its.toArray.size = i := by rw [List.size_toArray, ← rv.length, hx]
    refine (GoesN.enumFrom (elts := elts) (x1 := kk) (pos := tpos) 0 (c.draws (A := X.A.in1) (I.ok.hd hc) it n1 its.toArray) e hne (by simp [hne, Ne.symm n2]) (by simp)).stops s _ E (by rw [hl]; exact ⟨he, hit, con⟩) fun h' tk hk _ => ?_
    exact I.turnedL (t' := tk) (ch := [e, it]) (fun b o hb q => hk b o hb q) hf
  self := fun A i s Q E st h => let ⟨⟨_, he⟩, _⟩ := st; wpAny_pyIter_enum he h
/-! ### zip -/
def ItZ (K : PySem.W.Frag) (c1 c2 : Cmp) : It :=
  ⟨fun i H => ∃ (xs ys : List V) (x y : V), c1.Sq K H xs ∧ c2.Sq K H ys ∧ xs[i]? = some x ∧ ys[i]? = some y,
    fun i H v H' => ∃ T x y, v = .ref T ∧ H T = none ∧ H' = upd H T (.tup [x, y]) ∧ (∀ xs, c1.Sq K H xs → xs[i]? = some x) ∧ ∀ ys, c2.Sq K H ys → ys[i]? = some y,
    fun i H => ∃ xs ys : List V, c1.Sq K H xs ∧ c2.Sq K H ys ∧ i = min xs.length ys.length⟩
structure Far (c1 c2 : Cmp) (z TI TO i1 i2 : Addr) : Prop where
  S : ZipSep2 z TI TO i1 i2 [i1, c1.ad] [i2, c2.ad]
  a1 : c1.ad ≠ i1
  a2 : c2.ad ≠ i2
theorem turn_zipG {P : Program} {w : World} {K : PySem.W.Frag} {elts : List Expr} {kk : Nat} {tpos : Pos} {c1 c2 : Cmp} {z TI TO i1 i2 : Addr} (F : Far c1 c2 z TI TO i1 i2) :
    Turn P w K (.Tuple elts kk tpos) (ItZ K c1 c2) [z, TI, TO, i1, i2] z (fun i h => IsZip h z TI TO .none ∧ IsTupOf2 h TI (.ref i1) (.ref i2) ∧ (∃ x y, IsTupOf2 h TO x y) ∧ c1.At h i1 i ∧ c2.At h i2 i) where
  mem := by simp
  obj := fun i h st c hc => by
    obtain ⟨hz, hTI, ⟨x, y, hTO⟩, h1, h2⟩ := st
    have e' : c = z ∨ c = TI ∨ c = TO ∨ c = i1 ∨ c = i2 := by simpa using hc
    rcases e' with q | q | q | q | q
    · rw [q]; exact ⟨_, hz, fun v q => nomatch q⟩
    · rw [q]; exact ⟨_, hTI, fun v q => nomatch q⟩
    · rw [q]; exact ⟨_, hTO, fun v q => nomatch q⟩
    · rw [q]; exact Cmp.atO h1
    · rw [q]; exact Cmp.atO h2
  keep := fun i h h' st k => by
    obtain ⟨hz, hTI, ⟨x, y, hTO⟩, h1, h2⟩ := st
    exact ⟨k z (by simp) _ hz, k TI (by simp) _ hTI, ⟨x, y, k TO (by simp) _ hTO⟩, Cmp.atK h1 fun o q => k i1 (by simp) o q, Cmp.atK h2 fun o q => k i2 (by simp) o q⟩
  item := by
    intro X hP hw hK hc i pins s σ H E I hf st hg
    subst hP hw hK
    obtain ⟨hz, hTI, hTO, h1, h2⟩ := st
    obtain ⟨xs, ys, x, y, hqx, hqy, hx, hy⟩ := hg
    obtain ⟨its, rv, con, _⟩ := Cmp.con I hqx
    obtain ⟨its2, rv2, con2, _⟩ := Cmp.con I hqy
    obtain ⟨u, hu, ru⟩ := rv.get hx
    obtain ⟨u2, hu2, ru2⟩ := rv2.get hy
    have hi : i < min its.toArray.size its2.toArray.size := by
      have := (List.getElem?_eq_some_iff.mp hu).1
      have := (List.getElem?_eq_some_iff.mp hu2).1
      simp only [List.size_toArray]; omega
    refine (GoesN.zip2 F.S (c1.draws (A := X.A.in1) (I.ok.hd hc) i1 F.a1 its.toArray) (c2.draws (A := X.A.in1) (I.ok.hd hc) i2 F.a2 its2.toArray)).goes i s _ E hi ⟨hz, hTI, hTO, ⟨h1, con⟩, ⟨h2, con2⟩⟩ fun v h' tk hY st' hk _ => ?_
    obtain ⟨T, a, b, rfl, hT, ha, hb, hTT⟩ := hY
    have ea : a = u := by rw [List.getElem?_toArray] at ha; rw [ha] at hu; exact Option.some.inj hu
    have eb : b = u2 := by rw [List.getElem?_toArray] at hb; rw [hb] at hu2; exact Option.some.inj hu2
    subst ea eb
    have new : ObjOk X.prog X.w (upd H T (.tup [x, y])) h' T (.tup [x, y]) := ⟨by show 2 ≤ sizeLine; decide, [a, b], .cons ru (.cons ru2 .nil), hTT⟩
    have I1 := I.turnedNew (t' := tk) (ch := [z, TI, TO, i1, i2]) (fun c ob hb q => hk c ob (fun q' => hb (by
      have e' : c = z ∨ c = TO ∨ c = i1 ∨ c = i2 := by simpa using q'
      rcases e' with q | q | q | q <;> simp [q])) q) hf hT new
    refine ⟨.ref T, _, I1, rfl, ⟨T, x, y, rfl, I.hok.fresh hT, rfl, fun l hl => by rw [Cmp.inj I hl hqx]; exact hx, fun l hl => by rw [Cmp.inj I hl hqy]; exact hy⟩, ⟨st'.1, st'.2.1, st'.2.2.1, st'.2.2.2.1.1, st'.2.2.2.2.1⟩, fun c hcm => ?_⟩
    have hcT : c ≠ T := fun zz => by
      have hc' : c < s.heap.objs.size := by
        have e' : c = z ∨ c = TI ∨ c = TO ∨ c = i1 ∨ c = i2 := by simpa using hcm
        obtain ⟨x0, y0, hTO⟩ := hTO
        rcases e' with q | q | q | q | q
        · rw [q]; exact Heap.lt_size hz
        · rw [q]; exact Heap.lt_size hTI
        · rw [q]; exact Heap.lt_size hTO
        · rw [q]; obtain ⟨o, e1, _⟩ := Cmp.atO h1; exact Heap.lt_size e1
        · rw [q]; obtain ⟨o, e1, _⟩ := Cmp.atO h2; exact Heap.lt_size e1
      rw [zz] at hc'
      exact absurd hc' (Nat.not_lt.mpr hT)
    rw [upd_ne hcT]
    exact (hf c hcm).1
  done := by
    intro X hP hw hK hc i pins s σ H E I hf st hg
    subst hP hw hK
    obtain ⟨hz, hTI, hTO, h1, h2⟩ := st
    obtain ⟨xs, ys, hqx, hqy, hend⟩ := hg
    obtain ⟨its, rv, con, _⟩ := Cmp.con I hqx
    obtain ⟨its2, rv2, con2, _⟩ := Cmp.con I hqy
    have hl : min its.toArray.size its2.toArray.size = i := by simp only [List.size_toArray]; rw [← rv.length, ← rv2.length, hend]
    refine (GoesN.zip2 (elts := elts) (x1 := kk) (pos := tpos) F.S (c1.draws (A := X.A.in1) (I.ok.hd hc) i1 F.a1 its.toArray) (c2.draws (A := X.A.in1) (I.ok.hd hc) i2 F.a2 its2.toArray)).stops s _ E (by rw [hl]; exact ⟨hz, hTI, hTO, ⟨h1, con⟩, ⟨h2, con2⟩⟩) fun h' tk hk _ => ?_
    exact I.turnedL (t' := tk) (ch := [z, TI, TO, i1, i2]) (fun c o hb q => hk c o (fun q' => hb (by
      have e' : c = z ∨ c = TO ∨ c = i1 ∨ c = i2 := by simpa using q'
      rcases e' with q | q | q | q <;> simp [q])) q) hf
  self := fun A i s Q E st h => wpAny_pyIter_zip st.1 h
/-! ### over deep values -/
def enumF : Int → List Dv → List Dv
  | _, [] => []
  | k, x :: r => .tup [.int k, x] :: enumF (k + 1) r
theorem enumF_get : ∀ (l : List Dv) (k : Int) (i : Nat), (enumF k l)[i]? = (l[i]?).map fun x => .tup [.int (k + (i : Nat)), x]
  | [], k, i => by simp [enumF]
  | x :: r, k, 0 => by simp [enumF]
  | x :: r, k, i + 1 => by
    show (enumF (k + 1) r)[i]? = _
    rw [enumF_get r (k + 1) i]
    simp only [List.getElem?_cons_succ]
    congr 1
    funext x
    rw [show k + 1 + (i : Int) = k + ((i + 1 : Nat) : Int) by omega]
theorem enumF_length (l : List Dv) (k : Int) : (enumF k l).length = l.length := by
  induction l generalizing k with
  | nil => rfl
  | cons x r ih => simp [enumF, ih]
abbrev enumD (l : List Dv) : List Dv := enumF 0 l
def zipD (a b : List Dv) : List Dv := List.zipWith (fun x y => .tup [x, y]) a b
/-- the component that a value is -/
def cmpOf (d : Dv) (a : Addr) : Cmp := match d with
  | .tup _ => .t a
  | _ => .l a
theorem cmp_ad (d : Dv) (a : Addr) : (cmpOf d a).ad = a := by cases d <;> rfl
theorem cmp_sq {K : PySem.W.Frag} {f : Fr} {H : Hp} {M : Mem} {d : Dv} {v : V} {xs : List Dv} (m : RM f H M) (r : RD M.length f H d v) (e : seqD M d = some xs) : ∃ a vs, v = .ref a ∧ (cmpOf d a).Sq K H vs ∧ RDs M.length f H xs vs ∧ xs.length ≤ sizeLine := by
  rcases seq_cases e with rfl | e'
  · obtain ⟨a, vs, h1, h2, h3⟩ := rd_tupM (K := K) r
    exact ⟨a, vs, h1, h2, h3⟩
  · obtain ⟨a, vs, h1, h2, h3⟩ := rd_lstM (K := K) m r e'
    refine ⟨a, vs, h1, ?_, h3⟩
    cases d with
    | tup l => cases (show none = some xs from e')
    | _ => exact h2
theorem rd_pair {f : Fr} {H : Hp} {M : Mem} {T : Addr} {x y : Dv} {v u : V} (m : RM f H M) (hT : H T = none) (r1 : RD M.length f H x v) (r2 : RD M.length f H y u) : RD M.length f (upd H T (.tup [v, u])) (.tup [x, y]) (.ref T) :=
  rd_tup m hT (.cons r1 (.cons r2 .nil)) (by show 2 ≤ sizeLine; decide)
theorem jok_e {K : PySem.W.Frag} {f : Fr} {H : Hp} {M : Mem} {d : Dv} {a : Addr} {xs : List Dv} (r : RD M.length f H d (.ref a)) : JOk (ItE K (cmpOf d a)) (enumD xs) (chkD d xs) M.length f H := fun i f' H' M' x m c => by
  obtain ⟨b, vs, e, hq, hv, _⟩ := cmp_sq (K := K) m (r.rm x) c
  cases e
  rw [enumF_length]
  refine ⟨fun hi => ?_, fun hi => ⟨vs, hq, by rw [hv.length, hi]⟩⟩
  obtain ⟨v, e1, e2⟩ := hv.get (List.getElem?_eq_getElem hi)
  refine ⟨⟨vs, v, hq, e1⟩, fun w H'' ⟨T, y, ew, hT, eH, hy⟩ => ?_⟩
  subst ew eH
  have := hy vs hq
  rw [e1] at this; cases this
  refine ⟨same_new hT, .tup [.int ((i : Nat) : Int), xs[i]], by rw [enumF_get, List.getElem?_eq_getElem hi]; simp, rd_pair m hT rfl e2⟩
theorem zip_get (a b : List Dv) (i : Nat) (h1 : i < a.length) (h2 : i < b.length) : (zipD a b)[i]? = some (.tup [a[i], b[i]]) := by
  simp [zipD, List.getElem?_zipWith, List.getElem?_eq_getElem h1, List.getElem?_eq_getElem h2]
theorem jok_z {K : PySem.W.Frag} {f : Fr} {H : Hp} {M : Mem} {d e : Dv} {a b : Addr} {xs ys : List Dv} (r : RD M.length f H d (.ref a)) (r' : RD M.length f H e (.ref b)) :
    JOk (ItZ K (cmpOf d a) (cmpOf e b)) (zipD xs ys) (fun M => chkD d xs M ∧ chkD e ys M) M.length f H := fun i f' H' M' x m c => by
  obtain ⟨a', vs, e1, hq, hv, _⟩ := cmp_sq (K := K) m (r.rm x) c.1
  obtain ⟨b', us, e2, hq2, hv2, _⟩ := cmp_sq (K := K) m (r'.rm x) c.2
  cases e1
  cases e2
  have hl : (zipD xs ys).length = min xs.length ys.length := by simp [zipD]
  rw [hl]
  refine ⟨fun hi => ?_, fun hi => ⟨vs, us, hq, hq2, by rw [hv.length, hv2.length, hi]⟩⟩
  have h1 : i < xs.length := by omega
  have h2 : i < ys.length := by omega
  obtain ⟨v, g1, k1⟩ := hv.get (List.getElem?_eq_getElem h1)
  obtain ⟨u, g2, k2⟩ := hv2.get (List.getElem?_eq_getElem h2)
  refine ⟨⟨vs, us, v, u, hq, hq2, g1, g2⟩, fun w H'' ⟨T, y1, y2, ew, hT, eH, hy, hy2⟩ => ?_⟩
  subst ew eH
  have w1 := hy vs hq
  rw [g1] at w1; cases w1
  have w2 := hy2 us hq2
  rw [g2] at w2; cases w2
  exact ⟨same_new hT, _, zip_get xs ys i h1 h2, rd_pair m hT k1 k2⟩
def iEnum (u : DA) : DI := fun l M P X => u l M (fun ds M1 => ∃ d xs, ds = [d] ∧ seqD M1 d = some xs ∧ P (enumD xs) (chkD d xs) M1) X
def iZip (u : DA) : DI := fun l M P X => u l M (fun ds M1 => ∃ d e xs ys, ds = [d, e] ∧ seqD M1 d = some xs ∧ seqD M1 e = some ys ∧ P (zipD xs ys) (fun M => chkD d xs M ∧ chkD e ys M) M1) X
set_option maxHeartbeats 2000000 in
theorem meets_enum1 {v : Value} {o : Obj} {G : Heap → Prop} (B : Begins v o G) :
    Meets (Builtin.«enumerate.__new__» ⟨[.type "enumerate", v], []⟩) (fun _ R s => G s.heap ∧
      R (.ok (.ret (.ref (s.heap.push o).objs.size))) { s with heap := (s.heap.push o).push { cls := .type "enumerate", data := .fields #[.none, .bool false, .ref s.heap.objs.size, rawInt 0, .none, .none] } }) :=
  .of_wp fun prog w A R s h => by
    obtain ⟨hp, g, d, tk, os⟩ := s
    obtain ⟨h1, h⟩ := h
    have hsub := sub_enumerate
    have q1 : ∀ {A' : Around} {E : Value → Shared → Prop} {Q : Value → Shared → Prop}, Q (.ref hp.objs.size) ⟨hp.push o, g, d, tk, os⟩ → wpAny (model prog w) A' (pyIter v) Q E ⟨hp, g, d, tk, os⟩ :=
      fun q => B.iter prog w _ _ ⟨hp, g, d, tk, os⟩ _ h1 q
    wp_walk using q1
    refine wpAny_stack_any fun st => wpAny_pure ?_
    split
    · rename_i c _ _ _ _ _
      cases (c == Value.type "enumerate") <;> (wp_walk using q1; exact ⟨_, rfl, h⟩)
    · wp_walk using q1
      exact ⟨_, rfl, h⟩
theorem enum_begins1 {prog : Program} {w : World} {A : Around} {E : Value → Shared → Prop} {s : Shared} {v : Value} {o : Obj} {G : Heap → Prop} {Q : Value → Shared → Prop} (B : Begins v o G) (h1 : G s.heap)
    (h : ∀ h', IsEnum h' (s.heap.objs.size + 1) s.heap.objs.size 0 .none → h'.get? s.heap.objs.size = some o → (∀ b o, s.heap.get? b = some o → h'.get? b = some o) → Q (.ref (s.heap.objs.size + 1)) { s with heap := h' }) :
    wpAny (model prog w) A (call (.type "enumerate") [v]) Q E s := by
  refine callType_new F.called_enumerate (by decide) (F.typeCall_enumerate_1 _) (F.newCall_enumerate_1 _) (fun obj => F.args_object_init_2 obj _) F.entry_enumerate_new (meets_enum1 B) ⟨h1, ?_⟩
  have hz : (s.heap.push o).objs.size = s.heap.objs.size + 1 := Heap.size_push ..
  show _ ∧ _
  rw [hz]
  have he : IsEnum ((s.heap.push o).push { cls := .type "enumerate", data := .fields #[.none, .bool false, .ref s.heap.objs.size, rawInt 0, .none, .none] }) (s.heap.objs.size + 1) s.heap.objs.size 0 .none := by
    have := Heap.get?_push_size (s.heap.push o) (o := { cls := .type "enumerate", data := .fields #[.none, .bool false, .ref s.heap.objs.size, rawInt 0, .none, .none] }) rfl
    rw [hz] at this
    exact this
  exact ⟨⟨_, he, rfl⟩, h _ he (Heap.get?_push_of_some _ (Heap.get?_push_size _ B.free)) fun b o x => Heap.get?_push_of_some _ (Heap.get?_push_of_some _ x)⟩
section
variable {X : Cx} {W : WX} {pos tpos p : Pos} {elts : List Expr} {kk : Nat}
theorem ji_enum {e : Expr} {u : DA} (hg : Gl X "enumerate") (hm : X.mg "enumerate" = none) (ha : JA X W [e] u) (hs : starEach [e] X.env = [(false, eval e X.env)] := by rfl) : JI X W (.Tuple elts kk tpos) (.Call (.Name "enumerate" p) [e] [] pos) (iEnum u) := by
  refine ⟨fun pins s σ H R I ⟨f, l, M, P, Y, m, r, h, k, kx⟩ => ?_⟩
  refine Call_ (ld_blt I hg hm boot_enumerate (PyProof.Rows.callWith_type1 (thn (ha.run pos pins s σ H (fun vs H1 => ∃ (f1 : Fr) (M1 : Mem) (d : Dv) (xs : List Dv) (v : V), vs = [v] ∧ Lt M.length f H M1.length f1 H1 ∧ RM f1 H1 M1 ∧ RD M1.length f1 H1 d v ∧ seqD M1 d = some xs ∧ P (enumD xs) (chkD d xs) M1) I
    ⟨f, l, M, _, Y, m, r, h, fun f1 H1 M1 ds vs x m1 r1 ⟨d, xs, e1, e2, p⟩ => (by
      subst e1
      obtain ⟨v, vr, rfl, rd, e3⟩ : ∃ v vr, vs = v :: vr ∧ RD M1.length f1 H1 d v ∧ vr = [] := r1
      subst e3
      exact ⟨f1, M1, d, xs, v, rfl, x, m1, rd, e2, p⟩), kx⟩) fun us s1 ⟨vs, H1, I1, rv, f1, M1, d, xs, v, e1, x, m1, rd, e2, p⟩ => ?_) hs rfl))
  subst e1
  cases rv with
  | cons rv rr =>
    cases rr
    obtain ⟨a, vs, rfl, hq, hv, _⟩ := cmp_sq (K := X.K) m1 rd e2
    cases rv
    obtain ⟨its, rvv, con, hlt⟩ := Cmp.con I1 hq
    have had : (cmpOf d a).ad = a := cmp_ad d a
    refine enum_begins1 ((cmpOf d a).begins (.ref a) (by rw [had]) its.toArray) con fun h' he hit hk => wpAny_pyIter_enum he ?_
    have I2 : Inv X pins σ H1 { s1 with heap := h' } := I1.kept (t' := s1.toks) hk
    have n1 : (cmpOf d a).ad ≠ s1.heap.objs.size := Nat.ne_of_lt hlt
    have n2 : (cmpOf d a).ad ≠ s1.heap.objs.size + 1 := Nat.ne_of_lt (Nat.lt_succ_of_lt hlt)
    refine ⟨s1.heap.objs.size + 1, [s1.heap.objs.size + 1, s1.heap.objs.size], _, _, H1, rfl, I2, turn_enumG (cmpOf d a) (s1.heap.objs.size + 1) s1.heap.objs.size, ⟨⟨.none, he⟩, Cmp.at0 hit, Nat.succ_ne_self _, n1, n2⟩, fun b hb => ?_, k f1 H1 M1 _ _ _ x m1 e2 (jok_e rd) p⟩
    have hle : s1.heap.objs.size ≤ b := by
      have e' : b = s1.heap.objs.size + 1 ∨ b = s1.heap.objs.size := by simpa using hb
      rcases e' with z | z
      · rw [z]; exact Nat.le_add_right _ _
      · rw [z]; exact Nat.le_refl _
    exact I1.fpOk hle (I1.hok.fresh hle)
theorem ji_zip {e e2 : Expr} {u : DA} (hg : Gl X "zip") (hm : X.mg "zip" = none) (ha : JA X W [e, e2] u) (hs : starEach [e, e2] X.env = (false, eval e X.env) :: starEach [e2] X.env := by rfl) (hpl : (backTo pos (starEach [e2] X.env)).any (·.1) = false := by rfl) :
    JI X W (.Tuple elts kk tpos) (.Call (.Name "zip" p) [e, e2] [] pos) (iZip u) := by
  refine ⟨fun pins s σ H R I ⟨f, l, M, P, Y, m, r, h, k, kx⟩ => ?_⟩
  refine Call_ (ld_blt I hg hm PyProof.Rows.boot_zip (PyProof.Rows.callWith_type1 (thn (ha.run pos pins s σ H (fun vs H1 => ∃ (f1 : Fr) (M1 : Mem) (d e : Dv) (xs ys : List Dv) (v w : V), vs = [v, w] ∧ Lt M.length f H M1.length f1 H1 ∧ RM f1 H1 M1 ∧ RD M1.length f1 H1 d v ∧ RD M1.length f1 H1 e w ∧ seqD M1 d = some xs ∧ seqD M1 e = some ys ∧
    P (zipD xs ys) (fun M => chkD d xs M ∧ chkD e ys M) M1) I
    ⟨f, l, M, _, Y, m, r, h, fun f1 H1 M1 ds vs x m1 r1 ⟨d, e, xs, ys, e1, e2, e3, p⟩ => (by
      subst e1
      obtain ⟨v, vr, rfl, rd, w, vr2, rfl, rd2, e4⟩ : ∃ v vr, vs = v :: vr ∧ RD M1.length f1 H1 d v ∧ ∃ w vr2, vr = w :: vr2 ∧ RD M1.length f1 H1 e w ∧ vr2 = [] := r1
      subst e4
      exact ⟨f1, M1, d, e, xs, ys, v, w, rfl, x, m1, rd, rd2, e2, e3, p⟩), kx⟩) fun us s1 ⟨vs, H1, I1, rv, f1, M1, d, e, xs, ys, v, w, e1, x, m1, rd, rd2, e2, e3, p⟩ => ?_) hs hpl))
  subst e1
  cases rv with
  | cons rv rr =>
    cases rr with
    | cons rv2 rr =>
      cases rr
      obtain ⟨a, vs, rfl, hq, hv, _⟩ := cmp_sq (K := X.K) m1 rd e2
      obtain ⟨b, us, rfl, hq2, hv2, _⟩ := cmp_sq (K := X.K) m1 rd2 e3
      cases rv
      cases rv2
      obtain ⟨its, _, con, hlt⟩ := Cmp.con I1 hq
      obtain ⟨its2, _, con2, hlt2⟩ := Cmp.con I1 hq2
      refine zip_begins2 ((cmpOf d a).begins (.ref a) (by rw [cmp_ad]) its.toArray) ((cmpOf e b).begins (.ref b) (by rw [cmp_ad]) its2.toArray) con con2 fun h' hz hTI hTO h1 h2 hsz hk => wpAny_pyIter_zip hz ?_
      have I2 : Inv X pins σ H1 { s1 with heap := h' } := I1.kept (t' := s1.toks) hk
      refine ⟨s1.heap.objs.size + 4, [s1.heap.objs.size + 4, s1.heap.objs.size + 2, s1.heap.objs.size + 3, s1.heap.objs.size, s1.heap.objs.size + 1], _, _, H1, rfl, I2,
        turn_zipG (c1 := cmpOf d a) (c2 := cmpOf e b) ⟨zip_sep2 (N := s1.heap.objs.size) (fp1 := [(cmpOf d a).ad]) (fp2 := [(cmpOf e b).ad]) (fun c hc => by rw [List.mem_singleton.mp hc]; exact hlt) (fun c hc => by rw [List.mem_singleton.mp hc]; exact hlt2), Nat.ne_of_lt hlt, Nat.ne_of_lt (Nat.lt_succ_of_lt hlt2)⟩,
        ⟨hz, hTI, ⟨_, _, hTO⟩, Cmp.at0 h1, Cmp.at0 h2⟩, fun c hcm => ?_, k f1 H1 M1 _ _ _ x m1 ⟨e2, e3⟩ (jok_z rd rd2) p⟩
      have hle : s1.heap.objs.size ≤ c := by
        have e' : c = s1.heap.objs.size + 4 ∨ c = s1.heap.objs.size + 2 ∨ c = s1.heap.objs.size + 3 ∨ c = s1.heap.objs.size ∨ c = s1.heap.objs.size + 1 := by simpa using hcm
        rcases e' with z | z | z | z | z
        · rw [z]; exact Nat.le_add_right _ _
        · rw [z]; exact Nat.le_add_right _ _
        · rw [z]; exact Nat.le_add_right _ _
        · rw [z]; exact Nat.le_refl _
        · rw [z]; exact Nat.le_add_right _ _
      exact I1.fpOk hle (I1.hok.fresh hle)
end
end D
end

section
set_option Elab.async false
set_option linter.all false
set_option maxRecDepth 100000
set_option maxHeartbeats 1000000
set_option autoImplicit false
/-! The deep layer, part 5: operations on values. -/
namespace D
open PySem PySem.Spec PyProof.Rows L2
variable [TBL]
/-! ### arithmetic -/
def g2I (C : Int → Int → Prop) (h : Int → Int → Dv) : Dv → Dv → Mem → (Dv → Prop) → Prop := fun x y _ P => match x, y with
  | .int i, .int j => C i j ∧ P (h i j)
  | _, _ => False
theorem o2I {C : Int → Int → Prop} {h : Int → Int → Int} : Op2 (rI C fun i j => .int (h i j)) (g2I C fun i j => .int (h i j)) := fun f H M x y v u P Q m rx ry hg k => by
  cases x <;> try exact hg.elim
  rename_i i
  cases y <;> try exact hg.elim
  rename_i j
  cases (show v = .int i from rx)
  cases (show u = .int j from ry)
  exact ⟨i, j, rfl, rfl, hg.1, k _ H (.int (h i j)) (Same.refl H) rfl hg.2⟩
def g2I0 (h : Int → Int → Dv) : Dv → Dv → Mem → (Dv → Prop) → Prop := fun x y _ P => match x, y with
  | .int i, .int j => P (h i j)
  | _, _ => False
theorem o2I0 {h : Int → Int → Int} : Op2 (rI0 fun i j => .int (h i j)) (g2I0 fun i j => .int (h i j)) := fun f H M x y v u P Q m rx ry hg k => by
  cases x <;> try exact hg.elim
  rename_i i
  cases y <;> try exact hg.elim
  rename_i j
  cases (show v = .int i from rx)
  cases (show u = .int j from ry)
  exact ⟨i, j, rfl, rfl, k _ H (.int (h i j)) (Same.refl H) rfl hg⟩
theorem o2B0 {h : Int → Int → Bool} : Op2 (rI0 fun i j => .bl (h i j)) (g2I0 fun i j => .bl (h i j)) := fun f H M x y v u P Q m rx ry hg k => by
  cases x <;> try exact hg.elim
  rename_i i
  cases y <;> try exact hg.elim
  rename_i j
  cases (show v = .int i from rx)
  cases (show u = .int j from ry)
  exact ⟨i, j, rfl, rfl, k _ H (.bl (h i j)) (Same.refl H) rfl hg⟩
/-- + : numbers, texts, tuples, lists -/
def gAdd : Dv → Dv → Mem → (Dv → Prop) → Prop := fun x y M P => match x, y with
  | .int i, .int j => P (.int (i + j))
  | .str i, .str j => i.length + j.length ≤ sizeLine ∧ P (.str (i ++ j))
  | .tup a, .tup b => a.length + b.length ≤ sizeLine ∧ P (.tup (a ++ b))
  | x, y => ∃ a b, lstW M x = some a ∧ lstW M y = some b ∧ a.length + b.length ≤ sizeLine ∧ P (.lst (a ++ b))
def rAddA (K : PySem.W.Frag) : R2 := fun x y H Q => rI0 (fun i j => .int (i + j)) x y H Q ∨ (∃ i j, x = .str i ∧ y = .str j ∧ i.length + j.length ≤ sizeLine ∧ Q (.str (i ++ j)) H) ∨ rCatA K x y H Q ∨ rCat x y H Q
theorem op_addA {X : Cx} : OpR X (binaryOp .Add) (rAddA X.K) := op_add.or (op_add_str.or (op_catA.or op_cat))
theorem o_add {K : PySem.W.Frag} : Op2 (rAddA K) gAdd := fun f H M x y v u P Q m rx ry hg k => by
  have lists : (∃ a b, lstW M x = some a ∧ lstW M y = some b ∧ a.length + b.length ≤ sizeLine ∧ P (.lst (a ++ b))) → rAddA K v u H Q := fun ⟨a, b, e1, e2, hz, p⟩ => by
    obtain ⟨pa, xs, rfl, h1, r1, _⟩ := rd_lstW m rx e1
    obtain ⟨pb, ys, rfl, h2, r2, _⟩ := rd_lstW m ry e2
    exact .inr (.inr (.inr ⟨pa, pb, xs, ys, rfl, rfl, h1, h2, by rw [r1.length, r2.length]; exact hz, fun q hq => k _ _ (.lst (a ++ b)) (same_new hq) (rd_lst m hq (r1.app r2) (by rw [List.length_append]; exact hz)) p⟩))
  unfold gAdd at hg
  split at hg
  · rename_i i j
    cases (show v = .int i from rx)
    cases (show u = .int j from ry)
    exact .inl ⟨i, j, rfl, rfl, k _ H (.int (i + j)) (Same.refl H) rfl hg⟩
  · rename_i i j
    cases (show v = .str i from rx)
    cases (show u = .str j from ry)
    exact .inr (.inl ⟨i, j, rfl, rfl, hg.1, k _ H (.str (i ++ j)) (Same.refl H) rfl hg.2⟩)
  · rename_i a b
    obtain ⟨pa, xs, rfl, h1, r1, _⟩ := rd_tupM (K := K) rx
    obtain ⟨pb, ys, rfl, h2, r2, _⟩ := rd_tupM (K := K) ry
    refine .inr (.inr (.inl ⟨pa, pb, xs, ys, rfl, rfl, h1, h2, by rw [r1.length, r2.length]; exact hg.1, fun e => ?_, fun _ e => ?_, fun _ _ q hq => ?_⟩))
    · have : a = [] := List.length_eq_zero_iff.mp (by rw [← r1.length, e]; rfl)
      subst this
      exact k _ H _ (Same.refl H) ry hg.2
    · have : b = [] := List.length_eq_zero_iff.mp (by rw [← r2.length, e]; rfl)
      subst this
      rw [List.append_nil] at hg
      exact k _ H _ (Same.refl H) rx hg.2
    · exact k _ _ (.tup (a ++ b)) (same_new hq) (rd_tup m hq (r1.app r2) (by rw [List.length_append]; exact hg.1)) hg.2
  · exact lists hg
def gSub' := g2I0 fun i j => .int (i - j)
def gMul := g2I (fun i j => i.natAbs.log2 + j.natAbs.log2 < 1000000) fun i j => .int (i * j)
def gDiv := g2I (fun _ j => 0 < j ∧ j.natAbs.log2 < 9000) fun i j => .int (i / j)
def gMod := g2I (fun _ j => 0 < j) fun i j => .int (i % j)
def gPow := g2I (fun i j => 0 ≤ j ∧ j ≤ 1000000 ∧ i.natAbs < 2 ^ 64) fun i j => .int (i ^ j.toNat)
def gLt := g2I0 fun i j => .bl (decide (i < j))
def gLe := g2I0 fun i j => .bl (decide (i ≤ j))
def gGt := g2I0 fun i j => .bl (decide (j < i))
def gGe := g2I0 fun i j => .bl (decide (j ≤ i))
section
variable {X : Cx} {W : WX} {pos : Pos} {a b : Expr} {ta tb : DE}
theorem je_add (ha : JE X W a ta) (hb : JE X W b tb) : JE X W (.BinOp a .Add b pos) (dOp gAdd ta tb) := je_op op_addA o_add ha hb
theorem je_sub (ha : JE X W a ta) (hb : JE X W b tb) : JE X W (.BinOp a .Sub b pos) (dOp gSub' ta tb) := je_op op_sub o2I0 ha hb
theorem je_mul (ha : JE X W a ta) (hb : JE X W b tb) : JE X W (.BinOp a .Mult b pos) (dOp gMul ta tb) := je_op op_mulW o2I ha hb
theorem je_div (ha : JE X W a ta) (hb : JE X W b tb) : JE X W (.BinOp a .FloorDiv b pos) (dOp gDiv ta tb) := je_op op_fdivW o2I ha hb
theorem je_mod (ha : JE X W a ta) (hb : JE X W b tb) : JE X W (.BinOp a .Mod b pos) (dOp gMod ta tb) := je_op op_mod o2I ha hb
theorem je_pow (ha : JE X W a ta) (hb : JE X W b tb) : JE X W (.BinOp a .Pow b pos) (dOp gPow ta tb) := je_op op_pow o2I ha hb
def gNeg : Dv → Mem → (Dv → Prop) → Prop := fun x _ P => match x with
  | .int i => P (.int (-i))
  | _ => False
theorem o_neg : Op1 (rU fun i => .int (-i)) gNeg := fun f H M x v P Q m rx hg k => by
  cases x <;> try exact hg.elim
  rename_i i
  cases (show v = .int i from rx)
  exact ⟨i, rfl, k _ H (.int (-i)) (Same.refl H) rfl hg⟩
theorem je_neg (ha : JE X W a ta) : JE X W (.UnaryOp .USub a pos) (dUn gNeg ta) := je_un un_neg o_neg ha
end
/-! ### == over data -/
mutual
def pyEq : Dv → Dv → Bool
  | .non, y => match y with | .non => true | _ => false
  | .bl a, y => match y with | .bl b => a == b | .int j => (if a then 1 else 0) == j | _ => false
  | .int i, y => match y with | .int j => i == j | .bl b => i == (if b then 1 else 0) | _ => false
  | .str x, y => match y with | .str z => x == z | _ => false
  | .tup l, y => match y with | .tup l' => pyEqs l l' | _ => false
  | .lst l, y => match y with | .lst l' => pyEqs l l' | _ => false
  | _, _ => false
def pyEqs : List Dv → List Dv → Bool
  | [], l => l.isEmpty
  | x :: l, m => match m with | y :: m => pyEq x y && pyEqs l m | [] => false
end
mutual
/-- data, no deeper than k -/
def okD : Dv → Nat → Bool
  | .non, _ => true
  | .bl _, _ => true
  | .int _, _ => true
  | .str x, _ => PyData.canLay0 (.str x)
  | .tup l, k => match k with | 0 => false | k + 1 => okDs l k
  | .lst l, k => match k with | 0 => false | k + 1 => okDs l k
  | _, _ => false
def okDs : List Dv → Nat → Bool
  | [], _ => true
  | x :: l, k => okD x k && okDs l k
end
mutual
def toP : Dv → PyData
  | .non => .none
  | .bl b => .bool b
  | .int i => .int i
  | .str x => .str x
  | .tup l => .tuple (toPs l)
  | .lst l => .list (toPs l)
  | _ => .none
def toPs : List Dv → List PyData
  | [] => []
  | d :: l => toP d :: toPs l
end
mutual
theorem rd_dp {K : PySem.W.Frag} {n : Nat} {f : Fr} {H : Hp} : ∀ {d : Dv} {v : V} {k : Nat}, RD n f H d v → okD d k = true → Dp K H v (toP d)
  | .non, v, _, h, _ => by rw [show v = .non from h]; exact .non
  | .bl b, v, _, h, _ => by rw [show v = .bl b from h]; exact .bl b
  | .int b, v, _, h, _ => by rw [show v = .int b from h]; exact .int b
  | .str b, v, _, h, _ => by rw [show v = .str b from h]; exact .str b
  | .tup l, v, k + 1, h, o => by
    obtain ⟨_, x, xs, rfl, hx, _, r⟩ : l.length ≤ sizeLine ∧ ∃ x xs, v = .ref x ∧ H x = some (.tup xs) ∧ Bes n f x ∧ RDs n f H l xs := h
    exact .tup (.inl (.inl hx)) (rd_dps r (show okDs l k = true from o))
  | .lst l, v, k + 1, h, o => by
    obtain ⟨_, x, xs, rfl, hx, _, r⟩ : l.length ≤ sizeLine ∧ ∃ x xs, v = .ref x ∧ H x = some (.lst xs) ∧ Bes n f x ∧ RDs n f H l xs := h
    exact .lst (.inl (.inl hx)) (rd_dps r (show okDs l k = true from o))
  | .tup l, v, 0, h, o => by cases (show false = true from o)
  | .lst l, v, 0, h, o => by cases (show false = true from o)
  | .frz l, v, _, h, o => by cases (show false = true from o)
  | .obj _ _ _, v, _, h, o => by cases (show false = true from o)
  | .ref _, v, _, h, o => by cases (show false = true from o)
  | .adr _, v, _, h, o => by cases (show false = true from o)
  | .ty _, v, _, h, o => by cases (show false = true from o)
  | .dic, v, _, h, o => by cases (show false = true from o)
theorem rd_dps {K : PySem.W.Frag} {n : Nat} {f : Fr} {H : Hp} : ∀ {l : List Dv} {xs : List V} {k : Nat}, RDs n f H l xs → okDs l k = true → DpAll K H xs (toPs l)
  | [], xs, _, h, _ => by rw [show xs = [] from h]; exact .nil
  | d :: l, xs, k, h, o => by
    obtain ⟨v, r, rfl, h1, h2⟩ : ∃ v r, xs = v :: r ∧ RD n f H d v ∧ RDs n f H l r := h
    obtain ⟨o1, o2⟩ := Bool.and_eq_true_iff.mp o
    exact .cons (rd_dp h1 o1) (rd_dps h2 o2)
end
mutual
theorem lay_toP : ∀ {d : Dv} {k : Nat}, okD d k = true → (toP d).canLay0 = true ∧ (toP d).depth ≤ k
  | .non, _, _ => ⟨rfl, Nat.zero_le _⟩
  | .bl _, _, _ => ⟨rfl, Nat.zero_le _⟩
  | .int _, _, _ => ⟨rfl, Nat.zero_le _⟩
  | .str _, _, o => ⟨o, Nat.zero_le _⟩
  | .tup l, k + 1, o => by
    obtain ⟨h1, h2⟩ := lays_toP (show okDs l k = true from o)
    refine ⟨h1, ?_⟩
    show PyData.depth (.tuple (toPs l)) ≤ k + 1
    simp only [PyData.depth]; omega
  | .lst l, k + 1, o => by
    obtain ⟨h1, h2⟩ := lays_toP (show okDs l k = true from o)
    refine ⟨h1, ?_⟩
    show PyData.depth (.list (toPs l)) ≤ k + 1
    simp only [PyData.depth]; omega
  | .tup l, 0, o => by cases (show false = true from o)
  | .lst l, 0, o => by cases (show false = true from o)
  | .frz l, _, o => by cases (show false = true from o)
  | .obj _ _ _, _, o => by cases (show false = true from o)
  | .ref _, _, o => by cases (show false = true from o)
  | .adr _, _, o => by cases (show false = true from o)
  | .ty _, _, o => by cases (show false = true from o)
  | .dic, _, o => by cases (show false = true from o)
theorem lays_toP : ∀ {l : List Dv} {k : Nat}, okDs l k = true → PyData.canLayAll0 (toPs l) = true ∧ PyData.depthAll (toPs l) ≤ k
  | [], _, _ => ⟨rfl, Nat.zero_le _⟩
  | d :: l, k, o => by
    obtain ⟨o1, o2⟩ := Bool.and_eq_true_iff.mp o
    obtain ⟨a1, a2⟩ := lay_toP o1
    obtain ⟨b1, b2⟩ := lays_toP o2
    refine ⟨Bool.and_eq_true_iff.mpr ⟨a1, b1⟩, ?_⟩
    show PyData.depthAll (toP d :: toPs l) ≤ k
    simp only [PyData.depthAll]; omega
end
mutual
theorem eqv_toP : ∀ (a b : Dv) {k j : Nat}, okD a k = true → okD b j = true → PyData.eqv (toP a) (toP b) = pyEq a b
  | .tup l, b, k + 1, j, o, p => by
    cases b <;> first | rfl | (cases (show false = true from p)) | skip
    rename_i m
    cases j with
    | zero => cases (show false = true from p)
    | succ j => exact eqvs_toP l m (show okDs l k = true from o) (show okDs m j = true from p)
  | .lst l, b, k + 1, j, o, p => by
    cases b <;> first | rfl | (cases (show false = true from p)) | skip
    rename_i m
    cases j with
    | zero => cases (show false = true from p)
    | succ j => exact eqvs_toP l m (show okDs l k = true from o) (show okDs m j = true from p)
  | .tup l, b, 0, j, o, p => by cases (show false = true from o)
  | .lst l, b, 0, j, o, p => by cases (show false = true from o)
  | .non, b, _, _, _, p => by cases b <;> first | rfl | (cases (show false = true from p))
  | .bl _, b, _, _, _, p => by cases b <;> first | rfl | (cases (show false = true from p))
  | .int _, b, _, _, _, p => by cases b <;> first | rfl | (cases (show false = true from p))
  | .str _, b, _, _, _, p => by cases b <;> first | rfl | (cases (show false = true from p))
  | .frz l, _, _, _, o, _ => by cases (show false = true from o)
  | .obj _ _ _, _, _, _, o, _ => by cases (show false = true from o)
  | .ref _, _, _, _, o, _ => by cases (show false = true from o)
  | .adr _, _, _, _, o, _ => by cases (show false = true from o)
  | .ty _, _, _, _, o, _ => by cases (show false = true from o)
  | .dic, _, _, _, o, _ => by cases (show false = true from o)
theorem eqvs_toP : ∀ (a b : List Dv) {k j : Nat}, okDs a k = true → okDs b j = true → PyData.eqvAll (toPs a) (toPs b) = pyEqs a b
  | [], [], _, _, _, _ => rfl
  | [], _ :: _, _, _, _, _ => rfl
  | _ :: _, [], _, _, _, _ => rfl
  | x :: a, y :: b, k, j, o, p => by
    obtain ⟨o1, o2⟩ := Bool.and_eq_true_iff.mp o
    obtain ⟨p1, p2⟩ := Bool.and_eq_true_iff.mp p
    show (PyData.eqv (toP x) (toP y) && PyData.eqvAll (toPs a) (toPs b)) = (pyEq x y && pyEqs a b)
    rw [eqv_toP x y o1 p1, eqvs_toP a b o2 p2]
end
/-- a list of the memory, for what it holds -/
def res (M : Mem) : Dv → Dv
  | .ref i => match M[i]? with
    | some (.lst l) => .lst l
    | _ => .ref i
  | d => d
theorem rd_res {K : PySem.W.Frag} {f : Fr} {H : Hp} {M : Mem} {d : Dv} {v : V} (m : RM f H M) (r : RD M.length f H d v) {k : Nat} (o : okD (res M d) k = true) : Dp K H v (toP (res M d)) := by
  cases d with
  | ref i =>
    unfold res at o ⊢
    cases q : M[i]? with
    | none => simp only [q] at o; cases (show false = true from o)
    | some u =>
      cases u with
      | ins _ _ _ => simp only [q] at o; cases (show false = true from o)
      | lst l =>
        simp only [q] at o ⊢
        obtain ⟨_, rfl⟩ : i < M.length ∧ v = .ref (f i) := r
        obtain ⟨_, xs, hx, h⟩ : l.length ≤ sizeLine ∧ ∃ xs, H (f i) = some (.lst xs) ∧ RDs M.length f H l xs := m.ob i _ q
        cases k with
        | zero => cases (show false = true from o)
        | succ k => exact .lst (.inl (.inl hx)) (rd_dps h (show okDs l k = true from o))
  | _ => exact rd_dp (K := K) r o
def gEq : Dv → Dv → Mem → (Dv → Prop) → Prop := fun x y M P => okD (res M x) 60 = true ∧ okD (res M y) 60 = true ∧ P (.bl (pyEq (res M x) (res M y)))
def gNe : Dv → Dv → Mem → (Dv → Prop) → Prop := fun x y M P => okD (res M x) 60 = true ∧ okD (res M y) 60 = true ∧ P (.bl (!pyEq (res M x) (res M y)))
theorem shaped_res {d : Dv} (o : okD d 60 = true) : SeqAt.shaped (toP d) = true := by
  obtain ⟨h1, h2⟩ := lay_toP o
  unfold SeqAt.shaped
  rw [h1, decide_eq_true (show (toP d).depth ≤ 64 by omega)]; rfl
theorem o_eq {K : PySem.W.Frag} : Op2 (rEqD K) gEq := fun f H M x y v u P Q m rx ry ⟨o1, o2, p⟩ k =>
  ⟨_, _, rd_res m rx o1, rd_res m ry o2, shaped_res o1, shaped_res o2, by rw [eqv_toP _ _ o1 o2]; exact k _ H (.bl _) (Same.refl H) rfl p⟩
theorem o_ne {K : PySem.W.Frag} : Op2 (rNeD K) gNe := fun f H M x y v u P Q m rx ry ⟨o1, o2, p⟩ k =>
  ⟨_, _, rd_res m rx o1, rd_res m ry o2, shaped_res o1, shaped_res o2, by rw [eqv_toP _ _ o1 o2]; exact k _ H (.bl _) (Same.refl H) rfl p⟩
section
variable {X : Cx} {W : WX} {pos : Pos} {a b : Expr} {ta tb : DE} {k : Nat}
theorem je_eq (hr : Room k X.A) (ha : JE X W a ta) (hb : JE X W b tb) : JE X W (.Compare a [.Eq] [b] pos) (dOp gEq ta tb) := je_cmp (op_eqD hr.units) o_eq ha hb (nomark _)
theorem je_ne (hr : Room k X.A) (ha : JE X W a ta) (hb : JE X W b tb) : JE X W (.Compare a [.NotEq] [b] pos) (dOp gNe ta tb) := je_cmp (op_neD hr.units) o_ne ha hb (nomark _)
theorem jt_eq (hr : Room k X.A) (ha : JE X W a ta) (hb : JE X W b tb) : JT X W (.Compare a [.Eq] [b] pos) (dTest (dOp gEq ta tb)) := jt_cmp (op_eqD hr.units) o_eq ha hb (nomark _)
theorem jt_ne (hr : Room k X.A) (ha : JE X W a ta) (hb : JE X W b tb) : JT X W (.Compare a [.NotEq] [b] pos) (dTest (dOp gNe ta tb)) := jt_cmp (op_neD hr.units) o_ne ha hb (nomark _)
end
end D
end

section
set_option Elab.async false
set_option linter.all false
set_option maxRecDepth 100000
set_option maxHeartbeats 1000000
set_option autoImplicit false
/-! The deep layer, part 6: in, is, len, sum, all, any, isinstance, places, slices, methods. -/
namespace D
open PySem PySem.Spec PyProof.Rows L2
variable [TBL]
/-! ### in, not in -/
def pyIn (x : Dv) (l : List Dv) : Bool := l.any fun z => pyEq z x
theorem any_toP (x : Dv) {k : Nat} (o : okD x k = true) : ∀ (l : List Dv) {j : Nat}, okDs l j = true → (toPs l).any (fun z => PyData.eqv z (toP x)) = pyIn x l
  | [], _, _ => rfl
  | y :: l, j, p => by
    obtain ⟨p1, p2⟩ := Bool.and_eq_true_iff.mp p
    show (PyData.eqv (toP y) (toP x) || (toPs l).any (fun z => PyData.eqv z (toP x))) = (pyEq y x || pyIn x l)
    rw [eqv_toP y x p1 o, any_toP x o l p2]
def rInT (K : PySem.W.Frag) (neg : Bool) : R2 := fun x y H Q => ∃ d ds, Dp K H x d ∧ Dp K H y (.tuple ds) ∧ SeqAt.shaped d = true ∧ SeqAt.shaped (.tuple ds) = true ∧ Q (.bl (if neg then !(ds.any fun z => PyData.eqv z d) else ds.any fun z => PyData.eqv z d)) H
theorem op_inT {X : Cx} (hu : X.A.units + 65 < cLine) : OpR X (compareOp .In) (rInT X.K false) := by
  intro pins s σ H x y v u Q I rx ry h
  obtain ⟨d, ds, hd, he, sd, se, q⟩ := h
  obtain ⟨as, r1⟩ := Dp.reads I d x v hd rx
  obtain ⟨bs, r2⟩ := Dp.reads I (.tuple ds) y u he ry
  exact SeqAt.in_tuple_reads r2 r1 (SeqAt.canLay_of_shaped se) (SeqAt.canLay_of_shaped sd) (room_in_shaped sd hu) ⟨.bl _, H, I, rfl, q⟩
theorem op_notInT {X : Cx} (hu : X.A.units + 65 < cLine) : OpR X (compareOp .NotIn) (rInT X.K true) := by
  intro pins s σ H x y v u Q I rx ry h
  obtain ⟨d, ds, hd, he, sd, se, q⟩ := h
  obtain ⟨as, r1⟩ := Dp.reads I d x v hd rx
  obtain ⟨bs, r2⟩ := Dp.reads I (.tuple ds) y u he ry
  exact SeqAt.notIn_tuple_reads r2 r1 (SeqAt.canLay_of_shaped se) (SeqAt.canLay_of_shaped sd) (room_in_shaped sd hu) ⟨.bl _, H, I, rfl, q⟩
/-- the items of what stands on the right of in -/
def inD (M : Mem) (y : Dv) : Option (List Dv) := match res M y with
  | .lst l => some l
  | .tup l => some l
  | _ => none
def gIn (neg : Bool) : Dv → Dv → Mem → (Dv → Prop) → Prop := fun x y M P => ∃ l, okD (res M x) 60 = true ∧ inD M y = some l ∧ okDs l 59 = true ∧ P (.bl (if neg then !pyIn (res M x) l else pyIn (res M x) l))
theorem inD_cases {M : Mem} {y : Dv} {l : List Dv} (e : inD M y = some l) : res M y = .lst l ∨ res M y = .tup l := by
  unfold inD at e
  split at e
  · rename_i q; cases e; exact .inl q
  · rename_i q; cases e; exact .inr q
  · cases e
theorem o_in {K : PySem.W.Frag} : Op2 (fun x y H Q => rInD K x y H Q ∨ rInT K false x y H Q) (gIn false) := fun f H M x y v u P Q m rx ry ⟨l, o1, e, o2, p⟩ k => by
  rcases inD_cases e with e | e
  · have o3 : okD (res M y) 60 = true := by rw [e]; exact o2
    have h := rd_res (K := K) m ry o3
    have s := shaped_res o3
    rw [e] at h s
    exact .inl ⟨_, toPs l, rd_res m rx o1, h, shaped_res o1, s, by rw [any_toP _ o1 l o2]; exact k _ H (.bl _) (Same.refl H) rfl p⟩
  · have o3 : okD (res M y) 60 = true := by rw [e]; exact o2
    have h := rd_res (K := K) m ry o3
    have s := shaped_res o3
    rw [e] at h s
    exact .inr ⟨_, toPs l, rd_res m rx o1, h, shaped_res o1, s, by rw [any_toP _ o1 l o2]; exact k _ H (.bl _) (Same.refl H) rfl p⟩
theorem o_notIn {K : PySem.W.Frag} : Op2 (fun x y H Q => rNotInD K x y H Q ∨ rInT K true x y H Q) (gIn true) := fun f H M x y v u P Q m rx ry ⟨l, o1, e, o2, p⟩ k => by
  rcases inD_cases e with e | e
  · have o3 : okD (res M y) 60 = true := by rw [e]; exact o2
    have h := rd_res (K := K) m ry o3
    have s := shaped_res o3
    rw [e] at h s
    exact .inl ⟨_, toPs l, rd_res m rx o1, h, shaped_res o1, s, by rw [any_toP _ o1 l o2]; exact k _ H (.bl _) (Same.refl H) rfl p⟩
  · have o3 : okD (res M y) 60 = true := by rw [e]; exact o2
    have h := rd_res (K := K) m ry o3
    have s := shaped_res o3
    rw [e] at h s
    exact .inr ⟨_, toPs l, rd_res m rx o1, h, shaped_res o1, s, by rw [any_toP _ o1 l o2]; exact k _ H (.bl _) (Same.refl H) rfl p⟩
/-! ### is, is not: with None, True, False on the right -/
def isD : Dv → Dv → Option Bool
  | x, .non => some (match x with | .non => true | _ => false)
  | x, .bl b => some (match x with | .bl a => a == b | _ => false)
  | _, _ => none
def isV : V → V → Bool
  | .non, .non => true
  | .bl a, .bl c => a == c
  | _, _ => false
def plV : V → Prop
  | .non => True
  | .bl _ => True
  | .int _ => True
  | .str _ => True
  | .ref _ => True
  | .ty _ => True
  | _ => False
def rIsN (neg : Bool) : R2 := fun x y H Q => ∃ b, (y = .non ∨ ∃ c, y = .bl c) ∧ b = isV x y ∧ plV x ∧ Q (.bl (if neg then !b else b)) H
theorem is_shape {x y : V} {v u : Value} {b : Bool} (rx : RelV x v) (ry : RelV y u) (hy : y = .non ∨ ∃ c, y = .bl c) (hb : b = isV x y) (hx : plV x) : plainIs v u = true ∧ (v == u) = b := by
  have ev : ∃ v', v = v' ∧ (x = .non ∧ v' = .none ∨ (∃ c, x = .bl c ∧ v' = .bool c) ∨ (∃ i t, x = .int i ∧ v' = .int i t) ∨ (∃ i t, x = .str i ∧ v' = .str i t) ∨ (∃ i, x = .ref i ∧ v' = .ref i) ∨ ∃ i, x = .ty i ∧ v' = .type i) := by
    cases x with
    | non => exact ⟨_, rx, .inl ⟨rfl, rfl⟩⟩
    | bl c => exact ⟨_, rx, .inr (.inl ⟨c, rfl, rfl⟩)⟩
    | int i => obtain ⟨t, e⟩ := (show ∃ t, v = Value.int i t from rx); exact ⟨_, e, .inr (.inr (.inl ⟨i, t, rfl, rfl⟩))⟩
    | str i => obtain ⟨t, e⟩ := (show ∃ t, v = Value.str i t from rx); exact ⟨_, e, .inr (.inr (.inr (.inl ⟨i, t, rfl, rfl⟩)))⟩
    | ref i => exact ⟨_, rx, .inr (.inr (.inr (.inr (.inl ⟨i, rfl, rfl⟩))))⟩
    | ty i => exact ⟨_, rx, .inr (.inr (.inr (.inr (.inr ⟨i, rfl, rfl⟩))))⟩
    | _ => exact hx.elim
  obtain ⟨v', rfl, ev⟩ := ev
  rcases hy with rfl | ⟨c, rfl⟩
  · obtain rfl : u = Value.none := ry
    rcases ev with ⟨rfl, rfl⟩ | ⟨c, rfl, rfl⟩ | ⟨i, t, rfl, rfl⟩ | ⟨i, t, rfl, rfl⟩ | ⟨i, rfl, rfl⟩ | ⟨i, rfl, rfl⟩ <;> exact ⟨rfl, hb.symm⟩
  · obtain rfl : u = Value.bool c := ry
    rcases ev with ⟨rfl, rfl⟩ | ⟨c', rfl, rfl⟩ | ⟨i, t, rfl, rfl⟩ | ⟨i, t, rfl, rfl⟩ | ⟨i, rfl, rfl⟩ | ⟨i, rfl, rfl⟩
    · exact ⟨rfl, hb.symm⟩
    · refine ⟨rfl, ?_⟩
      subst hb
      show (Value.bool c' == Value.bool c) = (c' == c)
      cases c' <;> cases c <;> first | rfl | decide
    all_goals exact ⟨rfl, hb.symm⟩
theorem op_isN {X : Cx} : OpR X (compareOp .Is) (rIsN false) := by
  intro pins s σ H x y v u Q I rx ry ⟨b, hy, hb, hx, q⟩
  obtain ⟨h1, h2⟩ := is_shape rx ry hy hb hx
  exact wpAny_is_plain h1 ⟨.bl b, H, I, by rw [h2]; rfl, q⟩
theorem op_isNotN {X : Cx} : OpR X (compareOp .IsNot) (rIsN true) := by
  intro pins s σ H x y v u Q I rx ry ⟨b, hy, hb, hx, q⟩
  obtain ⟨h1, h2⟩ := is_shape rx ry hy hb hx
  exact wpAny_isNot_plain h1 ⟨.bl (!b), H, I, by rw [h2]; rfl, q⟩
def gIs (neg : Bool) : Dv → Dv → Mem → (Dv → Prop) → Prop := fun x y _ P => ∃ b, isD x y = some b ∧ P (.bl (if neg then !b else b))
theorem o_is {neg : Bool} : Op2 (rIsN neg) (gIs neg) := fun f H M x y v u P Q m rx ry ⟨b, e, p⟩ k => by
  have hx : ∃ w, v = w ∧ ((x = .non ∧ w = .non) ∨ (∃ c, x = .bl c ∧ w = .bl c) ∨ ((∀ c, x ≠ .bl c) ∧ x ≠ .non ∧ ((∃ i, w = .int i) ∨ (∃ i, w = .str i) ∨ (∃ i, w = .ref i) ∨ ∃ i, w = .ty i))) := by
    cases x with
    | non => exact ⟨_, rx, .inl ⟨rfl, rfl⟩⟩
    | bl c => exact ⟨_, rx, .inr (.inl ⟨c, rfl, rfl⟩)⟩
    | int i => exact ⟨_, rx, .inr (.inr ⟨fun _ e => (by cases e), fun e => (by cases e), .inl ⟨i, rfl⟩⟩)⟩
    | str i => exact ⟨_, rx, .inr (.inr ⟨fun _ e => (by cases e), fun e => (by cases e), .inr (.inl ⟨i, rfl⟩)⟩)⟩
    | tup l => obtain ⟨_, a, xs, e, _⟩ := rx; exact ⟨_, e, .inr (.inr ⟨fun _ e => (by cases e), fun e => (by cases e), .inr (.inr (.inl ⟨a, rfl⟩))⟩)⟩
    | lst l => obtain ⟨_, a, xs, e, _⟩ := rx; exact ⟨_, e, .inr (.inr ⟨fun _ e => (by cases e), fun e => (by cases e), .inr (.inr (.inl ⟨a, rfl⟩))⟩)⟩
    | frz l => obtain ⟨_, a, _, xs, e, _⟩ := rx; exact ⟨_, e, .inr (.inr ⟨fun _ e => (by cases e), fun e => (by cases e), .inr (.inr (.inl ⟨a, rfl⟩))⟩)⟩
    | obj C ks l => obtain ⟨a, _, xs, e, _⟩ := rx; exact ⟨_, e, .inr (.inr ⟨fun _ e => (by cases e), fun e => (by cases e), .inr (.inr (.inl ⟨a, rfl⟩))⟩)⟩
    | ref i => exact ⟨_, rx.2, .inr (.inr ⟨fun _ e => (by cases e), fun e => (by cases e), .inr (.inr (.inl ⟨_, rfl⟩))⟩)⟩
    | adr i => exact ⟨_, rx, .inr (.inr ⟨fun _ e => (by cases e), fun e => (by cases e), .inr (.inr (.inl ⟨_, rfl⟩))⟩)⟩
    | ty i => exact ⟨_, rx, .inr (.inr ⟨fun _ e => (by cases e), fun e => (by cases e), .inr (.inr (.inr ⟨_, rfl⟩))⟩)⟩
    | dic => obtain ⟨a, e, _⟩ := rx; exact ⟨_, e, .inr (.inr ⟨fun _ e => (by cases e), fun e => (by cases e), .inr (.inr (.inl ⟨a, rfl⟩))⟩)⟩
  obtain ⟨w, rfl, hx⟩ := hx
  have fin := k (.bl (if neg then !b else b)) H (.bl (if neg then !b else b)) (Same.refl H) rfl p
  cases y with
  | non =>
    cases (show u = .non from ry)
    refine ⟨b, .inl rfl, ?_, ?_, fin⟩
    · rcases hx with ⟨rfl, rfl⟩ | ⟨c, rfl, rfl⟩ | ⟨_, h2, h3⟩
      · exact (Option.some.inj e).symm
      · exact (Option.some.inj e).symm
      · have : b = false := by
          rw [← Option.some.inj e]
          cases x <;> first | rfl | exact absurd rfl h2
        rcases h3 with ⟨i, rfl⟩ | ⟨i, rfl⟩ | ⟨i, rfl⟩ | ⟨i, rfl⟩ <;> exact this
    · rcases hx with ⟨rfl, rfl⟩ | ⟨c, rfl, rfl⟩ | ⟨_, h2, ⟨i, rfl⟩ | ⟨i, rfl⟩ | ⟨i, rfl⟩ | ⟨i, rfl⟩⟩ <;> trivial
  | bl c' =>
    cases (show u = .bl c' from ry)
    refine ⟨b, .inr ⟨c', rfl⟩, ?_, ?_, fin⟩
    · rcases hx with ⟨rfl, rfl⟩ | ⟨c, rfl, rfl⟩ | ⟨h2, _, h3⟩
      · exact (Option.some.inj e).symm
      · exact (Option.some.inj e).symm
      · have : b = false := by
          rw [← Option.some.inj e]
          cases x <;> first | rfl | exact absurd rfl (h2 _)
        rcases h3 with ⟨i, rfl⟩ | ⟨i, rfl⟩ | ⟨i, rfl⟩ | ⟨i, rfl⟩ <;> exact this
    · rcases hx with ⟨rfl, rfl⟩ | ⟨c, rfl, rfl⟩ | ⟨_, h2, ⟨i, rfl⟩ | ⟨i, rfl⟩ | ⟨i, rfl⟩ | ⟨i, rfl⟩⟩ <;> trivial
  | _ => cases (show none = some b from e)
section
variable {X : Cx} {W : WX} {pos : Pos} {a b : Expr} {ta tb : DE} {k : Nat}
theorem je_in (hr : Room k X.A) (ha : JE X W a ta) (hb : JE X W b tb) (hm : behindInMarks .In b = false := by with_unfolding_all rfl) : JE X W (.Compare a [.In] [b] pos) (dOp (gIn false) ta tb) := je_cmp ((op_inD (by have := hr.un; omega)).or (op_inT (by have := hr.un; omega))) o_in ha hb hm
theorem jt_in (hr : Room k X.A) (ha : JE X W a ta) (hb : JE X W b tb) (hm : behindInMarks .In b = false := by with_unfolding_all rfl) : JT X W (.Compare a [.In] [b] pos) (dTest (dOp (gIn false) ta tb)) := jt_cmp ((op_inD (by have := hr.un; omega)).or (op_inT (by have := hr.un; omega))) o_in ha hb hm
theorem je_notIn (hr : Room k X.A) (ha : JE X W a ta) (hb : JE X W b tb) (hm : behindInMarks .NotIn b = false := by with_unfolding_all rfl) : JE X W (.Compare a [.NotIn] [b] pos) (dOp (gIn true) ta tb) := je_cmp ((op_notInD (by have := hr.un; omega)).or (op_notInT (by have := hr.un; omega))) o_notIn ha hb hm
theorem jt_notIn (hr : Room k X.A) (ha : JE X W a ta) (hb : JE X W b tb) (hm : behindInMarks .NotIn b = false := by with_unfolding_all rfl) : JT X W (.Compare a [.NotIn] [b] pos) (dTest (dOp (gIn true) ta tb)) := jt_cmp ((op_notInD (by have := hr.un; omega)).or (op_notInT (by have := hr.un; omega))) o_notIn ha hb hm
theorem je_is (ha : JE X W a ta) (hb : JE X W b tb) : JE X W (.Compare a [.Is] [b] pos) (dOp (gIs false) ta tb) := je_cmp op_isN o_is ha hb (nomark _)
theorem jt_is (ha : JE X W a ta) (hb : JE X W b tb) : JT X W (.Compare a [.Is] [b] pos) (dTest (dOp (gIs false) ta tb)) := jt_cmp op_isN o_is ha hb (nomark _)
theorem je_isNot (ha : JE X W a ta) (hb : JE X W b tb) : JE X W (.Compare a [.IsNot] [b] pos) (dOp (gIs true) ta tb) := je_cmp op_isNotN o_is ha hb (nomark _)
theorem jt_isNot (ha : JE X W a ta) (hb : JE X W b tb) : JT X W (.Compare a [.IsNot] [b] pos) (dTest (dOp (gIs true) ta tb)) := jt_cmp op_isNotN o_is ha hb (nomark _)
end
end D
end

section
set_option Elab.async false
set_option linter.all false
set_option maxRecDepth 100000
set_option maxHeartbeats 1000000
set_option autoImplicit false
/-! The deep layer, part 7: built-in calls, isinstance, places, slices. -/
namespace D
open PySem PySem.Spec PyProof.Rows L2
variable [TBL]
section
variable {n : Nat} {f : Fr} {H : Hp}
theorem rds1 {d : Dv} {vs : List V} (r : RDs n f H [d] vs) : ∃ v, vs = [v] ∧ RD n f H d v := by
  obtain ⟨v, vr, rfl, rd, e3⟩ : ∃ v vr, vs = v :: vr ∧ RD n f H d v ∧ vr = [] := r
  subst e3
  exact ⟨v, rfl, rd⟩
theorem rds2 {d e : Dv} {vs : List V} (r : RDs n f H [d, e] vs) : ∃ v u, vs = [v, u] ∧ RD n f H d v ∧ RD n f H e u := by
  obtain ⟨v, vr, rfl, rd, ur, ut, rfl, re, e3⟩ : ∃ v vr, vs = v :: vr ∧ RD n f H d v ∧ ∃ u ur, vr = u :: ur ∧ RD n f H e u ∧ ur = [] := r
  subst e3
  exact ⟨v, ur, rfl, rd, re⟩
theorem rds_ints : ∀ {ns : List Int} {vs : List V}, RDs n f H (ns.map Dv.int) vs → vs = ns.map V.int
  | [], vs, r => r
  | i :: ns, vs, r => by
    obtain ⟨v, vr, rfl, rd, rr⟩ : ∃ v vr, vs = v :: vr ∧ RD n f H (.int i) v ∧ RDs n f H (ns.map Dv.int) vr := r
    rw [rds_ints rr, show v = .int i from rd]; rfl
theorem rds_bls : ∀ {ns : List Bool} {vs : List V}, RDs n f H (ns.map Dv.bl) vs → vs = ns.map V.bl
  | [], vs, r => r
  | i :: ns, vs, r => by
    obtain ⟨v, vr, rfl, rd, rr⟩ : ∃ v vr, vs = v :: vr ∧ RD n f H (.bl i) v ∧ RDs n f H (ns.map Dv.bl) vr := r
    rw [rds_bls rr, show v = .bl i from rd]; rfl
theorem ints_rds : ∀ {ns : List Int}, RDs n f H (ns.map Dv.int) (ns.map V.int)
  | [] => rfl
  | i :: ns => ⟨_, _, rfl, rfl, ints_rds⟩
end
/-! ### len -/
def lenD (M : Mem) : Dv → Option Int
  | .str z => if z.length ≤ sizeLine then some z.length else none
  | d => (seqD M d).map fun l => (l.length : Int)
def gLen : List Dv → Mem → (Dv → Prop) → Prop := fun ds M P => ∃ d k, ds = [d] ∧ lenD M d = some k ∧ P (.int k)
theorem o_len {K : PySem.W.Frag} : Opn (fun xs H Q => (∃ p ys, xs = [.ref p] ∧ (SqL K H p ys ∨ SqT K H p ys) ∧ Q (.int ys.length) H) ∨ ∃ z, xs = [.str z] ∧ z.length ≤ sizeLine ∧ Q (.int z.length) H) gLen := fun f H M xs vs P Q m r ⟨d, k, e, hk, p⟩ fin => by
  subst e
  obtain ⟨v, rfl, rd⟩ := rds1 r
  have fin' := fin (.int k) H (.int k) (Same.refl H) rfl p
  have go : (∃ l, seqD M d = some l ∧ k = l.length) → (∃ p ys, [v] = [.ref p] ∧ (SqL K H p ys ∨ SqT K H p ys) ∧ Q (.int ys.length) H) := fun ⟨l, e, ek⟩ => by
    obtain ⟨a, ys, rfl, hq, hr, _⟩ := rd_seqM (K := K) m rd e
    exact ⟨a, ys, rfl, hq, by rw [hr.length, ← ek]; exact fin'⟩
  have go' : (seqD M d).map (fun l => (l.length : Int)) = some k → ∃ l, seqD M d = some l ∧ k = l.length := fun e => by
    cases q : seqD M d with
    | none => rw [q] at e; cases e
    | some l => rw [q] at e; exact ⟨l, rfl, (Option.some.inj e).symm⟩
  cases d with
  | str z =>
    have hk' : (if z.length ≤ sizeLine then some (z.length : Int) else none) = some k := hk
    by_cases hz : z.length ≤ sizeLine
    · rw [if_pos hz] at hk'
      cases hk'
      exact .inr ⟨z, by rw [show v = .str z from rd], hz, fin'⟩
    · rw [if_neg hz] at hk'; cases hk'
  | _ => exact .inl (go (go' hk))
/-! ### tuple(x), list(x), abs, int, max, min, sum, all, any -/
def gTuple : List Dv → Mem → (Dv → Prop) → Prop := fun ds M P => ∃ d l, ds = [d] ∧ seqD M d = some l ∧ P (.tup l)
theorem o_tuple {K : PySem.W.Frag} : Opn (fun xs H Q => ∃ p ys, xs = [.ref p] ∧ ((SqL K H p ys ∧ ∀ l, H l = none → Q (.ref l) (upd H l (.tup ys))) ∨ (SqT K H p ys ∧ Q (.ref p) H))) gTuple := fun f H M xs vs P Q m r ⟨d, l, e, hk, p⟩ fin => by
  subst e
  obtain ⟨v, rfl, rd⟩ := rds1 r
  rcases seq_cases hk with rfl | e
  · obtain ⟨a, ys, rfl, hq, hr, _⟩ := rd_tupM (K := K) rd
    exact ⟨a, ys, rfl, .inr ⟨hq, fin _ H (.tup l) (Same.refl H) rd p⟩⟩
  · obtain ⟨a, ys, rfl, hq, hr, hz⟩ := rd_lstM (K := K) m rd e
    exact ⟨a, ys, rfl, .inl ⟨hq, fun q hn => fin _ _ (.tup l) (same_new hn) (rd_tup m hn hr hz) p⟩⟩
def gList : List Dv → Mem → (Dv → Prop) → Prop := fun ds M P => ∃ d l, ds = [d] ∧ seqD M d = some l ∧ P (.lst l)
theorem o_list {K : PySem.W.Frag} : Opn (fun xs H Q => ∃ p ys, xs = [.ref p] ∧ (SqL K H p ys ∨ SqT K H p ys) ∧ ∀ l, H l = none → Q (.ref l) (upd H l (.lst ys))) gList := fun f H M xs vs P Q m r ⟨d, l, e, hk, p⟩ fin => by
  subst e
  obtain ⟨v, rfl, rd⟩ := rds1 r
  obtain ⟨a, ys, rfl, hq, hr, hz⟩ := rd_seqM (K := K) m rd hk
  exact ⟨a, ys, rfl, hq, fun q hn => fin _ _ (.lst l) (same_new hn) (rd_lst m hn hr hz) p⟩
def gAbs : List Dv → Mem → (Dv → Prop) → Prop := fun ds M P => ∃ i : Int, ds = [.int i] ∧ P (.int (i.natAbs : Nat))
theorem o_abs : Opn (fun xs H Q => ∃ i : Int, xs = [V.int i] ∧ Q (V.int (if i < 0 then -i else i)) H) gAbs := fun f H M xs vs P Q m r ⟨i, e, p⟩ fin => by
  subst e
  obtain ⟨v, rfl, rd⟩ := rds1 r
  cases (show v = .int i from rd)
  exact ⟨i, rfl, fin _ H (.int (i.natAbs : Nat)) (Same.refl H) (by
    show V.int _ = V.int _
    congr 1
    split <;> omega) p⟩
def intD : Dv → Option Int
  | .int i => some i
  | .bl b => some (if b then 1 else 0)
  | _ => none
def gInt : List Dv → Mem → (Dv → Prop) → Prop := fun ds M P => ∃ d i, ds = [d] ∧ intD d = some i ∧ P (.int i)
theorem o_int : Opn (fun xs H Q => (∃ i : Int, xs = [V.int i] ∧ Q (V.int i) H) ∨ ∃ k : Bool, xs = [V.bl k] ∧ Q (V.int (if k then 1 else 0)) H) gInt := fun f H M xs vs P Q m r ⟨d, i, e, hi, p⟩ fin => by
  subst e
  obtain ⟨v, rfl, rd⟩ := rds1 r
  cases d with
  | int j =>
    cases (show v = .int j from rd)
    cases (show some j = some i from hi)
    exact .inl ⟨i, rfl, fin _ H (.int i) (Same.refl H) rfl p⟩
  | bl b =>
    cases (show v = .bl b from rd)
    cases (show some (if b then 1 else 0) = some i from hi)
    exact .inr ⟨b, rfl, fin _ H (.int _) (Same.refl H) rfl p⟩
  | _ => cases (show none = some i from hi)
def gMax2 : List Dv → Mem → (Dv → Prop) → Prop := fun ds M P => ∃ i j : Int, ds = [.int i, .int j] ∧ P (.int (max i j))
def gMin2 : List Dv → Mem → (Dv → Prop) → Prop := fun ds M P => ∃ i j : Int, ds = [.int i, .int j] ∧ P (.int (min i j))
theorem o_max2 : Opn (fun xs H Q => ∃ i j : Int, xs = [V.int i, V.int j] ∧ Q (V.int (if j > i then j else i)) H) gMax2 := fun f H M xs vs P Q m r ⟨i, j, e, p⟩ fin => by
  subst e
  obtain ⟨v, u, rfl, r1, r2⟩ := rds2 r
  cases (show v = .int i from r1)
  cases (show u = .int j from r2)
  exact ⟨i, j, rfl, fin _ H (.int (max i j)) (Same.refl H) (by
    show V.int _ = V.int _
    congr 1
    split <;> omega) p⟩
theorem o_min2 : Opn (fun xs H Q => ∃ i j : Int, xs = [V.int i, V.int j] ∧ Q (V.int (if j < i then j else i)) H) gMin2 := fun f H M xs vs P Q m r ⟨i, j, e, p⟩ fin => by
  subst e
  obtain ⟨v, u, rfl, r1, r2⟩ := rds2 r
  cases (show v = .int i from r1)
  cases (show u = .int j from r2)
  exact ⟨i, j, rfl, fin _ H (.int (min i j)) (Same.refl H) (by
    show V.int _ = V.int _
    congr 1
    split <;> omega) p⟩
def gSum : List Dv → Mem → (Dv → Prop) → Prop := fun ds M P => ∃ (d : Dv) (ns : List Int), ds = [d] ∧ lstD M d = some (ns.map Dv.int) ∧ P (.int ns.sum)
theorem o_sum {K : PySem.W.Frag} : Opn (rSum K) gSum := fun f H M xs vs P Q m r ⟨d, ns, e, hk, p⟩ fin => by
  subst e
  obtain ⟨v, rfl, rd⟩ := rds1 r
  obtain ⟨a, ys, rfl, hq, hr, hz⟩ := rd_lstM (K := K) m rd hk
  rw [rds_ints hr] at hq
  exact ⟨a, ns, rfl, hq, fin _ H (.int _) (Same.refl H) rfl p⟩
def gMax : List Dv → Mem → (Dv → Prop) → Prop := fun ds M P => ∃ (d : Dv) (ns : List Int), ds = [d] ∧ lstD M d = some (ns.map Dv.int) ∧ 0 < ns.length ∧ ∀ m ∈ ns, (∀ y ∈ ns, y ≤ m) → P (.int m)
def gMin : List Dv → Mem → (Dv → Prop) → Prop := fun ds M P => ∃ (d : Dv) (ns : List Int), ds = [d] ∧ lstD M d = some (ns.map Dv.int) ∧ 0 < ns.length ∧ ∀ m ∈ ns, (∀ y ∈ ns, m ≤ y) → P (.int m)
theorem o_max {K : PySem.W.Frag} : Opn (rMax K) gMax := fun f H M xs vs P Q m r ⟨d, ns, e, hk, h0, p⟩ fin => by
  subst e
  obtain ⟨v, rfl, rd⟩ := rds1 r
  obtain ⟨a, ys, rfl, hq, hr, hz⟩ := rd_lstM (K := K) m rd hk
  rw [rds_ints hr] at hq
  exact ⟨a, ns, rfl, hq, h0, fun k hk' hy => fin _ H (.int k) (Same.refl H) rfl (p k hk' hy)⟩
theorem o_min {K : PySem.W.Frag} : Opn (rMin K) gMin := fun f H M xs vs P Q m r ⟨d, ns, e, hk, h0, p⟩ fin => by
  subst e
  obtain ⟨v, rfl, rd⟩ := rds1 r
  obtain ⟨a, ys, rfl, hq, hr, hz⟩ := rd_lstM (K := K) m rd hk
  rw [rds_ints hr] at hq
  exact ⟨a, ns, rfl, hq, h0, fun k hk' hy => fin _ H (.int k) (Same.refl H) rfl (p k hk' hy)⟩
def gAll : List Dv → Mem → (Dv → Prop) → Prop := fun ds M P => ∃ (d : Dv) (bs : List Bool), ds = [d] ∧ lstD M d = some (bs.map Dv.bl) ∧ P (.bl (bs.all id))
def gAny : List Dv → Mem → (Dv → Prop) → Prop := fun ds M P => ∃ (d : Dv) (bs : List Bool), ds = [d] ∧ lstD M d = some (bs.map Dv.bl) ∧ P (.bl (bs.any id))
theorem o_all {K : PySem.W.Frag} : Opn (rAll K) gAll := fun f H M xs vs P Q m r ⟨d, ns, e, hk, p⟩ fin => by
  subst e
  obtain ⟨v, rfl, rd⟩ := rds1 r
  obtain ⟨a, ys, rfl, hq, hr, hz⟩ := rd_lstM (K := K) m rd hk
  rw [rds_bls hr] at hq
  exact ⟨a, ns, rfl, hq, fin _ H (.bl _) (Same.refl H) rfl p⟩
theorem o_any {K : PySem.W.Frag} : Opn (rAny K) gAny := fun f H M xs vs P Q m r ⟨d, ns, e, hk, p⟩ fin => by
  subst e
  obtain ⟨v, rfl, rd⟩ := rds1 r
  obtain ⟨a, ys, rfl, hq, hr, hz⟩ := rd_lstM (K := K) m rd hk
  rw [rds_bls hr] at hq
  exact ⟨a, ns, rfl, hq, fin _ H (.bl _) (Same.refl H) rfl p⟩
/-- sorted(xs), ints -/
def gSortI : List Dv → Mem → (Dv → Prop) → Prop := fun ds M P => ∃ (d : Dv) (ns : List Int), ds = [d] ∧ lstD M d = some (ns.map Dv.int) ∧ ∀ ns' : List Int, ns'.Perm ns → ns'.Pairwise (· ≤ ·) → P (.lst (ns'.map Dv.int))
theorem o_sortI {K : PySem.W.Frag} : Opn (rSortedI K) gSortI := fun f H M xs vs P Q m r ⟨d, ns, e, hk, p⟩ fin => by
  subst e
  obtain ⟨v, rfl, rd⟩ := rds1 r
  obtain ⟨a, ys, rfl, hq, hr, hz⟩ := rd_lstM (K := K) m rd hk
  rw [rds_ints hr] at hq
  refine ⟨a, ns, rfl, hq, fun ns' q hp hs hn => fin _ _ (.lst (ns'.map Dv.int)) (same_new hn) (rd_lst m hn ints_rds ?_) (p ns' hp hs)⟩
  rw [List.length_map, hp.length_eq]
  rw [List.length_map] at hz
  exact hz
/-- repr of a number, of True, False, None -/
def reprD : Dv → Option Str
  | .int i => if i.natAbs.log2 < 1920 then some (toString i) else none
  | _ => none
/-! ### isinstance, built-in classes -/
def tyD (M : Mem) : Dv → Option String
  | .non => some "NoneType"
  | .bl _ => some "bool"
  | .int _ => some "int"
  | .str _ => some "str"
  | .tup _ => some "tuple"
  | .lst _ => some "list"
  | .frz _ => some "list"
  | .dic => some "dict"
  | .ref i => match M[i]? with
    | some (.lst _) => some "list"
    | _ => none
  | _ => none
def isiB (a b : String) : Bool := a == b || (a == "bool" && b == "int")
theorem kit_tab : ∀ a ∈ ["NoneType", "bool", "int", "str", "tuple", "list", "dict", "set"], ∀ b ∈ ["bool", "int", "str", "tuple", "list", "dict", "set"], kitB a b = some (isiB a b) := by decide +kernel
theorem tyD_mem {M : Mem} {d : Dv} {a : String} (e : tyD M d = some a) : a ∈ ["NoneType", "bool", "int", "str", "tuple", "list", "dict", "set"] := by
  cases d with
  | non => cases e; simp
  | bl _ => cases e; simp
  | int _ => cases e; simp
  | str _ => cases e; simp
  | tup _ => cases e; simp
  | lst _ => cases e; simp
  | frz _ => cases e; simp
  | dic => cases e; simp
  | ref i =>
    have e' : (match M[i]? with | some (.lst _) => some "list" | _ => none) = some a := e
    split at e'
    · cases e'; simp
    · cases e'
  | _ => cases e
theorem tyD_X {K : PySem.W.Frag} {f : Fr} {H : Hp} {M : Mem} {d : Dv} {v : V} {a : String} (m : RM f H M) (r : RD M.length f H d v) (e : tyD M d = some a) : TyX K H v (.type a) := by
  cases d with
  | non => cases e; cases (show v = .non from r); exact .base .non
  | bl b => cases e; cases (show v = .bl b from r); exact .base (.bl b)
  | int b => cases e; cases (show v = .int b from r); exact .base (.int b)
  | str b => cases e; cases (show v = .str b from r); exact .base (.str b)
  | tup l =>
    cases e
    obtain ⟨_, x, xs, rfl, hx, _, _⟩ : l.length ≤ sizeLine ∧ ∃ x xs, v = .ref x ∧ H x = some (.tup xs) ∧ Bes M.length f x ∧ RDs M.length f H l xs := r
    exact .base (.tup hx)
  | lst l =>
    cases e
    obtain ⟨_, x, xs, rfl, hx, _, _⟩ : l.length ≤ sizeLine ∧ ∃ x xs, v = .ref x ∧ H x = some (.lst xs) ∧ Bes M.length f x ∧ RDs M.length f H l xs := r
    exact .base (.lst hx)
  | frz l =>
    cases e
    obtain ⟨_, x, o, xs, rfl, hx, _, _⟩ : l.length ≤ sizeLine ∧ ∃ x o xs, v = .ref x ∧ H x = some (.frz o (.lst xs)) ∧ Bes M.length f x ∧ RDs M.length f H l xs := r
    exact .base (.frz hx)
  | dic =>
    cases e
    obtain ⟨x, rfl, hx, _⟩ : ∃ x, v = .ref x ∧ H x = some (.dK []) ∧ Bes M.length f x := r
    exact .base (.dK hx)
  | ref i =>
    have e' : (match M[i]? with | some (.lst _) => some "list" | _ => none) = some a := e
    obtain ⟨_, rfl⟩ : i < M.length ∧ v = .ref (f i) := r
    split at e'
    · rename_i l q
      cases e'
      obtain ⟨_, xs, hx, _⟩ : l.length ≤ sizeLine ∧ ∃ xs, H (f i) = some (.lst xs) ∧ RDs M.length f H l xs := m.ob i _ q
      exact .base (.lst hx)
    · cases e'
  | _ => cases e
def gIsi : List Dv → Mem → (Dv → Prop) → Prop := fun ds M P => ∃ d a b, ds = [d, .ty b] ∧ tyD M d = some a ∧ b ∈ ["bool", "int", "str", "tuple", "list", "dict", "set"] ∧ P (.bl (isiB a b))
theorem o_isi {K : PySem.W.Frag} : Opn (rIsi K) gIsi := fun f H M xs vs P Q m r ⟨d, a, b, e, ht, hb, p⟩ fin => by
  subst e
  obtain ⟨v, u, rfl, r1, r2⟩ := rds2 r
  cases (show u = .ty b from r2)
  exact ⟨v, .ty b, .type a, .type b, isiB a b, rfl, .ty b, tyD_X m r1 ht, kit_ty (kit_tab a (tyD_mem ht) b hb), fin _ H (.bl _) (Same.refl H) rfl p⟩
def gIsiT : List Dv → Mem → (Dv → Prop) → Prop := fun ds M P => ∃ d a b c, ds = [d, .tup [.ty b, .ty c]] ∧ tyD M d = some a ∧ b ∈ ["bool", "int", "str", "tuple", "list", "dict", "set"] ∧ c ∈ ["bool", "int", "str", "tuple", "list", "dict", "set"] ∧ P (.bl (isiB a b || isiB a c))
theorem o_isiT {K : PySem.W.Frag} : Opn (rIsiT K) gIsiT := fun f H M xs vs P Q m r ⟨d, a, b, c, e, ht, hb, hc, p⟩ fin => by
  subst e
  obtain ⟨v, u, rfl, r1, r2⟩ := rds2 r
  obtain ⟨_, x, ys, rfl, hx, _, hy⟩ : [Dv.ty b, Dv.ty c].length ≤ sizeLine ∧ ∃ x xs, u = .ref x ∧ H x = some (.tup xs) ∧ Bes M.length f x ∧ RDs M.length f H [Dv.ty b, Dv.ty c] xs := r2
  obtain ⟨v1, v2, rfl, q1, q2⟩ := rds2 hy
  cases (show v1 = .ty b from q1)
  cases (show v2 = .ty c from q2)
  refine ⟨v, x, _, .type a, [.type b, .type c], isiB a b || isiB a c, rfl, hx, .cons (.ty b) (.cons (.ty c) .nil), tyD_X m r1 ht, ?_, fin _ H (.bl _) (Same.refl H) rfl p⟩
  refine kitAny_cons (kit_ty (kit_tab a (tyD_mem ht) b hb)) (fun h => ?_) (fun h => by rw [h]; rfl)
  rw [h, Bool.false_or]
  refine kitAny_cons (kit_ty (kit_tab a (tyD_mem ht) c hc)) (fun h' => ?_) (fun h' => h')
  rw [h']; rfl
section
variable {X : Cx} {W : WX} {pos p : Pos} {e : Expr} {es : List Expr} {u : DA} {k : Nat}
theorem je_bty {x : Str} {T : String} (hg : Gl X x) (hm : X.mg x = none) (hv : bootBuiltins x = some (.type T)) (hn : x ≠ "__name__" := by decide) (hd : (x == ("__debug__" : Str)) = false := by decide) : JE X W (.Name x pos) (dC (.ty T)) :=
  je_con (v := .ty T) ⟨fun pins s σ H Q I h => ld_blt I hg hm hv ⟨.ty T, H, I, rfl, h⟩ hn hd⟩ fun _ _ _ => rfl
end
/-! ### places -/
def gIx : Dv → Dv → Mem → (Dv → Prop) → Prop := fun x y M P => ∃ i, y = .int i ∧ ((∃ l d, seqD M x = some l ∧ atI l i = some d ∧ P d) ∨ ∃ z c, x = .str z ∧ z.length ≤ sizeLine ∧ atI z.cps.toList i = some c ∧ P (.str ⟨#[c]⟩))
theorem at_rds {n : Nat} {f : Fr} {H : Hp} {l : List Dv} {vs : List V} {i : Int} {d : Dv} (r : RDs n f H l vs) (e : atI l i = some d) : ∃ v, atI vs i = some v ∧ RD n f H d v := by
  unfold atI at e ⊢
  rw [r.length]
  cases q : ixN l.length i with
  | none => rw [q] at e; cases e
  | some j =>
    rw [q] at e
    exact r.get e
theorem o_ix {K : PySem.W.Frag} : Op2 (rIx K) gIx := fun f H M x y v u P Q m rx ry ⟨i, ey, h⟩ k => by
  subst ey
  cases (show u = .int i from ry)
  rcases h with ⟨l, d, e, ha, p⟩ | ⟨z, c, rfl, hz, ha, p⟩
  · rcases seq_cases e with rfl | e
    · obtain ⟨a, ys, rfl, hq, hr, _⟩ := rd_tupM (K := K) rx
      obtain ⟨w, e1, e2⟩ := at_rds hr ha
      exact .inr (.inl ⟨a, ys, i, w, rfl, rfl, hq, e1, k w H d (Same.refl H) e2 p⟩)
    · obtain ⟨a, ys, rfl, hq, hr, _⟩ := rd_lstM (K := K) m rx e
      obtain ⟨w, e1, e2⟩ := at_rds hr ha
      exact .inl ⟨a, ys, i, w, rfl, rfl, hq, e1, k w H d (Same.refl H) e2 p⟩
  · cases (show v = .str z from rx)
    exact .inr (.inr ⟨z, i, c, rfl, rfl, hz, ha, k _ H (.str _) (Same.refl H) rfl p⟩)
theorem je_at {X : Cx} {W : WX} {pos : Pos} {a b : Expr} {ta tb : DE} (ha : JE X W a ta) (hb : JE X W b tb) (hs : PlainIx b := by intro _ _; rfl) : JE X W (.Subscript a b pos) (dOp gIx ta tb) := je_ix ix_seq o_ix ha hb hs
/-! ### slices -/
abbrev DO := Loc → Mem → (Option Int → Mem → Prop) → PX → Prop
def lO (W : WX) (t : DO) : TO := fun s H Q => ∃ (f : Fr) (l : Loc) (M : Mem) (P : Option Int → Mem → Prop) (X : PX), RM f H M ∧ RL M.length f H l s ∧ t l M P X ∧
  (∀ (f' : Fr) (H' : Hp) (M' : Mem) (o : Option Int), Lt M.length f H M'.length f' H' → RM f' H' M' → P o M' → Q o H') ∧ KX W s M.length f H X
abbrev JO (X : Cx) (W : WX) (e : Option Expr) (t : DO) : Prop := PO X e (lO W t)
def dNoP : DO := fun _ M P _ => P none M
def dPart (te : DE) : DO := fun l M P X => te l M (fun d M1 => ∃ i, d = .int i ∧ P (some i) M1) X
def cutD (l : List Dv) (lo hi : Option Int) : List Dv := (l.drop (HT.sIx l.length 0 lo)).take (HT.sIx l.length l.length hi - HT.sIx l.length 0 lo)
def gSl (x : Dv) (lo hi : Option Int) (M : Mem) (P : Dv → Prop) : Prop := match x with
  | .tup l => P (.tup (cutD l lo hi))
  | _ => ∃ l, lstD M x = some l ∧ P (.lst (cutD l lo hi))
def dSl (te : DE) (tl th : DO) : DE := fun l M P X => te l M (fun x M1 => tl l M1 (fun lo M2 => th l M2 (fun hi M3 => gSl x lo hi M3 fun d => P d M3) X) X) X
section
variable {X : Cx} {W : WX} {pos p2 : Pos} {e : Expr} {te : DE} {lo hi : Option Expr} {tl th : DO}
theorem jo_none : JO X W none dNoP := ⟨fun pins s σ H Q I ⟨f, l, M, P, Y, m, rl, h, k, kx⟩ => po_none.run pins s σ H Q I (k f H M none Lt.refl m h)⟩
theorem jo_some (h : JE X W e te) : JO X W (some e) (dPart te) := ⟨fun pins s σ H Q I ⟨f, l, M, P, Y, m, rl, hh, k, kx⟩ => (po_some h).run pins s σ H Q I ⟨f, l, M, _, Y, m, rl, hh, fun f' H' M' d v x m' r' ⟨i, e, p⟩ => by
  subst e
  exact ⟨i, r', k f' H' M' (some i) x m' p⟩, kx⟩⟩
theorem cut_rds {n : Nat} {f : Fr} {H : Hp} {l : List Dv} {vs : List V} {lo hi : Option Int} (r : RDs n f H l vs) : RDs n f H (cutD l lo hi) (cutV vs lo hi) := by
  unfold cutD cutV
  rw [r.length]
  exact (r.drop _).take _
theorem cut_len {l : List Dv} {lo hi : Option Int} (h : l.length ≤ sizeLine) : (cutD l lo hi).length ≤ sizeLine := by
  unfold cutD
  rw [List.length_take, List.length_drop]
  omega
theorem cut_all {l : List Dv} {lo hi : Option Int} (h : HT.sIx l.length 0 lo = 0 ∧ HT.sIx l.length l.length hi = l.length) : cutD l lo hi = l := by
  unfold cutD
  rw [h.1, h.2]
  simp
theorem je_slice (he : JE X W e te) (hl : JO X W lo tl) (hu : JO X W hi th) : JE X W (.Subscript e (.Slice lo hi none p2) pos) (dSl te tl th) :=
  pe_imp (pe_slice (sl_list.or sl_tupA) he hl hu) fun s H Q ⟨f, l, M, P, Y, m, rl, h, k, kx⟩ => ⟨f, l, M, _, Y, m, rl, h, fun f1 H1 M1 d v x1 m1 r1 h1 =>
    ⟨f1, l, M1, _, Y, m1, rl.mono x1, h1, fun f2 H2 M2 o x2 m2 h2 => ⟨f2, l, M2, _, Y, m2, rl.mono (x1.trans x2), h2, fun f3 H3 M3 o' x3 m3 h3 => by
      have r3 := (r1.mono x2).mono x3
      have lists : (∃ l, lstD M3 d = some l ∧ P (.lst (cutD l o o')) M3) → (∃ a xs, v = .ref a ∧ SqL X.K H3 a xs ∧ ∀ p, H3 p = none → Q (.ref p) (upd H3 p (.lst (cutV xs o o')))) := fun ⟨l, e, p⟩ => by
        obtain ⟨a, ys, rfl, hq, hr, hz⟩ := rd_lstM (K := X.K) m3 r3 e
        exact ⟨a, ys, rfl, hq, fun q hn => k _ _ M3 (.lst (cutD l o o')) _ (((x1.trans x2).trans x3).trans (Lt.same (same_new hn))) (m3.same (same_new hn)) (rd_lst m3 hn (cut_rds hr) (cut_len hz)) p⟩
      cases d with
      | tup l =>
        obtain ⟨a, ys, rfl, hq, hr, hz⟩ := rd_tupM (K := X.K) r3
        have hlen := hr.length
        refine .inr ⟨a, ys, rfl, hq, fun hw => ?_, fun _ q hn => k _ _ M3 (.tup (cutD l o o')) _ (((x1.trans x2).trans x3).trans (Lt.same (same_new hn))) (m3.same (same_new hn)) (rd_tup m3 hn (cut_rds hr) (cut_len hz)) h3⟩
        rw [hlen] at hw
        have h3' : P (.tup (cutD l o o')) M3 := h3
        rw [cut_all hw] at h3'
        exact k f3 H3 M3 (.tup l) _ ((x1.trans x2).trans x3) m3 r3 h3'
      | _ => exact .inl (lists h3), (kx.mono x1).mono x2⟩, kx.mono x1⟩, kx⟩
/-- xs[::-1] of a list -/
def dRev (te : DE) : DE := fun l M P X => te l M (fun d M1 => ∃ xs, lstD M1 d = some xs ∧ P (.lst xs.reverse) M1) X
def dRevM (te : DE) : DE := fun l M P X => te l M (fun d M1 => ∃ xs, lstD M1 d = some xs ∧ P (.ref M1.length) (M1 ++ [.lst xs.reverse])) X
theorem je_rev {k : Nat} {p1 p3 : Pos} (he : JE X W e te) : JE X W (.Subscript e (.Slice none none (some (.UnaryOp .USub (.Constant (.int 1) k p1) p2)) p3) pos) (dRev te) :=
  pe_imp (pe_revL he) fun s H Q ⟨f, l, M, P, Y, m, rl, h, k, kx⟩ => ⟨f, l, M, _, Y, m, rl, h, fun f1 H1 M1 d v x1 m1 r1 ⟨xs, e, p⟩ => by
    obtain ⟨a, ys, rfl, hq, hr, hz⟩ := rd_lstM (K := X.K) m1 r1 e
    exact ⟨a, ys, rfl, hq, fun q hn => k _ _ M1 (.lst xs.reverse) _ (x1.trans (Lt.same (same_new hn))) (m1.same (same_new hn)) (rd_lst m1 hn hr.rev (by rw [List.length_reverse]; exact hz)) p⟩, kx⟩
theorem je_revM {k : Nat} {p1 p3 : Pos} (he : JE X W e te) : JE X W (.Subscript e (.Slice none none (some (.UnaryOp .USub (.Constant (.int 1) k p1) p2)) p3) pos) (dRevM te) :=
  pe_imp (pe_revL he) fun s H Q ⟨f, l, M, P, Y, m, rl, h, k, kx⟩ => ⟨f, l, M, _, Y, m, rl, h, fun f1 H1 M1 d v x1 m1 r1 ⟨xs, e, p⟩ => by
    obtain ⟨a, ys, rfl, hq, hr, hz⟩ := rd_lstM (K := X.K) m1 r1 e
    exact ⟨a, ys, rfl, hq, fun q hn => k _ _ (M1 ++ [.lst xs.reverse]) (.ref M1.length) (.ref q) (x1.trans (lt_newl hn)) (rm_newl m1 hn hr.rev (by rw [List.length_reverse]; exact hz)) rd_newl p⟩, kx⟩
end
end D
end

section
set_option Elab.async false
set_option linter.all false
set_option maxRecDepth 100000
set_option maxHeartbeats 1000000
set_option autoImplicit false
/-! The deep layer, part 8: methods of lists that change, chained comparisons, calls with keywords, three at once. -/
namespace D
open PySem PySem.Spec PyProof.Rows L2
variable [TBL]
/-! ### methods -/
def dAppend (to : DE) (u : DA) : DE := fun l M P X => to l M (fun d M1 => ∃ i xs0, d = .ref i ∧ M1[i]? = some (.lst xs0) ∧
  u l M1 (fun ds M2 => ∃ y xs, ds = [y] ∧ M2[i]? = some (.lst xs) ∧ xs.length < sizeLine ∧ P .non (M2.set i (.lst (xs ++ [y])))) X) X
def dPop (to : DE) : DE := fun l M P X => to l M (fun d M1 => ∃ i xs y, d = .ref i ∧ M1[i]? = some (.lst xs) ∧ xs[xs.length - 1]? = some y ∧ P y (M1.set i (.lst xs.dropLast))) X
section
variable {X : Cx} {W : WX} {pos apos cpos : Pos} {o e : Expr} {to ta : DE}
theorem rm_lst {f : Fr} {H : Hp} {M : Mem} {i : Nat} {xs : List Dv} (m : RM f H M) (h : M[i]? = some (.lst xs)) : i < M.length ∧ xs.length ≤ sizeLine ∧ ∃ vs, H (f i) = some (.lst vs) ∧ RDs M.length f H xs vs :=
  have hr : xs.length ≤ sizeLine ∧ ∃ vs, H (f i) = some (.lst vs) ∧ RDs M.length f H xs vs := m.ob i _ h
  ⟨(List.getElem?_eq_some_iff.mp h).1, hr⟩
/-- a list of the memory gets other items -/
theorem rm_put {f : Fr} {H : Hp} {M : Mem} {i : Nat} {ys : List Dv} {vs us : List V} (m : RM f H M) (hi : i < M.length) (hH : H (f i) = some (.lst vs)) (hz : ys.length ≤ sizeLine) (r : RDs M.length f H ys us) :
    Lt M.length f H (M.set i (.lst ys)).length f (upd H (f i) (.lst us)) ∧ RM f (upd H (f i) (.lst us)) (M.set i (.lst ys)) := by
  have L' : Lt M.length f H M.length f (upd H (f i) (.lst us)) := lt_set hi (by rw [hH]; exact fun e => by cases e)
  exact ⟨by rw [List.length_set]; exact L', m.set hi ⟨hz, us, upd_same, r.mono L'⟩⟩
theorem je_append {u : DA} (ho : JE X W o to) (ha : JA X W [e] u)
    (hbase : attributeBase o "append" X.env (eval o X.env) = eval o X.env := by rfl)
    (hfew : ((backTo cpos (starEach [e] X.env)).all (fun x => !x.1) && (backToKw cpos (keywordEach [] X.env)).all (fun x => x.1.isSome)
      && decide ([e].length + ([] : List Keyword).length + (if ([] : List Keyword).isEmpty then 0 else 1) < 30)) = true := by rfl)
    (hline : (apos.endLine == cpos.line) = true := by rfl) (hs : starEach [e] X.env = (false, eval e X.env) :: starEach [] X.env := by rfl) (hplain : (backTo cpos (starEach [] X.env)).any (·.1) = false := by rfl) :
    JE X W (.Call (.Attribute o "append" apos) [e] [] cpos) (dAppend to u) :=
  pe_imp (pe_bm PySem.F.plainAttrs_list PySem.F.slot_list_append PySem.F.type_list_append mt_append ho ha hbase hfew hline hs hplain) fun s H Q ⟨f, l, M, P, Y, m, rl, h, k, kx⟩ =>
    ⟨f, l, M, _, Y, m, rl, h, fun f1 H1 M1 d v x1 m1 r1 ⟨i, xs0, ed, e0, h1⟩ => by
      subst ed
      obtain ⟨hi, rfl⟩ : i < M1.length ∧ v = .ref (f1 i) := r1
      obtain ⟨_, _, vs0, hH0, _⟩ := rm_lst m1 e0
      refine ⟨.inl ⟨rfl, vs0, .inl (.inl hH0)⟩, f1, l, M1, _, Y, m1, rl.mono x1, h1, fun f2 H2 M2 ds us x2 m2 r2 ⟨y, xs, ed, e2, hz, p⟩ => ?_, kx.mono x1⟩
      subst ed
      obtain ⟨w, rfl, rw_⟩ := rds1 r2
      obtain ⟨hi2, hz2, vs, hH, hv⟩ := rm_lst m2 e2
      have ea : f2 i = f1 i := x2.ag i hi
      obtain ⟨L3, m3⟩ := rm_put (ys := xs ++ [y]) (us := vs ++ [w]) m2 hi2 hH (by rw [List.length_append]; simp; omega) (hv.app (.cons rw_ .nil))
      refine ⟨f1 i, vs, w, rfl, rfl, by rw [← ea]; exact hH, by rw [hv.length]; exact hz, ?_⟩
      rw [← ea]
      exact k f2 _ _ .non .non ((x1.trans x2).trans L3) m3 rfl p, kx⟩
theorem je_pop (ho : JE X W o to) (hbase : attributeBase o "pop" X.env (eval o X.env) = eval o X.env := by rfl) (hline : (apos.endLine == cpos.line) = true := by rfl) : JE X W (.Call (.Attribute o "pop" apos) [] [] cpos) (dPop to) :=
  pe_imp (pe_bm0 PySem.F.plainAttrs_list PySem.F.slot_list_pop PySem.F.type_list_pop mt_pop ho hbase hline) fun s H Q ⟨f, l, M, P, Y, m, rl, h, k, kx⟩ =>
    ⟨f, l, M, _, Y, m, rl, h, fun f1 H1 M1 d v x1 m1 r1 ⟨i, xs, y, ed, e0, ey, h1⟩ => by
      subst ed
      obtain ⟨hi, rfl⟩ : i < M1.length ∧ v = .ref (f1 i) := r1
      obtain ⟨_, hz, vs, hH, hv⟩ := rm_lst m1 e0
      obtain ⟨w, ew, rw_⟩ := hv.get ey
      obtain ⟨L3, m3⟩ := rm_put (ys := xs.dropLast) (us := vs.dropLast) m1 hi hH (by rw [List.length_dropLast]; omega) (by
        rw [List.dropLast_eq_take, List.dropLast_eq_take, hv.length]; exact hv.take _)
      exact ⟨.inl ⟨rfl, vs, .inl (.inl hH)⟩, f1 i, vs, w, rfl, rfl, hH, by rw [hv.length]; exact ew, k f1 _ _ y w (x1.trans L3) m3 (rw_.mono L3) h1⟩, kx⟩
end
/-! ### a op b op c -/
def dChain (g g' : Dv → Dv → Mem → (Dv → Prop) → Prop) (ta tb tc : DE) : DE := fun l M P X => ta l M (fun x M1 => tb l M1 (fun y M2 => g x y M2 fun z => ∃ k, z = .bl k ∧
  if k = true then tc l M2 (fun w M3 => g' y w M3 fun d => P d M3) X else P (.bl false) M2) X) X
section
variable {X : Cx} {W : WX} {pos : Pos} {a b c : Expr} {ta tb tc : DE} {op op' : CmpOp} {r r' : R2} {g g' : Dv → Dv → Mem → (Dv → Prop) → Prop}
theorem chain_T (hg : Op2 r g) (hg' : Op2 r' g') (s : L2.St) (H : Hp) (Q : VK) (h : lE W (dChain g g' ta tb tc) s H Q) : tChain r r' (lE W ta) (lE W tb) (lE W tc) s H Q := by
  obtain ⟨f, l, M, P, Y, m, rl, h, k, kx⟩ := h
  refine ⟨f, l, M, _, Y, m, rl, h, fun f1 H1 M1 x v L1 m1 r1 h1 => ?_, kx⟩
  refine ⟨f1, l, M1, _, Y, m1, rl.mono L1, h1, fun f2 H2 M2 y u L2 m2 r2 h2 => ?_, kx.mono L1⟩
  refine hg f2 H2 M2 x y v u _ _ m2 (r1.mono L2) r2 h2 fun w H3 d sm rd ⟨kk, ed, h3⟩ => ?_
  subst ed
  have L3 := (L1.trans L2).trans (Lt.same sm)
  have m3 := m2.same sm
  refine ⟨kk, rd, ?_⟩
  cases kk with
  | false =>
    rw [if_neg Bool.false_ne_true] at h3 ⊢
    exact k f2 H3 M2 (.bl false) _ L3 m3 rfl h3
  | true =>
    rw [if_pos rfl] at h3 ⊢
    refine ⟨f2, l, M2, _, Y, m3, rl.mono L3, h3, fun f4 H4 M4 z w' L4 m4 r4 h4 => ?_, kx.mono L3⟩
    exact hg' f4 H4 M4 y z u w' _ Q m4 ((r2.mono (Lt.same sm)).mono L4) r4 h4 fun w5 H5 d sm5 rd5 p => k f4 H5 M4 d w5 ((L3.trans L4).trans (Lt.same sm5)) (m4.same sm5) rd5 p
theorem je_chain (ho : OpR X (compareOp op) r) (ho' : OpR X (compareOp op') r') (hg : Op2 r g) (hg' : Op2 r' g') (ha : JE X W a ta) (hb : JE X W b tb) (hc : JE X W c tc)
    (hm : lastMarks [op, op'] [b, c] = false := by with_unfolding_all rfl) : JE X W (.Compare a [op, op'] [b, c] pos) (dChain g g' ta tb tc) := pe_imp (pe_chain ho ho' ha hb hc hm) (chain_T hg hg')
theorem jt_chain (ho : OpR X (compareOp op) r) (ho' : OpR X (compareOp op') r') (hg : Op2 r g) (hg' : Op2 r' g') (ha : JE X W a ta) (hb : JE X W b tb) (hc : JE X W c tc)
    (hm : lastMarks [op, op'] [b, c] = false := by with_unfolding_all rfl) : JT X W (.Compare a [op, op'] [b, c] pos) (dTest (dChain g g' ta tb tc)) :=
  pt_imp (pt_chain ho ho' ha hb hc hm) fun s H Q h => by
    obtain ⟨f, l, M, P, Y, m, rl, h, k, kx⟩ := h
    refine chain_T hg hg' s H _ ⟨f, l, M, _, Y, m, rl, h, fun f1 H1 M1 x v L1 m1 r1 h1 => ?_, kx⟩
    obtain ⟨c, rfl, p⟩ := h1
    exact ⟨c, r1, k f1 H1 M1 c L1 m1 p⟩
end
/-! ### three names at once -/
section
variable {X : Cx} {W : WX} {pos : Pos} {a b c : Expr}
theorem js_par3 {i j q : Nat} {x y z : Str} {u : DA} {px py pz pt : Pos} {kt k2 pt2} (hc : X.calm = true) (hN : X.N.Nodup) (hi : X.N[i]? = some x) (hj : X.N[j]? = some y) (hl : X.N[q]? = some z) (hij : i ≠ j) (hil : i ≠ q) (hjl : j ≠ q)
    (hx : X.env.scope.names.lookup x = some .local) (hy : X.env.scope.names.lookup y = some .local) (hz : X.env.scope.names.lookup z = some .local) (ha : JA X W [a, b, c] u)
    (hw : swappedStores [.Tuple [.Name x px, .Name y py, .Name z pz] kt pt] (.Tuple [a, b, c] k2 pt2) X.env = pure (some [x, y, z]))
    (hs : swapsWithSole [.Tuple [.Name x px, .Name y py, .Name z pz] kt pt] (.Tuple [a, b, c] k2 pt2) pos.line X.env = pure false := by rfl) :
    JS X W (.Assign [.Tuple [.Name x px, .Name y py, .Name z pz] kt pt] (.Tuple [a, b, c] k2 pt2) pos) (dPar3 i j q u) :=
  ps_imp (ps_par3 hc hN hi hj hl hij hil hjl hx hy hz ha hw hs) dpar3_T
end
/-! ### calls with keywords -/
/-- of l the items at the places ix -/
def pick {α : Type} : List Nat → List α → List α
  | [], _ => []
  | i :: r, l => match l[i]? with
    | some x => x :: pick r l
    | none => pick r l
theorem pick_vals {vs : List V} {us : List Value} (h : Vals vs us) : ∀ ix : List Nat, Vals (pick ix vs) (pick ix us)
  | [] => .nil
  | i :: r => by
    have hl := h.length
    unfold pick
    cases e : vs[i]? with
    | some x =>
      obtain ⟨u, eu, ru⟩ := h.get e
      rw [eu]
      exact .cons ru (pick_vals h r)
    | none =>
      have hu : us[i]? = none := by
        rw [List.getElem?_eq_none_iff] at e ⊢
        omega
      rw [hu]
      exact pick_vals h r
theorem pick_rds {n : Nat} {f : Fr} {H : Hp} {ds : List Dv} {vs : List V} (h : RDs n f H ds vs) : ∀ ix : List Nat, RDs n f H (pick ix ds) (pick ix vs)
  | [] => rfl
  | i :: r => by
    have hl := h.length
    unfold pick
    cases e : ds[i]? with
    | some x =>
      obtain ⟨u, eu, ru⟩ := h.get e
      rw [eu]
      exact .cons ru (pick_rds h r)
    | none =>
      have hu : vs[i]? = none := by
        rw [List.getElem?_eq_none_iff] at e ⊢
        omega
      rw [hu]
      exact pick_rds h r
/-- n values and keywords named ks bind so -/
structure KwB (fd : FuncData) (ps : List Str) (n : Nat) (ks : List Str) (ix : List Nat) : Prop where
  to : ∀ us ws : List Value, us.length = n → ws.length = ks.length → bindArgs fd ⟨us, ks.zip ws⟩ = pure (ps.zip (pick ix (us ++ ws)))
abbrev JK (X : Cx) (W : WX) (kws : List Keyword) (t : DA) : Prop := PK X kws (lA W t)
def dCallK (S : DSp) (ix : List Nat) (n m : Nat) (u uk : DA) : DE := fun l M P X => u l M (fun ds M1 => uk l M1 (fun zs M2 => ds.length = n ∧ zs.length = m ∧ S (pick ix (ds ++ zs)) M2 P X) X) X
section
variable {X : Cx} {W : WX} {pos p kpos : Pos} {e : Expr} {es : List Expr} {kws : List Keyword} {u uk : DA} {te : DE} {nm : Option Str} {ps ks : List Str} {n : Nat} {ix : List Nat} {S : DSp} {k : Nat} {f : Addr} {fd : FuncData} {x : Str}
theorem jk_nil : JK X W [] dNil := ⟨fun _ pins s σ H Q I ⟨f, l, M, P, Y, m, rl, h, k, kx⟩ => wpAny_evalAll_nil ⟨[], H, I, .nil, k f H M [] [] Lt.refl m rfl h⟩⟩
theorem jk_cons (ha : JE X W e te) (hr : JK X W kws u) : JK X W (⟨nm, e, kpos⟩ :: kws) (dCons te u) := ⟨fun pos pins s σ H Q I ⟨f, l, M, P, Y, m, rl, h, k, kx⟩ => (pk_cons (nm := nm) (kpos := kpos) ha hr).run pos pins s σ H Q I
  ⟨f, l, M, _, Y, m, rl, h, fun f1 H1 M1 d v L1 m1 r1 h1 => ⟨f1, l, M1, _, Y, m1, rl.mono L1, h1, fun f2 H2 M2 ds vs L2 m2 r2 h2 => k f2 H2 M2 (d :: ds) (v :: vs) (L1.trans L2) m2 (.cons (r1.mono L2) r2) h2, kx.mono L1⟩, kx⟩⟩
theorem run_k (F : FnG X.prog X.w X.K X.mg X.base k f fd ps S) (hr : Room k X.A) (hgu : X.A.guards = some []) (tk : Takes X W) (hb : KwB fd ps n ks ix) {pins : List (Addr × Obj)} {σ : L2.St} {H : Hp} {s : Shared} {Q : VK} {us ws : List Value} {vs zs : List V} {ds es : List Dv} {f0 : Fr} {M : Mem} {Pd : PD} {Y : PX}
    (I : Inv X pins σ H s) (r : Vals vs us) (rz : Vals zs ws) (m : RM f0 H M) (rd : RDs M.length f0 H ds vs) (re : RDs M.length f0 H es zs) (l1 : ds.length = n) (l2 : es.length = ks.length) (h : S (pick ix (ds ++ es)) M Pd Y)
    (kk : KE M.length f0 H Pd Q) (kx : KX W σ M.length f0 H Y) : wpAny (model X.prog X.w) X.A (call (.ref f) us (ks.zip ws)) (EP X pins σ Q) X.xe s := by
  have rr := pick_vals (r.append rz) ix
  have b : BindsTo s fd ⟨us, ks.zip ws⟩ (ps.zip (pick ix (us ++ ws))) := .of_eq (hb.to us ws (by rw [← r.length, rd.length, l1]) (by rw [← rz.length, re.length, l2]))
  refine wpAny_call (codeAny_mono (run_g F hr hgu (E := WE W) (passAt tk σ) I b rr ⟨f0, M, _, Pd, Y, m, pick_rds (rd.app re) ix, h, kk, fun f' H' M' C d a L2 m2 r2 h2 => kx f' H' M' C d a L2 m2 r2 h2⟩) fun res s' hq => ?_)
  cases res with
  | error e => exact hq
  | ok fl => cases fl <;> exact hq
theorem je_callK0 (F : FnG X.prog X.w X.K X.mg X.base k f fd ps S) (hr : Room k X.A) (hgu : X.A.guards = some []) (tk : Takes X W) (hg : Gl X x) (hm : X.mg x = some (.ref f)) (hk : PySem.W.keepIn X.K (.ref f) = true) (hb : KwB fd ps 0 ks ix)
    (hkw : JK X W kws uk) (hall : (backToKw pos (keywordEach kws X.env)).all (·.1.isSome) = true := by rfl) (hks : (backToKw pos (keywordEach kws X.env)).filterMap (·.1) = ks := by rfl) (hdb : (x == ("__debug__" : Str)) = false := by decide)
    (hpl : ((backTo pos (starEach [] X.env)).any (·.1) || (backToKw pos (keywordEach kws X.env)).any (·.1.isNone)) = false := by rfl) :
    JE X W (.Call (.Name x p) [] kws pos) (dCallK S ix 0 ks.length dNil uk) := by
  refine ⟨fun pins s σ H Q I ⟨f0, l, M, Pd, Y, m, rl, h, kk, kx⟩ => ?_⟩
  refine wpAny_Call_Name_kw (ld_glob I hg hm ?_ hdb)
  refine PySem.W.callWith_KW0 (h₀ := X.base) I.ok.mod.kin hk hall ?_ hpl
  refine thn (hkw.run pos pins s σ H (fun zs H2 => ∃ (f2 : Fr) (M2 : Mem) (es : List Dv), Lt M.length f0 H M2.length f2 H2 ∧ RM f2 H2 M2 ∧ RDs M2.length f2 H2 es zs ∧ es.length = ks.length ∧ S (pick ix ([] ++ es)) M2 Pd Y) I
    ⟨f0, l, M, _, Y, m, rl, h, fun f1 H1 M1 zs vs L1 m1 r1 ⟨_, h1, h2⟩ => ⟨f1, M1, zs, L1, m1, r1, h1, h2⟩, kx⟩) fun ws s2 ⟨zs, H2, I2, rz, f2, M2, es, L2, m2, re, l2, q2⟩ => ⟨I2.kIn, ?_⟩
  rw [hks]
  exact run_k F hr hgu tk hb (us := []) (vs := []) (ds := []) I2 .nil rz m2 rfl re rfl l2 q2 (kk.mono L2) (kx.mono L2)
theorem je_callK (F : FnG X.prog X.w X.K X.mg X.base k f fd ps S) (hr : Room k X.A) (hgu : X.A.guards = some []) (tk : Takes X W) (hg : Gl X x) (hm : X.mg x = some (.ref f)) (hk : PySem.W.keepIn X.K (.ref f) = true) (hb : KwB fd ps n ks ix)
    (ha : JA X W (e :: es) u) (hkw : JK X W kws uk) (hall : (backToKw pos (keywordEach kws X.env)).all (·.1.isSome) = true := by rfl) (hks : (backToKw pos (keywordEach kws X.env)).filterMap (·.1) = ks := by rfl) (hdb : (x == ("__debug__" : Str)) = false := by decide)
    (he : starEach (e :: es) X.env = (false, eval e X.env) :: starEach es X.env := by rfl)
    (hpl : ((backTo pos (starEach (e :: es) X.env)).any (·.1) || (backToKw pos (keywordEach kws X.env)).any (·.1.isNone)) = false := by rfl) :
    JE X W (.Call (.Name x p) (e :: es) kws pos) (dCallK S ix n ks.length u uk) := by
  refine ⟨fun pins s σ H Q I ⟨f0, l, M, Pd, Y, m, rl, h, kk, kx⟩ => ?_⟩
  refine wpAny_Call_Name_kw (ld_glob I hg hm ?_ hdb)
  refine PySem.W.callWith_KW (h₀ := X.base) I.ok.mod.kin hk hall (thn (ha.run pos pins s σ H (fun vs H1 => ∃ (f1 : Fr) (M1 : Mem) (ds : List Dv), Lt M.length f0 H M1.length f1 H1 ∧ RM f1 H1 M1 ∧ RDs M1.length f1 H1 ds vs ∧
      uk l M1 (fun zs M2 => ds.length = n ∧ zs.length = ks.length ∧ S (pick ix (ds ++ zs)) M2 Pd Y) Y) I
    ⟨f0, l, M, _, Y, m, rl, h, fun f1 H1 M1 ds vs L1 m1 r1 h1 => ⟨f1, M1, ds, L1, m1, r1, h1⟩, kx⟩) fun us s1 ⟨vs, H1, I1, r, f1, M1, ds, L1, m1, rd, q⟩ => ?_) hpl he
  refine thn (hkw.run pos pins s1 σ H1 (fun zs H2 => ∃ (f2 : Fr) (M2 : Mem) (es : List Dv), Lt M1.length f1 H1 M2.length f2 H2 ∧ RM f2 H2 M2 ∧ RDs M2.length f2 H2 es zs ∧ ds.length = n ∧ es.length = ks.length ∧ S (pick ix (ds ++ es)) M2 Pd Y) I1
    ⟨f1, l, M1, _, Y, m1, rl.mono L1, q, fun f2 H2 M2 zs vs L2 m2 r2 ⟨h0, h1, h2⟩ => ⟨f2, M2, zs, L2, m2, r2, h0, h1, h2⟩, kx.mono L1⟩) fun ws s2 ⟨zs, H2, I2, rz, f2, M2, es, L2, m2, re, l1, l2, q2⟩ => ⟨I2.kIn, ?_⟩
  rw [hks]
  exact run_k F hr hgu tk hb I2 r rz m2 (rd.mono L2) re l1 l2 q2 (kk.mono (L1.trans L2)) (kx.mono (L1.trans L2))
end
end D
end

section
set_option Elab.async false
set_option linter.all false
set_option maxRecDepth 100000
set_option maxHeartbeats 1000000
set_option autoImplicit false
/-! The deep layer, part 9: the script, the law's end. -/
namespace D
open PySem PySem.Spec PyProof.Rows L2
variable [TBL]
/-- at a stands a list of these numbers, one of the written part -/
def KScr (K : PySem.W.Frag) (a : Addr) (ns : List Int) : Prop := ∀ H : Hp, SqL K H a (ns.map V.int)
/-- the script -/
def ScrD (K : PySem.W.Frag) (d : Dv) (ns : List Int) : Prop := d = .frz (ns.map Dv.int) ∨ ∃ a, d = .adr a ∧ KScr K a ns
/-- script[lo:hi] -/
def dSlS (K : PySem.W.Frag) (te : DE) (tl th : DO) : DE := fun l M P X => te l M (fun x M1 => tl l M1 (fun lo M2 => th l M2 (fun hi M3 => ∃ ns, ScrD K x ns ∧ ns.length ≤ sizeLine ∧ P (.lst (cutD (ns.map Dv.int) lo hi)) M3) X) X) X
section
variable {X : Cx} {W : WX} {pos p2 : Pos} {e : Expr} {te : DE} {lo hi : Option Expr} {tl th : DO}
theorem scr_sq {K : PySem.W.Frag} {f : Fr} {H : Hp} {M : Mem} {d : Dv} {v : V} {ns : List Int} (m : RM f H M) (r : RD M.length f H d v) (s : ScrD K d ns) : ∃ a, v = .ref a ∧ SqL K H a (ns.map V.int) := by
  rcases s with rfl | ⟨a, rfl, h⟩
  · obtain ⟨_, a, o, xs, rfl, hx, _, hr⟩ : (ns.map Dv.int).length ≤ sizeLine ∧ ∃ a o xs, v = .ref a ∧ H a = some (.frz o (.lst xs)) ∧ Bes M.length f a ∧ RDs M.length f H (ns.map Dv.int) xs := r
    rw [rds_ints hr] at hx
    exact ⟨a, rfl, .inl (.inr ⟨o, hx⟩)⟩
  · exact ⟨a, r, h H⟩
theorem cut_ints (ns : List Int) (lo hi : Option Int) : ∃ ms : List Int, cutD (ns.map Dv.int) lo hi = ms.map Dv.int ∧ cutV (ns.map V.int) lo hi = ms.map V.int ∧ ms.length ≤ ns.length := by
  refine ⟨(ns.drop (HT.sIx ns.length 0 lo)).take (HT.sIx ns.length ns.length hi - HT.sIx ns.length 0 lo), ?_, ?_, ?_⟩
  · unfold cutD; rw [List.length_map, List.map_take, List.map_drop]
  · unfold cutV; rw [List.length_map, List.map_take, List.map_drop]
  · rw [List.length_take, List.length_drop]; omega
theorem je_sliceS (he : JE X W e te) (hl : JO X W lo tl) (hu : JO X W hi th) : JE X W (.Subscript e (.Slice lo hi none p2) pos) (dSlS X.K te tl th) :=
  pe_imp (pe_slice sl_list he hl hu) fun s H Q ⟨f, l, M, P, Y, m, rl, h, k, kx⟩ => ⟨f, l, M, _, Y, m, rl, h, fun f1 H1 M1 d v x1 m1 r1 h1 =>
    ⟨f1, l, M1, _, Y, m1, rl.mono x1, h1, fun f2 H2 M2 o x2 m2 h2 => ⟨f2, l, M2, _, Y, m2, rl.mono (x1.trans x2), h2, fun f3 H3 M3 o' x3 m3 ⟨ns, hs, hz, p⟩ => by
      obtain ⟨a, rfl, hq⟩ := scr_sq m3 ((r1.mono x2).mono x3) hs
      obtain ⟨ms, e1, e2, e3⟩ := cut_ints ns o o'
      refine ⟨a, _, rfl, hq, fun q hn => ?_⟩
      rw [e2]
      rw [e1] at p
      exact k _ _ M3 (.lst (ms.map Dv.int)) _ (((x1.trans x2).trans x3).trans (Lt.same (same_new hn))) (m3.same (same_new hn)) (rd_lst m3 hn ints_rds (by rw [List.length_map]; omega)) p, (kx.mono x1).mono x2⟩, kx.mono x1⟩, kx⟩
end
/-! ### the law's end -/
section
variable {P : Program} {w : World} {K : PySem.W.Frag} {mg mb : Str → Option Value} {k : Nat} {fa a : Addr} {fd : FuncData} {x : Str} {S : DSp} {s : Shared}
/-- the law's def answers True for any such script -/
def SLaw (K : PySem.W.Frag) (n : Nat) : DSp := fun ds M Pd _ => ∃ d ns, ds = [d] ∧ ScrD K d ns ∧ ns.length ≤ n ∧ ∀ M', Pd (.bl true) M'
theorem law_run {H : Hp} {d : Dv} {ns : List Int} {n : Nat} (KX : K.In s.heap) (hns : s.heap.Ns mainGlobals mg) (hb : s.heap.Ns builtinsNs mb) (hbb : ∀ x : Str, x ≠ "__name__" → mb x = bootBuiltins x) (hlim : s.heap.NoLimit) (hg : s.gens = #[]) (hr : Room k callerA)
    (F : ∀ base : Heap, K.In base → base.Ns mainGlobals mg → FnG P w K mg base k fa fd [x] (SLaw K n)) (hbind : ∀ (s : Shared) (u : Value), BindsTo s fd ⟨[u], []⟩ [(x, u)])
    (hok : HOk P w H s.heap) (out : ∀ b o, K.lookup b = some o → H b = none) (outN : ∀ (b : Addr) (o : Obj) (es : Array DictEntry) (ep : Nat), s.heap.get? b = some o → o.data = .dict es ep → H b = none)
    (fz : ∀ b u, H b = some u → ∃ o v, u = .frz o v) (ht : LamX.Tabs TBL.T H) (hd : ScrD K d ns) (hl : ns.length ≤ n) (rd : RD 0 ⟨fun _ => 0, fun _ => False⟩ H d (.ref a)) :
    codeAny (model P w) callerA (.call (.ref fa) ⟨[.ref a], []⟩) (fun r s' => r = .ok (.ret (.bool true)) ∧ OldK s.heap s'.heap ∧ s'.os = s.os ∧ AllBare s'.gens) s := by
  have nsK : ∀ {b : Addr} {m : Str → Option Value}, s.heap.Ns b m → (hidT s.heap H).Ns b m := fun {b m} ⟨o, es, ep, e, dd, r⟩ => ⟨o, es, ep, hidT_get e (outN b o es ep e dd), dd, r⟩
  have kin : K.In (hidT s.heap H) := fun b o e => hidT_get (KX b o e) (out b o e)
  have md : Mod K mg (hidT s.heap H) := ⟨kin, nsK hns, ⟨mb, nsK hb, hbb⟩, let ⟨mc, h1, h2⟩ := hlim; ⟨mc, nsK h1, h2⟩⟩
  have e0 : Env0 P w K mg (hidT s.heap H) callerA [] s H := ⟨rfl, md, fun b o e => of_hidT e, Nat.le_of_eq (hidT_size _ _), trivial, fun b hb => absurd (show b ∈ ([] : List Addr) from hb) (by simp), hok, .of_eq hg⟩
  have call := (F _ kin (nsK hns)).run callerA [] s H ⟨[.ref a], []⟩ [.ref a] [.ref a] (fun v _ => v = .bl true) (fun _ _ _ => False) hr rfl e0 (hbind s (.ref a)) (.cons rfl .nil)
    ⟨⟨fun _ => 0, fun _ => False⟩, [], [d], fun d' _ => d' = .bl true, noX, ⟨fun i o e => by simp at e, fun i j h => absurd h (Nat.not_lt_zero _), fun a z => z.elim, ht⟩, .cons rd .nil, ⟨d, ns, rfl, hd, hl, fun _ => rfl⟩,
      fun f' H' M' d' v _ _ r e => by subst e; exact r, fun _ _ _ _ _ _ _ _ _ z => z⟩
  refine codeAny_mono call fun r s' h => ?_
  cases r with
  | error e => obtain ⟨_, _, _, _, _, _, _, _, _, _, _, _, z⟩ := (show L2.CX P w [] H s (fun _ _ _ => False) e s' from h); exact z.elim
  | ok fl =>
    cases fl with
    | next => exact (show False from h).elim
    | brk => exact (show False from h).elim
    | cont => exact (show False from h).elim
    | ret u =>
      obtain ⟨v, H', os, bare, un, hok', rv, q⟩ := h
      have q' : v = .bl true := q
      subst q'
      obtain rfl : u = Value.bool true := rv
      refine ⟨rfl, OldK.of_keep fun b o e => ?_, os, bare⟩
      cases z : H b with
      | none => exact un.keep b o e z (by intro w; exact absurd (show b ∈ ([] : List Addr) from w) (by simp)) (by simp)
      | some u =>
        obtain ⟨oo, vv, rfl⟩ := fz b u z
        have g1 := (hok b _ z).1
        rw [e] at g1
        cases g1
        exact (hok' b _ (un.frzs b _ vv z)).1
end
open PySem.W in
theorem walk_G {l : PySem.W.OpenLaw} {n k : Nat} {q : Program} {loose : List Str} {XP : (Str → Option Value) → Heap → Prop} {YP : World → Heap → Prop} {d : DefRec} {x : Str}
    (hn : l.most = some n) (hn2 : n ≤ sizeLine) (hdf : d.params.defaults = []) (hr : Room k callerA) (hT : TBL.T = [])
    (F : ∀ (w : World) (mg : Str → Option Value) (fa : Addr) (h : Heap), YP w h → h.Ns mainGlobals mg → mg d.name = some (.ref fa) →
      ∃ (K : PySem.W.Frag) (fd : FuncData), K.In h ∧ (∀ (s : Shared) (u : Value), BindsTo s fd ⟨[u], []⟩ [(x, u)]) ∧
        ∀ base : Heap, K.In base → base.Ns mainGlobals mg → FnG l.prog w K mg base k fa fd [x] (SLaw K n)) :
    PySem.W.WalkO q loose XP YP l.row.toRowW d [] (fun f vs => PySem.call f vs) := by
  refine Att.attach_call hn hdf fun w s₀ s₁ mg mb fa o pm cd doc a vs ns G Y ho hd hcd hmg hobj hints hlen hg => ?_
  obtain ⟨K, fd, KX, hb, hF⟩ := F w mg fa _ Y G.T.g hmg
  have rv := vals_ints hints
  have hz : ns.length ≤ sizeLine := Nat.le_trans hlen hn2
  have lenV := hints.length
  cases hk : K.lookup a with
  | some o' =>
    have e := KX a o' hk
    rw [hobj] at e
    cases e
    have ks : KScr K a ns := fun H => .inr ⟨_, vs.toArray, _, hk, rfl, rfl, rfl, by rw [List.size_toArray, lenV]; exact hz, by simpa using rv⟩
    exact law_run (H := fun _ => none) (d := .adr a) KX G.T.g G.T.b G.T.builtins G.T.nolimit hg hr hF hb (fun b u z => by cases (show (none : Option HO) = some u from z)) (fun _ _ _ => rfl) (fun _ _ _ _ _ _ => rfl)
      (fun b u z => by cases (show (none : Option HO) = some u from z)) (by rw [hT]; exact fun p hp => nomatch hp) (.inr ⟨a, rfl, ks⟩) hlen rfl
  | none =>
    let H0 : Hp := fun b => if b = a then some (.frz { cls := .type "list", data := .seq vs.toArray } (.lst (ns.map V.int))) else none
    have at_a : H0 a = some (.frz { cls := .type "list", data := .seq vs.toArray } (.lst (ns.map V.int))) := if_pos rfl
    have at_n : ∀ {b : Addr}, b ≠ a → H0 b = none := fun h => if_neg h
    have un_a : ∀ {b : Addr} {u : HO}, H0 b = some u → b = a ∧ u = .frz { cls := .type "list", data := .seq vs.toArray } (.lst (ns.map V.int)) := fun {b u} z => by
      by_cases h : b = a
      · subst h; rw [at_a] at z; exact ⟨rfl, (Option.some.inj z).symm⟩
      · rw [at_n h] at z; cases z
    refine law_run (H := H0) (d := .frz (ns.map Dv.int)) KX G.T.g G.T.b G.T.builtins G.T.nolimit hg hr hF hb (fun b u z => ?_) (fun b o' e => ?_) (fun b o' es ep e dd => ?_) (fun b u z => ?_) (by rw [hT]; exact fun p hp => nomatch hp) (.inl rfl) hlen ?_
    · obtain ⟨rfl, rfl⟩ := un_a z
      exact ⟨hobj, by rw [List.length_map]; exact hz, vs, _, rv, hobj⟩
    · exact at_n fun z => by rw [z, hk] at e; cases e
    · exact at_n fun z => by
        subst z
        rw [hobj] at e
        cases e
        have d' : Data.seq vs.toArray _ = Data.dict es ep := dd
        cases d'
    · obtain ⟨_, rfl⟩ := un_a z
      exact ⟨_, _, rfl⟩
    · exact ⟨by rw [List.length_map]; exact hz, a, _, _, rfl, at_a, ⟨fun i hi => absurd hi (Nat.not_lt_zero _), fun z => z⟩, ints_rds⟩
end D
end

section
set_option Elab.async false
set_option linter.all false
set_option maxRecDepth 100000
set_option maxHeartbeats 1000000
set_option autoImplicit false
/-! The deep layer, part 10: repr; the built-in calls by name. -/
namespace D
open PySem PySem.Spec PyProof.Rows L2
variable [TBL]
def rRepr (K : PySem.W.Frag) : List V → Hp → VK → Prop := fun xs H Q => ∃ v d, xs = [v] ∧ Dp K H v d ∧ d.showable = true ∧ d.canLay0 = true ∧ d.depth ≤ 60 ∧ d.shown.length ≤ sizeLine ∧ Q (.str d.shown) H
theorem cr_repr {X : Cx} {k : Nat} (hr : Room k X.A) (hgu : X.A.guards = some []) : CallR X (.builtin "repr") (rRepr X.K) := by
  intro pins s σ H xs us Q I r h
  obtain ⟨v, d, rfl, hd, hs, hl, hdp, hz, q⟩ := h
  obtain ⟨u, rfl, rx⟩ := vals1 r
  obtain ⟨as, rr⟩ := Dp.reads I d v u hd rx
  have hun := hr.un
  have cont : ∀ {a : Addr}, u = .ref a → wpAny (model X.prog X.w) X.A (call (.builtin "repr") [u]) (EP X pins σ Q) X.xe s := fun {a} e => by
    subst e
    exact repr_of_reads' rr hs (PyData.noDict_hsm (PyData.hasDict_of_canLay d hl)) hgu (by omega) (fun _ _ e => e) (fun h' t tk k => ⟨.str d.shown, H, I.kept k, ⟨_, rfl⟩, q⟩) hz
  cases rr with
  | none => exact P.repr_of_none ⟨.str _, H, I.tok _, ⟨_, rfl⟩, q⟩
  | bool b => exact P.repr_of_bool ⟨.str _, H, I.tok _, ⟨_, rfl⟩, q⟩
  | int i t => exact P.repr_of_int (of_decide_eq_true hs) ⟨.str _, H, I.tok _, ⟨_, rfl⟩, q⟩
  | str x t => exact P.repr_of_str ⟨.str _, H, I.tok _, ⟨_, rfl⟩, q⟩ hz
  | list _ _ _ _ => exact cont rfl
  | tuple _ _ _ _ => exact cont rfl
  | dict _ _ _ _ _ => exact cont rfl
/-- repr of data -/
def gRepr : List Dv → Mem → (Dv → Prop) → Prop := fun ds M P => ∃ d, ds = [d] ∧ okD (res M d) 60 = true ∧ (toP (res M d)).showable = true ∧ (toP (res M d)).shown.length ≤ sizeLine ∧ P (.str (toP (res M d)).shown)
theorem o_repr {K : PySem.W.Frag} : Opn (rRepr K) gRepr := fun f H M xs vs P Q m r ⟨d, e, o, hs, hz, p⟩ fin => by
  subst e
  obtain ⟨v, rfl, rd⟩ := rds1 r
  obtain ⟨h1, h2⟩ := lay_toP o
  exact ⟨v, _, rfl, rd_res m rd o, hs, h1, h2, hz, fin _ H (.str _) (Same.refl H) rfl p⟩
section
variable {X : Cx} {W : WX} {pos p : Pos} {e : Expr} {es : List Expr} {u : DA} {k : Nat}
theorem je_len (hg : Gl X "len") (hm : X.mg "len" = none) (ha : JA X W (e :: es) u) (he : starEach (e :: es) X.env = (false, eval e X.env) :: starEach es X.env := by rfl) (hpl : (backTo pos (starEach es X.env)).any (·.1) = false := by rfl) :
    JE X W (.Call (.Name "len" p) (e :: es) [] pos) (dCB gLen u) := je_callB (call_len_seq.or call_len_str) o_len hg hm boot_len ha (by decide) (by decide) he hpl
theorem je_tupleOf (hg : Gl X "tuple") (hm : X.mg "tuple" = none) (ha : JA X W (e :: es) u) (he : starEach (e :: es) X.env = (false, eval e X.env) :: starEach es X.env := by rfl) (hpl : (backTo pos (starEach es X.env)).any (·.1) = false := by rfl) :
    JE X W (.Call (.Name "tuple" p) (e :: es) [] pos) (dCB gTuple u) := je_callTy call_tuple_of o_tuple hg hm PyProof.Rows.boot_tuple ha (by decide) (by decide) he hpl
theorem je_listOf (hg : Gl X "list") (hm : X.mg "list" = none) (ha : JA X W (e :: es) u) (he : starEach (e :: es) X.env = (false, eval e X.env) :: starEach es X.env := by rfl) (hpl : (backTo pos (starEach es X.env)).any (·.1) = false := by rfl) :
    JE X W (.Call (.Name "list" p) (e :: es) [] pos) (dCB gList u) := je_callTy call_list_of o_list hg hm PyProof.Rows.boot_list ha (by decide) (by decide) he hpl
theorem je_abs (hg : Gl X "abs") (hm : X.mg "abs" = none) (ha : JA X W (e :: es) u) (he : starEach (e :: es) X.env = (false, eval e X.env) :: starEach es X.env := by rfl) (hpl : (backTo pos (starEach es X.env)).any (·.1) = false := by rfl) :
    JE X W (.Call (.Name "abs" p) (e :: es) [] pos) (dCB gAbs u) := je_callB call_abs o_abs hg hm PyProof.Rows.Boot.«abs» ha (by decide) (by decide) he hpl
theorem je_int1 (hg : Gl X "int") (hm : X.mg "int" = none) (ha : JA X W (e :: es) u) (he : starEach (e :: es) X.env = (false, eval e X.env) :: starEach es X.env := by rfl) (hpl : (backTo pos (starEach es X.env)).any (·.1) = false := by rfl) :
    JE X W (.Call (.Name "int" p) (e :: es) [] pos) (dCB gInt u) := je_callTy call_int1 o_int hg hm PyProof.Rows.boot_int ha (by decide) (by decide) he hpl
theorem je_max2 (hc : X.calm = true) (hg : Gl X "max") (hm : X.mg "max" = none) (ha : JA X W (e :: es) u) (he : starEach (e :: es) X.env = (false, eval e X.env) :: starEach es X.env := by rfl) (hpl : (backTo pos (starEach es X.env)).any (·.1) = false := by rfl) :
    JE X W (.Call (.Name "max" p) (e :: es) [] pos) (dCB gMax2 u) := je_callB (call_max2 hc) o_max2 hg hm PyProof.Rows.boot_max ha (by decide) (by decide) he hpl
theorem je_min2 (hc : X.calm = true) (hg : Gl X "min") (hm : X.mg "min" = none) (ha : JA X W (e :: es) u) (he : starEach (e :: es) X.env = (false, eval e X.env) :: starEach es X.env := by rfl) (hpl : (backTo pos (starEach es X.env)).any (·.1) = false := by rfl) :
    JE X W (.Call (.Name "min" p) (e :: es) [] pos) (dCB gMin2 u) := je_callB (call_min2 hc) o_min2 hg hm PyProof.Rows.boot_min ha (by decide) (by decide) he hpl
theorem je_max1 (hc : X.calm = true) (hg : Gl X "max") (hm : X.mg "max" = none) (ha : JA X W (e :: es) u) (he : starEach (e :: es) X.env = (false, eval e X.env) :: starEach es X.env := by rfl) (hpl : (backTo pos (starEach es X.env)).any (·.1) = false := by rfl) :
    JE X W (.Call (.Name "max" p) (e :: es) [] pos) (dCB gMax u) := je_callB (cr_max hc) o_max hg hm PyProof.Rows.boot_max ha (by decide) (by decide) he hpl
theorem je_min1 (hc : X.calm = true) (hg : Gl X "min") (hm : X.mg "min" = none) (ha : JA X W (e :: es) u) (he : starEach (e :: es) X.env = (false, eval e X.env) :: starEach es X.env := by rfl) (hpl : (backTo pos (starEach es X.env)).any (·.1) = false := by rfl) :
    JE X W (.Call (.Name "min" p) (e :: es) [] pos) (dCB gMin u) := je_callB (cr_min hc) o_min hg hm PyProof.Rows.boot_min ha (by decide) (by decide) he hpl
theorem je_sum (hc : X.calm = true) (hg : Gl X "sum") (hm : X.mg "sum" = none) (ha : JA X W (e :: es) u) (he : starEach (e :: es) X.env = (false, eval e X.env) :: starEach es X.env := by rfl) (hpl : (backTo pos (starEach es X.env)).any (·.1) = false := by rfl) :
    JE X W (.Call (.Name "sum" p) (e :: es) [] pos) (dCB gSum u) := je_callB (cr_sum hc) o_sum hg hm PyProof.Rows.boot_sum ha (by decide) (by decide) he hpl
theorem je_all (hc : X.calm = true) (hg : Gl X "all") (hm : X.mg "all" = none) (ha : JA X W (e :: es) u) (he : starEach (e :: es) X.env = (false, eval e X.env) :: starEach es X.env := by rfl) (hpl : (backTo pos (starEach es X.env)).any (·.1) = false := by rfl) :
    JE X W (.Call (.Name "all" p) (e :: es) [] pos) (dCB gAll u) := je_callB (cr_all hc) o_all hg hm PyProof.Rows.boot_all ha (by decide) (by decide) he hpl
theorem je_any (hc : X.calm = true) (hg : Gl X "any") (hm : X.mg "any" = none) (ha : JA X W (e :: es) u) (he : starEach (e :: es) X.env = (false, eval e X.env) :: starEach es X.env := by rfl) (hpl : (backTo pos (starEach es X.env)).any (·.1) = false := by rfl) :
    JE X W (.Call (.Name "any" p) (e :: es) [] pos) (dCB gAny u) := je_callB (cr_any hc) o_any hg hm PyProof.Rows.boot_any ha (by decide) (by decide) he hpl
theorem je_sortI (hg : Gl X "sorted") (hm : X.mg "sorted" = none) (ha : JA X W (e :: es) u) (he : starEach (e :: es) X.env = (false, eval e X.env) :: starEach es X.env := by rfl) (hpl : (backTo pos (starEach es X.env)).any (·.1) = false := by rfl) :
    JE X W (.Call (.Name "sorted" p) (e :: es) [] pos) (dCB gSortI u) := je_callB cr_sortedI o_sortI hg hm PyProof.Rows.boot_sorted ha (by decide) (by decide) he hpl
theorem je_isi (hg : Gl X "isinstance") (hm : X.mg "isinstance" = none) (ha : JA X W (e :: es) u) (he : starEach (e :: es) X.env = (false, eval e X.env) :: starEach es X.env := by rfl) (hpl : (backTo pos (starEach es X.env)).any (·.1) = false := by rfl) :
    JE X W (.Call (.Name "isinstance" p) (e :: es) [] pos) (dCB gIsi u) := je_callB call_isi o_isi hg hm PyProof.Rows.Boot.«isinstance» ha (by decide) (by decide) he hpl
theorem je_isiT (hg : Gl X "isinstance") (hm : X.mg "isinstance" = none) (ha : JA X W (e :: es) u) (he : starEach (e :: es) X.env = (false, eval e X.env) :: starEach es X.env := by rfl) (hpl : (backTo pos (starEach es X.env)).any (·.1) = false := by rfl) :
    JE X W (.Call (.Name "isinstance" p) (e :: es) [] pos) (dCB gIsiT u) := je_callB call_isiT o_isiT hg hm PyProof.Rows.Boot.«isinstance» ha (by decide) (by decide) he hpl
theorem je_repr (hr : Room k X.A) (hgu : X.A.guards = some []) (hg : Gl X "repr") (hm : X.mg "repr" = none) (ha : JA X W (e :: es) u) (he : starEach (e :: es) X.env = (false, eval e X.env) :: starEach es X.env := by rfl) (hpl : (backTo pos (starEach es X.env)).any (·.1) = false := by rfl) :
    JE X W (.Call (.Name "repr" p) (e :: es) [] pos) (dCB gRepr u) := je_callB (cr_repr hr hgu) o_repr hg hm PyProof.Rows.Boot.«repr» ha (by decide) (by decide) he hpl
theorem je_lt {a b : Expr} {ta tb : DE} (ha : JE X W a ta) (hb : JE X W b tb) : JE X W (.Compare a [.Lt] [b] pos) (dOp gLt ta tb) := je_cmp op_lt o2B0 ha hb (nomark _)
theorem je_le {a b : Expr} {ta tb : DE} (ha : JE X W a ta) (hb : JE X W b tb) : JE X W (.Compare a [.LtE] [b] pos) (dOp gLe ta tb) := je_cmp op_le o2B0 ha hb (nomark _)
theorem je_gt {a b : Expr} {ta tb : DE} (ha : JE X W a ta) (hb : JE X W b tb) : JE X W (.Compare a [.Gt] [b] pos) (dOp gGt ta tb) := je_cmp op_gt o2B0 ha hb (nomark _)
theorem je_ge {a b : Expr} {ta tb : DE} (ha : JE X W a ta) (hb : JE X W b tb) : JE X W (.Compare a [.GtE] [b] pos) (dOp gGe ta tb) := je_cmp op_ge o2B0 ha hb (nomark _)
theorem jt_lt {a b : Expr} {ta tb : DE} (ha : JE X W a ta) (hb : JE X W b tb) : JT X W (.Compare a [.Lt] [b] pos) (dTest (dOp gLt ta tb)) := jt_cmp op_lt o2B0 ha hb (nomark _)
theorem jt_le {a b : Expr} {ta tb : DE} (ha : JE X W a ta) (hb : JE X W b tb) : JT X W (.Compare a [.LtE] [b] pos) (dTest (dOp gLe ta tb)) := jt_cmp op_le o2B0 ha hb (nomark _)
theorem jt_gt {a b : Expr} {ta tb : DE} (ha : JE X W a ta) (hb : JE X W b tb) : JT X W (.Compare a [.Gt] [b] pos) (dTest (dOp gGt ta tb)) := jt_cmp op_gt o2B0 ha hb (nomark _)
theorem jt_ge {a b : Expr} {ta tb : DE} (ha : JE X W a ta) (hb : JE X W b tb) : JT X W (.Compare a [.GtE] [b] pos) (dTest (dOp gGe ta tb)) := jt_cmp op_ge o2B0 ha hb (nomark _)
end
end D
end

section
set_option Elab.async false
set_option linter.all false
set_option maxRecDepth 100000
set_option maxHeartbeats 1000000
set_option autoImplicit false
/-! The deep layer, part 11: sorted over pairs of numbers; the empty dict. -/
namespace D
open PySem PySem.Spec PyProof.Rows L2
variable [TBL]
def pr (p : Int × Int) : Dv := .tup [.int p.1, .int p.2]
def leP (p q : Int × Int) : Prop := ¬ (q.1 < p.1 ∨ (q.1 = p.1 ∧ q.2 < p.2))
def prK (H : Hp) (v : V) : Int × Int := match v with
  | .ref t => match H t with
    | some (.tup [.int i, .int j]) => (i, j)
    | _ => (0, 0)
  | _ => (0, 0)
theorem rd_pr {n : Nat} {f : Fr} {H : Hp} {p : Int × Int} {v : V} (r : RD n f H (pr p) v) : ∃ t, v = .ref t ∧ H t = some (.tup [.int p.1, .int p.2]) ∧ prK H v = p := by
  obtain ⟨_, t, xs, rfl, ht, _, h⟩ : [Dv.int p.1, Dv.int p.2].length ≤ sizeLine ∧ ∃ a xs, v = .ref a ∧ H a = some (.tup xs) ∧ Bes n f a ∧ RDs n f H [Dv.int p.1, Dv.int p.2] xs := r
  obtain ⟨u, w, rfl, r1, r2⟩ := rds2 h
  cases (show u = .int p.1 from r1)
  cases (show w = .int p.2 from r2)
  refine ⟨t, rfl, ht, ?_⟩
  unfold prK
  simp only [ht]
theorem rds_prs {n : Nat} {f : Fr} {H : Hp} : ∀ {ps : List (Int × Int)} {vs : List V}, RDs n f H (ps.map pr) vs → vs.map (prK H) = ps ∧ ∀ v ∈ vs, RD n f H (pr (prK H v)) v
  | [], vs, r => by rw [show vs = [] from r]; exact ⟨rfl, fun v h => by cases h⟩
  | p :: ps, vs, r => by
    obtain ⟨v, vr, rfl, rd, rr⟩ : ∃ v vr, vs = v :: vr ∧ RD n f H (pr p) v ∧ RDs n f H (ps.map pr) vr := r
    obtain ⟨t, ev, ht, e⟩ := rd_pr rd
    obtain ⟨h1, h2⟩ := rds_prs rr
    refine ⟨by rw [List.map_cons, e, h1], fun u hu => ?_⟩
    rcases List.mem_cons.mp hu with rfl | hu
    · rw [e]; exact rd
    · exact h2 u hu
theorem prs_rds {n : Nat} {f : Fr} {H : Hp} : ∀ {vs : List V}, (∀ v ∈ vs, RD n f H (pr (prK H v)) v) → RDs n f H ((vs.map (prK H)).map pr) vs
  | [], _ => rfl
  | v :: vs, h => ⟨v, vs, rfl, h v List.mem_cons_self, prs_rds fun u hu => h u (List.mem_cons_of_mem _ hu)⟩
def gSortP : List Dv → Mem → (Dv → Prop) → Prop := fun ds M P => ∃ (d : Dv) (ps : List (Int × Int)), ds = [d] ∧ lstD M d = some (ps.map pr) ∧ ∀ qs : List (Int × Int), qs.Perm ps → qs.Pairwise leP → P (.lst (qs.map pr))
theorem o_sortP {K : PySem.W.Frag} : Opn (rSortedPO K) gSortP := fun f H M xs vs P Q m r ⟨d, ps, e, hk, p⟩ fin => by
  subst e
  obtain ⟨v, rfl, rd⟩ := rds1 r
  obtain ⟨a, ys, rfl, hq, hr, hz⟩ := rd_lstM (K := K) m rd hk
  obtain ⟨h1, h2⟩ := rds_prs hr
  refine ⟨a, ys, prK H, rfl, hq, fun x hx => ?_, fun zs q hs hb hn => ?_⟩
  · obtain ⟨t, e, ht, _⟩ := rd_pr (h2 x hx)
    exact ⟨t, e, ht⟩
  · have hp := hb.perm
    have hm : ∀ v ∈ zs, RD M.length f H (pr (prK H v)) v := fun v hv => h2 v (hp.mem_iff.mp hv)
    have hl : ((zs.map (prK H)).map pr).length ≤ sizeLine := by
      rw [List.length_map, List.length_map, hp.length_eq, hr.length]; exact hz
    refine fin _ _ (.lst ((zs.map (prK H)).map pr)) (same_new hn) (rd_lst m hn (prs_rds hm) hl) (p _ (by have := hp.map (prK H); rw [h1] at this; exact this) (List.pairwise_map.mpr (hs.imp fun {x y} h => ?_)))
    exact SrtO.lexB_no.mp h
section
variable {X : Cx} {W : WX} {pos p : Pos} {e : Expr} {es : List Expr} {u : DA}
theorem je_sortP (hg : Gl X "sorted") (hm : X.mg "sorted" = none) (ha : JA X W (e :: es) u) (he : starEach (e :: es) X.env = (false, eval e X.env) :: starEach es X.env := by rfl) (hpl : (backTo pos (starEach es X.env)).any (·.1) = false := by rfl) :
    JE X W (.Call (.Name "sorted" p) (e :: es) [] pos) (dCB gSortP u) := je_callB cr_sortedPO o_sortP hg hm PyProof.Rows.boot_sorted ha (by decide) (by decide) he hpl
/-- {} as a value -/
theorem je_dic : JE X W (.Dict [] [] pos) (dC .dic) := pe_imp pe_dnewK fun s H Q ⟨f, l, M, P, Y, m, rl, h, k, _⟩ q hn =>
  k f _ M .dic (.ref q) (Lt.same (same_new hn)) (m.same (same_new hn)) ⟨q, rfl, upd_same, m.ne hn⟩ h
end
end D
end

section
set_option Elab.async false
set_option linter.all false
set_option maxRecDepth 100000
set_option maxHeartbeats 1000000
set_option autoImplicit false
/-! The deep layer, part 12: defs of the module by name. -/
namespace D
open PySem PySem.Spec PyProof.Rows L2
variable [TBL]
abbrev FnP (K : PySem.W.Frag) (x : Str) (st : Stmt) (f : Addr) (fd : FuncData) : Prop := FunD K x x (defArgs st) (defBody st) (defScope st) [] [] f fd
/-- the module's def x keeps S -/
structure Fx (P : Program) (w : World) (K : PySem.W.Frag) (mg : Str → Option Value) (base : Heap) (k : Nat) (x : Str) (st : Stmt) (ps : List Str) (S : DSp) : Prop where
  ex : ∃ f fd, FnG P w K mg base k f fd ps S ∧ mg x = some (.ref f) ∧ FnP K x st f fd
section
variable {P : Program} {w : World} {K : PySem.W.Frag} {mg : Str → Option Value} {base : Heap} {k j n : Nat} {x : Str} {st : Stmt} {ps ks : List Str} {S : DSp}
theorem Fx.mono (F : Fx P w K mg base j x st ps S) (h : j ≤ k) : Fx P w K mg base k x st ps S := let ⟨f, fd, a, b, c⟩ := F.ex; ⟨f, fd, a.mono h, b, c⟩
def Bd (x : Str) (st : Stmt) (ps : List Str) : Prop := ∀ (kV doc pm : Value) (an : Option Addr) (cdv ct : Value) (us : List Value), us.length = ps.length → bindArgs (PySem.W.fnOf x x (defArgs st) (defBody st) (defScope st) .none kV doc pm an cdv ct) ⟨us, []⟩ = pure (ps.zip us)
def Bk (x : Str) (st : Stmt) (ps : List Str) (n : Nat) (ks : List Str) (ix : List Nat) : Prop := ∀ (kV doc pm : Value) (an : Option Addr) (cdv ct : Value) (us ws : List Value), us.length = n → ws.length = ks.length →
  bindArgs (PySem.W.fnOf x x (defArgs st) (defBody st) (defScope st) .none kV doc pm an cdv ct) ⟨us, ks.zip ws⟩ = pure (ps.zip (pick ix (us ++ ws)))
theorem kwb_of {f : Addr} {fd : FuncData} {ix : List Nat} (F : FnP K x st f fd) (h : Bk x st ps n ks ix) : KwB fd ps n ks ix := by
  obtain ⟨oc, od, dV, kV, doc, pm, an, cdv, ct, osl, rfl, lk, hcd, hD, hK⟩ := F.ex
  rcases hD with ⟨_, rfl⟩ | ⟨e, _⟩
  · exact ⟨fun us ws h1 h2 => h kV doc pm an cdv ct us ws h1 h2⟩
  · exact absurd rfl e
theorem fx_of {f : Addr} {fd : FuncData} {N : List Str} (F : FnP K x st f fd) (hm : mg x = some (.ref f)) (Sc : FnScope N ps (defScope st)) (t : DS) (len : ∀ ds M Pd X, S ds M Pd X → ds.length = ps.length)
    (hb : ∀ (cdv : Value) (A : Around) (outer : List Env) (s : Shared) (H : Hp) (E : XK) (W : WX), Room k (A.deeper (envOfC x (defScope st) s.heap.objs.size f cdv)) → (A.deeper (envOfC x (defScope st) s.heap.objs.size f cdv)).guards = some [] →
      Takes (CF P w K mg base N x st f cdv A outer s H E) W → JSs (CF P w K mg base N x st f cdv A outer s H E) W (defBody st) t)
    (hp : ∀ ds M Pd X, MemOk M → S ds M Pd X → t (dkOf M.length Pd X) (startD N ds) M) : Fx P w K mg base (k + 1) x st ps S :=
  ⟨f, fd, fn_d (He5.fun_of F) Sc t len hb hp, hm, F⟩
end
theorem takes0 {X : Cx} : Takes X W0 := fun _ _ ⟨_, _, _, _, _, _, _, _, _, _, _, _, _, _, _, _, w⟩ => w.elim
section
variable {X : Cx} {W : WX} {pos p : Pos} {e : Expr} {es : List Expr} {kws : List Keyword} {u uk : DA} {k n : Nat} {x : Str} {st : Stmt} {ps ks : List Str} {S : DSp} {ix : List Nat}
theorem je_cx (F : Fx X.prog X.w X.K X.mg X.base k x st ps S) (hr : Room k X.A) (hgu : X.A.guards = some []) (tk : Takes X W) (bd : Bd x st ps) (hg : Gl X x) (ha : JA X W (e :: es) u) (hdb : (x == ("__debug__" : Str)) = false := by decide)
    (he : starEach (e :: es) X.env = (false, eval e X.env) :: starEach es X.env := by rfl) (hpl : (backTo pos (starEach es X.env)).any (·.1) = false := by rfl) : JE X W (.Call (.Name x p) (e :: es) [] pos) (dCall S u) :=
  let ⟨_, _, a, b, c⟩ := F.ex
  je_call a hr hgu tk hg b c.kp (c.bindsN bd) ha hdb he hpl
theorem je_cxK0 (F : Fx X.prog X.w X.K X.mg X.base k x st ps S) (hr : Room k X.A) (hgu : X.A.guards = some []) (tk : Takes X W) (bk : Bk x st ps 0 ks ix) (hg : Gl X x) (hkw : JK X W kws uk)
    (hall : (backToKw pos (keywordEach kws X.env)).all (·.1.isSome) = true := by rfl) (hks : (backToKw pos (keywordEach kws X.env)).filterMap (·.1) = ks := by rfl) (hdb : (x == ("__debug__" : Str)) = false := by decide)
    (hpl : ((backTo pos (starEach [] X.env)).any (·.1) || (backToKw pos (keywordEach kws X.env)).any (·.1.isNone)) = false := by rfl) : JE X W (.Call (.Name x p) [] kws pos) (dCallK S ix 0 ks.length dNil uk) :=
  let ⟨_, _, a, b, c⟩ := F.ex
  je_callK0 a hr hgu tk hg b c.kp (kwb_of c bk) hkw hall hks hdb hpl
theorem je_cxK (F : Fx X.prog X.w X.K X.mg X.base k x st ps S) (hr : Room k X.A) (hgu : X.A.guards = some []) (tk : Takes X W) (bk : Bk x st ps n ks ix) (hg : Gl X x) (ha : JA X W (e :: es) u) (hkw : JK X W kws uk)
    (hall : (backToKw pos (keywordEach kws X.env)).all (·.1.isSome) = true := by rfl) (hks : (backToKw pos (keywordEach kws X.env)).filterMap (·.1) = ks := by rfl) (hdb : (x == ("__debug__" : Str)) = false := by decide)
    (he : starEach (e :: es) X.env = (false, eval e X.env) :: starEach es X.env := by rfl)
    (hpl : ((backTo pos (starEach (e :: es) X.env)).any (·.1) || (backToKw pos (keywordEach kws X.env)).any (·.1.isNone)) = false := by rfl) : JE X W (.Call (.Name x p) (e :: es) kws pos) (dCallK S ix n ks.length u uk) :=
  let ⟨_, _, a, b, c⟩ := F.ex
  je_callK a hr hgu tk hg b c.kp (kwb_of c bk) ha hkw hall hks hdb he hpl
end
end D
end

section
set_option Elab.async false
set_option linter.all false
set_option maxRecDepth 100000
set_option maxHeartbeats 1000000
set_option autoImplicit false
/-! The deep layer, part 13: the transformers by simp; loops. -/
namespace D
open PySem PySem.Spec PyProof.Rows L2
section
variable {l : Loc} {M : Mem} {P : PD} {X : PX} {E : DK} {Q : Bool → Mem → Prop} {R : List Dv → Mem → Prop} {ta tb tc : DE} {u uk : DA} {tA tB : DT} {t s : DS} {g : Dv → Dv → Mem → (Dv → Prop) → Prop} {g1 : Dv → Mem → (Dv → Prop) → Prop} {gn : List Dv → Mem → (Dv → Prop) → Prop} {gd : DG} {gs : DGs} {N : Loc → Mem → Prop} {d : Dv} {ds : List Dv} {i j q n m : Nat} {S : DSp} {ix : List Nat}
@[simp] theorem s_var : dVar i l M P X = ∃ d, l[i]? = some (some d) ∧ P d M := rfl
@[simp] theorem s_c : dC d l M P X = P d M := rfl
@[simp] theorem s_op : dOp g ta tb l M P X = ta l M (fun x M1 => tb l M1 (fun y M2 => g x y M2 fun d => P d M2) X) X := rfl
@[simp] theorem s_un : dUn g1 ta l M P X = ta l M (fun x M1 => g1 x M1 fun d => P d M1) X := rfl
@[simp] theorem s_cb : dCB gn u l M P X = u l M (fun xs M1 => gn xs M1 fun d => P d M1) X := rfl
@[simp] theorem s_test : dTest ta l M Q X = ta l M (fun d M1 => ∃ k, d = .bl k ∧ Q k M1) X := rfl
@[simp] theorem s_tru : dTru ta l M Q X = ta l M (fun d M1 => ∃ k, truD M1 d = some k ∧ Q k M1) X := rfl
@[simp] theorem s_and : dAnd tA tB l M Q X = tA l M (fun c M1 => if c = true then tB l M1 Q X else Q false M1) X := rfl
@[simp] theorem s_or : dOr tA tB l M Q X = tA l M (fun c M1 => if c = true then Q true M1 else tB l M1 Q X) X := rfl
@[simp] theorem s_not : dNot tA l M Q X = tA l M (fun c M1 => Q (!c) M1) X := rfl
@[simp] theorem s_yes : dYes l M Q X = Q true M := rfl
@[simp] theorem s_andV : dAndV ta tb l M P X = ta l M (fun d M1 => ∃ c, truD M1 d = some c ∧ if c = true then tb l M1 P X else P d M1) X := rfl
@[simp] theorem s_orV : dOrV ta tb l M P X = ta l M (fun d M1 => ∃ c, truD M1 d = some c ∧ if c = true then P d M1 else tb l M1 P X) X := rfl
@[simp] theorem s_notV : dNotV ta l M P X = ta l M (fun d M1 => ∃ c, truD M1 d = some c ∧ P (.bl (!c)) M1) X := rfl
@[simp] theorem s_if : dIf tA ta tb l M P X = tA l M (fun b M1 => if b = true then ta l M1 P X else tb l M1 P X) X := rfl
@[simp] theorem s_nil : dNil l M R X = R [] M := rfl
@[simp] theorem s_cons : dCons ta u l M R X = ta l M (fun d M1 => u l M1 (fun ds M2 => R (d :: ds) M2) X) X := rfl
@[simp] theorem s_tup : dTup u l M P X = u l M (fun ds M1 => ds.length ≤ sizeLine ∧ P (.tup ds) M1) X := rfl
@[simp] theorem s_lst : dLst u l M P X = u l M (fun ds M1 => ds.length ≤ sizeLine ∧ P (.lst ds) M1) X := rfl
@[simp] theorem s_lstM : dLstM u l M P X = u l M (fun ds M1 => ds.length ≤ sizeLine ∧ P (.ref M1.length) (M1 ++ [.lst ds])) X := rfl
@[simp] theorem s_call : dCall S u l M P X = u l M (fun ds M1 => S ds M1 P X) X := rfl
@[simp] theorem s_callK : dCallK S ix n m u uk l M P X = u l M (fun ds M1 => uk l M1 (fun zs M2 => ds.length = n ∧ zs.length = m ∧ S (pick ix (ds ++ zs)) M2 P X) X) X := rfl
@[simp] theorem s_next : dNext E l M = E.nx l M := rfl
@[simp] theorem s_seq : dSeq t s E l M = t { E with nx := s E } l M := rfl
@[simp] theorem s_drop : dDrop ta E l M = ta l M (fun _ M1 => E.nx l M1) (fun C d M1 => E.xc C d l M1) := rfl
@[simp] theorem s_ret : dRet ta E l M = ta l M E.rt (fun C d M1 => E.xc C d l M1) := rfl
@[simp] theorem s_retN : dRetN E l M = E.rt .non M := rfl
@[simp] theorem s_brk : dBreak E l M = E.bk l M := rfl
@[simp] theorem s_cnt : dCont E l M = E.ct l M := rfl
@[simp] theorem s_ifS : dIfS tA t s E l M = tA l M (fun b M1 => if b = true then t E l M1 else s E l M1) (fun C d M1 => E.xc C d l M1) := rfl
@[simp] theorem s_gN : gN i d l M N = N (l.set i (some d)) M := rfl
@[simp] theorem s_gsN : gsNil ds l M N = (ds = [] ∧ N l M) := rfl
@[simp] theorem s_gsC : gsCons gd gs ds l M N = ∃ d rs, ds = d :: rs ∧ gd d l M fun l1 M1 => gs rs l1 M1 N := rfl
@[simp] theorem s_gT : gT n gs d l M N = ∃ ds, seqD M d = some ds ∧ ds.length = n ∧ gs ds l M N := rfl
@[simp] theorem s_gSub : gSub ta tb d l M N = ta l M (fun o M1 => tb l M1 (fun i M2 => ∃ r k xs j, o = .ref r ∧ i = .int k ∧ M2[r]? = some (.lst xs) ∧ ixN xs.length k = some j ∧ N l (M2.set r (.lst (xs.set j d)))) noX) noX := rfl
@[simp] theorem s_asg : dAsg ta gd E l M = ta l M (fun d M1 => gd d l M1 E.nx) (fun C d M1 => E.xc C d l M1) := rfl
@[simp] theorem s_set : dSet i ta E l M = ta l M (fun d M1 => E.nx (l.set i (some d)) M1) (fun C d M1 => E.xc C d l M1) := rfl
@[simp] theorem s_par : dPar i j u E l M = u l M (fun ds M1 => ∃ a b, ds = [a, b] ∧ E.nx ((l.set i (some a)).set j (some b)) M1) (fun C d M1 => E.xc C d l M1) := rfl
@[simp] theorem s_par3 : dPar3 i j q u E l M = u l M (fun ds M1 => ∃ a b c, ds = [a, b, c] ∧ E.nx (((l.set i (some a)).set j (some b)).set q (some c)) M1) (fun C d M1 => E.xc C d l M1) := rfl
@[simp] theorem s_chain {g g' : Dv → Dv → Mem → (Dv → Prop) → Prop} : dChain g g' ta tb tc l M P X = ta l M (fun x M1 => tb l M1 (fun y M2 => g x y M2 fun z => ∃ k, z = .bl k ∧
  if k = true then tc l M2 (fun w M3 => g' y w M3 fun d => P d M3) X else P (.bl false) M2) X) X := rfl
@[simp] theorem s_append : dAppend ta u l M P X = ta l M (fun d M1 => ∃ i xs0, d = .ref i ∧ M1[i]? = some (.lst xs0) ∧ u l M1 (fun ds M2 => ∃ y xs, ds = [y] ∧ M2[i]? = some (.lst xs) ∧ xs.length < sizeLine ∧ P .non (M2.set i (.lst (xs ++ [y])))) X) X := rfl
@[simp] theorem s_pop : dPop ta l M P X = ta l M (fun d M1 => ∃ i xs y, d = .ref i ∧ M1[i]? = some (.lst xs) ∧ xs[xs.length - 1]? = some y ∧ P y (M1.set i (.lst xs.dropLast))) X := rfl
@[simp] theorem s_noP {O : Option Int → Mem → Prop} : dNoP l M O X = O none M := rfl
@[simp] theorem s_part {O : Option Int → Mem → Prop} : dPart ta l M O X = ta l M (fun d M1 => ∃ i, d = .int i ∧ O (some i) M1) X := rfl
@[simp] theorem s_sl {tl th : DO} : dSl ta tl th l M P X = ta l M (fun x M1 => tl l M1 (fun lo M2 => th l M2 (fun hi M3 => gSl x lo hi M3 fun d => P d M3) X) X) X := rfl
@[simp] theorem s_slS {K : PySem.W.Frag} {tl th : DO} : dSlS K ta tl th l M P X = ta l M (fun x M1 => tl l M1 (fun lo M2 => th l M2 (fun hi M3 => ∃ ns, ScrD K x ns ∧ ns.length ≤ sizeLine ∧ P (.lst (cutD (ns.map Dv.int) lo hi)) M3) X) X) X := rfl
@[simp] theorem s_rev : dRev ta l M P X = ta l M (fun d M1 => ∃ xs, lstD M1 d = some xs ∧ P (.lst xs.reverse) M1) X := rfl
@[simp] theorem s_revM : dRevM ta l M P X = ta l M (fun d M1 => ∃ xs, lstD M1 d = some xs ∧ P (.ref M1.length) (M1 ++ [.lst xs.reverse])) X := rfl
section
variable {src : DI} {vs : List Nat} {I : List Dv → (Mem → Prop) → Mem → Prop}
@[simp] theorem s_for : dFor src gd t E l M = src l M (fun xs chk M1 => loopS gd t E chk xs l M1) (fun C d M1 => E.xc C d l M1) := rfl
@[simp] theorem s_comp : dComp src gd tA ta vs l M P X = src l M (fun xs chk M1 => xs.length ≤ sizeLine ∧ loopC gd tA ta vs chk xs [] l M1 (fun ys M2 => P (.lst ys) M2)) X := rfl
@[simp] theorem s_compM : dCompM src gd tA ta vs l M P X = src l M (fun xs chk M1 => xs.length ≤ sizeLine ∧ loopC gd tA ta vs chk xs [] l M1 (fun ys M2 => P (.ref M2.length) (M2 ++ [.lst ys]))) X := rfl
@[simp] theorem s_iSeq : iSeq ta l M I X = ta l M (fun d M1 => ∃ xs, seqD M1 d = some xs ∧ I xs (chkD d xs) M1) X := rfl
@[simp] theorem s_iR1 : iRan1 u l M I X = u l M (fun ds M1 => ∃ n, ds = [.int n] ∧ -(2 ^ 62) ≤ n ∧ n < 2 ^ 62 ∧ I (rngD 0 n) (fun _ => True) M1) X := rfl
@[simp] theorem s_iR2 : iRan2 u l M I X = u l M (fun ds M1 => ∃ a b, ds = [.int a, .int b] ∧ (-(2 ^ 62) ≤ a ∧ a < 2 ^ 62 ∧ -(2 ^ 62) ≤ b ∧ b < 2 ^ 62) ∧ I (rngD a b) (fun _ => True) M1) X := rfl
@[simp] theorem s_iEnum : iEnum u l M I X = u l M (fun ds M1 => ∃ d xs, ds = [d] ∧ seqD M1 d = some xs ∧ I (enumD xs) (chkD d xs) M1) X := rfl
@[simp] theorem s_iZip : iZip u l M I X = u l M (fun ds M1 => ∃ d e, ds = [d, e] ∧ ∃ xs ys, seqD M1 d = some xs ∧ seqD M1 e = some ys ∧ I (zipD xs ys) (fun M => chkD d xs M ∧ chkD e ys M) M1) X := by
  unfold iZip
  congr 1
  funext ds M1
  exact propext ⟨fun ⟨d, e, xs, ys, h1, h2⟩ => ⟨d, e, h1, xs, ys, h2⟩, fun ⟨d, e, h1, xs, ys, h2⟩ => ⟨d, e, xs, ys, h1, h2⟩⟩
end
@[simp] theorem s_wipe0 : wipeD l [] = l := rfl
@[simp] theorem s_wipe1 {v : Nat} {vs : List Nat} : wipeD l (v :: vs) = (wipeD l vs).set v none := rfl
/-! operations on given values -/
variable {a b : Int} {G : Dv → Prop} {x y : List Dv} {z w : Str} {c k : Bool}
@[simp] theorem s_add_i : gAdd (.int a) (.int b) M G = G (.int (a + b)) := rfl
@[simp] theorem s_add_s : gAdd (.str z) (.str w) M G = (z.length + w.length ≤ sizeLine ∧ G (.str (z ++ w))) := rfl
@[simp] theorem s_add_t : gAdd (.tup x) (.tup y) M G = (x.length + y.length ≤ sizeLine ∧ G (.tup (x ++ y))) := rfl
theorem s_add_l : gAdd (.lst x) (.lst y) M G = (x.length + y.length ≤ sizeLine ∧ G (.lst (x ++ y))) := propext ⟨fun ⟨p, r, e1, e2, h⟩ => by
  cases (show some x = some p from e1)
  cases (show some y = some r from e2)
  exact h, fun h => ⟨x, y, rfl, rfl, h⟩⟩
@[simp] theorem s_sub : gSub' (.int a) (.int b) M G = G (.int (a - b)) := rfl
@[simp] theorem s_mul : gMul (.int a) (.int b) M G = (a.natAbs.log2 + b.natAbs.log2 < 1000000 ∧ G (.int (a * b))) := rfl
@[simp] theorem s_div : gDiv (.int a) (.int b) M G = ((0 < b ∧ b.natAbs.log2 < 9000) ∧ G (.int (a / b))) := rfl
@[simp] theorem s_mod : gMod (.int a) (.int b) M G = (0 < b ∧ G (.int (a % b))) := rfl
@[simp] theorem s_pow : gPow (.int a) (.int b) M G = ((0 ≤ b ∧ b ≤ 1000000 ∧ a.natAbs < 2 ^ 64) ∧ G (.int (a ^ b.toNat))) := rfl
@[simp] theorem s_neg : gNeg (.int a) M G = G (.int (-a)) := rfl
@[simp] theorem s_lt : gLt (.int a) (.int b) M G = G (.bl (decide (a < b))) := rfl
@[simp] theorem s_le : gLe (.int a) (.int b) M G = G (.bl (decide (a ≤ b))) := rfl
@[simp] theorem s_gt : gGt (.int a) (.int b) M G = G (.bl (decide (b < a))) := rfl
@[simp] theorem s_ge : gGe (.int a) (.int b) M G = G (.bl (decide (b ≤ a))) := rfl
@[simp] theorem tru_bl : truD M (.bl c) = some c := rfl
@[simp] theorem tru_int : truD M (.int a) = some (a != 0) := rfl
@[simp] theorem tru_non : truD M .non = some false := rfl
@[simp] theorem seq_tup : seqD M (.tup x) = some x := rfl
@[simp] theorem seq_lst : seqD M (.lst x) = some x := rfl
@[simp] theorem lst_lst : lstD M (.lst x) = some x := rfl
@[simp] theorem is_non {e : Dv} : isD e .non = some (match e with | .non => true | _ => false) := rfl
@[simp] theorem is_bl {e : Dv} : isD e (.bl c) = some (match e with | .bl a => a == c | _ => false) := rfl
@[simp] theorem s_is {e f : Dv} {neg : Bool} : gIs neg e f M G = ∃ b, isD e f = some b ∧ G (.bl (if neg then !b else b)) := rfl
@[simp] theorem res_int : res M (.int a) = .int a := rfl
@[simp] theorem res_bl : res M (.bl c) = .bl c := rfl
@[simp] theorem res_non : res M .non = .non := rfl
@[simp] theorem res_str : res M (.str z) = .str z := rfl
@[simp] theorem res_tup : res M (.tup x) = .tup x := rfl
@[simp] theorem res_lst : res M (.lst x) = .lst x := rfl
@[simp] theorem s_eq_i : gEq (.int a) (.int b) M G = G (.bl (decide (a = b))) := propext ⟨fun h => h.2.2, fun h => ⟨rfl, rfl, h⟩⟩
@[simp] theorem s_ne_i : gNe (.int a) (.int b) M G = G (.bl (!decide (a = b))) := propext ⟨fun h => h.2.2, fun h => ⟨rfl, rfl, h⟩⟩
@[simp] theorem s_len_t : gLen [.tup x] M G = G (.int x.length) := propext ⟨fun ⟨d, k, e, h, g⟩ => by
  cases e; cases (show some (x.length : Int) = some k from h); exact g, fun h => ⟨_, _, rfl, rfl, h⟩⟩
@[simp] theorem s_len_l : gLen [.lst x] M G = G (.int x.length) := propext ⟨fun ⟨d, k, e, h, g⟩ => by
  cases e; cases (show some (x.length : Int) = some k from h); exact g, fun h => ⟨_, _, rfl, rfl, h⟩⟩
theorem s_len {e : Dv} (h : seqD M e = some x) : gLen [e] M G = G (.int x.length) := by
  have : lenD M e = some (x.length : Int) := by
    cases e with
    | str z => cases (show none = some x from h)
    | _ => simp only [lenD]; rw [h]; rfl
  exact propext ⟨fun ⟨d, k, e, h, g⟩ => by cases e; rw [this] at h; cases h; exact g, fun h => ⟨_, _, rfl, this, h⟩⟩
@[simp] theorem s_abs : gAbs [.int a] M G = G (.int (a.natAbs : Nat)) := propext ⟨fun ⟨i, e, h⟩ => by cases e; exact h, fun h => ⟨a, rfl, h⟩⟩
@[simp] theorem s_int : gInt [.int a] M G = G (.int a) := propext ⟨fun ⟨d, i, e, h, g⟩ => by cases e; cases (show some a = some i from h); exact g, fun h => ⟨_, a, rfl, rfl, h⟩⟩
@[simp] theorem s_max2 : gMax2 [.int a, .int b] M G = G (.int (max a b)) := propext ⟨fun ⟨i, j, e, h⟩ => by cases e; exact h, fun h => ⟨a, b, rfl, h⟩⟩
@[simp] theorem s_min2 : gMin2 [.int a, .int b] M G = G (.int (min a b)) := propext ⟨fun ⟨i, j, e, h⟩ => by cases e; exact h, fun h => ⟨a, b, rfl, h⟩⟩
theorem s_sum {e : Dv} {ns : List Int} (h : lstD M e = some (ns.map Dv.int)) (g : G (.int ns.sum)) : gSum [e] M G := ⟨e, ns, rfl, h, g⟩
theorem s_tuple {e : Dv} (h : seqD M e = some x) : gTuple [e] M G = G (.tup x) := propext ⟨fun ⟨d, l, e, h2, g⟩ => by cases e; rw [h] at h2; cases h2; exact g, fun g => ⟨e, x, rfl, h, g⟩⟩
theorem s_list {e : Dv} (h : seqD M e = some x) : gList [e] M G = G (.lst x) := propext ⟨fun ⟨d, l, e, h2, g⟩ => by cases e; rw [h] at h2; cases h2; exact g, fun g => ⟨e, x, rfl, h, g⟩⟩
theorem s_ix {e v : Dv} (h : seqD M e = some x) (hv : atI x a = some v) (g : G v) : gIx e (.int a) M G := ⟨a, rfl, .inl ⟨x, v, h, hv, g⟩⟩
theorem s_ixn {e v : Dv} {n : Nat} (h : seqD M e = some x) (hv : x[n]? = some v) (g : G v) : gIx e (.int n) M G := s_ix h (atI_nat hv) g
end
@[simp] theorem ex2 {α β : Type} {a : α} {b : β} {p : α → β → Prop} : (∃ d e, (a = d ∧ b = e) ∧ p d e) ↔ p a b := ⟨fun ⟨d, e, ⟨h1, h2⟩, h⟩ => by subst h1 h2; exact h, fun h => ⟨a, b, ⟨rfl, rfl⟩, h⟩⟩
@[simp] theorem ex2b {α β : Type} {a : α} {b : β} {p : α → β → Prop} : (∃ d e, (a = d ∧ e = b) ∧ p d e) ↔ p a b := ⟨fun ⟨d, e, ⟨h1, h2⟩, h⟩ => by subst h1 h2; exact h, fun h => ⟨a, b, ⟨rfl, rfl⟩, h⟩⟩
@[simp] theorem ex3 {α β γ : Type} {a : α} {b : β} {c : γ} {p : α → β → γ → Prop} : (∃ d e f, (a = d ∧ b = e ∧ c = f) ∧ p d e f) ↔ p a b c := ⟨fun ⟨d, e, f, ⟨h1, h2, h3⟩, h⟩ => by subst h1 h2 h3; exact h, fun h => ⟨a, b, c, ⟨rfl, rfl, rfl⟩, h⟩⟩
/-- one statement at a time -/
theorem seq_step {t s : DS} {E : DK} {l : Loc} {M : Mem} (h : ∀ C, C = s E → t { E with nx := C } l M) : dSeq t s E l M := h _ rfl
/-! ### kinds -/
mutual
/-- a value with no places in it -/
def okV : Dv → Bool
  | .non => true
  | .bl _ => true
  | .int _ => true
  | .str _ => true
  | .dic => true
  | .tup l => okVs l
  | .lst l => okVs l
  | _ => false
def okVs : List Dv → Bool
  | [] => true
  | d :: l => okV d && okVs l
end
def kind : Dv → String
  | .non => "NoneType"
  | .bl _ => "bool"
  | .int _ => "int"
  | .str _ => "str"
  | .tup _ => "tuple"
  | .dic => "dict"
  | _ => "list"
theorem ty_ok {M : Mem} {d : Dv} (h : okV d = true) : tyD M d = some (kind d) := by
  cases d <;> first | rfl | (cases h)
theorem s_isi {M : Mem} {G : Dv → Prop} {d : Dv} {b : String} (h : okV d = true) (hb : b ∈ ["bool", "int", "str", "tuple", "list", "dict", "set"]) : gIsi [d, .ty b] M G = G (.bl (isiB (kind d) b)) :=
  propext ⟨fun ⟨d', a, b', e, ht, _, g⟩ => by cases e; rw [ty_ok h] at ht; cases ht; exact g, fun g => ⟨d, _, b, rfl, ty_ok h, hb, g⟩⟩
theorem okV_mem : ∀ {l : List Dv}, okVs l = true → ∀ d ∈ l, okV d = true
  | d :: l, h, e, he => by
    obtain ⟨h1, h2⟩ := Bool.and_eq_true_iff.mp h
    rcases List.mem_cons.mp he with rfl | he
    · exact h1
    · exact okV_mem h2 e he
theorem okVs_of : ∀ {l : List Dv}, (∀ d ∈ l, okV d = true) → okVs l = true
  | [], _ => rfl
  | d :: l, h => Bool.and_eq_true_iff.mpr ⟨h d List.mem_cons_self, okVs_of fun e he => h e (List.mem_cons_of_mem _ he)⟩
/-! ### loops -/
section
variable {g : DG} {tt : DT} {te : DE} {vs : List Nat} {chk : Mem → Prop} {xs acc : List Dv} {l : Loc} {M : Mem} {P : List Dv → Mem → Prop}
/-- a comprehension that changes nothing -/
theorem loopC_pure (p : Dv → Bool) (v : Dv → Dv) (hc : chk M) : ∀ {xs acc : List Dv}, (∀ x ∈ xs, ∀ (C1 : Dv → Mem → Prop) (C2 : Mem → Prop), (if p x = true then C1 (v x) M else C2 M) → g x (wipeD l vs) M fun l2 M2 => tt l2 M2 (fun b M3 => if b = true then te l2 M3 C1 noX else C2 M3) noX) →
    P (acc ++ (xs.filter p).map v) M → loopC g tt te vs chk xs acc l M P
  | [], acc, _, h => ⟨hc, by simpa using h⟩
  | x :: xs, acc, st, h => ⟨hc, st x List.mem_cons_self _ _ (by
    by_cases e : p x = true
    · rw [if_pos e]
      refine loopC_pure p v hc (fun y hy => st y (List.mem_cons_of_mem _ hy)) ?_
      rw [List.filter_cons_of_pos e] at h
      simpa using h
    · rw [if_neg e]
      refine loopC_pure p v hc (fun y hy => st y (List.mem_cons_of_mem _ hy)) ?_
      rw [List.filter_cons_of_neg e] at h
      exact h)⟩
theorem filter_tt {α : Type} : ∀ l : List α, l.filter (fun _ => true) = l
  | [] => rfl
  | x :: t => by rw [List.filter_cons_of_pos rfl, filter_tt t]
theorem loopC_map (v : Dv → Dv) (hc : chk M) (h : ∀ x ∈ xs, ∀ (C1 : Dv → Mem → Prop) (C2 : Mem → Prop), C1 (v x) M → g x (wipeD l vs) M fun l2 M2 => tt l2 M2 (fun b M3 => if b = true then te l2 M3 C1 noX else C2 M3) noX)
    (hp : P (acc ++ xs.map v) M) : loopC g tt te vs chk xs acc l M P := loopC_pure (fun _ => true) v hc (fun x hx C1 C2 hC => h x hx C1 C2 (by rw [if_pos rfl] at hC; exact hC)) (by rw [filter_tt]; exact hp)
/-- by an invariant: what was walked, what was made, the memory -/
theorem loopC_inv (I : List Dv → List Dv → Mem → Prop) (hc : ∀ pre acc M, I pre acc M → chk M) : ∀ {xs : List Dv} {pre acc : List Dv} {M : Mem}, I pre acc M →
    (∀ pre x acc M, x ∈ xs → I pre acc M → ∀ (C1 : Dv → Mem → Prop) (C2 : Mem → Prop), (∀ y M', I (pre ++ [x]) (acc ++ [y]) M' → C1 y M') → (∀ M', I (pre ++ [x]) acc M' → C2 M') → g x (wipeD l vs) M fun l2 M2 => tt l2 M2 (fun b M3 => if b = true then te l2 M3 C1 noX else C2 M3) noX) →
    (∀ acc M, I (pre ++ xs) acc M → P acc M) → loopC g tt te vs chk xs acc l M P
  | [], pre, acc, M, h, _, fin => ⟨hc _ _ _ h, fin acc M (by simpa using h)⟩
  | x :: xs, pre, acc, M, h, st, fin => ⟨hc _ _ _ h, st pre x acc M List.mem_cons_self h _ _
    (fun y M' h' => loopC_inv I hc (pre := pre ++ [x]) h' (fun p y a M hy => st p y a M (List.mem_cons_of_mem _ hy)) fun a M' h2 => fin a M' (by simpa using h2))
    (fun M' h' => loopC_inv I hc (pre := pre ++ [x]) h' (fun p y a M hy => st p y a M (List.mem_cons_of_mem _ hy)) fun a M' h2 => fin a M' (by simpa using h2))⟩
/-- a for loop by an invariant -/
theorem loopS_inv {body : DS} {E : DK} (I : List Dv → Loc → Mem → Prop) (hc : ∀ pre l M, I pre l M → chk M) : ∀ {xs : List Dv} {pre : List Dv} {l : Loc} {M : Mem}, I pre l M →
    (∀ pre x suf l M, xs = suf ++ x :: (xs.drop (suf.length + 1)) → I pre l M → ∀ (C : Loc → Mem → Prop), (∀ l' M', I (pre ++ [x]) l' M' → C l' M') → g x l M fun l2 M2 => body { E with nx := C, ct := C, bk := E.nx } l2 M2) →
    (∀ l M, I (pre ++ xs) l M → E.nx l M) → loopS g body E chk xs l M
  | [], pre, l, M, h, _, fin => ⟨hc _ _ _ h, fin l M (by simpa using h)⟩
  | x :: xs, pre, l, M, h, st, fin => ⟨hc _ _ _ h, st pre x [] l M (by simp) h _ fun l' M' h' =>
    loopS_inv I hc (pre := pre ++ [x]) h' (fun p y suf l M e hi C hC => st p y (x :: suf) l M (by simpa using e) hi C hC) fun l M h2 => fin l M (by simpa using h2)⟩
theorem loopS_ixg {body : DS} {E : DK} (I : Nat → Loc → Mem → Prop) (hc : ∀ k l M, I k l M → chk M) : ∀ {xs : List Dv} {n : Nat} {l : Loc} {M : Mem}, I n l M →
    (∀ k x l M, xs[k]? = some x → I (n + k) l M → ∀ (C : Loc → Mem → Prop), (∀ l' M', I (n + k + 1) l' M' → C l' M') → g x l M fun l2 M2 => body { E with nx := C, ct := C, bk := E.nx } l2 M2) →
    (∀ l M, I (n + xs.length) l M → E.nx l M) → loopS g body E chk xs l M
  | [], n, l, M, h, _, fin => ⟨hc _ _ _ h, fin l M h⟩
  | x :: xs, n, l, M, h, st, fin => ⟨hc _ _ _ h, st 0 x l M rfl h _ fun l' M' h' =>
    loopS_ixg I hc (n := n + 1) h' (fun k y l M e hi C hC => st (k + 1) y l M (by simpa using e) (by rw [show n + (k + 1) = n + 1 + k by omega]; exact hi) C fun l' M' h2 => hC l' M' (by rw [show n + 1 + k + 1 = n + (k + 1) + 1 by omega]; exact h2)) fun l M h2 => fin l M (by rw [List.length_cons, show n + (xs.length + 1) = n + 1 + xs.length by omega]; exact h2)⟩
/-- a for loop by an invariant that knows how many turns were done -/
theorem loopS_ix {body : DS} {E : DK} (I : Nat → Loc → Mem → Prop) (hc : ∀ k l M, I k l M → chk M) (h : I 0 l M)
    (st : ∀ k x l M, xs[k]? = some x → I k l M → ∀ (C : Loc → Mem → Prop), (∀ l' M', I (k + 1) l' M' → C l' M') → g x l M fun l2 M2 => body { E with nx := C, ct := C, bk := E.nx } l2 M2)
    (fin : ∀ l M, I xs.length l M → E.nx l M) : loopS g body E chk xs l M :=
  loopS_ixg I hc (n := 0) h (fun k x l M e hi C hC => st k x l M e (by simpa using hi) C fun l' M' h2 => hC l' M' (by simpa using h2)) fun l M h2 => fin l M (by simpa using h2)
end
instance (priority := low) noTBL : TBL := ⟨[]⟩
end D
end

section
set_option Elab.async false
set_option linter.all false
set_option maxRecDepth 100000
set_option maxHeartbeats 2000000
set_option autoImplicit false
/-! The deep layer, part 14: instances of own classes: fields, making. -/
namespace D
open PySem PySem.Spec PyProof.Rows L2
variable [TBL]
/-- the class, the fields' names, the fields' values -/
def insM (M : Mem) : Dv → Option (Addr × List Str × List Dv)
  | .obj C ks l => some (C, ks, l)
  | .ref i => match M[i]? with
    | some (.ins C ks l) => some (C, ks, l)
    | _ => none
  | _ => none
/-- a plain class that has no such attribute itself -/
structure FlC (K : PySem.W.Frag) (C : Addr) (x : Str) : Prop where
  c : Cls K C
  n : NoAttr K C x
def dFld (K : PySem.W.Frag) (x : Str) (ta : DE) : DE := fun l M P X => ta l M (fun d M1 => ∃ C ks fs v, insM M1 d = some (C, ks, fs) ∧ FlC K C x ∧ (ks.zip fs).lookup x = some v ∧ P v M1) X
def putD (f : Str) (v : Dv) : List Str → List Dv → List Str × List Dv
  | g :: ks, x :: l => if g = f then (g :: ks, v :: l) else (g :: (putD f v ks l).1, x :: (putD f v ks l).2)
  | _, _ => ([f], [v])
/-- o.x = value -/
def dPutF (K : PySem.W.Frag) (x : Str) (ta tv : DE) : DS := fun E l M => tv l M (fun y M1 => ta l M1 (fun d M2 => ∃ i C ks fs, d = .ref i ∧ M2[i]? = some (.ins C ks fs) ∧ FlC K C x ∧ ks.length < 1000 ∧
  E.nx l (M2.set i (.ins C (putD x y ks fs).1 (putD x y ks fs).2))) (fun C d M1 => E.xc C d l M1)) (fun C d M1 => E.xc C d l M1)
/-- C(..) -/
def dMake (C : Addr) (S : DSp) (u : DA) : DE := fun l M P X => u l M (fun ds M1 => S (.ref M1.length :: ds) (M1 ++ [.ins C [] []]) (fun v M2 => v = .non ∧ Ret M1.length P (.ref M1.length) M2) X) X
section
variable {n : Nat} {f : Fr} {H : Hp} {M : Mem}
theorem lookup_rd {x : Str} {d : Dv} : ∀ {fs : List (Str × V)} {ks : List Str} {l : List Dv}, fs.map (fun q => q.1) = ks → RDs n f H l (fs.map (fun q : Str × V => q.2)) → (ks.zip l).lookup x = some d → ∃ v, fs.lookup x = some v ∧ RD n f H d v
  | [], ks, l, e, r, h => by
    subst e
    cases h
  | (g, v) :: fs, ks, l, e, r, h => by
    subst e
    cases l with
    | nil => cases h
    | cons y l =>
      obtain ⟨w, r', e, r1, r2⟩ : ∃ w r', v :: fs.map (fun q : Str × V => q.2) = w :: r' ∧ RD n f H y w ∧ RDs n f H l r' := r
      cases e
      have h' : ((g, y) :: ((fs.map (fun q : Str × V => q.1)).zip l)).lookup x = some d := h
      show ∃ v', ((g, v) :: fs).lookup x = some v' ∧ _
      rw [List.lookup_cons] at h' ⊢
      by_cases q : (x == g) = true
      · rw [q] at h' ⊢; cases h'; exact ⟨v, rfl, r1⟩
      · rw [Bool.eq_false_iff.mpr q] at h' ⊢; exact lookup_rd rfl r2 h'
theorem put_rd {x : Str} {d : Dv} {y : V} (hy : RD n f H d y) : ∀ {fs : List (Str × V)} {ks : List Str} {l : List Dv}, fs.map (fun q => q.1) = ks → RDs n f H l (fs.map (fun q : Str × V => q.2)) →
    (putF x y fs).map (fun q => q.1) = (putD x d ks l).1 ∧ RDs n f H (putD x d ks l).2 ((putF x y fs).map (fun q : Str × V => q.2))
  | [], ks, l, e, r => by
    subst e
    have : putD x d [] l = ([x], [d]) := by unfold putD; rfl
    show _ = (putD x d [] l).1 ∧ RDs n f H (putD x d [] l).2 _
    rw [this]
    exact ⟨rfl, RDs.cons hy RDs.nil⟩
  | (g, v) :: fs, ks, l, e, r => by
    subst e
    cases l with
    | nil => cases (show v :: fs.map (fun q : Str × V => q.2) = [] from r)
    | cons z l =>
      obtain ⟨w, r', e, r1, r2⟩ : ∃ w r', v :: fs.map (fun q : Str × V => q.2) = w :: r' ∧ RD n f H z w ∧ RDs n f H l r' := r
      cases e
      obtain ⟨i1, i2⟩ := put_rd (x := x) hy (fs := fs) rfl r2
      have e1 : putF x y ((g, v) :: fs) = if g = x then (g, y) :: fs else (g, v) :: putF x y fs := rfl
      have e2 : putD x d (g :: fs.map (fun q : Str × V => q.1)) (z :: l) = if g = x then (g :: fs.map (fun q : Str × V => q.1), d :: l) else (g :: (putD x d (fs.map (fun q : Str × V => q.1)) l).1, z :: (putD x d (fs.map (fun q : Str × V => q.1)) l).2) := by
        conv => lhs; unfold putD
      rw [e1]
      show _ = (putD x d (g :: fs.map (fun q : Str × V => q.1)) (z :: l)).1 ∧ RDs n f H (putD x d (g :: fs.map (fun q : Str × V => q.1)) (z :: l)).2 _
      rw [e2]
      by_cases q : g = x
      · rw [if_pos q, if_pos q]; exact ⟨rfl, RDs.cons hy r2⟩
      · rw [if_neg q, if_neg q]
        refine ⟨?_, RDs.cons r1 i2⟩
        show g :: _ = g :: _
        rw [i1]
theorem ins_rd (m : RM f H M) {d : Dv} {v : V} {C : Addr} {ks : List Str} {l : List Dv} (r : RD M.length f H d v) (h : insM M d = some (C, ks, l)) :
    ∃ (a dx : Addr) (fs : List (Str × V)), v = .ref a ∧ H a = some (.ins C dx fs) ∧ fs.map (fun q => q.1) = ks ∧ RDs M.length f H l (fs.map (fun q : Str × V => q.2)) := by
  cases d with
  | obj C' ks' l' =>
    obtain ⟨rfl, rfl, rfl⟩ : C' = C ∧ ks' = ks ∧ l' = l := by
      have e : some (C', ks', l') = some (C, ks, l) := h
      cases e; exact ⟨rfl, rfl, rfl⟩
    obtain ⟨a, dx, fs, e, hH, _, hk, hr⟩ : ∃ (a dx : Addr) (fs : List (Str × V)), v = .ref a ∧ H a = some (.ins C' dx fs) ∧ Bes M.length f a ∧ fs.map (fun q => q.1) = ks' ∧ RDs M.length f H l' (fs.map (fun q : Str × V => q.2)) := r
    exact ⟨a, dx, fs, e, hH, hk, hr⟩
  | ref i =>
    obtain ⟨hi, rfl⟩ : i < M.length ∧ v = .ref (f i) := r
    have h' : (match M[i]? with | some (MO.ins C ks l) => some (C, ks, l) | _ => none) = some (C, ks, l) := h
    cases hM : M[i]? with
    | none => rw [hM] at h'; cases h'
    | some o =>
      rw [hM] at h'
      cases o with
      | lst l => cases h'
      | ins C' ks' l' =>
        cases h'
        obtain ⟨dx, fs, hH, hk, hr⟩ : ∃ (dx : Addr) (fs : List (Str × V)), H (f i) = some (.ins C dx fs) ∧ fs.map (fun q => q.1) = ks ∧ RDs M.length f H l (fs.map (fun q : Str × V => q.2)) := m.ob i _ hM
        exact ⟨f i, dx, fs, rfl, hH, hk, hr⟩
  | _ => cases h
theorem rm_made {x dx C : Addr} (m : RM f H M) (hx : H x = none) (hd : H dx = none) (ne : dx ≠ x) :
    RM (ext f M.length x) (upd (upd H dx (.own x)) x (.ins C dx [])) (M ++ [.ins C [] []]) ∧ Lt M.length f H (M ++ [MO.ins C [] []]).length (ext f M.length x) (upd (upd H dx (.own x)) x (.ins C dx [])) := by
  have hx1 : (upd H dx (.own x)) x = none := by rw [upd_ne (Ne.symm ne)]; exact hx
  exact ⟨(m.same (same_new hd)).new hx1 ⟨dx, [], upd_same, rfl, rfl⟩, (Lt.same (same_new hd)).trans (lt_newl hx1)⟩
end
section
variable {X : Cx} {W : WX} {pos pos' p : Pos} {o e value : Expr} {es : List Expr} {ta tv : DE} {u : DA} {x : Str} {k : Nat} {S : DSp} {f C : Addr} {fd : FuncData} {ps : List Str}
theorem je_fld (he : JE X W e ta) (hb : attributeBase e x X.env (eval e X.env) = eval e X.env := by rfl) : JE X W (.Attribute e x pos) (dFld X.K x ta) :=
  pe_imp (pe_fld he hb) fun s H Q ⟨f, l, M, P, Y, m, rl, h, k, kx⟩ => ⟨f, l, M, _, Y, m, rl, h, fun f1 H1 M1 d v L1 m1 r1 ⟨C, ks, fs0, v0, e1, fc, e2, p⟩ => by
    obtain ⟨a, dx, fs, rfl, hH, hk, hr⟩ := ins_rd m1 r1 e1
    obtain ⟨w, e3, r3⟩ := lookup_rd hk hr e2
    exact ⟨a, C, dx, fs, w, rfl, hH, fc.c, fc.n, e3, k f1 H1 M1 v0 w L1 m1 r3 p⟩, kx⟩
theorem js_fld (ho : JE X W o ta) (hv : JE X W value tv) (hs : swapsWith value (some (.Attribute o x pos')) pos.line X.env = pure false := by rfl) : JS X W (.Assign [.Attribute o x pos'] value pos) (dPutF X.K x ta tv) :=
  ps_imp (ps_fld ho hv hs) fun D s H ⟨f, l, M, E, m, r, h, k⟩ => ⟨f, l, M, _, _, m, r, h, fun f1 H1 M1 y yv L1 m1 r1 h1 => ⟨f1, l, M1, _, _, m1, r.mono L1, h1, fun f2 H2 M2 d v L2 m2 r2 ⟨i, C, ks, fs0, ed, e1, fc, hl, h2⟩ => by
    subst ed
    obtain ⟨hi, rfl⟩ : i < M2.length ∧ v = .ref (f2 i) := r2
    obtain ⟨dx, fs, hH, hk, hr⟩ : ∃ (dx : Addr) (fs : List (Str × V)), H2 (f2 i) = some (.ins C dx fs) ∧ fs.map (fun q => q.1) = ks ∧ RDs M2.length f2 H2 fs0 (fs.map (fun q : Str × V => q.2)) := m2.ob i _ e1
    obtain ⟨p1, p2⟩ := put_rd (x := x) (r1.mono L2) hk hr
    have L3 : Lt M2.length f2 H2 M2.length f2 (upd H2 (f2 i) (.ins C dx (putF x yv fs))) := lt_set hi (by rw [hH]; exact fun e => by cases e)
    have m3 : RM f2 (upd H2 (f2 i) (.ins C dx (putF x yv fs))) (M2.set i (.ins C (putD x y ks fs0).1 (putD x y ks fs0).2)) := m2.set hi ⟨dx, _, upd_same, p1, p2.mono L3⟩
    have L4 : Lt M.length f H (M2.set i (.ins C (putD x y ks fs0).1 (putD x y ks fs0).2)).length f2 (upd H2 (f2 i) (.ins C dx (putF x yv fs))) := by rw [List.length_set]; exact (L1.trans L2).trans L3
    refine ⟨f2 i, C, dx, fs, rfl, hH, fc.c, fc.n, by rw [← List.length_map (f := fun q : Str × V => q.1), hk]; exact hl, ?_⟩
    exact k.nx f2 _ s l _ L4 m3 (r.mono L4) h2, (k.kx r).mono L1⟩, k.kx r⟩
theorem run_makeG {pins : List (Addr × Obj)} {σ : L2.St} {H : Hp} {s : Shared} {Q : VK} {us : List Value} {vs : List V} (M : Mk X.K C f) (F : FnG X.prog X.w X.K X.mg X.base k f fd ps S) (hr : Room (k + 1) X.A) (hgu : X.A.guards = some []) (tk : Takes X W) (hb : Binds X.K fd ps [])
    (I : Inv X pins σ H s) (r : Vals vs us)
    (h : ∀ x dx, H x = none → H dx = none → dx ≠ x → spOf S (.ref x :: vs) (upd (upd H dx (.own x)) x (.ins C dx [])) (fun v H2 => v = .non ∧ Q (.ref x) H2) (WE W σ)) :
    wpAny (model X.prog X.w) X.A (call (.ref C) us) (EP X pins σ Q) X.xe s := by
  have hq := h (s.heap.objs.size + 1) s.heap.objs.size (I.hok.fresh (Nat.le_succ _)) (I.hok.fresh (Nat.le_refl _)) (Nat.ne_of_lt (Nat.lt_succ_self _))
  have I2 := Inv.made (C := C) I
  have r2 : Vals (V.ref (s.heap.objs.size + 1) :: vs) (Value.ref (s.heap.objs.size + 1) :: us) := .cons rfl r
  have hl : ((Value.ref (s.heap.objs.size + 1) :: us) ++ []).length = ps.length := by
    obtain ⟨f2, M2, ds, P2, Y2, _, rr, h2, _, _⟩ := hq
    rw [List.append_nil, ← r2.length, rr.length]; exact F.len _ _ _ _ h2
  have b := hb _ (Value.ref (s.heap.objs.size + 1) :: us) I2.kIn hl
  rw [List.append_nil] at b
  refine wpAny_call (make_map (f := f) I.kIn M.makes M.init (beq_iff_eq.mp M.fn) (codeAny_mono (F.run _ X.stack _ _ ⟨Value.ref (s.heap.objs.size + 1) :: us, []⟩ (Value.ref (s.heap.objs.size + 1) :: us) _ _ (WE W σ) (hr.make C us []) hgu
    (I2.env0.make C us []) b r2 hq) fun r s' hq' => ?_))
  cases r with
  | error e => exact passAt tk σ pins _ _ e s' I2 hq'
  | ok fl =>
    cases fl with
    | ret u =>
      obtain ⟨v, H', I3, rv, ev, q3⟩ := I2.after hq'
      subst ev
      exact ⟨rv, ⟨V.ref (s.heap.objs.size + 1), H', I3, rfl, q3⟩⟩
    | next => exact False.elim hq'
    | brk => exact False.elim hq'
    | cont => exact False.elim hq'
theorem je_make (Mk0 : Mk X.K C f) (F : FnG X.prog X.w X.K X.mg X.base k f fd ps S) (hr : Room (k + 1) X.A) (hgu : X.A.guards = some []) (tk : Takes X W) (hg : Gl X x) (hm : X.mg x = some (.ref C)) (hb : Binds X.K fd ps [])
    (ha : JA X W (e :: es) u) (hdb : (x == ("__debug__" : Str)) = false := by decide) (he : starEach (e :: es) X.env = (false, eval e X.env) :: starEach es X.env := by rfl) (hpl : (backTo pos (starEach es X.env)).any (·.1) = false := by rfl) :
    JE X W (.Call (.Name x p) (e :: es) [] pos) (dMake C S u) := by
  refine ⟨fun pins s σ H Q I ⟨f0, l, M, Pd, Y, m, rl, h, k0, kx⟩ => ?_⟩
  refine wpAny_Call_Name_kw (ld_glob I hg hm ?_ hdb)
  refine PySem.W.callWith_K (h₀ := X.base) I.ok.mod.kin Mk0.kp (thn (ha.run pos pins s σ H (fun vs H1 => ∀ x dx, H1 x = none → H1 dx = none → dx ≠ x → spOf S (.ref x :: vs) (upd (upd H1 dx (.own x)) x (.ins C dx [])) (fun v H2 => v = .non ∧ Q (.ref x) H2) (WE W σ)) I
    ⟨f0, l, M, _, Y, m, rl, h, fun f1 H1 M1 ds vs L1 m1 r1 h1 a dx ha hd ne => ?_, kx⟩) fun us s1 ⟨vs, H1, I1, r, q⟩ => ⟨I1.kIn, run_makeG Mk0 F hr hgu tk hb I1 r q⟩) he hpl
  obtain ⟨m2, L2⟩ := rm_made (C := C) m1 ha hd ne
  refine ⟨_, _, _, _, Y, m2, RDs.cons (d := .ref M1.length) rd_newl (r1.mono L2), h1, fun f3 H3 M3 d v L3 m3 r3 ⟨ed, hret⟩ => ?_, fun f' H' M' C' d a L3 m3 r3 h3 => kx f' H' M' C' d a ((L1.trans L2).trans L3) m3 r3 h3⟩
  subst ed
  have e5 := L3.ag M1.length (by simp)
  rw [ext_self] at e5
  have r5 : RD M3.length f3 H3 (.ref M1.length) (.ref a) := ⟨Nat.lt_of_lt_of_le (by simp) L3.le, by rw [e5]⟩
  exact ⟨r3, ret_ok (k0.mono L1) (L2.trans L3) m3 r5 hret⟩
end
end D
end

section
set_option Elab.async false
set_option linter.all false
set_option maxRecDepth 100000
set_option maxHeartbeats 2000000
set_option autoImplicit false
/-! The deep layer, part 15: what is never reached; pop at a place, stars, lists of ranges. -/
namespace D
open PySem PySem.Spec PyProof.Rows L2
variable [TBL]
/-- a statement that is never reached -/
def dBad : DS := fun _ _ _ => False
def dBadE : DE := fun _ _ _ _ => False
def dPopAt (to : DE) (u : DA) : DE := fun l M P X => to l M (fun d M1 => ∃ i xs0, d = .ref i ∧ M1[i]? = some (.lst xs0) ∧
  u l M1 (fun ds M2 => ∃ (k : Nat) (y : Dv) (xs : List Dv), ds = [.int (k : Int)] ∧ M2[i]? = some (.lst xs) ∧ xs[k]? = some y ∧ P y (M2.set i (.lst (xs.eraseIdx k)))) X) X
def dStar (t : DE) (u : DA) : DA := fun l M R X => t l M (fun d M1 => ∃ xs, seqD M1 d = some xs ∧ u l M1 (fun ds M2 => R (xs ++ ds) M2) X) X
/-- list(x), to be changed -/
def dListM (u : DA) : DE := fun l M P X => u l M (fun ds M1 => ∃ d xs, ds = [d] ∧ seqD M1 d = some xs ∧ P (.ref M1.length) (M1 ++ [.lst xs])) X
def dLRg (ta : DE) : DE := fun l M P X => ta l M (fun d M1 => ∃ n : Int, d = .int n ∧ -(2 ^ 62) ≤ n ∧ n ≤ 2 ^ 24 ∧ P (.lst (rngD 0 n)) M1) X
def dLRgM (ta : DE) : DE := fun l M P X => ta l M (fun d M1 => ∃ n : Int, d = .int n ∧ -(2 ^ 62) ≤ n ∧ n ≤ 2 ^ 24 ∧ P (.ref M1.length) (M1 ++ [.lst (rngD 0 n)])) X
def dTRg (ta : DE) : DE := fun l M P X => ta l M (fun d M1 => ∃ n : Int, d = .int n ∧ -(2 ^ 62) ≤ n ∧ n ≤ 2 ^ 24 ∧ P (.tup (rngD 0 n)) M1) X
section
variable {X : Cx} {W : WX} {pos apos cpos p p2 p3 : Pos} {o e : Expr} {es : List Expr} {st : Stmt} {to te ta : DE} {u : DA}
theorem js_bad : JS X W st dBad := ⟨fun pins s σ H D I h => by
  obtain ⟨f, l, M, E, m, r, hf, k⟩ := h
  exact (show False from hf).elim⟩
theorem je_bad : JE X W e dBadE := ⟨fun pins s σ H Q I h => by
  obtain ⟨f, l, M, P, Y, m, rl, hf, k, kx⟩ := h
  exact (show False from hf).elim⟩
theorem je_popAt (ho : JE X W o to) (ha : JA X W [e] u)
    (hbase : attributeBase o "pop" X.env (eval o X.env) = eval o X.env := by rfl)
    (hfew : ((backTo cpos (starEach [e] X.env)).all (fun x => !x.1) && (backToKw cpos (keywordEach [] X.env)).all (fun x => x.1.isSome)
      && decide ([e].length + ([] : List Keyword).length + (if ([] : List Keyword).isEmpty then 0 else 1) < 30)) = true := by rfl)
    (hline : (apos.endLine == cpos.line) = true := by rfl) (hs : starEach [e] X.env = (false, eval e X.env) :: starEach [] X.env := by rfl) (hplain : (backTo cpos (starEach [] X.env)).any (·.1) = false := by rfl) :
    JE X W (.Call (.Attribute o "pop" apos) [e] [] cpos) (dPopAt to u) :=
  pe_imp (pe_bm PySem.F.plainAttrs_list PySem.F.slot_list_pop PySem.F.type_list_pop mt_popAt ho ha hbase hfew hline hs hplain) fun s H Q ⟨f, l, M, P, Y, m, rl, h, k, kx⟩ =>
    ⟨f, l, M, _, Y, m, rl, h, fun f1 H1 M1 d v x1 m1 r1 ⟨i, xs0, ed, e0, h1⟩ => by
      subst ed
      obtain ⟨hi, rfl⟩ : i < M1.length ∧ v = .ref (f1 i) := r1
      obtain ⟨_, _, vs0, hH0, _⟩ := rm_lst m1 e0
      refine ⟨.inl ⟨rfl, vs0, .inl (.inl hH0)⟩, f1, l, M1, _, Y, m1, rl.mono x1, h1, fun f2 H2 M2 ds us x2 m2 r2 ⟨j, y, xs, ed, e2, ey, p⟩ => ?_, kx.mono x1⟩
      subst ed
      obtain ⟨w, rfl, rw_⟩ := rds1 r2
      cases (show w = .int (j : Int) from rw_)
      obtain ⟨hi2, hz2, vs, hH, hv⟩ := rm_lst m2 e2
      obtain ⟨yv, ew, ry⟩ := hv.get ey
      have ea : f2 i = f1 i := x2.ag i hi
      have hj : j < xs.length := (List.getElem?_eq_some_iff.mp ey).1
      have hl2 : vs.length = xs.length := hv.length
      have er : RDs M2.length f2 H2 (xs.eraseIdx j) (vs.eraseIdx j) := by
        rw [List.eraseIdx_eq_take_drop_succ, List.eraseIdx_eq_take_drop_succ]
        exact (hv.take _).app (hv.drop _)
      obtain ⟨L3, m3⟩ := rm_put (ys := xs.eraseIdx j) (us := vs.eraseIdx j) m2 hi2 hH (by have := List.length_eraseIdx_le xs j; omega) er
      have hz : xs.length ≤ 16777216 := by have := hz2; rw [sizeLine_eq] at this; omega
      refine ⟨f1 i, vs, (j : Int), j, yv, rfl, rfl, by rw [← ea]; exact hH, by omega, by omega, ?_, ew, ?_⟩
      · unfold seqIndex?
        have h1 : ¬ ((j : Int) < 0) := by omega
        have h2 : (0 : Int) ≤ (j : Int) ∧ (j : Int) < (vs.length : Int) := by omega
        simp only [if_neg h1, h2.1, h2.2, decide_true, Bool.and_self, if_true, Int.toNat_natCast]
      · rw [← ea]
        exact k f2 _ _ y yv ((x1.trans x2).trans L3) m3 (ry.mono L3) p, kx⟩
theorem ja_star (ha : JE X W e te) (hr : JA X W es u) (hs : starEach (.Starred e p :: es) X.env = (true, eval e X.env) :: starEach es X.env := by rfl) : JA X W (.Starred e p :: es) (dStar te u) :=
  pa_imp (StX.pa_star ha hr hs) fun s H Q ⟨f, l, M, P, Y, m, rl, h, k, kx⟩ => ⟨f, l, M, _, Y, m, rl, h, fun f1 H1 M1 d v L1 m1 r1 ⟨xs, e1, h1⟩ => by
    obtain ⟨a, ys, rfl, hq, hrr, hz⟩ := rd_seqM (K := X.K) m1 r1 e1
    exact ⟨a, ys, rfl, hq.symm, f1, l, M1, _, Y, m1, rl.mono L1, h1, fun f2 H2 M2 ds vs L2 m2 r2 h2 => k f2 H2 M2 (xs ++ ds) (ys ++ vs) (L1.trans L2) m2 ((hrr.mono L2).app r2) h2, kx.mono L1⟩, kx⟩
theorem je_listM (hg : Gl X "list") (hm : X.mg "list" = none) (ha : JA X W (e :: es) u)
    (he : starEach (e :: es) X.env = (false, eval e X.env) :: starEach es X.env := by rfl) (hpl : (backTo pos (starEach es X.env)).any (·.1) = false := by rfl) : JE X W (.Call (.Name "list" p) (e :: es) [] pos) (dListM u) :=
  pe_imp (pe_callTy call_list_of hg hm PyProof.Rows.boot_list ha (by decide) (by decide) he hpl) fun s H Q ⟨f, l, M, P, Y, m, rl, h, k, kx⟩ => ⟨f, l, M, _, Y, m, rl, h, fun f1 H1 M1 ds vs L1 m1 r1 ⟨d, xs, ed, e1, h1⟩ => by
    subst ed
    obtain ⟨v, rfl, rd⟩ := rds1 r1
    obtain ⟨a, ys, rfl, hq, hr, hz⟩ := rd_seqM (K := X.K) m1 rd e1
    exact ⟨a, ys, rfl, hq, fun q hn => k _ _ (M1 ++ [.lst xs]) (.ref M1.length) (.ref q) (L1.trans (lt_newl hn)) (rm_newl m1 hn hr hz) rd_newl h1⟩, kx⟩
theorem rd_rng {n : Nat} {f : Fr} {H : Hp} {a b : Int} : RDs n f H (rngD a b) (rgV a b) := by
  refine RDs.of (by simp [rngD, rgV]) fun j x y e1 e2 => ?_
  unfold rngD at e1
  unfold rgV at e2
  rw [List.getElem?_map] at e1 e2
  cases q : (List.range (b - a).toNat)[j]? with
  | none => rw [q] at e1; cases e1
  | some i => rw [q] at e1 e2; cases e1; cases e2; rfl
theorem rng_z {n : Int} (h : n ≤ 2 ^ 24) : (rngD 0 n).length ≤ sizeLine := by
  rw [sizeLine_eq]; simp [rngD]; omega
variable (hc : X.calm = true) (hgr : Gl X "range") (hmr : X.mg "range" = none) (ha : JE X W e ta) (na : starEach [e] X.env = (false, eval e X.env) :: starEach [] X.env)
include hc hgr hmr ha na
theorem je_lrg (hg : Gl X "list") (hm : X.mg "list" = none) (n2 : starEach [.Call (.Name "range" p2) [e] [] p3] X.env = (false, eval (.Call (.Name "range" p2) [e] [] p3) X.env) :: starEach [] X.env := by rfl) :
    JE X W (.Call (.Name "list" p) [.Call (.Name "range" p2) [e] [] p3] [] pos) (dLRg ta) :=
  pe_imp (pe_listRg hc hg hm (prg_1 hgr hmr ha na) n2) fun s H Q ⟨f, l, M, P, Y, m, rl, h, k, kx⟩ => ⟨f, l, M, _, Y, m, rl, h, fun f1 H1 M1 d v L1 m1 r1 ⟨n, ed, h1, h2, hp⟩ => by
    subst ed
    cases (show v = .int n from r1)
    exact ⟨n, rfl, ⟨by decide, by decide, h1, by omega, by omega⟩, fun q hq => k f1 _ M1 (.lst (rngD 0 n)) (.ref q) (L1.trans (Lt.same (same_new hq))) (m1.same (same_new hq)) (rd_lst m1 hq rd_rng (rng_z h2)) hp⟩, kx⟩
theorem je_lrgM (hg : Gl X "list") (hm : X.mg "list" = none) (n2 : starEach [.Call (.Name "range" p2) [e] [] p3] X.env = (false, eval (.Call (.Name "range" p2) [e] [] p3) X.env) :: starEach [] X.env := by rfl) :
    JE X W (.Call (.Name "list" p) [.Call (.Name "range" p2) [e] [] p3] [] pos) (dLRgM ta) :=
  pe_imp (pe_listRg hc hg hm (prg_1 hgr hmr ha na) n2) fun s H Q ⟨f, l, M, P, Y, m, rl, h, k, kx⟩ => ⟨f, l, M, _, Y, m, rl, h, fun f1 H1 M1 d v L1 m1 r1 ⟨n, ed, h1, h2, hp⟩ => by
    subst ed
    cases (show v = .int n from r1)
    exact ⟨n, rfl, ⟨by decide, by decide, h1, by omega, by omega⟩, fun q hq => k _ _ (M1 ++ [.lst (rngD 0 n)]) (.ref M1.length) (.ref q) (L1.trans (lt_newl hq)) (rm_newl m1 hq rd_rng (rng_z h2)) rd_newl hp⟩, kx⟩
theorem je_trg (hg : Gl X "tuple") (hm : X.mg "tuple" = none) (n2 : starEach [.Call (.Name "range" p2) [e] [] p3] X.env = (false, eval (.Call (.Name "range" p2) [e] [] p3) X.env) :: starEach [] X.env := by rfl) :
    JE X W (.Call (.Name "tuple" p) [.Call (.Name "range" p2) [e] [] p3] [] pos) (dTRg ta) :=
  pe_imp (pe_tupRg hc hg hm (prg_1 hgr hmr ha na) n2) fun s H Q ⟨f, l, M, P, Y, m, rl, h, k, kx⟩ => ⟨f, l, M, _, Y, m, rl, h, fun f1 H1 M1 d v L1 m1 r1 ⟨n, ed, h1, h2, hp⟩ => by
    subst ed
    cases (show v = .int n from r1)
    exact ⟨n, rfl, ⟨by decide, by decide, h1, by omega, by omega⟩, fun q hq => k f1 _ M1 (.tup (rngD 0 n)) (.ref q) (L1.trans (Lt.same (same_new hq))) (m1.same (same_new hq)) (rd_tup m1 hq rd_rng (rng_z h2)) hp⟩, kx⟩
end
end D
end

section
set_option Elab.async false
set_option linter.all false
set_option maxRecDepth 100000
set_option maxHeartbeats 2000000
set_option autoImplicit false
/-! The deep layer, part 16: comprehensions of two clauses. -/
namespace D
open PySem PySem.Spec PyProof.Rows L2
variable [TBL]
/-- the inner clause: how long the list gets is asked at each item -/
def loopD (g : DG) (tt : DT) (te : DE) (vs : List Nat) (chk : Mem → Prop) : List Dv → List Dv → Loc → Mem → (List Dv → Mem → Prop) → Prop
  | [], acc, _, M, P => chk M ∧ P acc M
  | x :: r, acc, l, M, P => chk M ∧ g x (wipeD l vs) M fun l2 M2 => tt l2 M2 (fun b M3 => if b = true then te l2 M3 (fun y M4 => acc.length < sizeLine ∧ loopD g tt te vs chk r (acc ++ [y]) l M4 P) noX else loopD g tt te vs chk r acc l M3 P) noX
def loopE (g : DG) (tt : DT) (src1 : DI) (g1 : DG) (tt1 : DT) (te : DE) (vs vs1 : List Nat) (chk : Mem → Prop) : List Dv → List Dv → Loc → Mem → (List Dv → Mem → Prop) → Prop
  | [], acc, _, M, P => chk M ∧ P acc M
  | x :: r, acc, l, M, P => chk M ∧ g x (wipeD l vs) M fun l2 M2 => tt l2 M2 (fun b M3 => if b = true then src1 l2 M3 (fun ys chk1 M4 => loopD g1 tt1 te vs1 chk1 ys acc l2 M4 fun acc' M5 => loopE g tt src1 g1 tt1 te vs vs1 chk r acc' l M5 P) noX
      else loopE g tt src1 g1 tt1 te vs vs1 chk r acc l M3 P) noX
def dComp2 (src : DI) (g : DG) (tt : DT) (src1 : DI) (g1 : DG) (tt1 : DT) (te : DE) (vs vs1 : List Nat) : DE := fun l M P X => src l M (fun xs chk M1 => loopE g tt src1 g1 tt1 te vs vs1 chk xs [] l M1 (fun ys M2 => P (.lst ys) M2)) X
def dComp2M (src : DI) (g : DG) (tt : DT) (src1 : DI) (g1 : DG) (tt1 : DT) (te : DE) (vs vs1 : List Nat) : DE := fun l M P X => src l M (fun xs chk M1 => loopE g tt src1 g1 tt1 te vs vs1 chk xs [] l M1 (fun ys M2 => P (.ref M2.length) (M2 ++ [.lst ys]))) X
/-- while a comprehension runs: its list at D -/
structure CSt (n1 : Nat) (f1 : Fr) (H1 : Hp) (D : Addr) (f2 : Fr) (H2 : Hp) (M2 : Mem) (acc : List Dv) (va : List V) : Prop where
  lt : Lt n1 f1 H1 M2.length (f2.as f1) H2
  rm : Rm n1 f1 H1 M2.length f2 H2
  hid : f2.hid = (f1.hide D).hid
  m : RM f2 H2 M2
  at_ : H2 D = some (.lst va)
  rd : RDs M2.length f2 H2 acc va
section
variable {n1 : Nat} {f1 f2 f6 : Fr} {H1 H2 H6 : Hp} {D : Addr} {M2 M6 : Mem} {acc : List Dv} {va : List V}
theorem CSt.hD (c : CSt n1 f1 H1 D f2 H2 M2 acc va) : f2.hid D := by rw [c.hid]; exact .inr rfl
theorem CSt.later (c : CSt n1 f1 H1 D f2 H2 M2 acc va) (z : Lt M2.length f2 H2 M6.length f6 H6) (m6 : RM f6 H6 M6) : CSt n1 f1 H1 D f6 H6 M6 acc va := by
  have z' : Lt M2.length (f2.as f1) H2 M6.length (f6.as f1) H6 := ⟨z.le, z.ag, z.kp, z.fr, z.dm, rfl⟩
  exact ⟨c.lt.trans z', c.rm.trans z.rm, z.hd.trans c.hid, m6, z.kp D _ c.at_ (c.m.hi D c.hD).2 (fun _ w => by cases w), c.rd.mono z⟩
theorem CSt.push (c : CSt n1 f1 H1 D f2 H2 M2 acc va) (hD : H1 D = none) {y : Dv} {v : V} (r : RD M2.length f2 H2 y v) : CSt n1 f1 H1 D f2 (upd H2 D (.lst (va ++ [v]))) M2 (acc ++ [y]) (va ++ [v]) :=
  ⟨c.lt.as_upd hD, c.rm.trans (rm_chg c.hD), c.hid, c.m.chg c.hD c.at_, upd_same, (c.rd.app (.cons r .nil)).rm (rm_chg c.hD)⟩
end
section
variable {X : Cx} {W : WX} {pos : Pos} {elt tg iter tg1 iter1 : Expr} {ifs ifs1 : List Expr} {scope : Scope} {own : List (Str × Nat)} {src src1 : DI} {g g1 : DG} {tt tt1 : DT} {te : DE} {ws ws1 vs1 : List Nat}
theorem drop_at {α : Type} {xs : List α} {i : Nat} (h : i < xs.length) : ∃ d, xs[i]? = some d ∧ xs.drop i = d :: xs.drop (i + 1) :=
  ⟨xs[i], List.getElem?_eq_getElem h, List.drop_eq_getElem_cons h⟩
theorem comp2_T (hw : ∀ j ∈ ws, j ∈ own.map (·.2)) (hw1 : ∀ j ∈ ws1, j ∈ vs1) {Q : VK} {s : L2.St} {H : Hp} {f : Fr} {l : Loc} {M : Mem} {Y : PX} {P : List Dv → Mem → Prop} (m : RM f H M) (r : RL M.length f H l s)
    (h : src l M (fun xs chk M1 => loopE g tt src1 g1 tt1 te (own.map (·.2)) vs1 chk xs [] l M1 P) Y) (kx : KX W s M.length f H Y)
    (fin : ∀ (f1 : Fr) (H1 : Hp) (M1 : Mem) (p : Addr) (ys : List Dv) (vs : List V), Lt M.length f H M1.length (f1.as f) H1 → RM f1 H1 M1 → f1.hid p → (∀ a, f.hid a → f1.hid a ∧ a ≠ p) → H p = none → H1 p = some (.lst vs) → RDs M1.length f1 H1 ys vs → ys.length ≤ sizeLine → P ys M1 → Q (.ref p) H1) :
    tLc2 (lI W src) (lG ws g) (lT W0 tt) (lI W0 src1) (lG ws1 g1) (lT W0 tt1) (lE W0 te) (own.map (·.2)) vs1 s H Q := by
  refine ⟨f, l, M, _, Y, m, r, h, fun f1 H1 M1 xs chk J x1 m1 c1 j h1 => ?_, kx⟩
  intro D hD
  have rl1 := r.mono x1
  have hHD : H D = none := x1.dm D hD
  let Wi : List Dv → Hp → Prop := fun rest H' => ∃ (f2 : Fr) (M2 : Mem) (acc : List Dv) (va : List V), CSt M1.length f1 H1 D f2 H' M2 acc va ∧ acc.length ≤ sizeLine ∧ loopE g tt src1 g1 tt1 te (own.map (·.2)) vs1 chk rest acc l M2 P
  refine ⟨fun i q H' => i + q = xs.length ∧ Wi (xs.drop i) H', ⟨xs.length, by simp, f1.hide D, M1, [], [], ⟨Lt.as_upd (f1 := f1.hide D) Lt.refl hD, rm_hide hD, rfl, m1.hide hD, upd_same, rfl⟩, Nat.zero_le _, by simpa using h1⟩, ?_⟩
  rintro i q H' ⟨hi, f2, M2, acc, va, c, hz, h2⟩
  by_cases hlt : i < xs.length
  · obtain ⟨d, hd, ed⟩ := drop_at hlt
    rw [ed] at h2
    obtain ⟨c2, h2⟩ := h2
    have hj := (j i f2 H' M2 c.rm c.m c2).1 hlt
    refine .inr ⟨hj.1, fun H3 => Wi (xs.drop (i + 1)) H3, fun H3 y => ⟨q - 1, by omega, by omega, y⟩, fun v H3 hy => ?_⟩
    obtain ⟨sm, d', hd', rd⟩ := hj.2 v H3 hy
    rw [hd] at hd'; cases hd'
    have cs := c.later (Lt.same sm) (c.m.same sm)
    have rl2 : RL M2.length f2 H3 l s := rl1.rm cs.rm
    refine ⟨f2, wipeD l (own.map (·.2)), M2, d, _, cs.m, rl2.wipe _, rd, h2, fun f4 H4 s4 l4 M4 x4 m4 r4 ch h4 => ⟨ch.wiped hw, f4, l4, M4, _, _, m4, r4, h4, fun f5 H5 M5 b x5 m5 h5 => ?_, kx_no⟩⟩
    have c5 := (cs.later x4 m4).later x5 m5
    cases b with
    | false =>
      rw [if_neg Bool.false_ne_true] at h5
      exact iteF ⟨f5, M5, acc, va, c5, hz, h5⟩
    | true =>
      rw [if_pos rfl] at h5
      refine iteT ⟨f5, l4, M5, _, _, m5, r4.mono x5, h5, fun f6 H6 M6 ys chk1 J1 x6 m6 _ j1 h6 => ?_, kx_no⟩
      have c6 := c5.later x6 m6
      have rl6 := (r4.mono x5).mono x6
      refine ⟨fun i1 q1 H' => ∃ (f7 : Fr) (M7 : Mem) (acc : List Dv) (va : List V), i1 + q1 = ys.length ∧ CSt M1.length f1 H1 D f7 H' M7 acc va ∧ Rm M6.length f6 H6 M7.length f7 H' ∧ acc.length ≤ sizeLine ∧
        loopD g1 tt1 te vs1 chk1 (ys.drop i1) acc l4 M7 (fun acc' M5 => loopE g tt src1 g1 tt1 te (own.map (·.2)) vs1 chk (xs.drop (i + 1)) acc' l M5 P), ⟨ys.length, f6, M6, acc, va, by simp, c6, Lt.refl.rm, hz, by simpa using h6⟩, ?_⟩
      rintro i1 q1 H7 ⟨f7, M7, acc7, va7, hi1, c7, y7, hz7, h7⟩
      by_cases hl1 : i1 < ys.length
      · obtain ⟨d1, hd1, ed1⟩ := drop_at hl1
        rw [ed1] at h7
        obtain ⟨e7, h7⟩ := h7
        have hj1 := (j1 i1 f7 H7 M7 y7 c7.m e7).1 hl1
        refine .inr ⟨hj1.1, fun H8 => ∃ (f8 : Fr) (M8 : Mem) (acc : List Dv) (va : List V), CSt M1.length f1 H1 D f8 H8 M8 acc va ∧ Rm M6.length f6 H6 M8.length f8 H8 ∧ acc.length ≤ sizeLine ∧
          loopD g1 tt1 te vs1 chk1 (ys.drop (i1 + 1)) acc l4 M8 (fun acc' M5 => loopE g tt src1 g1 tt1 te (own.map (·.2)) vs1 chk (xs.drop (i + 1)) acc' l M5 P), fun H8 ⟨f8, M8, a8, v8, p1, p2, p3, p4⟩ => ⟨q1 - 1, by omega, f8, M8, a8, v8, by omega, p1, p2, p3, p4⟩, fun v H8 hy => ?_⟩
        obtain ⟨sm1, d2, hd2, rd1⟩ := hj1.2 v H8 hy
        rw [hd1] at hd2; cases hd2
        have c8 := c7.later (Lt.same sm1) (c7.m.same sm1)
        have y8 := y7.trans (Lt.same (n := M7.length) (f := f7) sm1).rm
        refine ⟨f7, wipeD l4 vs1, M7, d1, _, c8.m, (rl6.rm y8).wipe _, rd1, h7, fun f9 H9 s9 l9 M9 x9 m9 r9 ch1 h9 => ⟨ch1.wiped hw1, f9, l9, M9, _, _, m9, r9, h9, fun fA HA MA b xA mA hA => ?_, kx_no⟩⟩
        have cA := (c8.later x9 m9).later xA mA
        have yA := (y8.trans x9.rm).trans xA.rm
        cases b with
        | false =>
          rw [if_neg Bool.false_ne_true] at hA
          exact iteF ⟨fA, MA, acc7, va7, cA, yA, hz7, hA⟩
        | true =>
          rw [if_pos rfl] at hA
          refine iteT ⟨fA, l9, MA, _, _, mA, r9.mono xA, hA, fun fB HB MB y vy xB mB ry ⟨hlen, hB⟩ => ?_, kx_no⟩
          have cB := cA.later xB mB
          refine ⟨va7, cB.at_, by rw [cB.rd.length]; exact hlen, fB, MB, acc7 ++ [y], va7 ++ [vy], cB.push hD ry, (yA.trans xB.rm).trans (rm_chg cB.hD), by simp; omega, hB⟩
      · have e : ys.drop i1 = [] := List.drop_eq_nil_of_le (by omega)
        rw [e] at h7
        exact .inl ⟨(j1 i1 f7 H7 M7 y7 c7.m h7.1).2 (by omega), f7, M7, acc7, va7, c7, hz7, h7.2⟩
  · have e : xs.drop i = [] := List.drop_eq_nil_of_le (by omega)
    rw [e] at h2
    have x2' : Lt M1.length f1 H1 M2.length (f2.as f) H' := ⟨c.lt.le, c.lt.ag, c.lt.kp, c.lt.fr, c.lt.dm, x1.hd.symm⟩
    exact .inl ⟨(j i f2 H' M2 c.rm c.m h2.1).2 (by omega), fin f2 H' M2 D acc va (x1.trans x2') c.m c.hD (fun a z => ⟨by rw [c.hid]; exact .inl (by rw [x1.hd]; exact z), fun w => (m.hi a z).1 (by rw [w]; exact hHD)⟩) hHD c.at_ c.rd hz h2.2⟩
section
variable {i : Nat} {y : Str} {py spos : Pos}
variable (hc : X.calm = true) (hN : X.N.Nodup) (hw : ∀ j ∈ ws, j ∈ own.map (·.2)) (hw1 : ∀ j ∈ ws1, j ∈ vs1) (hv : ∀ i ∈ vs1, i ∈ own.map (·.2)) (hi : JI X W tg iter src) (ok : BlkOk X.N X.env.scope scope own)
    (hg : ∀ (s : Shared) (H : Hp) (C : Addr) (cl : List (Str × Addr)) (fp : List Addr), JG (X.blk s H scope (compEnvC scope cl C X.env) fp) ws tg g) (ht : ∀ (s : Shared) (H : Hp) (C : Addr) (cl : List (Str × Addr)) (fp : List Addr), JTs (X.blk s H scope (compEnvC scope cl C X.env) fp) W0 ifs tt)
    (hi1 : ∀ (s : Shared) (H : Hp) (C : Addr) (cl : List (Str × Addr)) (fp : List Addr), JI (X.blk s H scope (compEnvC scope cl C X.env) fp) W0 tg1 iter1 src1)
    (hg1 : ∀ (s : Shared) (H : Hp) (C : Addr) (cl : List (Str × Addr)) (fp : List Addr), JG (X.blk s H scope (compEnvC scope cl C X.env) fp) ws1 tg1 g1) (ht1 : ∀ (s : Shared) (H : Hp) (C : Addr) (cl : List (Str × Addr)) (fp : List Addr), JTs (X.blk s H scope (compEnvC scope cl C X.env) fp) W0 ifs1 tt1)
    (he : ∀ (s : Shared) (H : Hp) (C : Addr) (cl : List (Str × Addr)) (fp : List Addr), JE (X.blk s H scope (compEnvC scope cl C X.env) fp) W0 elt te)
include hc hN hw hw1 hv hi ok hg ht hi1 hg1 ht1 he
theorem je_comp2 (hs : ∀ x, foldedSetIterable iter X.env x = pure x := by intro _; rfl) (hs1 : ∀ env x, foldedSetIterable iter1 env x = pure x := by intro _ _; rfl) :
    JE X W (.ListComp elt [⟨tg, iter, ifs, 0⟩, ⟨tg1, iter1, ifs1, 0⟩] scope pos) (dComp2 src g tt src1 g1 tt1 te (own.map (·.2)) vs1) :=
  pe_imp (pe_lc2 hc hN hi ok hv hg ht hi1 hg1 ht1 he hs hs1) fun s H Q ⟨f, l, M, P, Y, m, r, h, k, kx⟩ => comp2_T hw hw1 m r h kx fun f1 H1 M1 p ys vs x m1 hh hs hp hv ra hz h1 =>
    k _ H1 M1 (.lst ys) _ x (m1.show fun a z => (hs a z).1) ⟨hz, p, vs, rfl, hv, ⟨(m1.hi p hh).2, fun z => (hs p z).2 rfl⟩, ra.rm (rm_show fun a z => (hs a z).1)⟩ h1
theorem je_comp2M (hs : ∀ x, foldedSetIterable iter X.env x = pure x := by intro _; rfl) (hs1 : ∀ env x, foldedSetIterable iter1 env x = pure x := by intro _ _; rfl) :
    JE X W (.ListComp elt [⟨tg, iter, ifs, 0⟩, ⟨tg1, iter1, ifs1, 0⟩] scope pos) (dComp2M src g tt src1 g1 tt1 te (own.map (·.2)) vs1) :=
  pe_imp (pe_lc2 hc hN hi ok hv hg ht hi1 hg1 ht1 he hs hs1) fun s H Q ⟨f, l, M, P, Y, m, r, h, k, kx⟩ => comp2_T hw hw1 m r h kx fun f1 H1 M1 p ys vs x m1 hh hs hp hv ra hz h1 =>
    k (ext (f1.as f) M1.length p) H1 (M1 ++ [.lst ys]) (.ref M1.length) _ (by rw [List.length_append]; exact x.adopt hp) (m1.adopt hh hs hv ra hz) rd_newl h1
theorem js_comp2 (hy : X.N[i]? = some y) (hyl : X.env.scope.names.lookup y = some .local) (hsw : swapsWith (.ListComp elt [⟨tg, iter, ifs, 0⟩, ⟨tg1, iter1, ifs1, 0⟩] scope pos) (some (.Name y py)) spos.line X.env = pure true)
    (hs : ∀ x, foldedSetIterable iter X.env x = pure x := by intro _; rfl) (hs1 : ∀ env x, foldedSetIterable iter1 env x = pure x := by intro _ _; rfl) : JS X W (.Assign [.Name y py] (.ListComp elt [⟨tg, iter, ifs, 0⟩, ⟨tg1, iter1, ifs1, 0⟩] scope pos) spos) (dSet i (dComp2 src g tt src1 g1 tt1 te (own.map (·.2)) vs1)) :=
  ps_imp (ps_setLc2 hc hN hy hyl hsw hi ok hv hg ht hi1 hg1 ht1 he hs hs1) fun D s H ⟨f, l, M, E, m, r, h, k⟩ => comp2_T hw hw1 m r h (k.kx r) fun f1 H1 M1 p ys vs x m1 hh hs hp hv ra hz h1 =>
    k.nx _ H1 _ _ M1 x (m1.show fun a z => (hs a z).1) ((r.mono x).set (d := .lst ys) ⟨hz, p, vs, rfl, hv, ⟨(m1.hi p hh).2, fun z => (hs p z).2 rfl⟩, ra.rm (rm_show fun a z => (hs a z).1)⟩) h1
end
end
end D
end

section
set_option Elab.async false
set_option linter.all false
set_option maxRecDepth 4000
set_option maxHeartbeats 2000000
set_option autoImplicit false
/-! The deep layer, part 17: len(set(..)). -/
namespace D
open PySem PySem.Spec PyProof.Rows L2
variable [TBL]
theorem fm_nodup (val : Nat → Int) : ∀ i, (firstMet val i).Nodup
  | 0 => by rw [firstMet_zero]; exact List.nodup_nil
  | i + 1 => by
    rw [firstMet_succ]
    unfold step_dedup
    by_cases h : (firstMet val i).any (· == val i) = true
    · rw [if_pos h]; exact fm_nodup val i
    · rw [if_neg h]
      refine List.nodup_append.mpr ⟨fm_nodup val i, by simp, fun x hx y hy => ?_⟩
      simp at hy
      subst hy
      intro e
      subst e
      exact h (List.any_eq_true.mpr ⟨_, hx, by simp⟩)
theorem fm_mem (ns : List Int) (k : Int) : k ∈ firstMet (fun i => ns.getD i 0) ns.length ↔ k ∈ ns := by
  have h := firstMet_any (fun i => ns.getD i 0) ns.length k
  have e1 : ∀ l : List Int, l.any (· == k) = true ↔ k ∈ l := fun l => by
    rw [List.any_eq_true]
    exact ⟨fun ⟨x, hx, e⟩ => by rw [← beq_iff_eq.mp e]; exact hx, fun h => ⟨k, h, by simp⟩⟩
  rw [← e1, h, e1]
  have e2 : (List.range ns.length).map (fun i => ns.getD i 0) = ns := by
    refine List.ext_getElem (by simp) fun i h1 h2 => ?_
    simp [List.getD_eq_getElem?_getD, List.getElem?_eq_getElem h2]
  rw [e2]
section
variable {X : Cx}
def tLenSetG (K : PySem.W.Frag) (ta : TE) : TE := fun σ H Q => ta σ H fun x H1 => ∃ (l : Addr) (ns : List Int), x = V.ref l ∧ (SqL K H1 l (ns.map V.int) ∨ SqT K H1 l (ns.map V.int)) ∧ ns.length ≤ 4000 ∧
  ∀ ms : List Int, ms.Nodup → (∀ k, k ∈ ms ↔ k ∈ ns) → Q (.int ms.length) H1
theorem pe_lenSetG {a : Expr} {ta : TE} {p p2 q pos : Pos} (hc : X.calm = true) (hg : Gl X "len") (hm : X.mg "len" = none) (hg2 : Gl X "set") (hm2 : X.mg "set" = none) (ha : PE X a ta)
    (na : starEach [a] X.env = (false, eval a X.env) :: starEach [] X.env := by rfl) : PE X (.Call (.Name "len" p) [.Call (.Name "set" p2) [a] [] q] [] pos) (tLenSetG X.K ta) := by
  refine ⟨fun pins s σ H Q I h => ?_⟩
  refine Call_ (ld_blt I hg hm PySem.boot_len ?_)
  refine PyProof.Rows.callWith_builtin1 (PyProof.Rows.args_cons ?_ rfl) rfl rfl
  refine Call_ (ld_blt I hg2 hm2 PyProof.Rows.boot_set ?_)
  refine PyProof.Rows.callWith_type1 (PyProof.Rows.args_cons (thn (ha.run pins s σ H _ I h) fun v s1 ⟨x, H1, I1, r1, q1⟩ => PyProof.Rows.args_nil ?_) na) na rfl
  obtain ⟨l, ns, rfl, hq, h1, q1⟩ := q1
  cases r1
  rcases hq with hq | hq
  · obtain ⟨its, r, pl, hz⟩ := I1.list hq
    have hl : its.toArray.size = ns.length := by rw [List.size_toArray, ← r.length, List.length_map]
    refine call_set_list (I1.ok.hd hc) pl.isList (ns := ns) (by simpa using r.ints) (by unfold scanBound; omega) fun h' tk hS hk => ?_
    rw [hl] at hS
    refine PyProof.Rows.args_nil ?_
    obtain ⟨o, es, ep, t, ho, hex, hd, _, _, _, hf, hn⟩ := hS
    have I2 : Inv X pins σ H1 { s1 with heap := h', toks := tk } := I1.kept fun b o e => hk b o (Heap.lt_size e) e
    have hle := firstMet_length_le (fun i => ns.getD i 0) ns.length
    refine call_len_set ho hex hd hf (by rw [hn] <;> omega) ⟨.int (firstMet (fun i => ns.getD i 0) ns.length).length, H1, I2.tok _, ⟨_, by rw [hn]⟩, q1 _ (fm_nodup _ _) (fm_mem ns)⟩
  · obtain ⟨its, r, pl, hz⟩ := I1.tuple hq
    refine call_set_tupI ns (I1.ok.hd hc) pl (by simpa using r.ints) (by unfold scanBound; omega) fun h' tk c hS hcl hk => ?_
    refine PyProof.Rows.args_nil ?_
    obtain ⟨o, es, ep, t, ho, hex, hd, _, nd, hm3, _, hf, hn, _⟩ := hS
    have I2 : Inv X pins σ H1 { s1 with heap := h', toks := tk } := I1.kept hk
    refine call_len_set ho hex hd hf (by rw [hn] <;> omega) ⟨.int (es.toList.map keyOf).length, H1, I2.tok _, ⟨_, by rw [List.length_map, Array.length_toList]⟩, q1 _ nd fun k => ?_⟩
    rw [← hm3 k]
    exact decide_eq_true_iff
end
def dLenSet (ta : DE) : DE := fun l M P X => ta l M (fun d M1 => ∃ ns : List Int, seqD M1 d = some (ns.map Dv.int) ∧ ns.length ≤ 4000 ∧ ∀ ms : List Int, ms.Nodup → (∀ k, k ∈ ms ↔ k ∈ ns) → P (.int ms.length) M1) X
theorem je_lenSet {X : Cx} {W : WX} {a : Expr} {ta : DE} {p p2 q pos : Pos} (hc : X.calm = true) (hg : Gl X "len") (hm : X.mg "len" = none) (hg2 : Gl X "set") (hm2 : X.mg "set" = none) (ha : JE X W a ta)
    (na : starEach [a] X.env = (false, eval a X.env) :: starEach [] X.env := by rfl) : JE X W (.Call (.Name "len" p) [.Call (.Name "set" p2) [a] [] q] [] pos) (dLenSet ta) :=
  pe_imp (pe_lenSetG hc hg hm hg2 hm2 ha na) fun s H Q ⟨f, l, M, P, Y, m, rl, h, k, kx⟩ => ⟨f, l, M, _, Y, m, rl, h, fun f1 H1 M1 d v x1 m1 r1 ⟨ns, e, hl, hp⟩ => by
    obtain ⟨a, ys, rfl, hq, hr, hz⟩ := rd_seqM (K := X.K) m1 r1 e
    rw [rds_ints hr] at hq
    exact ⟨a, ns, rfl, hq, hl, fun ms h1 h2 => k f1 H1 M1 (.int ms.length) _ x1 m1 rfl (hp ms h1 h2)⟩, kx⟩
end D
end

section
set_option Elab.async false
set_option linter.all false
set_option maxRecDepth 100000
set_option maxHeartbeats 2000000
set_option autoImplicit false
/-! The deep layer, part 18: own classes by name, made by their __init__. -/
namespace D
open PySem PySem.Spec PyProof.Rows L2
variable [TBL]
abbrev FnM (K : PySem.W.Frag) (x qual : Str) (st : Stmt) (f : Addr) (fd : FuncData) : Prop := FunD K x qual (defArgs st) (defBody st) (defScope st) [] [] f fd
/-- the module's class x, at C, made by the __init__ st: it keeps S -/
structure Mx (P : Program) (w : World) (K : PySem.W.Frag) (mg : Str → Option Value) (base : Heap) (k : Nat) (x qual : Str) (C : Addr) (st : Stmt) (ps : List Str) (S : DSp) : Prop where
  ex : ∃ j f fd, j + 1 ≤ k ∧ FnG P w K mg base j f fd ps S ∧ mg x = some (.ref C) ∧ Mk K C f ∧ FnM K "__init__" qual st f fd
def BdM (x qual : Str) (st : Stmt) (ps : List Str) : Prop := ∀ (kV doc pm : Value) (an : Option Addr) (cdv ct : Value) (us : List Value), us.length = ps.length → bindArgs (PySem.W.fnOf x qual (defArgs st) (defBody st) (defScope st) .none kV doc pm an cdv ct) ⟨us, []⟩ = pure (ps.zip us)
section
variable {P : Program} {w : World} {K : PySem.W.Frag} {mg : Str → Option Value} {base : Heap} {k j n : Nat} {x qual : Str} {C : Addr} {st : Stmt} {ps ks : List Str} {S : DSp}
theorem Mx.mono (F : Mx P w K mg base j x qual C st ps S) (h : j ≤ k) : Mx P w K mg base k x qual C st ps S := let ⟨i, f, fd, hl, a, b, c, d⟩ := F.ex; ⟨i, f, fd, Nat.le_trans hl h, a, b, c, d⟩
theorem mx_of {f : Addr} {fd : FuncData} {N : List Str} (F : FnM K "__init__" qual st f fd) (hm : mg x = some (.ref C)) (hM : Mk K C f) (Sc : FnScope N ps (defScope st)) (t : DS) (len : ∀ ds M Pd X, S ds M Pd X → ds.length = ps.length)
    (hb : ∀ (cdv : Value) (A : Around) (outer : List Env) (s : Shared) (H : Hp) (E : XK) (W : WX), Room k (A.deeper (envOfC qual (defScope st) s.heap.objs.size f cdv)) → (A.deeper (envOfC qual (defScope st) s.heap.objs.size f cdv)).guards = some [] →
      Takes (CF P w K mg base N qual st f cdv A outer s H E) W → JSs (CF P w K mg base N qual st f cdv A outer s H E) W (defBody st) t)
    (hp : ∀ ds M Pd X, MemOk M → S ds M Pd X → t (dkOf M.length Pd X) (startD N ds) M) : Mx P w K mg base (k + 2) x qual C st ps S :=
  ⟨k + 1, f, fd, Nat.le_refl _, fn_d (He5.fun_of F) Sc t len hb hp, hm, hM, F⟩
end
section
variable {X : Cx} {W : WX} {pos p : Pos} {e : Expr} {es : List Expr} {u : DA} {k : Nat} {x qual : Str} {C : Addr} {st : Stmt} {ps : List Str} {S : DSp}
theorem je_cm (F : Mx X.prog X.w X.K X.mg X.base k x qual C st ps S) (hr : Room k X.A) (hgu : X.A.guards = some []) (tk : Takes X W) (bd : BdM "__init__" qual st ps) (hg : Gl X x) (ha : JA X W (e :: es) u) (hdb : (x == ("__debug__" : Str)) = false := by decide)
    (he : starEach (e :: es) X.env = (false, eval e X.env) :: starEach es X.env := by rfl) (hpl : (backTo pos (starEach es X.env)).any (·.1) = false := by rfl) : JE X W (.Call (.Name x p) (e :: es) [] pos) (dMake C S u) :=
  let ⟨_, _, _, hl, a, b, c, d⟩ := F.ex
  je_make c a (hr.mono hl) hgu tk hg b (d.bindsN bd) ha hdb he hpl
end
end D
end

section
set_option Elab.async false
set_option linter.all false
set_option maxRecDepth 100000
set_option maxHeartbeats 3200000
set_option autoImplicit false
/-! The deep layer, part 19: sorted(set(..)) of a list of ints, or of tuples of ints of any lengths. -/
namespace D
open PySem PySem.Spec PyProof.Rows L2
variable [TBL]
/-! a rank of tuples: digits, filled up with zeros -/
def rk (b : Int) : Nat → List Int → Int
  | 0, _ => 0
  | _ + 1, [] => 0
  | n + 1, x :: r => (x + 1) * b ^ n + rk b n r
def lexB : List Int → List Int → Bool
  | [], [] => false
  | [], _ :: _ => true
  | _ :: _, [] => false
  | x :: r, y :: q => decide (x < y) || (decide (x = y) && lexB r q)
def Dig (b : Int) (ns : List Int) : Prop := ∀ m ∈ ns, 0 ≤ m ∧ m + 1 < b
theorem rk_bd {b : Int} (hb : 0 < b) : ∀ (n : Nat) (ns : List Int), Dig b ns → 0 ≤ rk b n ns ∧ rk b n ns < b ^ n
  | 0, _, _ => by
    show (0 : Int) ≤ 0 ∧ (0 : Int) < b ^ 0
    rw [Int.pow_zero]; decide
  | n + 1, [], _ => ⟨Int.le_refl _, Int.pow_pos hb⟩
  | n + 1, x :: r, h => by
    obtain ⟨c0, c1⟩ := rk_bd hb n r fun m hm => h m (List.mem_cons_of_mem _ hm)
    obtain ⟨d0, d1⟩ := h x List.mem_cons_self
    show 0 ≤ (x + 1) * b ^ n + rk b n r ∧ (x + 1) * b ^ n + rk b n r < b ^ (n + 1)
    rw [Int.pow_succ]
    exact TS.num1 c0 c1 (by omega) d1
theorem rk_lt {b : Int} (hb : 0 < b) : ∀ (n : Nat) (ns ms : List Int), Dig b ns → Dig b ms → ns.length ≤ n → ms.length ≤ n → (rk b n ns < rk b n ms ↔ lexB ns ms = true)
  | 0, ns, ms, _, _, h1, h2 => by
    rw [List.length_eq_zero_iff.mp (Nat.le_zero.mp h1), List.length_eq_zero_iff.mp (Nat.le_zero.mp h2)]
    simp [rk, lexB]
  | n + 1, [], [], _, _, _, _ => by simp [rk, lexB]
  | n + 1, [], y :: q, _, g, _, _ => by
    obtain ⟨c0, _⟩ := rk_bd hb n q fun m hm => g m (List.mem_cons_of_mem _ hm)
    obtain ⟨d0, _⟩ := g y List.mem_cons_self
    have := TS.num2 (P := b ^ n) (d := 0) (e := y + 1) (c := 0) (g := rk b n q) (Int.le_refl _) (Int.pow_pos hb) c0 (by omega)
    rw [Int.zero_mul, Int.zero_add] at this
    exact ⟨fun _ => rfl, fun _ => this⟩
  | n + 1, x :: r, [], g, _, _, _ => by
    obtain ⟨c0, _⟩ := rk_bd hb (n + 1) (x :: r) g
    refine ⟨fun h => ?_, fun h => by cases h⟩
    have h : rk b (n + 1) (x :: r) < 0 := h
    omega
  | n + 1, x :: r, y :: q, g, k, h1, h2 => by
    have gr : Dig b r := fun m hm => g m (List.mem_cons_of_mem _ hm)
    have kq : Dig b q := fun m hm => k m (List.mem_cons_of_mem _ hm)
    obtain ⟨c0, c1⟩ := rk_bd hb n r gr
    obtain ⟨e0, e1⟩ := rk_bd hb n q kq
    have ih := rk_lt hb n r q gr kq (Nat.le_of_succ_le_succ h1) (Nat.le_of_succ_le_succ h2)
    show (x + 1) * b ^ n + rk b n r < (y + 1) * b ^ n + rk b n q ↔ (decide (x < y) || (decide (x = y) && lexB r q)) = true
    rcases Int.lt_trichotomy x y with h | h | h
    · have := TS.num2 (P := b ^ n) (d := x + 1) (e := y + 1) c0 c1 e0 (by omega)
      simp [h, this]
    · subst h
      rw [← Int.add_lt_add_iff_left ((x + 1) * b ^ n)] at ih
      rw [ih]; simp
    · have := TS.num2 (P := b ^ n) (d := y + 1) (e := x + 1) e0 e1 c0 (by omega)
      have h3 : ¬ x < y := by omega
      have h4 : ¬ x = y := by omega
      simp only [h3, h4, decide_false, Bool.false_and, Bool.or_self, Bool.false_eq_true, iff_false]
      omega
/-- some digits, few -/
structure Gd (b : Int) (n : Nat) (ns : List Int) : Prop where
  ne : ns ≠ []
  le : ns.length ≤ n
  dg : Dig b ns
section
variable {P : Program} {w : World} {A : Around} {E : Value → Shared → Prop} {s : Shared}
theorem lex_any {bo fin : Bool} {Q : Bool → Shared → Prop} {xs : List Value} {ns : List Int} (hx : IntsAre xs ns) : ∀ {ys ms} (i : Nat), IntsAre ys ms → fin = decide (ns.length < ms.length) → Q (lexB ns ms) s → PySem.W.KatLex P w A bo fin Q (xs.zip ys) i s := by
  induction hx with
  | nil =>
    intro ys ms i hy hf q
    cases hy with
    | nil => exact PySem.W.kat_nil (by rw [hf]; exact q)
    | cons m u hy => exact PySem.W.kat_nil (by rw [hf]; simpa [lexB] using q)
  | @cons p t xs ns hx ih =>
    intro ys ms i hy hf q
    cases hy with
    | nil => exact PySem.W.kat_nil (by rw [hf]; simpa [lexB] using q)
    | @cons m u ys ms hy =>
      show PySem.W.KatLex P w A bo fin Q ((.int p t, .int m u) :: xs.zip ys) i s
      refine PySem.W.kat_cons (wpAny_eqBool_int ?_)
      have hf2 : fin = decide (ns.length < ms.length) := by rw [hf]; simp
      by_cases e : p = m
      · subst e
        rw [beq_self_eq_true]
        exact PySem.W.kat_yes (ih _ hy hf2 (by simpa [lexB] using q))
      · rw [beq_eq_false_iff_ne.mpr e]
        exact PySem.W.kat_no (TS.oneLt_ints _ (by simpa [lexB, e] using q))
/-- tuples of ints with the rank -/
def TupsG (h : Heap) (b : Int) (n : Nat) (vs : List Value) : Prop := ∀ v ∈ vs, ∃ ns, TS.TupInts h v ns ∧ Gd b n ns
theorem first_ints {h : Heap} {b : Int} {n : Nat} : ∀ {vs : List Value}, TupsG h b n vs → ∃ fs, PySem.W.KatTups h vs fs ∧ fs.length = vs.length ∧ ∀ u ∈ fs, ∃ m t, u = Value.int m t
  | [], _ => ⟨[], .nil, rfl, fun u hu => nomatch hu⟩
  | v :: vs, x => by
    obtain ⟨fs, k, hl, hi⟩ := first_ints fun u hu => x u (List.mem_cons_of_mem _ hu)
    obtain ⟨ns, ⟨a, its, rfl, ⟨o, ho, hc, m, od⟩, i⟩, gd⟩ := x v List.mem_cons_self
    cases ei : its.toList with
    | nil =>
      rw [ei] at i
      have z := i.length
      exact absurd (List.length_eq_zero_iff.mp z.symm) gd.ne
    | cons y ys =>
      rw [ei] at i
      obtain ⟨k0, t0, ey⟩ := i.all y List.mem_cons_self
      have h0 : its[0]? = some y := by rw [← Array.getElem?_toList, ei]; rfl
      refine ⟨y :: fs, .cons ho hc od h0 k, by simp [hl], fun u hu => ?_⟩
      rcases List.mem_cons.mp hu with rfl | hu
      · exact ⟨k0, t0, ey⟩
      · exact hi u hu
theorem kind_any {b : Int} (hb : 0 < b) {n : Nat} {vs : List Value} (two : 2 ≤ vs.length) (x : TupsG s.heap b n vs) (r : Value → Int) (hr : ∀ v ∈ vs, ∀ ns, TS.TupInts s.heap v ns → r v = rk b n ns) (Q : SortKind → Shared → Prop)
    (q : ∀ κ, TS.Cmp P w A s κ (pairsOf vs) r → Q κ s) : wpAny (model P w) A (keyKind' vs.toArray) Q E s := by
  obtain ⟨fs, k, hl, hi⟩ := first_ints x
  refine PySem.W.kat_kind (T := .type "int") k (by omega) (fun u hu => ?_) rfl (q _ fun p p' m m' R _ z => ?_)
  · obtain ⟨j, t, rfl⟩ := hi u hu
    exact PySem.W.Looks.of_pure rfl
  · rw [pairsOf_toList] at m m'
    have m1 := (mem_zip_self m).2
    have m2 := (mem_zip_self m').2
    obtain ⟨ns, tp, gp⟩ := x _ m1
    obtain ⟨ms, tq, gq⟩ := x _ m2
    have zz : R (lexB ns ms) s := by
      have e : decide (r p.1 < r p'.1) = lexB ns ms := by
        rw [hr _ m1 _ tp, hr _ m2 _ tq]
        exact Bool.eq_iff_iff.mpr (decide_eq_true_iff.trans (rk_lt hb n ns ms gp.dg gq.dg gp.le gq.le))
      rw [← e]; exact z
    obtain ⟨a, its, ep, ⟨o, ho, hc, _, od⟩, i⟩ := tp
    obtain ⟨a', its', eq, ⟨o', ho', hc', _, od'⟩, i'⟩ := tq
    rw [ep, eq]
    have l1 := i.length
    have l2 := i'.length
    rw [Array.length_toList] at l1 l2
    exact PySem.W.kat_lt ho od ho' od' (lex_any i 0 i' (by rw [l1, l2]) zz)
theorem sort_any {a : Addr} {vs : List Value} {m : Nat} {b : Int} (hb : 0 < b) {n : Nat} {R : PySem.Fin → Shared → Prop} (ho : s.heap.get? a = some (seqObj "list" vs.toArray m)) (few : vs.length < 64) (x : TupsG s.heap b n vs)
    (q : ∀ out : Array Value, out.toList.Perm vs → out.toList.Pairwise (fun u v => rk b n (TS.intsOf s.heap u) ≤ rk b n (TS.intsOf s.heap v)) → R (.done (.ret .none)) { s with heap := sortedHeap s.heap a vs out }) :
    wpAny (model P w) A (Builtin.«list.sort» ⟨[.ref a], []⟩) R E s := by
  have kp : ∀ c o, s.heap.get? c = some o → o.cls = .type "tuple" → (TS.midHeap s.heap a vs).get? c = some o := fun c o e hc => TS.midHeap_old (fun z => by
    rw [z, ho] at e
    have e2 := Option.some.inj e
    rw [← e2] at hc
    exact absurd (Value.type.inj hc) (by decide)) e
  have xm : TupsG (TS.midHeap s.heap a vs) b n vs := fun v hv => let ⟨ns, t, g⟩ := x v hv; ⟨ns, t.keeps kp, g⟩
  refine SK.plain_sort (r := fun v => rk b n (TS.intsOf s.heap v)) ho few (fun two Q z => kind_any (s := { s with heap := TS.midHeap s.heap a vs }) hb two xm _ (fun v hv ns t => ?_) Q z) fun ps out e1 e2 e3 => ?_
  · obtain ⟨ns', t', _⟩ := x v hv
    show rk b n (TS.intsOf s.heap v) = rk b n ns
    rw [t'.ints, ← (t'.keeps kp).ints, t.ints]
  · obtain ⟨z1, z2⟩ := TS.out_rank (r := fun v => rk b n (TS.intsOf s.heap v)) e1 e2 e3
    exact q out z1 z2
/-- sorted of a set of tuples of ints -/
theorem sorted_setG {a : Addr} {L : List (Addr × List Int)} {es : Array (Int × Value)} {ep : Nat} {t : SetTable} {Q : Value → Shared → Prop} (R : SetTR P w s.heap a L es ep t) (hd : A.handled = none) {b : Int} (hb : 0 < b) {n : Nat} (gd : ∀ p ∈ L, Gd b n p.2)
    (q : ∀ s2 p (out : Array Value) (c : Nat) (L2 : List (Addr × List Int)), (∀ c o, s.heap.get? c = some o → s2.heap.get? c = some o) → s2.gens = s.gens → s2.os = s.os → s.heap.objs.size ≤ p →
      s2.heap.get? p = some (seqObj "list" out c) → out.toList = L2.map (fun z => .ref z.1) → L2.Perm L → L2.Pairwise (fun z u => rk b n z.2 ≤ rk b n u.2) → Q (.ref p) s2) :
    wpAny (model P w) A (call (.builtin "sorted") [.ref a]) Q E s := by
  obtain ⟨o, ho, ox, od⟩ := R.ob
  have zs := R.size
  have fw := R.few
  refine Calls.call_function_entry kind_sorted plain_sorted entry_sorted (args_sorted1 (.ref a)) ?_
  unfold Builtin.«sorted»
  refine wpAny_bind (m := checkCount "sorted" 1 1 _) (wpAny_pure ?_)
  refine wpAny_bind (collect_set (A := A.in1) hd ⟨o, ho, ox.1, od⟩ R.fits (by unfold scanBound; omega) R.tab.ris R.led fun s1 vs k1 z1 g1 o1 pm => ?_)
  have em : es.toList.map (·.2) = L.map fun z => Value.ref z.1 := by rw [R.rows]; unfold rowsOf; rw [List.map_map]; rfl
  rw [em] at pm
  have vl : vs.length < 64 := by rw [pm.length_eq, List.length_map]; exact fw
  refine wpAny_bind (wpAny_newList ?_ (by rw [sizeLine_eq]; omega))
  generalize hH : s1.heap.push (seqObj "list" vs.toArray 0) = H
  have oL : H.get? s1.heap.objs.size = some (seqObj "list" vs.toArray 0) := by rw [← hH]; exact Heap.get?_push_size _ rfl
  have up : ∀ c o, s.heap.get? c = some o → H.get? c = some o := fun c o e => by rw [← hH]; exact Heap.get?_push_of_some _ (k1 c o e)
  have tk : ∀ z ∈ L, TS.TupInts H (.ref z.1) z.2 := fun z hz => tupInts_of (isT_keep (R.tup z hz) up)
  have vof : ∀ v ∈ vs, ∃ z ∈ L, v = Value.ref z.1 := fun v hv => by
    obtain ⟨z, hz, e⟩ := List.mem_map.mp (pm.mem_iff.mp hv)
    exact ⟨z, hz, e.symm⟩
  have x : TupsG H b n vs := fun v hv => by
    obtain ⟨z, hz, rfl⟩ := vof v hv
    exact ⟨z.2, tk z hz, gd z hz⟩
  refine wpAny_bind (wpAny_holding (wpAny_call_entry slot_list_sort ⟨_, oL, rfl⟩ entry_list_sort (sort_any (s := { s1 with heap := H }) hb oL vl x fun out a1 a2 => ⟨_, rfl, ?_⟩) (args_list_sort _)))
  let g : Value → Addr × List Int := fun v => (match v with | .ref c => c | _ => 0, TS.intsOf H v)
  have gz : ∀ z ∈ L, g (.ref z.1) = z := fun z hz => Prod.ext rfl (tk z hz).ints
  have po := a1.trans pm
  have oof : ∀ v ∈ out.toList, ∃ z ∈ L, v = Value.ref z.1 := fun v hv => vof v (a1.mem_iff.mp hv)
  have pl : (out.toList.map g).Perm L := by
    have z := po.map g
    rw [List.map_map] at z
    have w : L.map (g ∘ fun z => Value.ref z.1) = L := (List.map_congr_left (g := id) fun z hz => gz z hz).trans (List.map_id L)
    rwa [w] at z
  have eo : out.toList = (out.toList.map g).map fun z => Value.ref z.1 := by
    rw [List.map_map]
    refine (List.map_id _).symm.trans (List.map_congr_left fun v hv => ?_)
    obtain ⟨z, hz, rfl⟩ := oof v hv
    rfl
  obtain ⟨c, hc⟩ := sortedHeap_at (vs := vs) (out := out) oL
  refine wpAny_pure ⟨_, rfl, q _ s1.heap.objs.size out c _ (fun d u e => ?_) g1 o1 z1 hc eo pl (List.pairwise_map.mpr a2)⟩
  have lt := Heap.lt_size (k1 d u e)
  show (sortedHeap H _ vs out).get? d = some u
  rw [sortedHeap_old (Nat.ne_of_lt lt) (by rw [← hH, size_push']; exact Nat.lt_succ_of_lt lt)]
  exact up d u e
abbrev emptyS (w : World) : Obj := { cls := .type "set", dict := none, data := .set #[] 0 (.fresh 0 0 (!w.params.followText "set-order")) }
/-- set of a list of ints, with its order -/
theorem set_listI {l : Addr} {xs : Array Value} (ns : List Int) {Q : Value → Shared → Prop} (hd : A.handled = none) (il : s.heap.IsList l xs) (ii : IntsAre xs.toList ns) (few : ns.length + 1 < scanBound)
    (q : ∀ (h2 : Heap) (tk c : Nat), SetR w h2 s.heap.objs.size (fun j => decide (j ∈ ns)) c → c ≤ ns.length → (∀ d u, s.heap.get? d = some u → h2.get? d = some u) → Q (.ref s.heap.objs.size) { s with heap := h2, toks := tk }) :
    wpAny (model P w) A (call (.type "set") [.ref l]) Q E s := by
  have zs : xs.size = ns.length := by have z := ii.length; rwa [Array.length_toList] at z
  obtain ⟨mc, mt, mr⟩ := F.called_set.mro
  have md := F.called_set.made; have sb := F.called_set.sub
  refine wpAny_call (codeAny_of_tree ?_)
  show wpAny (model P w) _ (callAny (.type "set") ⟨[.ref l], []⟩) _ _ s
  refine wpAny_pure ⟨Code.quiet_builtin _ (by decide +kernel), codeAny_builtin F.entry_type_call ?_⟩
  rw [Around.under_plain (weight_type_call_type "set" [.ref l] []) rfl]
  have n1 := F.called_set.notType; have n2 := F.called_set.canCreate
  have n3 := F.typeCall_set_1 (.ref l)
  repeat (any_goals (first | assumption | wp_step))
  refine codeAny_mono (code_set_led1 (.ref l) (E := E) (Q₁ := fun ob s2 => ob = .ref s.heap.objs.size ∧ s2 = { s with heap := s.heap.push (emptyS w) }) ⟨rfl, rfl⟩) fun r s2 hr => ?_
  rcases r with e | fl
  · exact hr
  cases fl
  case ret ob =>
    obtain ⟨rfl, rfl⟩ := hr
    have gS : (s.heap.push (emptyS w)).get? s.heap.objs.size = some (emptyS w) := Heap.get?_push_size _ rfl
    have gT : Shared.TypeIs { s with heap := s.heap.push (emptyS w) } (.ref s.heap.objs.size) "set" := ⟨_, gS, rfl⟩
    have il1 := F.called_set.init.lookup; have ib1 := F.called_set.init.bind (.ref s.heap.objs.size)
    repeat (any_goals (first | assumption | wp_step))
    refine codeAny_mono (codeAny_call_builtin (R := wants (fun r s3 => r = .none ∧ ∃ h2 tk c, s3 = { s with heap := h2, toks := tk } ∧ SetR w h2 s.heap.objs.size (fun j => decide (j ∈ ns)) c ∧ c ≤ ns.length ∧ ∀ d u, s.heap.get? d = some u → h2.get? d = some u) E)
      F.called_set.init.plain F.entry_set_init (check_set_init_1 gT ?_)) fun r3 s3 hr3 => ?_
    · obtain ⟨⟨oc, odi, oda, osl⟩, go, ec, nl, ed⟩ := il
      simp only at ec ed
      subst ec ed
      have go1 : (s.heap.push (emptyS w)).get? l = some { cls := .type "list", dict := odi, data := .seq xs nl, slots := osl } := Heap.get?_push_of_some _ go
      have u1 := F.sub_list_set; have u2 := F.sub_list_frozenset
      have u3 : (Value.type "list" == .type "dict") = false := by decide
      have isl : (s.heap.push (emptyS w)).IsList l xs := ⟨_, go1, rfl, nl, rfl⟩
      unfold Builtin.«set.__init__» noKeywords Builtin.Frozenset.updateFrom
      generalize hp : pyIter = pp
      wp_walk
      subst hp
      refine wpAny_pyIter_list isl (wpAny_bind (wpAny_runValue ?_))
      have ls : l < s.heap.objs.size := Heap.lt_size go
      have hd3 : A.in1.in1.in1.handled = none := by simp [hd]
      have li : l ≠ (s.heap.push (emptyS w)).objs.size := by rw [Heap.size_push]; exact Nat.ne_of_lt (.step ls)
      have sf : s.heap.objs.size ∉ [(s.heap.push (emptyS w)).objs.size, l] := by
        rw [Heap.size_push]; simp only [List.mem_cons, List.not_mem_nil, or_false, not_or]; exact ⟨Nat.ne_of_lt (Nat.lt_succ_self _), Nat.ne_of_gt ls⟩
      have each : ∀ (i : Nat) (v : Value), xs[i]? = some v → ∃ k t, ns[i]? = some k ∧ v = .int k t := fun i v hv => by
        have lt : i < ns.length := by rw [← zs]; exact (Array.getElem?_eq_some_iff.mp hv).1
        obtain ⟨t, e⟩ := IntsAre.int_at ii i v (by rw [Array.getElem?_toList]; exact hv)
        exact ⟨ns[i], t, List.getElem?_eq_getElem lt, by rw [e, List.getD_eq_getElem?_getD, List.getElem?_eq_getElem lt]; rfl⟩
      refine set_update_ints ((Walks.list hd3 _ l li xs).toS) s.heap.objs.size sf ns zs few each (xs.size - 0) 0 _ (by omega) (Nat.zero_le _) ⟨⟨_, Heap.get?_push_size _ rfl, rfl, rfl⟩, isl.push _⟩ ?first ?last
      case first =>
        exact ⟨0, Nat.le_refl 0, setR_new_at (Heap.get?_push_of_some _ gS)⟩
      case last =>
        intro ⟨h2, gn, dr, tk, os⟩ c mv hc rr
        have e1 : gn = s.gens := mv.gens
        have e2 : dr = s.drawn := mv.drawn
        have e3 : os = s.os := mv.os
        subst e1 e2 e3
        show wpAny (model P w) _ _ _ _ _
        refine wpAny_pure ?_
        show wpAny (model P w) _ (ret .none) _ _ _
        refine wpAny_pure ⟨rfl, h2, tk, c, rfl, rr, by rw [← zs]; exact hc, fun d u e => ?_⟩
        have lt := Heap.lt_size e
        exact mv.heap d u (by rw [Heap.size_push]; simp only [List.mem_cons, List.not_mem_nil, or_false, not_or]; exact ⟨Nat.ne_of_lt lt, Nat.ne_of_lt (.step lt)⟩) (Heap.get?_push_of_some _ (Heap.get?_push_of_some _ e))
    · rcases r3 with e | fl3
      · exact hr3
      cases fl3
      case ret r =>
        obtain ⟨rfl, h2, tk, c, rfl, rr, hc, kp⟩ := hr3
        repeat (any_goals (first | assumption | wp_step))
        exact q _ _ _ rr hc kp
      all_goals exact hr3.elim
  all_goals exact hr.elim
end
end D
end

section
set_option Elab.async false
set_option linter.all false
set_option maxRecDepth 100000
set_option maxHeartbeats 2000000
set_option autoImplicit false
/-! The deep layer, part 20: sorted(set(..)) as an expression. -/
namespace D
open PySem PySem.Spec PyProof.Rows L2
variable [TBL]
abbrev refs (L : List (Addr × List Int)) : List V := L.map fun z => V.ref z.1
def tSortSetG (K : PySem.W.Frag) (ta : TE) : TE := fun σ H Q => ta σ H fun x H1 => ∃ l : Addr, x = V.ref l ∧
  ((∃ ns : List Int, SqL K H1 l (ns.map V.int) ∧ ns.length < 64 ∧ ∀ (ms : List Int) (p : Addr), ms.Pairwise (· < ·) → (∀ k, k ∈ ms ↔ k ∈ ns) → H1 p = none → Q (.ref p) (upd H1 p (.lst (ms.map V.int)))) ∨
   ∃ (ks : List (Addr × List Int)) (b : Int) (n : Nat), SqL K H1 l (refs ks) ∧ (∀ z ∈ ks, SqT K H1 z.1 (z.2.map V.int)) ∧ ks.length < 64 ∧ 0 < b ∧ (∀ z ∈ ks, Gd b n z.2) ∧
    ∀ (L : List (Addr × List Int)) (p : Addr), (∀ z ∈ L, z ∈ ks) → (∀ z ∈ ks, z.2 ∈ L.map (·.2)) → (L.map (·.2)).Nodup → L.Pairwise (fun z u => rk b n z.2 ≤ rk b n u.2) → H1 p = none → Q (.ref p) (upd H1 p (.lst (refs L))))
section
variable {X : Cx}
theorem pe_sortSetG {k : Nat} {a : Expr} {ta : TE} {p p2 q pos : Pos} (hr : Room k X.A) (hg : Gl X "sorted") (hm : X.mg "sorted" = none) (hg2 : Gl X "set") (hm2 : X.mg "set" = none) (ha : PE X a ta)
    (na : starEach [a] X.env = (false, eval a X.env) :: starEach [] X.env := by rfl) : PE X (.Call (.Name "sorted" p) [.Call (.Name "set" p2) [a] [] q] [] pos) (tSortSetG X.K ta) := by
  refine ⟨fun pins s σ H Q I h => ?_⟩
  refine Call_ (ld_blt I hg hm PyProof.Rows.boot_sorted ?_)
  refine PyProof.Rows.callWith_builtin1 (PyProof.Rows.args_cons ?_ rfl) rfl rfl
  refine Call_ (ld_blt I hg2 hm2 PyProof.Rows.boot_set ?_)
  refine PyProof.Rows.callWith_type1 (PyProof.Rows.args_cons (thn (ha.run pins s σ H _ I h) fun v s1 ⟨x, H1, I1, r1, q1⟩ => PyProof.Rows.args_nil ?_) na) na rfl
  obtain ⟨l, rfl, q1⟩ := q1
  cases r1
  have un := hr.un
  have hd := hr.hd
  rcases q1 with ⟨ns, hq, h1, q1⟩ | ⟨ks, b, n, hq, hk, h1, hb, gd, q1⟩
  · obtain ⟨its, r, pl, hz⟩ := I1.list hq
    refine set_listI ns hd pl.isList (by simpa using r.ints) (by unfold scanBound; omega) fun h2 tk c R hc kp => ?_
    refine PyProof.Rows.args_nil ?_
    have I2 : Inv X pins σ H1 { s1 with heap := h2, toks := tk } := I1.kept kp
    refine sorted_set R hd (by omega) fun s3 p out c ms k3 g3 o3 hp oo oi os om ol => ?_
    have hn : H1 p = none := I2.hok.fresh hp
    have il : Inv X pins σ (upd H1 p (.lst (ms.map V.int))) s3 := I2.call' (ch := []) o3 (Un.laid k3 hp hn)
      (I2.hok.laid k3 hp ⟨by rw [List.length_map, ol, sizeLine_eq]; omega, out.toList, c, vals_of_ints oi, oo⟩) (by rw [g3]; exact I2.bare) fun _ z => nomatch z
    exact ⟨.ref p, _, il, rfl, q1 ms p os (fun k => (om k).trans decide_eq_true_iff) hn⟩
  · obtain ⟨its, r, pl, hz⟩ := I1.list hq
    refine call_set_tups ks hd pl.isList (by simpa using refs_of_vals r) (fun z hz => I1.isT (hk z hz)) h1 (by omega) fun h2 tk L es ep t R g kp => ?_
    refine PyProof.Rows.args_nil ?_
    have I2 : Inv X pins σ H1 { s1 with heap := h2, toks := tk } := I1.kept kp
    have sub : ∀ z ∈ L, z ∈ ks := fun z hz => List.mem_of_mem_take (g.sub z hz)
    have few : L.length < 64 := R.few
    refine sorted_setG R hd hb (fun z hz => gd z (sub z hz)) fun s3 p out c L2 k3 g3 o3 hp oo oe pm pw => ?_
    have hn : H1 p = none := I2.hok.fresh hp
    have il : Inv X pins σ (upd H1 p (.lst (refs L2))) s3 := I2.call' (ch := []) o3 (Un.laid k3 hp hn)
      (I2.hok.laid k3 hp ⟨by rw [List.length_map, pm.length_eq, sizeLine_eq]; omega, out.toList, c, by rw [oe]; exact vals_of_refs L2, oo⟩) (by rw [g3]; exact I2.bare) fun _ z => nomatch z
    exact ⟨.ref p, _, il, rfl, q1 L2 p (fun z hz => sub z (pm.mem_iff.mp hz)) (fun z hz => (pm.map (·.2)).mem_iff.mpr (g.all z (by rw [List.take_length]; exact hz))) ((pm.map (·.2)).nodup_iff.mpr R.nd) pw hn⟩
end
abbrev tI (ns : List Int) : Dv := .tup (ns.map .int)
/-- sorted(set(..)): ints, or tuples of ints none of which is empty or below zero -/
def dSortSet (ta : DE) : DE := fun l M P X => ta l M (fun d M1 =>
  (∃ ns : List Int, lstD M1 d = some (ns.map .int) ∧ ns.length < 64 ∧ ∀ ms : List Int, ms.Pairwise (· < ·) → (∀ k, k ∈ ms ↔ k ∈ ns) → P (.lst (ms.map .int)) M1) ∨
  ∃ ls : List (List Int), lstD M1 d = some (ls.map tI) ∧ ls.length < 64 ∧ (∀ l ∈ ls, l ≠ [] ∧ ∀ m ∈ l, 0 ≤ m) ∧ ∀ ms : List (List Int), ms.Nodup → (∀ l, l ∈ ms ↔ l ∈ ls) → ms.Pairwise (fun a b => lexB a b = true) → P (.lst (ms.map tI)) M1) X
section
variable {n : Nat} {f : Fr} {H : Hp}
theorem rd_tI {ns : List Int} {v : V} (r : RD n f H (tI ns) v) : ∃ a, v = .ref a ∧ H a = some (.tup (ns.map V.int)) := by
  obtain ⟨_, a, xs, rfl, ha, _, h⟩ : (ns.map Dv.int).length ≤ sizeLine ∧ ∃ a xs, v = .ref a ∧ H a = some (.tup xs) ∧ Bes n f a ∧ RDs n f H (ns.map .int) xs := r
  rw [rds_ints h] at ha
  exact ⟨a, rfl, ha⟩
theorem rds_tI : ∀ {ls : List (List Int)} {vs : List V}, RDs n f H (ls.map tI) vs → ∃ ks : List (Addr × List Int), vs = refs ks ∧ ks.map (·.2) = ls ∧ ∀ z ∈ ks, H z.1 = some (.tup (z.2.map V.int)) ∧ RD n f H (tI z.2) (.ref z.1)
  | [], vs, r => ⟨[], r, rfl, fun z h => by cases h⟩
  | l :: ls, vs, r => by
    obtain ⟨v, vr, rfl, rd, rr⟩ : ∃ v vr, vs = v :: vr ∧ RD n f H (tI l) v ∧ RDs n f H (ls.map tI) vr := r
    obtain ⟨a, rfl, ha⟩ := rd_tI rd
    obtain ⟨ks, rfl, e, h⟩ := rds_tI rr
    refine ⟨(a, l) :: ks, rfl, by rw [List.map_cons, e], fun z hz => ?_⟩
    rcases List.mem_cons.mp hz with rfl | hz
    · exact ⟨ha, rd⟩
    · exact h z hz
theorem tI_rds : ∀ {L : List (Addr × List Int)}, (∀ z ∈ L, RD n f H (tI z.2) (.ref z.1)) → RDs n f H ((L.map (·.2)).map tI) (refs L)
  | [], _ => rfl
  | z :: L, h => ⟨_, _, rfl, h z List.mem_cons_self, tI_rds fun u hu => h u (List.mem_cons_of_mem _ hu)⟩
end
theorem bound_len (ls : List (List Int)) : ∃ n, ∀ l ∈ ls, l.length ≤ n := by
  induction ls with
  | nil => exact ⟨0, fun l h => by cases h⟩
  | cons l ls ih =>
    obtain ⟨n, h⟩ := ih
    exact ⟨n + l.length, fun x hx => by rcases List.mem_cons.mp hx with rfl | hx; · omega
                                        · have := h x hx; omega⟩
theorem bound_one (l : List Int) : ∃ b : Int, 0 < b ∧ ∀ m ∈ l, m + 1 < b := by
  induction l with
  | nil => exact ⟨1, by omega, fun l h => by cases h⟩
  | cons a l ih =>
    obtain ⟨n, h0, h⟩ := ih
    refine ⟨n + (a.natAbs + 2 : Nat), by omega, fun x hx => ?_⟩
    rcases List.mem_cons.mp hx with rfl | hx
    · omega
    · have := h x hx; omega
theorem bound_all (ls : List (List Int)) : ∃ b : Int, 0 < b ∧ ∀ l ∈ ls, ∀ m ∈ l, m + 1 < b := by
  obtain ⟨b, h0, h⟩ := bound_one ls.flatten
  exact ⟨b, h0, fun l hl m hm => h m (List.mem_flatten.mpr ⟨l, hl, hm⟩)⟩
theorem lex_total : ∀ {a b : List Int}, a ≠ b → lexB b a = false → lexB a b = true
  | [], [], h, _ => absurd rfl h
  | [], _ :: _, _, _ => rfl
  | _ :: _, [], _, h => by simp [lexB] at h
  | x :: r, y :: q, h, g => by
    simp only [lexB, Bool.or_eq_false_iff, decide_eq_false_iff_not, Bool.and_eq_false_iff] at g
    simp only [lexB, Bool.or_eq_true, decide_eq_true_eq, Bool.and_eq_true]
    by_cases e : x = y
    · subst e
      exact .inr ⟨rfl, lex_total (fun z => h (by rw [z])) (g.2.resolve_left fun z => z rfl)⟩
    · exact .inl (by omega)
theorem nodup_le {α : Type} : ∀ {l1 l2 : List α}, l1.Nodup → (∀ x ∈ l1, x ∈ l2) → l1.length ≤ l2.length
  | [], _, _, _ => Nat.zero_le _
  | x :: l1, l2, nd, h => by
    obtain ⟨s, t, rfl⟩ := List.append_of_mem (h x List.mem_cons_self)
    have nd2 := List.nodup_cons.mp nd
    have := nodup_le nd2.2 (l2 := s ++ t) fun y hy => by
      have := h y (List.mem_cons_of_mem _ hy)
      simp only [List.mem_append, List.mem_cons] at this ⊢
      rcases this with h1 | rfl | h1
      · exact .inl h1
      · exact absurd hy nd2.1
      · exact .inr h1
    simp only [List.length_append, List.length_cons] at this ⊢
    omega
theorem je_sortSet {X : Cx} {W : WX} {k : Nat} {a : Expr} {ta : DE} {p p2 q pos : Pos} (hr : Room k X.A) (hg : Gl X "sorted") (hm : X.mg "sorted" = none) (hg2 : Gl X "set") (hm2 : X.mg "set" = none) (ha : JE X W a ta)
    (na : starEach [a] X.env = (false, eval a X.env) :: starEach [] X.env := by rfl) : JE X W (.Call (.Name "sorted" p) [.Call (.Name "set" p2) [a] [] q] [] pos) (dSortSet ta) :=
  pe_imp (pe_sortSetG hr hg hm hg2 hm2 ha na) fun s H Q ⟨f, l, M, P, Y, m, rl, h, k, kx⟩ => ⟨f, l, M, _, Y, m, rl, h, fun f1 H1 M1 d v x1 m1 r1 w => by
    rcases w with ⟨ns, e, hl, hp⟩ | ⟨ls, e, hl, hg, hp⟩
    · obtain ⟨a, ys, rfl, hq, hr, hz⟩ := rd_lstM (K := X.K) m1 r1 e
      rw [rds_ints hr] at hq
      refine ⟨a, rfl, .inl ⟨ns, hq, hl, fun ms p1 h1 h2 hn => ?_⟩⟩
      have le : (ms.map Dv.int).length ≤ sizeLine := by
        have nd : ms.Nodup := h1.imp fun {a b} h => by omega
        have := nodup_le nd fun k hk => (h2 k).mp hk
        rw [List.length_map, sizeLine_eq]; omega
      exact k f1 _ M1 (.lst (ms.map .int)) _ (x1.trans (Lt.same (same_new hn))) (m1.same (same_new hn)) (rd_lst m1 hn ints_rds le) (hp ms h1 h2)
    · obtain ⟨a, ys, rfl, hq, hr, hz⟩ := rd_lstM (K := X.K) m1 r1 e
      obtain ⟨ks, rfl, ek, hk⟩ := rds_tI hr
      obtain ⟨b, hb, bb⟩ := bound_all ls
      obtain ⟨n, nn⟩ := bound_len ls
      have mk : ∀ z ∈ ks, z.2 ∈ ls := fun z hz => by rw [← ek]; exact List.mem_map.mpr ⟨z, hz, rfl⟩
      have gd : ∀ z ∈ ks, Gd b n z.2 := fun z hz => ⟨(hg _ (mk z hz)).1, nn _ (mk z hz), fun m hm => ⟨(hg _ (mk z hz)).2 m hm, bb _ (mk z hz) m hm⟩⟩
      refine ⟨a, rfl, .inr ⟨ks, b, n, hq, fun z hz => .inl (.inl (hk z hz).1), by rw [← List.length_map (f := (·.2)), ek]; exact hl, hb, gd, fun L p1 s1 s2 nd pw hn => ?_⟩⟩
      have le : ((L.map (·.2)).map tI).length ≤ sizeLine := by
        have := nodup_le nd (l2 := ls) fun l hl => by
          obtain ⟨z, hz, rfl⟩ := List.mem_map.mp hl
          exact mk z (s1 z hz)
        rw [List.length_map, sizeLine_eq]; omega
      refine k f1 _ M1 (.lst ((L.map (·.2)).map tI)) _ (x1.trans (Lt.same (same_new hn))) (m1.same (same_new hn)) (rd_lst m1 hn (tI_rds fun z hz => (hk z (s1 z hz)).2) le) (hp _ nd (fun l => ⟨fun hl => ?_, fun hl => ?_⟩) ?_)
      · obtain ⟨z, hz, rfl⟩ := List.mem_map.mp hl
        exact mk z (s1 z hz)
      · rw [← ek] at hl
        obtain ⟨z, hz, rfl⟩ := List.mem_map.mp hl
        exact s2 z hz
      · have nd2 := List.pairwise_map.mp nd
        refine List.pairwise_map.mpr ((pw.and nd2).imp_of_mem fun {x y} hx hy ⟨h1, h2⟩ => lex_total h2 ?_)
        have gx := gd x (s1 x hx)
        have gy := gd y (s1 y hy)
        refine Bool.eq_false_iff.mpr fun z => ?_
        have := (rk_lt hb n _ _ gy.dg gx.dg gy.le gx.le).mpr z
        omega, kx⟩
end D
end

section
set_option Elab.async false
set_option linter.all false
set_option maxRecDepth 100000
set_option maxHeartbeats 2000000
set_option autoImplicit false
/-! The deep layer, part 21: sorted of a tuple of ints; what D14 to D20 have by simp; two clauses by a flat list. -/
namespace D
open PySem PySem.Spec PyProof.Rows L2
variable [TBL]
section
variable {P : Program} {w : World} {A : Around} {E : Value → Shared → Prop} {s : Shared}
abbrev grownHeap (h : Heap) (xs : Array Value) : Heap := (h.push (seqObj "list" #[] 0)).update h.objs.size (Obj.mapSeq (· ++ xs))
theorem collect_both {it : Addr} {T : String} {o : Obj} {xs : Array Value} {n : Nat} {Q : List Value → Shared → Prop} (hT : T = "list" ∨ T = "tuple") (ho : s.heap.get? it = some o) (hc : o.cls = .type T) (od : o.data = .seq xs n) (zs : xs.size ≤ sizeLine)
    (q : Q xs.toList { s with heap := grownHeap s.heap xs }) : wpAny (model P w) A (collect (.ref it)) Q E s := by
  unfold collect
  refine wpAny_bind (wpAny_runValue (codeAny_builtin PySem.F.entry_proto_collect ?_))
  rw [Around.under_plainId PySem.F.plain_proto_collect _]
  show wpAny (model P w) A.in1 (newList [] >>= fun l => again (.builtin "list.__iadd__" ⟨[l, .ref it], []⟩)) _ _ s
  refine wpAny_bind (wpAny_newObj_type (wpAny_pure ⟨plainId_quiet PySem.F.plain_list_iadd _, codeAny_builtin PySem.F.entry_list_iadd ?_⟩))
  rw [Around.under_plainId PySem.F.plain_list_iadd _]
  have e0 : (s.heap.push (seqObj "list" #[] 0)).get? s.heap.objs.size = some (seqObj "list" #[] 0) := Heap.get?_push_size _ rfl
  refine wpAny_mono (wpAny_extend_seq (hsz := zs) (A := A) (R := fun r s2 => r = .ok (.ret (.ref s.heap.objs.size)) ∧ s2 = { s with heap := grownHeap s.heap xs }) (s := { s with heap := s.heap.push (seqObj "list" #[] 0) }) _ it _ 0 hT e0 (Heap.get?_push_of_some _ ho) hc od ⟨rfl, rfl⟩) (fun fin s2 h => ?_) fun e s2 h => absurd h.1 (by simp)
  have last : wpAny (model P w) A (load s.heap.objs.size >>= fun o => match o.data with | .seq ys _ => pure ys.toList | _ => unsupported "internal:collect") Q E { s with heap := grownHeap s.heap xs } := by
    refine wpAny_bind (wpAny_load (get?_update_seq e0 _) ?_)
    show wpAny (model P w) A (pure ((#[] : Array Value) ++ xs).toList) Q E _
    rw [show ((#[] : Array Value) ++ xs).toList = xs.toList by simp]
    exact wpAny_pure q
  cases fin with
  | done r => obtain ⟨e, rfl⟩ := h; cases e; exact last
  | again c => exact ⟨h.1, codeAny_mono h.2 fun r s3 hr => by obtain ⟨rfl, rfl⟩ := hr; exact last⟩
theorem sorted_seqI {it : Addr} {T : String} {o : Obj} {xs : Array Value} {n : Nat} {ns : List Int} {Q : Value → Shared → Prop} (hT : T = "list" ∨ T = "tuple") (ho : s.heap.get? it = some o) (hc : o.cls = .type T) (od : o.data = .seq xs n)
    (ii : IntsAre xs.toList ns) (zs : xs.size ≤ sizeLine)
    (q : ∀ (h2 : Heap) (p : Addr) (out : Array Value) (c : Nat) (ms : List Int), (∀ d u, s.heap.get? d = some u → h2.get? d = some u) → s.heap.objs.size ≤ p → h2.get? p = some (seqObj "list" out c) → IntsAre out.toList ms → ms.Perm ns → ms.Pairwise (· ≤ ·) → Q (.ref p) { s with heap := h2 }) :
    wpAny (model P w) A (call (.builtin "sorted") [.ref it]) Q E s := by
  refine Calls.call_function_entry kind_sorted plain_sorted entry_sorted (args_sorted1 (.ref it)) ?_
  unfold Builtin.«sorted»
  refine wpAny_bind (m := checkCount "sorted" 1 1 _) (wpAny_pure ?_)
  refine wpAny_bind (collect_both hT ho hc od zs ?_)
  generalize hG : grownHeap s.heap xs = h1
  have k1 : ∀ d u, s.heap.get? d = some u → h1.get? d = some u := fun d u e => by
    rw [← hG]
    exact (Heap.get?_update_ne _ _ _ _ (Nat.ne_of_lt (Heap.lt_size e))).trans (Heap.get?_push_of_some _ e)
  have le : s.heap.objs.size ≤ h1.objs.size := by
    rw [← hG, Heap.size_update, size_push']; exact Nat.le_succ _
  refine wpAny_bind (wpAny_newList ?_ (by rw [Array.length_toList]; exact zs))
  generalize hH : h1.push (seqObj "list" xs.toList.toArray 0) = H
  have oL : H.get? h1.objs.size = some (seqObj "list" xs.toList.toArray 0) := by rw [← hH]; exact Heap.get?_push_size _ rfl
  have up : ∀ d u, s.heap.get? d = some u → H.get? d = some u := fun d u e => by rw [← hH]; exact Heap.get?_push_of_some _ (k1 d u e)
  refine wpAny_bind (wpAny_holding (wpAny_call_entry slot_list_sort ⟨_, oL, rfl⟩ entry_list_sort (list_sort_treeAny (s := { s with heap := H }) oL ii (by rw [Array.length_toList]; exact zs) fun out ms a1 a2 a3 => ⟨_, rfl, ?_⟩) (args_list_sort _)))
  obtain ⟨c, hc⟩ := sortedHeap_at (vs := xs.toList) (out := out) oL
  refine wpAny_pure ⟨_, rfl, q _ h1.objs.size out c ms (fun d u e => ?_) le hc a1 a2 a3⟩
  have lt := Heap.lt_size (k1 d u e)
  show (sortedHeap H _ xs.toList out).get? d = some u
  rw [sortedHeap_old (Nat.ne_of_lt lt) (by rw [← hH, size_push']; exact Nat.lt_succ_of_lt lt)]
  exact up d u e
end
def rSortedQ (K : PySem.W.Frag) : List V → Hp → VK → Prop := fun vs H Q => ∃ (a : Addr) (ns : List Int), vs = [V.ref a] ∧ (SqL K H a (ns.map V.int) ∨ SqT K H a (ns.map V.int)) ∧
  ∀ (ms : List Int) (p : Addr), ms.Perm ns → ms.Pairwise (· ≤ ·) → H p = none → Q (.ref p) (upd H p (.lst (ms.map V.int)))
theorem cr_sortedQ {X : Cx} : CallR X (.builtin "sorted") (rSortedQ X.K) := by
  intro pins s σ H vs us Q I r h
  obtain ⟨a, ns, rfl, hs, q⟩ := h
  rcases hs with hs | hs
  · exact cr_sortedI pins s σ H _ us Q I r ⟨a, ns, rfl, hs, fun ms p h1 h2 h3 => q ms p h1 h2 h3⟩
  obtain ⟨its, rv, ⟨o, ho, hc, n, od⟩, hz⟩ := I.tuple hs
  rw [Vals.ref1 r]
  have hz2 : its.length ≤ sizeLine := by
    have := rv.length
    omega
  refine sorted_seqI (.inr rfl) ho hc od (by simpa using rv.ints) (by simpa using hz2) fun h2 p out c ms k hp ho2 hi h1 h2s => ?_
  have hn := I.hok.fresh hp
  refine ⟨.ref p, upd H p (.lst (ms.map V.int)), I.laid (t' := s.toks) k hp ⟨?_, out.toList, c, vals_of_ints hi, ho2⟩, rfl, q ms p h1 h2s hn⟩
  rw [List.length_map, h1.length_eq, ← List.length_map (f := V.int), rv.length]
  exact hz2
/-- sorted(xs), ints, a list or a tuple -/
def gSortQ : List Dv → Mem → (Dv → Prop) → Prop := fun ds M P => ∃ (d : Dv) (ns : List Int), ds = [d] ∧ seqD M d = some (ns.map Dv.int) ∧ ∀ ms : List Int, ms.Perm ns → ms.Pairwise (· ≤ ·) → P (.lst (ms.map Dv.int))
theorem o_sortQ {K : PySem.W.Frag} : Opn (rSortedQ K) gSortQ := fun f H M xs vs P Q m r ⟨d, ns, e, hk, p⟩ fin => by
  subst e
  obtain ⟨v, rfl, rd⟩ := rds1 r
  obtain ⟨a, ys, rfl, hq, hr, hz⟩ := rd_seqM (K := K) m rd hk
  rw [rds_ints hr] at hq
  refine ⟨a, ns, rfl, hq, fun ms q hp hs hn => fin _ _ (.lst (ms.map Dv.int)) (same_new hn) (rd_lst m hn ints_rds ?_) (p ms hp hs)⟩
  rw [List.length_map, hp.length_eq]
  rw [List.length_map] at hz
  exact hz
section
variable {X : Cx} {W : WX} {pos p : Pos} {e : Expr} {es : List Expr} {u : DA}
theorem je_sortQ (hg : Gl X "sorted") (hm : X.mg "sorted" = none) (ha : JA X W (e :: es) u) (he : starEach (e :: es) X.env = (false, eval e X.env) :: starEach es X.env := by rfl) (hpl : (backTo pos (starEach es X.env)).any (·.1) = false := by rfl) :
    JE X W (.Call (.Name "sorted" p) (e :: es) [] pos) (dCB gSortQ u) := je_callB cr_sortedQ o_sortQ hg hm PyProof.Rows.boot_sorted ha (by decide) (by decide) he hpl
end
section
variable {l : Loc} {M : Mem} {P : PD} {X : PX} {E : DK} {R : List Dv → Mem → Prop} {ta tb to tv : DE} {u : DA} {K : PySem.W.Frag} {x : Str} {S : DSp} {C : Addr}
@[simp] theorem s_fld : dFld K x ta l M P X = ta l M (fun d M1 => ∃ C ks fs v, insM M1 d = some (C, ks, fs) ∧ FlC K C x ∧ (ks.zip fs).lookup x = some v ∧ P v M1) X := rfl
@[simp] theorem s_putF : dPutF K x ta tv E l M = tv l M (fun y M1 => ta l M1 (fun d M2 => ∃ i C ks fs, d = .ref i ∧ M2[i]? = some (.ins C ks fs) ∧ FlC K C x ∧ ks.length < 1000 ∧
  E.nx l (M2.set i (.ins C (putD x y ks fs).1 (putD x y ks fs).2))) (fun C d M1 => E.xc C d l M1)) (fun C d M1 => E.xc C d l M1) := rfl
@[simp] theorem s_make : dMake C S u l M P X = u l M (fun ds M1 => S (.ref M1.length :: ds) (M1 ++ [.ins C [] []]) (fun v M2 => v = .non ∧ Ret M1.length P (.ref M1.length) M2) X) X := rfl
@[simp] theorem s_popAt : dPopAt to u l M P X = to l M (fun d M1 => ∃ i xs0, d = .ref i ∧ M1[i]? = some (.lst xs0) ∧
  u l M1 (fun ds M2 => ∃ (k : Nat) (y : Dv) (xs : List Dv), ds = [.int (k : Int)] ∧ M2[i]? = some (.lst xs) ∧ xs[k]? = some y ∧ P y (M2.set i (.lst (xs.eraseIdx k)))) X) X := rfl
@[simp] theorem s_star : dStar ta u l M R X = ta l M (fun d M1 => ∃ xs, seqD M1 d = some xs ∧ u l M1 (fun ds M2 => R (xs ++ ds) M2) X) X := rfl
@[simp] theorem s_listM : dListM u l M P X = u l M (fun ds M1 => ∃ d xs, ds = [d] ∧ seqD M1 d = some xs ∧ P (.ref M1.length) (M1 ++ [.lst xs])) X := rfl
@[simp] theorem s_lrg : dLRg ta l M P X = ta l M (fun d M1 => ∃ n : Int, d = .int n ∧ -(2 ^ 62) ≤ n ∧ n ≤ 2 ^ 24 ∧ P (.lst (rngD 0 n)) M1) X := rfl
@[simp] theorem s_lrgM : dLRgM ta l M P X = ta l M (fun d M1 => ∃ n : Int, d = .int n ∧ -(2 ^ 62) ≤ n ∧ n ≤ 2 ^ 24 ∧ P (.ref M1.length) (M1 ++ [.lst (rngD 0 n)])) X := rfl
@[simp] theorem s_trg : dTRg ta l M P X = ta l M (fun d M1 => ∃ n : Int, d = .int n ∧ -(2 ^ 62) ≤ n ∧ n ≤ 2 ^ 24 ∧ P (.tup (rngD 0 n)) M1) X := rfl
@[simp] theorem s_lenSet : dLenSet ta l M P X = ta l M (fun d M1 => ∃ ns : List Int, seqD M1 d = some (ns.map Dv.int) ∧ ns.length ≤ 4000 ∧ ∀ ms : List Int, ms.Nodup → (∀ k, k ∈ ms ↔ k ∈ ns) → P (.int ms.length) M1) X := rfl
@[simp] theorem s_sortSet : dSortSet ta l M P X = ta l M (fun d M1 =>
  (∃ ns : List Int, lstD M1 d = some (ns.map .int) ∧ ns.length < 64 ∧ ∀ ms : List Int, ms.Pairwise (· < ·) → (∀ k, k ∈ ms ↔ k ∈ ns) → P (.lst (ms.map .int)) M1) ∨
  ∃ ls : List (List Int), lstD M1 d = some (ls.map tI) ∧ ls.length < 64 ∧ (∀ l ∈ ls, l ≠ [] ∧ ∀ m ∈ l, 0 ≤ m) ∧ ∀ ms : List (List Int), ms.Nodup → (∀ l, l ∈ ms ↔ l ∈ ls) → ms.Pairwise (fun a b => lexB a b = true) → P (.lst (ms.map tI)) M1) X := rfl
@[simp] theorem s_bad : dBad E l M = False := rfl
@[simp] theorem s_comp2 {src src1 : DI} {g g1 : DG} {tt tt1 : DT} {te : DE} {vs vs1 : List Nat} : dComp2 src g tt src1 g1 tt1 te vs vs1 l M P X = src l M (fun xs chk M1 => loopE g tt src1 g1 tt1 te vs vs1 chk xs [] l M1 (fun ys M2 => P (.lst ys) M2)) X := rfl
end
section
variable {g g1 : DG} {tt tt1 : DT} {te : DE} {src1 : DI} {vs vs1 : List Nat} {chk : Mem → Prop} {l : Loc} {M : Mem} {P : List Dv → Mem → Prop}
theorem loopD_map (v : Dv → Dv) (hc : chk M) : ∀ {xs acc : List Dv}, acc.length + xs.length ≤ sizeLine → (∀ x ∈ xs, ∀ (C1 : Dv → Mem → Prop) (C2 : Mem → Prop), C1 (v x) M → g x (wipeD l vs) M fun l2 M2 => tt l2 M2 (fun b M3 => if b = true then te l2 M3 C1 noX else C2 M3) noX) →
    P (acc ++ xs.map v) M → loopD g tt te vs chk xs acc l M P
  | [], acc, _, _, h => ⟨hc, by simpa using h⟩
  | x :: xs, acc, z, st, h => ⟨hc, st x List.mem_cons_self _ _ ⟨by simp at z; omega, loopD_map v hc (by simp at z ⊢; omega) (fun y hy => st y (List.mem_cons_of_mem _ hy)) (by simpa using h)⟩⟩
theorem loopE_flat (v : Dv → List Dv) (hc : chk M) : ∀ {xs acc : List Dv}, acc.length + ((xs.map v).flatten).length ≤ sizeLine →
    (∀ x ∈ xs, ∀ (acc : List Dv) (C1 : List Dv → Mem → Prop) (C2 : Mem → Prop), acc.length + (v x).length ≤ sizeLine → C1 (acc ++ v x) M → g x (wipeD l vs) M fun l2 M2 => tt l2 M2 (fun b M3 => if b = true then src1 l2 M3 (fun ys chk1 M4 => loopD g1 tt1 te vs1 chk1 ys acc l2 M4 C1) noX else C2 M3) noX) →
    P (acc ++ (xs.map v).flatten) M → loopE g tt src1 g1 tt1 te vs vs1 chk xs acc l M P
  | [], acc, _, _, h => ⟨hc, by simpa using h⟩
  | x :: xs, acc, z, st, h => ⟨hc, st x List.mem_cons_self acc _ _ (by simp at z ⊢; omega) (loopE_flat v hc (by simp at z ⊢; omega) (fun y hy => st y (List.mem_cons_of_mem _ hy)) (by simpa using h))⟩
end
end D
end

section
set_option Elab.async false
set_option linter.all false
set_option maxRecDepth 100000
set_option maxHeartbeats 2000000
set_option autoImplicit false
/-! The deep layer, part 22: x[::-1] of a tuple, too. -/
namespace D
open PySem PySem.Spec PyProof.Rows L2
variable [TBL]
section
variable {P : Program} {w : World} {A : Around} {E : Value → Shared → Prop} {s : Shared}
theorem back_pick (xs : Array Value) : ((List.range xs.size).filterMap fun (k : Nat) => xs[(((xs.size : Int) - 1) + (k : Int) * (-1)).toNat]?).toArray = xs.toList.reverse.toArray := by
  congr 1
  have e : ∀ n, n ≤ xs.size → (List.range n).filterMap (fun (k : Nat) => xs[(((xs.size : Int) - 1) + (k : Int) * (-1)).toNat]?) = xs.toList.reverse.take n := by
    intro n
    induction n with
    | zero => intro _; rfl
    | succ n ih =>
      intro h
      have hn : (((xs.size : Int) - 1) + (n : Int) * (-1)).toNat = xs.size - 1 - n := by omega
      have hlt : xs.size - 1 - n < xs.size := by omega
      have hv : xs[xs.size - 1 - n]? = some (xs[xs.size - 1 - n]'hlt) := Array.getElem?_eq_getElem hlt
      rw [List.range_succ, List.filterMap_append, ih (by omega), List.take_add_one]
      congr 1
      rw [List.getElem?_reverse (by rw [Array.length_toList]; omega), Array.length_toList, Array.getElem?_toList]
      rw [List.filterMap_cons, hn, hv]; rfl
  rw [e _ (Nat.le_refl _), List.take_of_length_le (by simp)]
theorem back_applied {sl : Addr} {n : Nat} {u : Tok} {Q : Int × Int × Nat → Shared → Prop} (hs : s.heap.IsSliceOf sl .none .none (.int (-1) u)) (q : Q ((n : Int) - 1, -1, n) s) :
    wpAny (model P w) A (Builtin.Slice.sliceApplied (.ref sl) (pure (n : Int))) Q E s := by
  obtain ⟨os, ho, hc, hd⟩ := id hs
  unfold Builtin.Slice.sliceApplied Builtin.Slice.sliceFields
  refine wpAny_bind (wpAny_bind (wpAny_field ho hd (x := .none) rfl (wpAny_bind (wpAny_field ho hd (x := .none) rfl (wpAny_bind (wpAny_field ho hd (x := .int (-1) u) rfl (wpAny_pure ?_)))))))
  refine wpAny_bind (slicePart_int ?_)
  show wpAny (model P w) A (if ((-1 : Int) == 0) = true then _ else _) _ _ s
  rw [if_neg (by decide)]
  refine wpAny_bind (slicePart_none (wpAny_bind (slicePart_none (wpAny_bind (wpAny_pure ?_)))))
  have e : Builtin.Slice.slicePlaces ((n : Int) - 1) (-1) (-1) = n := by
    unfold Builtin.Slice.slicePlaces
    rw [if_neg (by decide)]
    by_cases h : n = 0
    · subst h; rfl
    · rw [if_pos (by omega)]
      have : ((n : Int) - 1 - -1 - 1) / - -1 + 1 = (n : Int) := by
        rw [show (- -1 : Int) = 1 by decide, Int.ediv_one]; omega
      rw [this]; omega
  show wpAny (model P w) A (pure ((n : Int) - 1, (-1 : Int), Builtin.Slice.slicePlaces ((n : Int) - 1) (-1) (-1))) _ _ s
  rw [e]
  exact wpAny_pure q
theorem back_tuple {t sl : Addr} {xs : Array Value} {u : Tok} {Q : Value → Shared → Prop} (ht : IsTup s.heap t xs) (hs : s.heap.IsSliceOf sl .none .none (.int (-1) u)) (zs : xs.size ≤ sizeLine)
    (q : Q (.ref s.heap.objs.size) { s with heap := s.heap.push { cls := .type "tuple", data := .seq xs.toList.reverse.toArray } }) : wpAny (model P w) A (getItem (.ref t) (.ref sl)) Q E s := by
  have ok : sizeOk (.seq xs.toList.reverse.toArray) := by
    show xs.toList.reverse.toArray.size ≤ sizeLine
    simpa using zs
  obtain ⟨os, ho, hc, hd⟩ := id hs
  have tS : s.TypeIs (.ref sl) "slice" := ⟨os, ho, hc⟩
  unfold getItem
  try with_reducible refine wpAny_holding ?_
  first | refine wpAny_bind (wpAny_pure ?_) | skip
  refine wpAny_bind (wpAny_sequenceKey ht.typeIs (by decide) ?_)
  refine wpAny_bind (wpAny_callSpecial?_slot (name := Str.ofString "__getitem__") ht.typeIs slot_tuple_getitem (wpAny_call_entry slot_tuple_getitem ht.typeIs entry_tuple_getitem ?_ (args_tuple_getitem _ _)))
  show wpAny (model P w) _ (Builtin.Tuple.tupleItemsOf (.ref t) >>= _) _ _ s
  refine wpAny_bind (tupleItemsOf_ ht (wpAny_bind (wpAny_typeOf tS ?_)))
  rw [if_pos (by decide)]
  refine wpAny_bind (back_applied (n := xs.size) hs ?_)
  have no : ¬ ((((xs.size : Int) - 1) == 0 && (-1 : Int) == 1 && xs.size == xs.size) = true) := by
    rw [show ((-1 : Int) == 1) = false by decide]; simp
  show wpAny (model P w) _ (if (((xs.size : Int) - 1) == 0 && (-1 : Int) == 1 && xs.size == xs.size) = true then _ else _) _ _ s
  rw [if_neg no, back_pick xs]
  first
    | exact wpAny_bind (m := Builtin.Tuple.tupleExact _) (wpAny_newObj_type (wpAny_pure ⟨_, rfl, wpAny_pure q⟩) ok)
    | exact wpAny_bind (m := Builtin.Tuple.tupleExact _) (wpAny_newObj_type (wpAny_bind (wpAny_pure (wpAny_pure ⟨_, rfl, wpAny_pure q⟩))) ok)
    | exact wpAny_bind (wpAny_bind (m := Builtin.Tuple.tupleExact _) (wpAny_newObj_type (wpAny_pure (wpAny_pure ⟨_, rfl, wpAny_pure q⟩)) ok))
    | exact wpAny_bind (wpAny_bind (m := Builtin.Tuple.tupleExact _) (wpAny_newObj_type (wpAny_pure ⟨_, rfl, wpAny_pure q⟩) ok))
end
/-- x[::-1], a list or a tuple -/
def tRevQ (K : PySem.W.Frag) (te : TE) : TE := fun σ H Q => te σ H fun x H1 => ∃ (a : Addr) (xs : List V), x = .ref a ∧ ((SqL K H1 a xs ∧ ∀ p, H1 p = none → Q (.ref p) (upd H1 p (.lst xs.reverse))) ∨ (SqT K H1 a xs ∧ ∀ p, H1 p = none → Q (.ref p) (upd H1 p (.tup xs.reverse))))
section
variable {X : Cx}
theorem pe_revQ {e : Expr} {te : TE} {k : Nat} {p1 p2 p3 pos : Pos} (he : PE X e te) : PE X (.Subscript e (.Slice none none (some (.UnaryOp .USub (.Constant (.int 1) k p1) p2)) p3) pos) (tRevQ X.K te) := by
  refine ⟨fun pins s σ H Q I h => ?_⟩
  refine Subscript_ (thn (he.run pins s σ H _ I h) fun v s1 ⟨x, H1, I1, r1, a, xs, ex, q⟩ => ?_)
  subst ex
  cases r1
  have minus : PO X (some (.UnaryOp .USub (.Constant (.int 1) k p1) p2)) (tPart (tUn (rU fun i => .int (-i)) (tC (.int 1)))) := po_some (pe_un un_neg pe_int)
  refine wpAny_Slice (thn (po_none.run pins s1 σ H1 (fun o H2 => o = none ∧ H2 = H1) I1 ⟨rfl, rfl⟩) fun b1 s2 ⟨_, H2, I2, i1, e1, e2⟩ => ?_)
  subst e1 e2
  refine thn (po_none.run pins s2 σ H2 (fun o H3 => o = none ∧ H3 = H2) I2 ⟨rfl, rfl⟩) fun b2 s3 ⟨_, H3, I3, i2, e3, e4⟩ => ?_
  subst e3 e4
  refine thn (minus.run pins s3 σ H3 (fun o H4 => o = some (-1) ∧ H4 = H3) I3 ⟨1, rfl, -1, rfl, rfl, rfl⟩) fun b3 s4 ⟨_, H4, I4, i3, e5, e6⟩ => ?_
  subst e5 e6
  have I5 : Inv X pins σ H4 { s4 with heap := s4.heap.push { cls := .type "slice", data := .fields #[b1, b2, b3] } } := I4.kept (t' := s4.toks) fun b ob z => Heap.get?_push_of_some _ z
  show wpAny (model X.prog X.w) X.A (subscriptTail e (.Slice none none (some (.UnaryOp .USub (.Constant (.int 1) k p1) p2)) p3) (.ref a) (.ref s4.heap.objs.size)) (EP X pins σ Q) X.xe { s4 with heap := s4.heap.push { cls := .type "slice", data := .fields #[b1, b2, b3] } }
  rcases q with ⟨hx, q⟩ | ⟨hx, q⟩
  · obtain ⟨its, r, ht, hz⟩ := I5.list hx
    have hl := r.length
    refine tail_any (ops := [.ref a, .ref s4.heap.objs.size]) ht.isList.typeIs PySem.slot_list_getitem.lookup ?_ (by with_unfolding_all rfl)
    refine wpAny_getItem_list_slice ht.isList (Heap.IsSliceOf.new _ b1 b2 b3) i1 i2 i3 (by decide) ?_ (by rw [List.size_toArray]; omega)
    rw [PySem.W.krv_pick]
    exact ⟨.ref _, _, I5.laid (t' := s4.toks) (o := .lst xs.reverse) (fun b ob z => Heap.get?_push_of_some _ z) (Nat.le_refl _) ⟨by rw [List.length_reverse]; exact hz, _, 0, r.reverse, Heap.get?_push_size _ rfl⟩, rfl, q _ (I5.hok.fresh (Nat.le_refl _))⟩
  · obtain ⟨its, r, ht, hz⟩ := I5.tuple hx
    have hl := r.length
    cases i1
    cases i2
    cases i3
    refine tail_any (ops := [.ref a, .ref s4.heap.objs.size]) ht.typeIs slot_tuple_getitem.lookup ?_ (by with_unfolding_all rfl)
    refine back_tuple ht (Heap.IsSliceOf.new ..) (by rw [List.size_toArray]; omega) ?_
    exact ⟨.ref _, _, I5.laid (t' := s4.toks) (o := .tup xs.reverse) (fun b ob z => Heap.get?_push_of_some _ z) (Nat.le_refl _) ⟨by rw [List.length_reverse]; exact hz, _, r.reverse, IsTup.new _ _⟩, rfl, q _ (I5.hok.fresh (Nat.le_refl _))⟩
end
/-- x[::-1] -/
def dRevQ (te : DE) : DE := fun l M P X => te l M (fun d M1 => match d with
  | .tup xs => P (.tup xs.reverse) M1
  | _ => ∃ xs, lstD M1 d = some xs ∧ P (.lst xs.reverse) M1) X
theorem je_revQ {X : Cx} {W : WX} {e : Expr} {te : DE} {k : Nat} {p1 p2 p3 pos : Pos} (he : JE X W e te) : JE X W (.Subscript e (.Slice none none (some (.UnaryOp .USub (.Constant (.int 1) k p1) p2)) p3) pos) (dRevQ te) :=
  pe_imp (pe_revQ he) fun s H Q ⟨f, l, M, P, Y, m, rl, h, k, kx⟩ => ⟨f, l, M, _, Y, m, rl, h, fun f1 H1 M1 d v x1 m1 r1 h1 => by
    have lst : ∀ xs, lstD M1 d = some xs → P (.lst xs.reverse) M1 → ∃ (a : Addr) (xs : List V), v = .ref a ∧ ((SqL X.K H1 a xs ∧ ∀ p, H1 p = none → Q (.ref p) (upd H1 p (.lst xs.reverse))) ∨ (SqT X.K H1 a xs ∧ ∀ p, H1 p = none → Q (.ref p) (upd H1 p (.tup xs.reverse)))) := fun xs e p => by
      obtain ⟨a, ys, rfl, hq, hr, hz⟩ := rd_lstM (K := X.K) m1 r1 e
      exact ⟨a, ys, rfl, .inl ⟨hq, fun q hn => k f1 _ M1 (.lst xs.reverse) _ (x1.trans (Lt.same (same_new hn))) (m1.same (same_new hn)) (rd_lst m1 hn hr.rev (by rw [List.length_reverse]; exact hz)) p⟩⟩
    cases d with
    | tup xs =>
      obtain ⟨a, ys, rfl, hq, hr, hz⟩ := rd_tupM (K := X.K) r1
      exact ⟨a, ys, rfl, .inr ⟨hq, fun q hn => k f1 _ M1 (.tup xs.reverse) _ (x1.trans (Lt.same (same_new hn))) (m1.same (same_new hn)) (rd_tup m1 hn hr.rev (by rw [List.length_reverse]; exact hz)) h1⟩⟩
    | _ => obtain ⟨xs, e, p⟩ := h1; exact lst xs e p, kx⟩
theorem s_revT {l : Loc} {M : Mem} {P : PD} {X : PX} {i : Nat} {xs : List Dv} (h : l[i]? = some (some (.tup xs))) (q : P (.tup xs.reverse) M) : dRevQ (dVar i) l M P X := ⟨_, h, q⟩
end D
end

section
set_option Elab.async false
set_option linter.all false
set_option maxRecDepth 100000
set_option maxHeartbeats 1000000
set_option autoImplicit false
/-! The deep layer, part 23: a lambda without parameters, handed from def to def; what it tells. -/
namespace D
open PySem PySem.Spec PyProof.Rows L2
variable [TBL]
section
variable {n : Nat} {f : Fr} {H H1 : Hp} {M : Mem}
/-- all but the tables stays, the tables are kept well -/
theorem rm_tabs (m : RM f H M) (k : ∀ b o, H b = some o → (∀ ps, o ≠ .tbl ps) → H1 b = some o) (d : ∀ b, H1 b = none → H b = none) (t : LamX.Tabs TBL.T H1) : RM f H1 M ∧ Lt M.length f H M.length f H1 := by
  have L : Lt M.length f H M.length f H1 := ⟨Nat.le_refl _, fun _ _ => rfl, fun a o e _ z => k a o e z, fun i h1 h2 => absurd h1 (Nat.not_le.mpr h2), d, rfl⟩
  refine ⟨⟨fun i o e => ?_, m.inj, fun a z => ⟨fun e => (m.hi a z).1 (d a e), (m.hi a z).2⟩, t⟩, L⟩
  have h := m.ob i o e
  obtain ⟨u, q, mu⟩ := h.some
  exact h.mono L ((k _ _ q fun ps w => by rw [w] at mu; exact mu).trans q.symm)
end
abbrev lamO (qual : Str) (params : Arguments) (body : Expr) (scope : Scope) (cl : List (Str × Addr)) (pm : Value) (c' : Addr) (ctv : Value) : Obj := PySem.W.kla_obj "<lambda>" (qual ++ "<lambda>") params body scope cl pm c' ctv
section
variable {X : Cx} {pins : List (Addr × Obj)} {σ : L2.St} {H : Hp} {s : Shared}
theorem known_new {h' : Heap} {tk : Nat} {o : Obj} (I : Inv X pins σ H { s with heap := h', toks := tk }) (hf : o.isFreed = false) : Inv X pins σ (upd H h'.objs.size (.frz o (.ext fun _ => True))) { s with heap := h'.push o, toks := tk } :=
  I.laid (s := { s with heap := h', toks := tk }) (fun b u e => Heap.get?_push_of_some _ e) (Nat.le_refl _) ⟨Heap.get?_push_size _ hf, trivial, ⟨_, Heap.get?_push_size _ hf⟩, fun _ _ _ _ => trivial⟩
theorem lam_made {c P : Addr} {params : Arguments} {body : Expr} {scope : Scope} {pos : Pos} {E : Value → Shared → Prop} {Q : Value → Shared → Prop} {f0 : Fr} {M : Mem} (I : Inv X pins σ H s) (m : RM f0 H M) (TB : LamX.TabB X.base X.mg c P) (hcode : X.env.code = .ref c)
    (hm : (P, X.env.qual ++ "<lambda>") ∈ TBL.T) (hu : ∀ p ∈ TBL.T, p.1 = P → p.2 = X.env.qual ++ "<lambda>") (hdef : defaultsOf params X.env = ([], [])) (hfree : ∀ y ∈ scope.names, y.2 = .free → ∃ c, X.env.cells.lookup y.1 = some c)
    (h : ∀ (fl c' : Addr) (pm ctv : Value) (H1 : Hp) (s' : Shared), Inv X pins σ H1 s' → RM f0 H1 M → Lt M.length f0 H M.length f0 H1 → H1 fl = some (.frz (lamO X.env.qual params body scope (cloFrom X.env.cells scope.names []) pm c' ctv) (.ext fun _ => True)) →
      H1 c' = some (LamX.CodeO c' (X.env.qual ++ "<lambda>")) → (∀ i, i < M.length → f0 i ≠ fl) → (∀ i, i < M.length → f0 i ≠ c') → Q (.ref fl) s') :
    wpAny (model X.prog X.w) X.A (eval (.Lambda params body scope pos) X.env) Q E s := by
  obtain ⟨ps, hP, ht, ha⟩ := m.ta _ hm
  refine PySem.W.kla_eval hdef ?_
  have bP : s.heap.BuiltinsAt X.mg P := TB.bm.keeps I.bk
  have hP' : s.heap.get? P = some { cls := .none, data := .fields ps } := I.hok P _ hP
  have fin : ∀ {H1 : Hp} {h' : Heap} {tk : Nat} {o : Obj}, Inv X pins σ H1 { s with heap := h', toks := tk } → RM f0 H1 M → Lt M.length f0 H M.length f0 H1 →
      RM f0 (upd H1 h'.objs.size (.frz o (.ext fun _ => True))) M ∧ Lt M.length f0 H M.length f0 (upd H1 h'.objs.size (.frz o (.ext fun _ => True))) ∧ H1 h'.objs.size = none := fun {H1 h' tk o} J m1 L => by
    have q : H1 h'.objs.size = none := J.hok.fresh (Nat.le_refl _)
    exact ⟨m1.same (same_new q), L.trans (Lt.same (same_new q)), q⟩
  cases hc : codeAmong pos ps.toList with
  | none =>
    refine PySem.W.kla_makeFunction (mg := X.mg) (c := c) (P := P) (ps := ps) (closure_ok hfree) I.ok.glob (I.mod.glob.keeps I.bk) hcode (TB.code.keeps I.bk) hP' ht hc TB.gP bP fun c' ctv h' tk hx hge hlt hrec htb => ?_
    obtain ⟨c2, oc, vs, t, e2, hoc, hd, hv⟩ := hrec
    cases e2
    have nC : H c' = none := I.hok.fresh hge
    have I1 := LamX.inv_table (t' := tk) (more := #[rawInt pos.line, rawInt pos.col, .ref c']) (h' := h') I hP (fun b o hb e => hx b o hb e) htb hge ⟨oc, vs, t, hoc, hd, hv⟩
    have nPc : P ≠ c' := ne_of_none hP nC
    have keep : ∀ b o, H b = some o → (∀ ps, o ≠ .tbl ps) → (upd (upd H P (.tbl (ps ++ #[rawInt pos.line, rawInt pos.col, .ref c']))) c' (LamX.CodeO c' (X.env.qual ++ "<lambda>"))) b = some o := fun b o e n => by
      rw [upd_ne (ne_of_none e nC), upd_ne (fun z => n ps (Option.some.inj (e.symm.trans (by rw [z]; exact hP))))]
      exact e
    have dn : ∀ b, (upd (upd H P (.tbl (ps ++ #[rawInt pos.line, rawInt pos.col, .ref c']))) c' (LamX.CodeO c' (X.env.qual ++ "<lambda>"))) b = none → H b = none := fun b e => by
      by_cases h1 : b = c'
      · rw [h1]; exact nC
      · rw [upd_ne h1] at e
        by_cases h2 : b = P
        · rw [h2, upd_same] at e; cases e
        · rw [upd_ne h2] at e; exact e
    have eL : (ps ++ #[rawInt pos.line, rawInt pos.col, .ref c']).toList = ps.toList ++ [rawInt pos.line, rawInt pos.col, .ref c'] := by simp
    have T1 : LamX.Tabs TBL.T (upd (upd H P (.tbl (ps ++ #[rawInt pos.line, rawInt pos.col, .ref c']))) c' (LamX.CodeO c' (X.env.qual ++ "<lambda>"))) := fun p hp => by
      by_cases hb : p.1 = P
      · rw [hu p hp hb, hb]
        refine ⟨_, by rw [upd_ne nPc, upd_same], by rw [eL]; exact PySem.TriplesOk_snoc _ _ _ _ ht, fun p' cv hcv => ?_⟩
        rw [eL] at hcv
        rcases LamX.among_app _ ht hcv with z | z
        · obtain ⟨c0, e1, e2⟩ := ha p' cv z
          exact ⟨c0, e1, keep _ _ e2 LamX.codeO_ne⟩
        · exact ⟨c', z, upd_same⟩
      · obtain ⟨ps', a1, a2, a3⟩ := m.ta p hp
        refine ⟨ps', by rw [upd_ne (ne_of_none a1 nC), upd_ne hb]; exact a1, a2, fun p' cv hcv => ?_⟩
        obtain ⟨c0, e1, e2⟩ := a3 p' cv hcv
        exact ⟨c0, e1, keep _ _ e2 LamX.codeO_ne⟩
    obtain ⟨m1, L1⟩ := rm_tabs m keep dn T1
    obtain ⟨m2, L2, q⟩ := fin (o := lamO X.env.qual params body scope (cloFrom X.env.cells scope.names []) ((X.mg "__name__").getD .none) c' ctv) I1 m1 L1
    have ne : c' ≠ h'.objs.size := fun z => by rw [← z, upd_same] at q; cases q
    exact h _ c' _ ctv _ _ (known_new I1 rfl) m2 L2 upd_same (by rw [upd_ne ne, upd_same]) (m1.ne0 q) fun i hi z => by
      have := m.ne0 nC i hi
      exact this z
  | some cv =>
    obtain ⟨c', e, hco⟩ := ha pos cv hc
    subst e
    refine PySem.W.kla_makeFunctionHit (mg := X.mg) (c := c) (P := P) (ps := ps) (closure_ok hfree) I.ok.glob (I.mod.glob.keeps I.bk) hcode (TB.code.keeps I.bk) hP' ht hc bP fun ctv h' tk hx hsz => ?_
    have I1 : Inv X pins σ H { s with heap := h', toks := tk } := I.kept hx
    obtain ⟨m2, L2, q⟩ := fin (o := lamO X.env.qual params body scope (cloFrom X.env.cells scope.names []) ((X.mg "__name__").getD .none) c' ctv) I1 m Lt.refl
    have ne : c' ≠ h'.objs.size := fun z => by rw [← z, hco] at q; cases q
    refine h _ c' _ ctv _ _ (known_new I1 rfl) m2 L2 upd_same (by rw [upd_ne ne]; exact hco) (m.ne0 q) fun i hi z => ?_
    obtain ⟨u, e1, mu⟩ := m.some hi
    have hr := m.ob i _ (List.getElem?_eq_getElem hi)
    rw [z] at hr
    generalize M[i] = o at hr
    cases o with
    | lst l => obtain ⟨_, xs, e, _⟩ := hr; rw [hco] at e; cases e
    | ins C ks l => obtain ⟨dx, fs, e, _⟩ := hr; rw [hco] at e; cases e
end
end D
end

section
set_option Elab.async false
set_option linter.all false
set_option maxRecDepth 100000
set_option maxHeartbeats 1000000
set_option autoImplicit false
/-! The deep layer, part 24: _law_heard and _law_tells of a lambda that raises nothing. -/
namespace D
open PySem PySem.Spec PyProof.Rows L2
variable [TBL]
abbrev NoE : XK := fun _ _ _ => False
abbrev ThT := Hp → VK → Prop
theorem un_thru {fs fs' : List Addr} {H H1 H2 : Hp} {h h1 h2 : Heap} (a : Un fs [] H H1 h h1) (b : Un fs' [] H1 H2 h1 h2) (n : ∀ c ∈ fs', c ∉ fs → h.get? c = none) : Un fs [] H H2 h h2 where
  keep := fun c ob q e hc hx => b.keep c ob (a.keep c ob q e hc hx) (a.free c ob q e hx) (fun z => by rw [n c z hc] at q; cases q) hx
  slot := fun c ob q e hc hx => by
    obtain ⟨sl, e1⟩ := a.slot c ob q e hc hx
    obtain ⟨sl', e2⟩ := b.any e1 (a.free c ob q e hx) hx
    exact ⟨sl', e2⟩
  free := fun c ob q e hx => by
    obtain ⟨o', e1⟩ := a.there c ob q hx
    exact b.free c o' e1 (a.free c ob q e hx) hx
  there := fun c ob q hx => by
    obtain ⟨o', e1⟩ := a.there c ob q hx
    exact b.there c o' e1 hx
  tups := fun c xs q => b.tups c xs (a.tups c xs q)
  frzs := fun c o u q => b.frzs c o u (a.frzs c o u q)
  tbls := fun c ps q => by
    obtain ⟨m1, e1⟩ := a.tbls c ps q
    obtain ⟨m2, e2⟩ := b.tbls c _ e1
    exact ⟨m1 ++ m2, by rw [e2, Array.append_assoc]⟩
/-- at fl stands a function without parameters; called where th holds it tells something -/
structure Thk (P : Program) (w : World) (K : PySem.W.Frag) (mg : Str → Option Value) (base : Heap) (k : Nat) (outer : List Env) (s : Shared) (H : Hp) (fl : Addr) (th : ThT) : Prop where
  ob : ∃ (oc : Value) (od : Option Addr) (fd : FuncData) (sl : Array (Option Value)) (u : HO), H fl = some (.frz ⟨oc, od, .func fd, sl⟩ u)
  call : ∀ (A' : Around) (outer' : List Env) (s' : Shared) (H' : Hp) (Q : VK), Room k A' → A'.guards = some [] → Env0 P w K mg base A' outer' s' H' → Un (frs outer) [] H H' s.heap s'.heap → th H' Q →
    codeAny (model P w) A' (.call (.ref fl) ⟨[], []⟩) (CR (L2.CX P w) outer' P w H' s' Q NoE) s'
section
variable {P : Program} {w : World} {K : PySem.W.Frag} {mg : Str → Option Value} {base : Heap} {k : Nat} {outer outer1 : List Env} {s s1 : Shared} {H H1 : Hp} {fl : Addr} {th : ThT}
theorem Thk.later (T : Thk P w K mg base k outer s H fl th) (un : Un (frs outer) [] H H1 s.heap s1.heap) (n : ∀ b ∈ frs outer1, b ∉ frs outer → s.heap.get? b = none) : Thk P w K mg base k outer1 s1 H1 fl th :=
  ⟨let ⟨oc, od, fd, sl, u, e⟩ := T.ob; ⟨oc, od, fd, sl, u, un.frzs _ _ _ e⟩, fun A' outer' s' H' Q hr hgu e0 un1 ht => T.call A' outer' s' H' Q hr hgu e0 (un_thru un un1 n) ht⟩
theorem Thk.mono {j : Nat} (T : Thk P w K mg base j outer s H fl th) (h : j ≤ k) : Thk P w K mg base k outer s H fl th := ⟨T.ob, fun A' outer' s' H' Q hr => T.call A' outer' s' H' Q (hr.mono h)⟩
end
theorem noE_cx {P : Program} {w : World} {outer : List Env} {H : Hp} {s s' : Shared} {e : Value} (h : L2.CX P w outer H s NoE e s') : False := by
  obtain ⟨_, _, _, _, _, _, _, _, _, _, _, _, z⟩ := h
  exact z
section
variable {X : Cx} {k i : Nat} {fl : Addr} {th : ThT} {a : Str} {p1 p2 : Pos}
/-- x() -/
theorem pe_thk (T : Thk X.prog X.w X.K X.mg X.base k X.outer X.s_0 X.H_0 fl th) (hex : X.ex = []) (hr : Room k X.A) (hgu : X.A.guards = some []) (hN : X.N[i]? = some a) (hv : Vis X.env.scope a) (hd : (a == ("__debug__" : Str)) = false := by decide) (hcd : (a == ("__classdict__" : Str)) = false := by decide) :
    PE X (.Call (.Name a p1) [] [] p2) (fun σ H Q => σ[i]? = some (some (.ref fl)) ∧ th H Q) := by
  refine ⟨fun pins s σ H Q I ⟨hs, ht⟩ => ?_⟩
  refine wpAny_Call_Name_kw (thn ((pe_var (pos := p1) (i := i) hN hv hd hcd).run pins s σ H (fun v H1 => v = .ref fl ∧ H1 = H) I ⟨.ref fl, hs, rfl, rfl⟩) fun u s1 ⟨v, H1, I1, r1, q1⟩ => ?_)
  obtain ⟨ev, eH⟩ := q1
  subst ev
  subst eH
  obtain rfl : u = Value.ref fl := r1
  obtain ⟨oc, od, fd, sl, u, ho⟩ := T.ob
  have of1 := (I1.hok fl _ (I1.base.frzs fl _ _ ho)).1
  refine PySem.W.callWith_F0 ⟨_, _, _, _, of1⟩ ?_
  have un : Un (frs X.outer) [] X.H_0 H1 X.s_0.heap s1.heap := by
    have := I1.base
    rw [hex] at this
    exact this
  refine wpAny_call (codeAny_mono (T.call X.A X.stack s1 H1 Q hr hgu I1.env0 un ht) fun r s' hq => ?_)
  cases r with
  | error e => exact (noE_cx hq).elim
  | ok fl' =>
    cases fl' with
    | ret u => exact I1.after hq
    | next => exact False.elim hq
    | brk => exact False.elim hq
    | cont => exact False.elim hq
end
section
variable {P : Program} {w : World} {K : PySem.W.Frag} {mg : Str → Option Value} {base : Heap}
/-- the def x tells ("told", what the function that it gets tells) -/
structure Heard (P : Program) (w : World) (K : PySem.W.Frag) (mg : Str → Option Value) (base : Heap) (x : Str) (st : Stmt) (a : Str) : Prop where
  ex : ∃ f fd, mg x = some (.ref f) ∧ FnP K x st f fd ∧ ∀ (k : Nat) (A : Around) (outer : List Env) (s : Shared) (H : Hp) (args : Args) (fl : Addr) (th : ThT) (Q : VK), Room (k + 1) A → A.guards = some [] → Env0 P w K mg base A outer s H → BindsTo s fd args [(a, .ref fl)] →
    Thk P w K mg base k outer s H fl th → th H (fun v H1 => ∀ p, H1 p = none → Q (.ref p) (upd H1 p (.tup [.str "told", v]))) → codeAny (model P w) A (.call (.ref f) args) (CR (L2.CX P w) outer P w H s Q NoE) s
theorem heard_of {x a : Str} {st : Stmt} {f : Addr} {fd : FuncData} {N : List Str} {j : Nat} {x1 : Nat} {h₀ : ExceptHandler} {hs : List ExceptHandler} {p0 p1 p2 p3 p4 p5 : Pos} (F : FnP K x st f fd) (hm : mg x = some (.ref f)) (Sc : FnScope N [a] (defScope st)) (hN : N[0]? = some a) (hv : Vis (defScope st) a)
    (hb : defBody st = [.Try [.Return (some (.Tuple [.Constant (.str "told") j p0, .Call (.Name a p1) [] [] p2] x1 p3)) p4] (h₀ :: hs) [] [] p5]) (h0 : ∀ fl : Addr, (L2.start N [V.ref fl])[0]? = some (some (V.ref fl)))
    (hd : (a == ("__debug__" : Str)) = false := by decide) (hcd : (a == ("__classdict__" : Str)) = false := by decide) : Heard P w K mg base x st a := by
  refine ⟨f, fd, hm, F, fun k A outer s H args fl th Q hr hgu e0 hbi T ht => ?_⟩
  obtain ⟨oc, od, kV, doc, pm, an, cdv, ct, osl, rfl, lk, hcd2⟩ := (He5.fun_of F).ex
  refine LamX.run_ofS (CX := L2.CX P w) (N := N) (ps := [a]) (us := [.ref fl]) (vs := [.ref fl]) lk hcd2 Sc hr e0 hbi (.cons rfl .nil) rfl fun hr' => ?_
  rw [hb]
  refine ⟨_, pss_one (ps_try_thru0 (pss_one (ps_ret (pe_tup (pa_cons pe_str (pa_cons (pe_thk (k := k) (i := 0) (fl := fl) (th := th) T rfl hr' hgu hN hv hd hcd) pa_nil)))))), ?_⟩
  show (L2.start N [V.ref fl])[0]? = some (some (.ref fl)) ∧ th H (fun v H1 => (2 : Nat) ≤ sizeLine ∧ ∀ p, H1 p = none → Q (.ref p) (upd H1 p (.tup [.str "told", v])))
  exact ⟨h0 fl, by
    have e : (fun v H1 => (2 : Nat) ≤ sizeLine ∧ ∀ p, H1 p = none → Q (.ref p) (upd H1 p (.tup [.str "told", v]))) = fun v H1 => ∀ p, H1 p = none → Q (.ref p) (upd H1 p (.tup [.str "told", v])) :=
      funext fun v => funext fun H1 => propext ⟨fun z => z.2, fun z => ⟨by decide, z⟩⟩
    rw [e]
    exact ht⟩
end
end D
end

section
set_option Elab.async false
set_option linter.all false
set_option maxRecDepth 100000
set_option maxHeartbeats 1000000
set_option autoImplicit false
/-! The deep layer, part 25: _law_tells(lambda: e, due). -/
namespace D
open PySem PySem.Spec PyProof.Rows L2
variable [TBL]
abbrev toldD (d : Dv) : Dv := .tup [.str "told", d]
/-- the def x asks whether ("told", what the function that it gets tells) is as its second argument -/
structure Tells (P : Program) (w : World) (K : PySem.W.Frag) (mg : Str → Option Value) (base : Heap) (k : Nat) (x : Str) (st : Stmt) (a b : Str) (S : DSp) : Prop where
  ex : ∃ f fd, mg x = some (.ref f) ∧ FnP K x st f fd ∧ ∀ (A : Around) (outer : List Env) (s : Shared) (H : Hp) (args : Args) (fl : Addr) (th : ThT) (u2 : Value) (v2 : V) (Q : VK) (E : XK) (f0 : Fr) (M : Mem) (due : Dv) (Pd : PD) (Y : PX), Room (k + 2) A → A.guards = some [] → Env0 P w K mg base A outer s H →
    BindsTo s fd args [(a, .ref fl), (b, u2)] → RelV v2 u2 → Thk P w K mg base k outer s H fl th → RM f0 H M → RD M.length f0 H due v2 →
    (∀ Q', KE M.length f0 H (fun d M1 => S [toldD d, toldD due] M1 Pd Y) Q' → th H Q') → KE M.length f0 H Pd Q → KX (fun c d _ H => E c d H) [] M.length f0 H Y →
    codeAny (model P w) A (.call (.ref f) args) (CR (L2.CX P w) outer P w H s Q E) s
theorem frs_new {env : Env} {outer : List Env} {h : Heap} (he : env.frame = some h.objs.size) : ∀ b ∈ frs (env :: outer), b ∉ frs outer → h.get? b = none := fun b hb hn => by
  unfold frs at hb hn
  rw [List.filterMap_cons, he] at hb
  rcases List.mem_cons.mp hb with rfl | z
  · cases q : h.get? h.objs.size with
    | none => rfl
    | some o => exact absurd (Heap.lt_size q) (Nat.lt_irrefl _)
  · exact absurd z hn
section
variable {P : Program} {w : World} {K : PySem.W.Frag} {mg : Str → Option Value} {base : Heap} {k : Nat}
theorem tells_of {x xh xs a b ah : Str} {st sth sts : Stmt} {S : DSp} {f : Addr} {fd : FuncData} {pss : List Str} {j x1 : Nat} {q0 q1 q2 q3 q4 ps1 ph pa pc : Pos} (F : FnP K x st f fd) (hm : mg x = some (.ref f)) (Sc : FnScope [a, b] [a, b] (defScope st)) (hva : Vis (defScope st) a) (hvb : Vis (defScope st) b)
    (hg1 : (defScope st).names.lookup xh = some .globalImplicit) (hg2 : (defScope st).names.lookup xs = some .globalImplicit) (Hd : Heard P w K mg base xh sth ah) (bdh : Bd xh sth [ah]) (Fs : Fx P w K mg base (k + 1) xs sts pss S) (bds : Bd xs sts pss)
    (hb : defBody st = [.Return (some (.Call (.Name xs ps1) [.Call (.Name xh ph) [.Name a pa] [] pc, .Tuple [.Constant (.str "told") j q0, .Name b q1] x1 q2] [] q3)) q4])
    (da : (a == ("__debug__" : Str)) = false := by decide) (ca : (a == ("__classdict__" : Str)) = false := by decide) (db : (b == ("__debug__" : Str)) = false := by decide) (cb : (b == ("__classdict__" : Str)) = false := by decide)
    (dh : (xh == ("__debug__" : Str)) = false := by decide) (dsx : (xs == ("__debug__" : Str)) = false := by decide) : Tells P w K mg base k x st a b S := by
  refine ⟨f, fd, hm, F, fun A outer s H args fl th u2 v2 Q E f0 M due Pd Y hr hgu e0 hbi rv T m rd hth ke kx => ?_⟩
  obtain ⟨oc, od, kV, doc, pm, an, cdv, ct, osl, rfl, lk, hcd2⟩ := (He5.fun_of F).ex
  refine LamX.run_ofS (CX := L2.CX P w) (N := [a, b]) (ps := [a, b]) (us := [.ref fl, u2]) (vs := [.ref fl, v2]) lk hcd2 Sc hr e0 hbi (.cons rfl (.cons rv .nil)) rfl fun hr' => ?_
  rw [hb]
  obtain ⟨fh, fdh, hmh, Fh, runh⟩ := Hd.ex
  obtain ⟨fs, fds, Gs, hms, FsP⟩ := Fs.ex
  -- the context of the body
  let Z : Cx := cxOf (L2.CX P w) P w K mg base [a, b] x (defScope st) f cdv A outer s H E
  have tkZ : Takes Z (fun cls d _ H => E cls d H) := takes_of rfl rfl rfl rfl
  have hN0 : Z.N[0]? = some a := rfl
  have hN1 : Z.N[1]? = some b := rfl
  -- the first argument
  have h1 : PE Z (.Call (.Name xh ph) [.Name a pa] [] pc) (fun σ H' Q' => σ[0]? = some (some (.ref fl)) ∧ H' = H ∧ th H (fun v H1 => ∀ p, H1 p = none → Q' (.ref p) (upd H1 p (.tup [.str "told", v])))) := by
    refine ⟨fun pins s1 σ H' Q' I ⟨hs, eH, ht⟩ => ?_⟩
    subst eH
    refine wpAny_Call_Name_kw (ld_glob I (show Gl Z xh from hg1) hmh ?_ dh)
    refine PySem.W.callWith_K (h₀ := Z.base) I.ok.mod.kin Fh.kp (thn ((pa_cons (pe_var (pos := pa) (i := 0) hN0 hva da ca) pa_nil).run pc pins s1 σ H' (fun vs H1 => vs = [.ref fl] ∧ H1 = H') I ⟨.ref fl, hs, rfl, rfl⟩) fun us s2 ⟨vs, H1, I1, r, q⟩ => ⟨I1.kIn, ?_⟩) (by rfl) (by rfl)
    obtain ⟨e1, e2⟩ := q
    subst e1
    subst e2
    obtain ⟨u, r2, hus, hu, hr2⟩ : ∃ u r2, us = u :: r2 ∧ RelV (.ref fl) u ∧ Vals [] r2 := by
      cases r with
      | cons h t => exact ⟨_, _, rfl, h, t⟩
    cases hr2
    obtain rfl : u = Value.ref fl := hu
    subst hus
    have bT := (Fh.bindsN bdh) s2 [.ref fl] I1.kIn rfl
    have bT' : BindsTo s2 fdh ⟨[.ref fl], []⟩ [(ah, .ref fl)] := bT
    have un : Un (frs outer) [] H1 H1 s.heap s2.heap := I1.base
    refine wpAny_call (codeAny_mono (runh k Z.A Z.stack s2 H1 ⟨[.ref fl], []⟩ fl th Q' hr' hgu I1.env0 bT' (T.later un (frs_new rfl)) ht) fun r s' hq => ?_)
    cases r with
    | error e => exact (noE_cx hq).elim
    | ok fl' =>
      cases fl' with
      | ret u => exact I1.after hq
      | next => exact False.elim hq
      | brk => exact False.elim hq
      | cont => exact False.elim hq
  -- the second one
  have h2 : JA Z (fun cls d _ H => E cls d H) [.Tuple [.Constant (.str "told") j q0, .Name b q1] x1 q2] (dCons (dTup (dCons (dC (.str "told")) (dCons (dVar 1) dNil))) dNil) :=
    ja_cons (je_tup (ja_cons je_str (ja_cons (je_var hN1 hvb db cb) ja_nil))) ja_nil
  have h12 := pa_cons h1 h2
  have hm' : PE Z (.Call (.Name xs ps1) [.Call (.Name xh ph) [.Name a pa] [] pc, .Tuple [.Constant (.str "told") j q0, .Name b q1] x1 q2] [] q3) (fun σ H' Q' => σ = L2.start [a, b] [.ref fl, v2] ∧ H' = H ∧ KE M.length f0 H Pd Q') := by
    refine ⟨fun pins s1 σ H' Q' I ⟨hs, eH, k'⟩ => ?_⟩
    subst eH
    refine wpAny_Call_Name_kw (ld_glob I (show Gl Z xs from hg2) hms ?_ dsx)
    refine PySem.W.callWith_K (h₀ := Z.base) I.ok.mod.kin FsP.kp (thn (h12.run q3 pins s1 σ H' (fun vs H1 => spOf S vs H1 Q' (WE (fun cls d _ H => E cls d H) σ)) I ?_) fun us s2 ⟨vs, H1, I1, r, q⟩ => ⟨I1.kIn, ?_⟩) (by rfl) (by rfl)
    · subst hs
      refine ⟨rfl, rfl, hth _ fun f1 H1 M1 d v L1 m1 r1 hS p hp => ?_⟩
      have m2 := m1.same (same_new (o := .tup [.str "told", v]) hp)
      have L2' : Lt M.length f0 H' M1.length f1 (upd H1 p (.tup [.str "told", v])) := L1.trans (Lt.same (same_new hp))
      have rt : RD M1.length f1 (upd H1 p (.tup [.str "told", v])) (toldD d) (.ref p) := rd_tup m1 hp (.cons rfl (.cons r1 .nil)) (by show 2 ≤ sizeLine; decide)
      have rl : RL M1.length f1 (upd H1 p (.tup [.str "told", v])) [some (.adr fl), some due] (L2.start [a, b] [.ref fl, v2]) := by
        have := rl_start (N := [a, b]) (n := M1.length) (f := f1) (H := upd H1 p (.tup [.str "told", v])) (ds := [.adr fl, due]) (vs := [.ref fl, v2]) (.cons rfl (.cons (rd.mono L2') .nil))
        exact this
      refine ⟨f1, _, M1, fun ds M2 => ds = [toldD due] ∧ S [toldD d, toldD due] M2 Pd Y, noX, m2, rl, ⟨due, rfl, by show 2 ≤ sizeLine; decide, rfl, hS⟩, fun f2 H2 M2 ds vs L3 m3 r3 h3 => ?_, fun _ _ _ _ _ _ _ _ _ z => z.elim⟩
      obtain ⟨e1, hS2⟩ := h3
      subst e1
      exact ⟨f2, M2, [toldD d, toldD due], Pd, Y, m3, .cons (rt.mono L3) r3, hS2, k'.mono (L2'.trans L3), fun f' H3 M' C d' a' L4 m4 r4 h4 => kx f' H3 M' C d' a' ((L2'.trans L3).trans L4) m4 r4 h4⟩
    · have hl : us.length = pss.length := by
        obtain ⟨f2, M2, ds, P2, Y2, _, r2, hh2, _, _⟩ := q
        rw [← r.length, r2.length]; exact Gs.len _ _ _ _ hh2
      have bb := (FsP.bindsN bds) s2 us I1.kIn (by rw [List.append_nil]; exact hl)
      rw [List.append_nil] at bb
      refine wpAny_call (codeAny_mono (run_g Gs hr' hgu (E := WE (fun cls d _ H => E cls d H)) (passAt tkZ σ) I1 bb r q) fun res s' hq => ?_)
      cases res with
      | error e => exact hq
      | ok fl => cases fl <;> exact hq
  exact ⟨_, pss_one (ps_ret hm'), rfl, rfl, ke⟩
end
end D
end

section
set_option Elab.async false
set_option linter.all false
set_option maxRecDepth 100000
set_option maxHeartbeats 1000000
set_option autoImplicit false
/-! The deep layer, part 26: x(lambda: e, due) where x is _law_tells. -/
namespace D
open PySem PySem.Spec PyProof.Rows L2
variable [TBL]
/-- what is made of the lambda and of what is due -/
def dTells (S : DSp) (tb te : DE) : DE := fun l M P Y => te l M (fun due M1 => tb l M1 (fun d M2 => S [toldD d, toldD due] M2 P Y) noX) Y
section
variable {X : Cx} {pins : List (Addr × Obj)} {σ : L2.St} {H : Hp} {s : Shared} {k : Nat}
theorem thk_lam {scope : Scope} {params : Arguments} {body : Expr} {fl c' : Addr} {pm ctv : Value} {tb : DE} (I : Inv X pins σ H s) (L : LamX.LamS X.env.scope scope)
    (hfl : H fl = some (.frz (lamO X.env.qual params body scope (cloFrom X.env.cells scope.names []) pm c' ctv) (.ext fun _ => True)))
    (hbind : ∀ (q : Str) (cl : List (Str × Addr)) (pm cv ctv : Value), bindArgs (PySem.W.kla_fn "<lambda>" q params body scope cl pm cv ctv) ⟨[], []⟩ = pure [])
    (hbody : ∀ (A : Around) (outer : List Env) (s : Shared) (H : Hp) (f c' : Addr), Room k (A.deeper (LamX.lamEnv X scope s.heap.objs.size f c')) → (A.deeper (LamX.lamEnv X scope s.heap.objs.size f c')).guards = some [] → JE (LamX.lamCx X A outer s H NoE scope f c') W0 body tb) :
    Thk X.prog X.w X.K X.mg X.base (k + 1) X.stack s H fl (fun H' Q => H' c' = some (LamX.CodeO c' (X.env.qual ++ "<lambda>")) ∧ lE W0 tb σ H' Q) := by
  refine ⟨⟨_, _, _, _, _, hfl⟩, fun A' outer' s' H' Q hr hgu e0 un ⟨hc, ht⟩ => ?_⟩
  have of1 := (e0.hok fl _ (un.frzs fl _ _ hfl)).1
  obtain ⟨⟨oc, vs, t, hoc, hdc, hvc⟩, _, _⟩ := e0.hok c' _ hc
  have lim : s'.heap.NoLimit := e0.mod.nolimit.keeps fun b o e => (e0.bs b o e).1
  refine PySem.W.kla_callFunE hr.depth of1 rfl L.co L.gen rfl ⟨c', oc, vs, t, rfl, hoc, hdc, hvc⟩ ?_
  rw [hbind]
  refine wpAny_pure (wpAny_newFunctionEnv (fun y hy => (L.own y hy).2) (fun y hy => absurd hy (by simp)) (fun h₁ hns hsb => ⟨lim.fresh _ hsb, ?_⟩) L.kind)
  show codeAny _ _ (.expr body (LamX.lamEnv X scope s'.heap.objs.size fl c')) _ _
  have kp : ∀ b o, s'.heap.get? b = some o → h₁.get? b = some o := fun b o e => hsb.extBut b o (Nat.ne_of_lt (Heap.lt_size e)) (Heap.get?_push_of_some _ e)
  have J : Inv (LamX.lamCx X A' outer' s' H' NoE scope fl c') [] σ H' { s' with heap := h₁, toks := s'.toks + ([] : List (Str × Value)).length } := LamX.lam_start2 I L e0 hr.hd un hns kp
  refine PySem.W.kla_codeExpr (wpAny_mono ((hbody A' outer' s' H' fl c' (hr.deeper _) hgu).run [] _ _ H' Q J ht) (fun v s'' hq => ?_) fun e s'' hq => hq)
  obtain ⟨w', H'', J', rv, q⟩ := hq
  exact ⟨w', H'', J'.os, J'.bare, J'.base, J'.hok, rv, q⟩
end
section
variable {X : Cx} {W : WX} {k : Nat}
theorem je_tells {x a b : Str} {st : Stmt} {S : DSp} {params : Arguments} {body e : Expr} {scope : Scope} {lpos p pos : Pos} {c P : Addr} {tb te : DE} (T : Tells X.prog X.w X.K X.mg X.base (k + 1) x st a b S) (hr : Room (k + 3) X.A) (hgu : X.A.guards = some []) (tk : Takes X W) (bd : Bd x st [a, b]) (hg : Gl X x)
    (TB : LamX.TabB X.base X.mg c P) (hcode : X.env.code = .ref c) (hm : (P, X.env.qual ++ "<lambda>") ∈ TBL.T) (hu : ∀ p ∈ TBL.T, p.1 = P → p.2 = X.env.qual ++ "<lambda>") (L : LamX.LamS X.env.scope scope)
    (hbody : ∀ (A : Around) (outer : List Env) (s : Shared) (H : Hp) (f c' : Addr), Room k (A.deeper (LamX.lamEnv X scope s.heap.objs.size f c')) → (A.deeper (LamX.lamEnv X scope s.heap.objs.size f c')).guards = some [] → JE (LamX.lamCx X A outer s H NoE scope f c') W0 body tb)
    (he : JE X W e te) (hdef : defaultsOf params X.env = ([], []) := by rfl)
    (hbind : ∀ (q : Str) (cl : List (Str × Addr)) (pm cv ctv : Value), bindArgs (PySem.W.kla_fn "<lambda>" q params body scope cl pm cv ctv) ⟨[], []⟩ = pure [] := by intros; rfl) (hdb : (x == ("__debug__" : Str)) = false := by decide)
    (hse : starEach [e] X.env = (false, eval e X.env) :: starEach [] X.env := by rfl)
    (hs2 : starEach [.Lambda params body scope lpos, e] X.env = (false, eval (.Lambda params body scope lpos) X.env) :: starEach [e] X.env := by rfl) (hpl : (backTo pos (starEach [e] X.env)).any (·.1) = false := by rfl) :
    JE X W (.Call (.Name x p) [.Lambda params body scope lpos, e] [] pos) (dTells S tb te) := by
  obtain ⟨g, fd, hmg, Fg, run⟩ := T.ex
  refine ⟨fun pins s σ H Q I ⟨f0, l, M, Pd, Y, m, rl, h, ke, kx⟩ => ?_⟩
  refine wpAny_Call_Name_kw (ld_glob I hg hmg ?_ hdb)
  refine PySem.W.callWith_K (h₀ := X.base) I.ok.mod.kin Fg.kp ?_ hs2 hpl
  refine Calls.spliced_cons (lam_made I m TB hcode hm hu hdef (L.has I.ok) fun fl c' pm ctv H1 s1 I1 m1 L1 hfl hc' nf nc => ?_)
  refine thn ((ja_cons he ja_nil hse : JA X W [e] (dCons te dNil)).run pos pins s1 σ H1 (fun vs H2 => ∃ (f2 : Fr) (M2 : Mem) (due : Dv) (v2 : V), vs = [v2] ∧ Lt M.length f0 H1 M2.length f2 H2 ∧ RM f2 H2 M2 ∧ RD M2.length f2 H2 due v2 ∧ tb l M2 (fun d M3 => S [toldD d, toldD due] M3 Pd Y) noX) I1
    ⟨f0, l, M, fun ds M2 => ∃ due, ds = [due] ∧ tb l M2 (fun d M3 => S [toldD d, toldD due] M3 Pd Y) noX, Y, m1, rl.mono L1, ?_, fun f2 H2 M2 ds vs L2 m2 r2 ⟨due, e1, h2⟩ => ?_, kx.mono L1⟩) fun us s2 ⟨vs, H2, I2, r, q⟩ => ⟨I2.kIn, ?_⟩
  · show te l M (fun d M1 => ∃ due, [d] = [due] ∧ tb l M1 (fun d M3 => S [toldD d, toldD due] M3 Pd Y) noX) Y
    have e : (fun d M1 => ∃ due, [d] = [due] ∧ tb l M1 (fun d M3 => S [toldD d, toldD due] M3 Pd Y) noX) = fun due M1 => tb l M1 (fun d M3 => S [toldD d, toldD due] M3 Pd Y) noX := funext fun d => funext fun M1 => propext ⟨fun ⟨due, e, z⟩ => by cases e; exact z, fun z => ⟨d, rfl, z⟩⟩
    rw [e]
    exact h
  · subst e1
    obtain ⟨v2, r', e2, rd, e3⟩ : ∃ v r, vs = v :: r ∧ RD M2.length f2 H2 due v ∧ RDs M2.length f2 H2 [] r := r2
    cases (show r' = [] from e3)
    exact ⟨f2, M2, due, v2, e2, L2, m2, rd, h2⟩
  · obtain ⟨f2, M2, due, v2, e2, L2, m2, rd, h2⟩ := q
    subst e2
    obtain ⟨u2, r2, hus, hu2, hr2⟩ : ∃ u r2, us = u :: r2 ∧ RelV v2 u ∧ Vals [] r2 := by
      cases r with
      | cons h t => exact ⟨_, _, rfl, h, t⟩
    cases hr2
    subst hus
    have hfl2 := L2.kp fl _ hfl nf (fun _ z => by cases z)
    have hc2 := L2.kp c' _ hc' nc LamX.codeO_ne
    have bT : BindsTo s2 fd ⟨[.ref fl, u2], []⟩ [(a, .ref fl), (b, u2)] := (Fg.bindsN bd) s2 [.ref fl, u2] I2.kIn rfl
    refine wpAny_call (codeAny_mono (run X.A X.stack s2 H2 ⟨[.ref fl, u2], []⟩ fl _ u2 v2 Q (WE W σ) f2 M2 due Pd Y hr hgu I2.env0 bT hu2 (thk_lam I2 L hfl2 hbind hbody) m2 rd (fun Q' k' => ⟨hc2, f2, l, M2, _, noX, m2, (rl.mono L1).mono L2, h2, k', fun _ _ _ _ _ _ _ _ _ z => z.elim⟩) (ke.mono (L1.trans L2))
      (fun f' H3 M' C d' a' L4 m4 r4 h4 => kx f' H3 M' C d' a' ((L1.trans L2).trans L4) m4 r4 h4)) fun res s' hq => ?_)
    cases res with
    | error e => exact passAt tk σ pins H2 s2 e s' I2 hq
    | ok fl' =>
      cases fl' with
      | ret u => exact I2.after hq
      | next => exact False.elim hq
      | brk => exact False.elim hq
      | cont => exact False.elim hq
end
end D
end

section
set_option Elab.async false
set_option linter.all false
set_option maxRecDepth 100000
set_option maxHeartbeats 1000000
set_option autoImplicit false
/-! The deep layer, part 27: the law's end where its defs make lambdas. -/
namespace D
open PySem PySem.Spec PyProof.Rows L2
section
variable {P : Program} {w : World} {K : PySem.W.Frag} {mg mb : Str → Option Value} {k : Nat} {fa a : Addr} {fd : FuncData} {x : Str} {s : Shared}
theorem law_runT {H : Hp} {d : Dv} {ns : List Int} {n : Nat} {cs : List (Addr × Addr)} {T : List (Addr × Str)} (KX : K.In s.heap) (hns : s.heap.Ns mainGlobals mg) (hb : s.heap.Ns builtinsNs mb) (hbb : ∀ x : Str, x ≠ "__name__" → mb x = bootBuiltins x) (hlim : s.heap.NoLimit) (hg : s.gens = #[]) (hr : Room k callerA)
    (hT : ∀ p ∈ cs, s.heap.get? p.2 = some { cls := .none, data := .fields #[] }) (C : ∀ p ∈ cs, PySem.W.CodeHd s.heap p.1 p.2)
    (hbm : ∃ (bm : Addr) (ob : Obj), mg "__builtins__" = some (.ref bm) ∧ bm ≠ builtinsNs ∧ s.heap.get? bm = some ob ∧ ob.cls = .type "module" ∧ ob.dict = some builtinsNs ∧ ob.data = .plain)
    (F : ∀ base : Heap, K.In base → base.Ns mainGlobals mg → (∀ p ∈ cs, LamX.TabB base mg p.1 p.2) → @FnG ⟨T⟩ P w K mg base k fa fd [x] (SLaw K n)) (hbind : ∀ (s : Shared) (u : Value), BindsTo s fd ⟨[u], []⟩ [(x, u)])
    (hok : HOk P w H s.heap) (out : ∀ b o, K.lookup b = some o → H b = none) (out3 : ∀ (b : Addr) (o : Obj), s.heap.get? b = some o → H b ≠ none → (∃ vs m, o.data = .seq vs m) ∨ o.data = .fields #[])
    (fz : ∀ b u, H b = some u → (∃ o v, u = .frz o v) ∨ b ∈ cs.map (·.2)) (tb : ∀ p ∈ cs, H p.2 = some (.tbl #[])) (hTT : ∀ p ∈ T, p.1 ∈ cs.map (·.2)) (hd : ScrD K d ns) (hl : ns.length ≤ n) (rd : RD 0 ⟨fun _ => 0, fun _ => False⟩ H d (.ref a)) :
    codeAny (model P w) callerA (.call (.ref fa) ⟨[.ref a], []⟩) (fun r s' => r = .ok (.ret (.bool true)) ∧ OldK s.heap s'.heap ∧ s'.os = s.os ∧ AllBare s'.gens) s := by
  letI : TBL := ⟨T⟩
  have free : ∀ {b : Addr} {o : Obj}, s.heap.get? b = some o → (∀ vs m, o.data ≠ .seq vs m) → o.data ≠ .fields #[] → H b = none := fun {b o} e h1 h2 => by
    cases q : H b with
    | none => rfl
    | some u =>
      rcases out3 b o e (by rw [q]; simp) with ⟨vs, m, z⟩ | z
      · exact absurd z (h1 vs m)
      · exact absurd z h2
  have outN : ∀ {b : Addr} {o : Obj} {es : Array DictEntry} {ep : Nat}, s.heap.get? b = some o → o.data = .dict es ep → H b = none := fun e dd => free e (fun _ _ z => by rw [dd] at z; cases z) fun z => by rw [dd] at z; cases z
  have nsK : ∀ {b : Addr} {m : Str → Option Value}, s.heap.Ns b m → (hidT s.heap H).Ns b m := fun {b m} ⟨o, es, ep, e, dd, r⟩ => ⟨o, es, ep, hidT_get e (outN e dd), dd, r⟩
  have kin : K.In (hidT s.heap H) := fun b o e => hidT_get (KX b o e) (out b o e)
  have md : Mod K mg (hidT s.heap H) := ⟨kin, nsK hns, ⟨mb, nsK hb, hbb⟩, let ⟨mc, h1, h2⟩ := hlim; ⟨mc, nsK h1, h2⟩⟩
  have e0 : Env0 P w K mg (hidT s.heap H) callerA [] s H := ⟨rfl, md, fun b o e => of_hidT e, Nat.le_of_eq (hidT_size _ _), trivial, fun b hb => absurd (show b ∈ ([] : List Addr) from hb) (by simp), hok, .of_eq hg⟩
  have TB : ∀ p ∈ cs, LamX.TabB (hidT s.heap H) mg p.1 p.2 := fun p hp => by
    have hTp := hT p hp
    have glob : ∀ z : mainGlobals = p.2, False := fun z => by
      obtain ⟨o, es, ep, e, hd2, _⟩ := hns
      rw [z, hTp] at e
      cases e
      cases hd2
    refine ⟨?_, ?_, fun z => glob z⟩
    · obtain ⟨o, us, file, tf, flags, tg, inF, text, tt, e1, r1, r2, r3, rest⟩ := C p hp
      refine ⟨o, us, file, tf, flags, tg, inF, text, tt, hidT_get e1 (free e1 (fun vs m z => by rw [r2] at z; cases z) fun z => ?_), r1, r2, r3, rest⟩
      rw [r2] at z
      cases z
      simp at r3
    · obtain ⟨bm, ob, b1, b2, b3, b4, b5, b6⟩ := hbm
      have nG : bm ≠ mainGlobals := fun q => by
        obtain ⟨o, es, ep, e, hd2, _⟩ := hns
        rw [q, e] at b3
        cases b3
        rw [hd2] at b6
        cases b6
      have nP : bm ≠ p.2 := fun q => by
        rw [q, hTp] at b3
        cases b3
        cases b6
      exact ⟨bm, ob, b1, b2, nG, nP, hidT_get b3 (free b3 (fun vs m z => by rw [b6] at z; cases z) fun z => by rw [b6] at z; cases z), b4, b5, b6⟩
  have ta : LamX.Tabs T H := fun p hp => by
    obtain ⟨q, hq, e⟩ := List.mem_map.mp (hTT p hp)
    exact LamX.TabS.nil (by rw [← e]; exact tb q hq)
  have call := (F _ kin (nsK hns) TB).run callerA [] s H ⟨[.ref a], []⟩ [.ref a] [.ref a] (fun v _ => v = .bl true) (fun _ _ _ => False) hr rfl e0 (hbind s (.ref a)) (.cons rfl .nil)
    ⟨⟨fun _ => 0, fun _ => False⟩, [], [d], fun d' _ => d' = .bl true, noX, ⟨fun i o e => by simp at e, fun i j h => absurd h (Nat.not_lt_zero _), fun a z => z.elim, ta⟩, .cons rd .nil, ⟨d, ns, rfl, hd, hl, fun _ => rfl⟩,
      fun f' H' M' d' v _ _ r e => by subst e; exact r, fun _ _ _ _ _ _ _ _ _ z => z⟩
  refine codeAny_mono call fun r s' h => ?_
  cases r with
  | error e => obtain ⟨_, _, _, _, _, _, _, _, _, _, _, _, z⟩ := (show L2.CX P w [] H s (fun _ _ _ => False) e s' from h); exact z.elim
  | ok fl =>
    cases fl with
    | next => exact (show False from h).elim
    | brk => exact (show False from h).elim
    | cont => exact (show False from h).elim
    | ret u =>
      obtain ⟨v, H', os, bare, un, hok', rv, q⟩ := h
      have q' : v = .bl true := q
      subst q'
      obtain rfl : u = Value.bool true := rv
      have key : ∀ b o, b ∉ cs.map (·.2) → s.heap.get? b = some o → s'.heap.get? b = some o := fun b o nb e => by
        cases z : H b with
        | none => exact un.keep b o e z (by intro w; exact absurd (show b ∈ ([] : List Addr) from w) (by simp)) (by simp)
        | some u =>
          rcases fz b u z with ⟨oo, vv, rfl⟩ | w
          · have g1 := (hok b _ z).1
            rw [e] at g1
            cases g1
            exact (hok' b _ (un.frzs b _ vv z)).1
          · exact absurd w nb
      have grown : ∀ p ∈ cs, ∃ more : Array Value, s'.heap.get? p.2 = some { cls := .none, data := .fields more } := fun p hp => by
        obtain ⟨more, z⟩ := un.tbls p.2 #[] (tb p hp)
        exact ⟨_, hok' p.2 _ z⟩
      refine ⟨rfl, ⟨fun b o e => ?_, fun b o e => ?_⟩, os, bare⟩
      · by_cases hb : b ∈ cs.map (·.2)
        · obtain ⟨p, hp, ep⟩ := List.mem_map.mp hb
          obtain ⟨more, hm⟩ := grown p hp
          rw [← ep] at e ⊢
          rw [hT p hp] at e
          cases e
          exact .inr (.inl ⟨((C p hp).tab (hT p hp)).isCodeTable, rfl, #[], more, rfl, by rw [Array.empty_append]; exact hm⟩)
        · exact .inl (key b o hb e)
      · by_cases hb : b ∈ cs.map (·.2)
        · obtain ⟨p, hp, ep⟩ := List.mem_map.mp hb
          obtain ⟨more, hm⟩ := grown p hp
          rw [← ep]
          exact ⟨_, hm⟩
        · exact ⟨o, key b o hb e⟩
/-- what the head knows: the law's def, the code objects that make lambdas, their tables -/
structure LawT (P : Program) (w : World) (mg : Str → Option Value) (h : Heap) (k n : Nat) (fa : Addr) (x : Str) : Prop where
  ex : ∃ (K : PySem.W.Frag) (fd : FuncData) (cs : List (Addr × Addr)) (T : List (Addr × Str)), K.In h ∧ (∀ (s : Shared) (u : Value), BindsTo s fd ⟨[u], []⟩ [(x, u)]) ∧ (∀ p ∈ cs, h.get? p.2 = some { cls := .none, data := .fields #[] }) ∧ (∀ p ∈ cs, K.lookup p.2 = none) ∧ (∀ p ∈ cs, PySem.W.CodeHd h p.1 p.2) ∧ (∀ p ∈ T, p.1 ∈ cs.map (·.2)) ∧
    ∀ base : Heap, K.In base → base.Ns mainGlobals mg → (∀ p ∈ cs, LamX.TabB base mg p.1 p.2) → @FnG ⟨T⟩ P w K mg base k fa fd [x] (SLaw K n)
open PySem.W in
theorem walk_GT {l : PySem.W.OpenLaw} {n k : Nat} {q : Program} {loose : List Str} {XP : (Str → Option Value) → Heap → Prop} {YP : World → Heap → Prop} {d : DefRec} {x : Str}
    (hn : l.most = some n) (hn2 : n ≤ sizeLine) (hdf : d.params.defaults = []) (hr : Room k callerA)
    (F : ∀ (w : World) (mg : Str → Option Value) (fa : Addr) (h : Heap), YP w h → h.Ns mainGlobals mg → mg d.name = some (.ref fa) → LawT l.prog w mg h k n fa x) :
    PySem.W.WalkO q loose XP YP l.row.toRowW d [] (fun f vs => PySem.call f vs) := by
  refine Att.attach_call hn hdf fun w s₀ s₁ mg mb fa o pm cd doc a vs ns G Y ho hd hcd hmg hobj hints hlen hg => ?_
  obtain ⟨K, fd, cs, T, KX, hb, hT, nT, C, hTT, hF⟩ := (F w mg fa _ Y G.T.g hmg).ex
  have rv := vals_ints hints
  have hz : ns.length ≤ sizeLine := Nat.le_trans hlen hn2
  have lenV := hints.length
  have isT : ∀ b : Addr, b ∈ cs.map (·.2) → s₁.heap.get? b = some { cls := .none, data := .fields #[] } ∧ K.lookup b = none := fun b hb => by
    obtain ⟨p, hp, e⟩ := List.mem_map.mp hb
    rw [← e]
    exact ⟨hT p hp, nT p hp⟩
  have aT : a ∉ cs.map (·.2) := fun z => by
    have q := (isT a z).1
    rw [hobj] at q
    have z' : Data.seq vs.toArray _ = Data.fields #[] := congrArg Obj.data (Option.some.inj q)
    cases z'
  have memT : ∀ p ∈ cs, p.2 ∈ cs.map (·.2) := fun p hp => List.mem_map.mpr ⟨p, hp, rfl⟩
  cases hk : K.lookup a with
  | some o' =>
    have e := KX a o' hk
    rw [hobj] at e
    cases e
    have ks : KScr K a ns := fun H => .inr ⟨_, vs.toArray, _, hk, rfl, rfl, rfl, by rw [List.size_toArray, lenV]; exact hz, by simpa using rv⟩
    let H0 : Hp := fun b => if b ∈ cs.map (·.2) then some (.tbl #[]) else none
    have un_a : ∀ {b : Addr} {u : HO}, H0 b = some u → b ∈ cs.map (·.2) ∧ u = .tbl #[] := fun {b u} z => by
      by_cases h : b ∈ cs.map (·.2)
      · exact ⟨h, (Option.some.inj ((if_pos h).symm.trans z)).symm⟩
      · cases (if_neg h).symm.trans z
    exact law_runT (H := H0) (d := .adr a) KX G.T.g G.T.b G.T.builtins G.T.nolimit hg hr hT C G.T.bmain hF hb (fun b u z => by obtain ⟨h, rfl⟩ := un_a z; exact (isT b h).1) (fun b o e => by
        cases z : H0 b with
        | none => rfl
        | some u => rw [(isT b (un_a z).1).2] at e; cases e)
      (fun b o e z => by
        cases z' : H0 b with
        | none => exact absurd z' z
        | some u => have := (isT b (un_a z').1).1; rw [e] at this; cases this; exact .inr rfl)
      (fun b u z => .inr (un_a z).1) (fun p hp => if_pos (memT p hp)) hTT (.inr ⟨a, rfl, ks⟩) hlen rfl
  | none =>
    let H0 : Hp := fun b => if b = a then some (.frz { cls := .type "list", data := .seq vs.toArray } (.lst (ns.map V.int))) else if b ∈ cs.map (·.2) then some (.tbl #[]) else none
    have at_a : H0 a = some (.frz { cls := .type "list", data := .seq vs.toArray } (.lst (ns.map V.int))) := if_pos rfl
    have un_a : ∀ {b : Addr} {u : HO}, H0 b = some u → (b = a ∧ u = .frz { cls := .type "list", data := .seq vs.toArray } (.lst (ns.map V.int))) ∨ (b ∈ cs.map (·.2) ∧ u = .tbl #[]) := fun {b u} z => by
      by_cases h : b = a
      · subst h; rw [at_a] at z; exact .inl ⟨rfl, (Option.some.inj z).symm⟩
      · have z1 := (if_neg h).symm.trans z
        by_cases h2 : b ∈ cs.map (·.2)
        · exact .inr ⟨h2, (Option.some.inj ((if_pos h2).symm.trans z1)).symm⟩
        · cases (if_neg h2).symm.trans z1
    refine law_runT (H := H0) (d := .frz (ns.map Dv.int)) KX G.T.g G.T.b G.T.builtins G.T.nolimit hg hr hT C G.T.bmain hF hb (fun b u z => ?_) (fun b o' e => ?_) (fun b o' e z => ?_) (fun b u z => ?_) (fun p hp => (if_neg (show ¬ p.2 = a from fun z => aT (by rw [← z]; exact memT p hp))).trans (if_pos (memT p hp))) hTT (.inl rfl) hlen ?_
    · rcases un_a z with ⟨rfl, rfl⟩ | ⟨h, rfl⟩
      · exact ⟨hobj, by rw [List.length_map]; exact hz, vs, _, rv, hobj⟩
      · exact (isT b h).1
    · cases z : H0 b with
      | none => rfl
      | some u =>
        rcases un_a z with ⟨rfl, _⟩ | ⟨h, _⟩
        · rw [hk] at e; cases e
        · rw [(isT b h).2] at e; cases e
    · cases z' : H0 b with
      | none => exact absurd z' z
      | some u =>
        rcases un_a z' with ⟨rfl, _⟩ | ⟨h, _⟩
        · rw [hobj] at e; cases e; exact .inl ⟨_, _, rfl⟩
        · rw [(isT b h).1] at e; cases e; exact .inr rfl
    · rcases un_a z with ⟨_, rfl⟩ | ⟨h, _⟩
      · exact .inl ⟨_, _, rfl⟩
      · exact .inr h
    · exact ⟨by rw [List.length_map]; exact hz, a, _, _, rfl, at_a, ⟨fun i hi => absurd hi (Nat.not_lt_zero _), fun z => z⟩, ints_rds⟩
theorem code_eq {K : PySem.W.Frag} {p : Str × Option Str} {q : Str} {cdv : Value} (h : CodeAt K (He.fAd K p) q cdv) : cdv = .ref (He.cT K p).1 := by
  obtain ⟨oc, od, osl, fd, lk, e, hc⟩ := h
  obtain ⟨c, e2⟩ := He.codeIn_ref hc
  have := He.codeOf_eq lk (e.trans e2)
  show cdv = .ref (He.codeOf K p)
  rw [this, e2]
end
end D
end

section
set_option Elab.async false
set_option linter.all false
set_option maxRecDepth 100000
set_option maxHeartbeats 4000000
set_option autoImplicit false
/-! commonkeys_k35_whole_foldings: each def's transformer and its derivation; printed by gen.py. -/
namespace D.k35
open PySem PySem.Spec PyProof.Rows L2 D
def top (i : Nat) : Stmt := PySem.Challenge.pw_commonkeys_k35_whole_foldings.main.body.getD i (.Pass ⟨0, 0, 0, 0⟩)
def meth (i j : Nat) : Stmt := match top i with
  | .ClassDef _ _ _ body _ _ _ _ _ _ _ => body.getD j (.Pass ⟨0, 0, 0, 0⟩)
  | _ => .Pass ⟨0, 0, 0, 0⟩
abbrev s_Frame___init__ : Stmt := meth 16 0
abbrev N_Frame___init__ : List Str := ["self", "keys", "lots", "many", "found", "at", "lot", "key"]
abbrev ps_Frame___init__ : List Str := ["self", "keys", "lots"]
theorem sc_Frame___init__ : FnScope N_Frame___init__ ps_Frame___init__ (defScope s_Frame___init__) := ⟨rfl, rfl, rfl, by decide +kernel, rfl, by decide +kernel, by decide +kernel⟩
theorem bd_Frame___init__ : BdM "__init__" "Frame.__init__" s_Frame___init__ ps_Frame___init__ := fun _ _ _ _ _ _ us hl => match us, hl with | [_, _, _], _ => rfl
abbrev s_is_integer : Stmt := top 8
abbrev N_is_integer : List Str := ["value"]
abbrev ps_is_integer : List Str := ["value"]
theorem sc_is_integer : FnScope N_is_integer ps_is_integer (defScope s_is_integer) := ⟨rfl, rfl, rfl, by decide +kernel, rfl, by decide +kernel, by decide +kernel⟩
theorem bd_is_integer : Bd "is_integer" s_is_integer ps_is_integer := fun _ _ _ _ _ _ us hl => match us, hl with | [_], _ => rfl
abbrev s_is_number : Stmt := top 9
abbrev N_is_number : List Str := ["value"]
abbrev ps_is_number : List Str := ["value"]
theorem sc_is_number : FnScope N_is_number ps_is_number (defScope s_is_number) := ⟨rfl, rfl, rfl, by decide +kernel, rfl, by decide +kernel, by decide +kernel⟩
theorem bd_is_number : Bd "is_number" s_is_number ps_is_number := fun _ _ _ _ _ _ us hl => match us, hl with | [_], _ => rfl
abbrev s_is_index : Stmt := top 10
abbrev N_is_index : List Str := ["value", "many"]
abbrev ps_is_index : List Str := ["value", "many"]
theorem sc_is_index : FnScope N_is_index ps_is_index (defScope s_is_index) := ⟨rfl, rfl, rfl, by decide +kernel, rfl, by decide +kernel, by decide +kernel⟩
theorem bd_is_index : Bd "is_index" s_is_index ps_is_index := fun _ _ _ _ _ _ us hl => match us, hl with | [_, _], _ => rfl
abbrev s_is_sequence : Stmt := top 11
abbrev N_is_sequence : List Str := ["value"]
abbrev ps_is_sequence : List Str := ["value"]
theorem sc_is_sequence : FnScope N_is_sequence ps_is_sequence (defScope s_is_sequence) := ⟨rfl, rfl, rfl, by decide +kernel, rfl, by decide +kernel, by decide +kernel⟩
theorem bd_is_sequence : Bd "is_sequence" s_is_sequence ps_is_sequence := fun _ _ _ _ _ _ us hl => match us, hl with | [_], _ => rfl
abbrev s_is_lot_of : Stmt := top 13
abbrev N_is_lot_of : List Str := ["keys", "value", "key"]
abbrev ps_is_lot_of : List Str := ["keys", "value"]
theorem sc_is_lot_of : FnScope N_is_lot_of ps_is_lot_of (defScope s_is_lot_of) := ⟨rfl, rfl, rfl, by decide +kernel, rfl, by decide +kernel, by decide +kernel⟩
theorem bd_is_lot_of : Bd "is_lot_of" s_is_lot_of ps_is_lot_of := fun _ _ _ _ _ _ us hl => match us, hl with | [_, _], _ => rfl
abbrev s_checked_keys : Stmt := top 15
abbrev N_checked_keys : List Str := ["value"]
abbrev ps_checked_keys : List Str := ["value"]
theorem sc_checked_keys : FnScope N_checked_keys ps_checked_keys (defScope s_checked_keys) := ⟨rfl, rfl, rfl, by decide +kernel, rfl, by decide +kernel, by decide +kernel⟩
theorem bd_checked_keys : Bd "checked_keys" s_checked_keys ps_checked_keys := fun _ _ _ _ _ _ us hl => match us, hl with | [_], _ => rfl
abbrev s_common : Stmt := top 17
abbrev N_common : List Str := ["one", "other", "key"]
abbrev ps_common : List Str := ["one", "other"]
theorem sc_common : FnScope N_common ps_common (defScope s_common) := ⟨rfl, rfl, rfl, by decide +kernel, rfl, by decide +kernel, by decide +kernel⟩
theorem bd_common : Bd "common" s_common ps_common := fun _ _ _ _ _ _ us hl => match us, hl with | [_, _], _ => rfl
abbrev s_shared_with : Stmt := top 19
abbrev N_shared_with : List Str := ["lot", "others", "key", "other"]
abbrev ps_shared_with : List Str := ["lot", "others"]
theorem sc_shared_with : FnScope N_shared_with ps_shared_with (defScope s_shared_with) := ⟨rfl, rfl, rfl, by decide +kernel, rfl, by decide +kernel, by decide +kernel⟩
theorem bd_shared_with : Bd "shared_with" s_shared_with ps_shared_with := fun _ _ _ _ _ _ us hl => match us, hl with | [_, _], _ => rfl
abbrev s_is_holder : Stmt := top 20
abbrev N_is_holder : List Str := ["lot", "holder", "others", "few"]
abbrev ps_is_holder : List Str := ["lot", "holder", "others"]
theorem sc_is_holder : FnScope N_is_holder ps_is_holder (defScope s_is_holder) := ⟨rfl, rfl, rfl, by decide +kernel, rfl, by decide +kernel, by decide +kernel⟩
theorem bd_is_holder : Bd "is_holder" s_is_holder ps_is_holder := fun _ _ _ _ _ _ us hl => match us, hl with | [_, _, _], _ => rfl
abbrev s_others_than : Stmt := top 21
abbrev N_others_than : List Str := ["lots", "lot", "other"]
abbrev ps_others_than : List Str := ["lots", "lot"]
theorem sc_others_than : FnScope N_others_than ps_others_than (defScope s_others_than) := ⟨rfl, rfl, rfl, by decide +kernel, rfl, by decide +kernel, by decide +kernel⟩
theorem bd_others_than : Bd "others_than" s_others_than ps_others_than := fun _ _ _ _ _ _ us hl => match us, hl with | [_, _], _ => rfl
abbrev s_first_holder : Stmt := top 22
abbrev N_first_holder : List Str := ["lot", "others", "found", "other"]
abbrev ps_first_holder : List Str := ["lot", "others"]
theorem sc_first_holder : FnScope N_first_holder ps_first_holder (defScope s_first_holder) := ⟨rfl, rfl, rfl, by decide +kernel, rfl, by decide +kernel, by decide +kernel⟩
theorem bd_first_holder : Bd "first_holder" s_first_holder ps_first_holder := fun _ _ _ _ _ _ us hl => match us, hl with | [_, _], _ => rfl
abbrev s_ears_of : Stmt := top 23
abbrev N_ears_of : List Str := ["lots", "lot"]
abbrev ps_ears_of : List Str := ["lots"]
theorem sc_ears_of : FnScope N_ears_of ps_ears_of (defScope s_ears_of) := ⟨rfl, rfl, rfl, by decide +kernel, rfl, by decide +kernel, by decide +kernel⟩
theorem bd_ears_of : Bd "ears_of" s_ears_of ps_ears_of := fun _ _ _ _ _ _ us hl => match us, hl with | [_], _ => rfl
abbrev s_ears : Stmt := top 24
abbrev N_ears : List Str := ["frame"]
abbrev ps_ears : List Str := ["frame"]
theorem sc_ears : FnScope N_ears ps_ears (defScope s_ears) := ⟨rfl, rfl, rfl, by decide +kernel, rfl, by decide +kernel, by decide +kernel⟩
theorem bd_ears : Bd "ears" s_ears ps_ears := fun _ _ _ _ _ _ us hl => match us, hl with | [_], _ => rfl
abbrev s_folding : Stmt := top 25
abbrev N_folding : List Str := ["frame", "left", "found", "some", "lot"]
abbrev ps_folding : List Str := ["frame"]
theorem sc_folding : FnScope N_folding ps_folding (defScope s_folding) := ⟨rfl, rfl, rfl, by decide +kernel, rfl, by decide +kernel, by decide +kernel⟩
theorem bd_folding : Bd "folding" s_folding ps_folding := fun _ _ _ _ _ _ us hl => match us, hl with | [_], _ => rfl
abbrev s_is_one_of : Stmt := top 26
abbrev N_is_one_of : List Str := ["lots", "value", "key"]
abbrev ps_is_one_of : List Str := ["lots", "value"]
theorem sc_is_one_of : FnScope N_is_one_of ps_is_one_of (defScope s_is_one_of) := ⟨rfl, rfl, rfl, by decide +kernel, rfl, by decide +kernel, by decide +kernel⟩
theorem bd_is_one_of : Bd "is_one_of" s_is_one_of ps_is_one_of := fun _ _ _ _ _ _ us hl => match us, hl with | [_, _], _ => rfl
abbrev s_is_pair_of : Stmt := top 27
abbrev N_is_pair_of : List Str := ["lots", "value", "lot"]
abbrev ps_is_pair_of : List Str := ["lots", "value"]
theorem sc_is_pair_of : FnScope N_is_pair_of ps_is_pair_of (defScope s_is_pair_of) := ⟨rfl, rfl, rfl, by decide +kernel, rfl, by decide +kernel, by decide +kernel⟩
theorem bd_is_pair_of : Bd "is_pair_of" s_is_pair_of ps_is_pair_of := fun _ _ _ _ _ _ us hl => match us, hl with | [_, _], _ => rfl
abbrev s_is_folding : Stmt := top 28
abbrev N_is_folding : List Str := ["frame", "value", "left", "pair"]
abbrev ps_is_folding : List Str := ["frame", "value"]
theorem sc_is_folding : FnScope N_is_folding ps_is_folding (defScope s_is_folding) := ⟨rfl, rfl, rfl, by decide +kernel, rfl, by decide +kernel, by decide +kernel⟩
theorem bd_is_folding : Bd "is_folding" s_is_folding ps_is_folding := fun _ _ _ _ _ _ us hl => match us, hl with | [_, _], _ => rfl
abbrev s__law_draw : Stmt := top 30
abbrev N__law_draw : List Str := ["script", "salt", "cells", "blend", "cell"]
abbrev ps__law_draw : List Str := ["script", "salt"]
theorem sc__law_draw : FnScope N__law_draw ps__law_draw (defScope s__law_draw) := ⟨rfl, rfl, rfl, by decide +kernel, rfl, by decide +kernel, by decide +kernel⟩
theorem bd__law_draw : Bd "_law_draw" s__law_draw ps__law_draw := fun _ _ _ _ _ _ us hl => match us, hl with | [_, _], _ => rfl
abbrev s__law_any : Stmt := top 31
abbrev N__law_any : List Str := ["deal", "bound", "rest"]
abbrev ps__law_any : List Str := ["deal", "bound"]
theorem sc__law_any : FnScope N__law_any ps__law_any (defScope s__law_any) := ⟨rfl, rfl, rfl, by decide +kernel, rfl, by decide +kernel, by decide +kernel⟩
theorem bd__law_any : Bd "_law_any" s__law_any ps__law_any := fun _ _ _ _ _ _ us hl => match us, hl with | [_, _], _ => rfl
abbrev s__law_of : Stmt := top 32
abbrev N__law_of : List Str := ["deal", "some"]
abbrev ps__law_of : List Str := ["deal", "some"]
theorem sc__law_of : FnScope N__law_of ps__law_of (defScope s__law_of) := ⟨rfl, rfl, rfl, by decide +kernel, rfl, by decide +kernel, by decide +kernel⟩
theorem bd__law_of : Bd "_law_of" s__law_of ps__law_of := fun _ _ _ _ _ _ us hl => match us, hl with | [_, _], _ => rfl
abbrev s__law_mixed : Stmt := top 33
abbrev N__law_mixed : List Str := ["deal", "some", "left", "found"]
abbrev ps__law_mixed : List Str := ["deal", "some"]
theorem sc__law_mixed : FnScope N__law_mixed ps__law_mixed (defScope s__law_mixed) := ⟨rfl, rfl, rfl, by decide +kernel, rfl, by decide +kernel, by decide +kernel⟩
theorem bd__law_mixed : Bd "_law_mixed" s__law_mixed ps__law_mixed := fun _ _ _ _ _ _ us hl => match us, hl with | [_, _], _ => rfl
abbrev s__law_given_lots : Stmt := top 34
abbrev N__law_given_lots : List Str := ["deal", "lots", "lot"]
abbrev ps__law_given_lots : List Str := ["deal", "lots"]
theorem sc__law_given_lots : FnScope N__law_given_lots ps__law_given_lots (defScope s__law_given_lots) := ⟨rfl, rfl, rfl, by decide +kernel, rfl, by decide +kernel, by decide +kernel⟩
theorem bd__law_given_lots : Bd "_law_given_lots" s__law_given_lots ps__law_given_lots := fun _ _ _ _ _ _ us hl => match us, hl with | [_, _], _ => rfl
abbrev s__law_same : Stmt := top 35
abbrev N__law_same : List Str := ["told", "due", "at"]
abbrev ps__law_same : List Str := ["told", "due"]
theorem sc__law_same : FnScope N__law_same ps__law_same (defScope s__law_same) := ⟨rfl, rfl, rfl, by decide +kernel, rfl, by decide +kernel, by decide +kernel⟩
theorem bd__law_same : Bd "_law_same" s__law_same ps__law_same := fun _ _ _ _ _ _ us hl => match us, hl with | [_, _], _ => rfl
abbrev s__law_heard : Stmt := top 36
abbrev N__law_heard : List Str := ["work"]
abbrev ps__law_heard : List Str := ["work"]
theorem sc__law_heard : FnScope N__law_heard ps__law_heard (defScope s__law_heard) := ⟨rfl, rfl, rfl, by decide +kernel, rfl, by decide +kernel, by decide +kernel⟩
theorem bd__law_heard : Bd "_law_heard" s__law_heard ps__law_heard := fun _ _ _ _ _ _ us hl => match us, hl with | [_], _ => rfl
abbrev s__law_tells : Stmt := top 37
abbrev N__law_tells : List Str := ["work", "due"]
abbrev ps__law_tells : List Str := ["work", "due"]
theorem sc__law_tells : FnScope N__law_tells ps__law_tells (defScope s__law_tells) := ⟨rfl, rfl, rfl, by decide +kernel, rfl, by decide +kernel, by decide +kernel⟩
theorem bd__law_tells : Bd "_law_tells" s__law_tells ps__law_tells := fun _ _ _ _ _ _ us hl => match us, hl with | [_, _], _ => rfl
abbrev s__law_numbers : Stmt := top 38
abbrev N__law_numbers : List Str := ["value", "one"]
abbrev ps__law_numbers : List Str := ["value"]
theorem sc__law_numbers : FnScope N__law_numbers ps__law_numbers (defScope s__law_numbers) := ⟨rfl, rfl, rfl, by decide +kernel, rfl, by decide +kernel, by decide +kernel⟩
theorem bd__law_numbers : Bd "_law_numbers" s__law_numbers ps__law_numbers := fun _ _ _ _ _ _ us hl => match us, hl with | [_], _ => rfl
abbrev s__law_once : Stmt := top 39
abbrev N__law_once : List Str := ["lots", "lot"]
abbrev ps__law_once : List Str := ["lots"]
theorem sc__law_once : FnScope N__law_once ps__law_once (defScope s__law_once) := ⟨rfl, rfl, rfl, by decide +kernel, rfl, by decide +kernel, by decide +kernel⟩
theorem bd__law_once : Bd "_law_once" s__law_once ps__law_once := fun _ _ _ _ _ _ us hl => match us, hl with | [_], _ => rfl
abbrev s__law_grown : Stmt := top 40
abbrev N__law_grown : List Str := ["deal", "keys", "most", "left", "first", "lots", "turn", "base", "many", "share", "lot", "key"]
abbrev ps__law_grown : List Str := ["deal", "keys", "most"]
theorem sc__law_grown : FnScope N__law_grown ps__law_grown (defScope s__law_grown) := ⟨rfl, rfl, rfl, by decide +kernel, rfl, by decide +kernel, by decide +kernel⟩
theorem bd__law_grown : Bd "_law_grown" s__law_grown ps__law_grown := fun _ _ _ _ _ _ us hl => match us, hl with | [_, _, _], _ => rfl
abbrev s__law_round : Stmt := top 41
abbrev N__law_round : List Str := ["deal", "keys", "most", "order", "many", "some", "lots", "key", "at", "out", "lot"]
abbrev ps__law_round : List Str := ["deal", "keys", "most"]
theorem sc__law_round : FnScope N__law_round ps__law_round (defScope s__law_round) := ⟨rfl, rfl, rfl, by decide +kernel, rfl, by decide +kernel, by decide +kernel⟩
theorem bd__law_round : Bd "_law_round" s__law_round ps__law_round := fun _ _ _ _ _ _ us hl => match us, hl with | [_, _, _], _ => rfl
abbrev s__law_spotted : Stmt := top 42
abbrev N__law_spotted : List Str := ["deal", "keys", "most", "lots", "size", "turn", "rest", "key", "lot"]
abbrev ps__law_spotted : List Str := ["deal", "keys", "most"]
theorem sc__law_spotted : FnScope N__law_spotted ps__law_spotted (defScope s__law_spotted) := ⟨rfl, rfl, rfl, by decide +kernel, rfl, by decide +kernel, by decide +kernel⟩
theorem bd__law_spotted : Bd "_law_spotted" s__law_spotted ps__law_spotted := fun _ _ _ _ _ _ us hl => match us, hl with | [_, _, _], _ => rfl
abbrev s__law_frame : Stmt := top 43
abbrev N__law_frame : List Str := ["deal", "keys", "most", "form", "lots"]
abbrev ps__law_frame : List Str := ["deal", "keys", "most"]
theorem sc__law_frame : FnScope N__law_frame ps__law_frame (defScope s__law_frame) := ⟨rfl, rfl, rfl, by decide +kernel, rfl, by decide +kernel, by decide +kernel⟩
theorem bd__law_frame : Bd "_law_frame" s__law_frame ps__law_frame := fun _ _ _ _ _ _ us hl => match us, hl with | [_, _, _], _ => rfl
abbrev s__law_any_way : Stmt := top 44
abbrev N__law_any_way : List Str := ["deal", "lots"]
abbrev ps__law_any_way : List Str := ["deal", "lots"]
theorem sc__law_any_way : FnScope N__law_any_way ps__law_any_way (defScope s__law_any_way) := ⟨rfl, rfl, rfl, by decide +kernel, rfl, by decide +kernel, by decide +kernel⟩
theorem bd__law_any_way : Bd "_law_any_way" s__law_any_way ps__law_any_way := fun _ _ _ _ _ _ us hl => match us, hl with | [_, _], _ => rfl
abbrev s__law_folds : Stmt := top 45
abbrev N__law_folds : List Str := ["lots", "rows", "turn", "before", "kept", "at", "row", "over", "lot", "key", "other", "to"]
abbrev ps__law_folds : List Str := ["lots"]
theorem sc__law_folds : FnScope N__law_folds ps__law_folds (defScope s__law_folds) := ⟨rfl, rfl, rfl, by decide +kernel, rfl, by decide +kernel, by decide +kernel⟩
theorem bd__law_folds : Bd "_law_folds" s__law_folds ps__law_folds := fun _ _ _ _ _ _ us hl => match us, hl with | [_], _ => rfl
abbrev s__law_shares : Stmt := top 46
abbrev N__law_shares : List Str := ["lot", "others", "key", "other"]
abbrev ps__law_shares : List Str := ["lot", "others"]
theorem sc__law_shares : FnScope N__law_shares ps__law_shares (defScope s__law_shares) := ⟨rfl, rfl, rfl, by decide +kernel, rfl, by decide +kernel, by decide +kernel⟩
theorem bd__law_shares : Bd "_law_shares" s__law_shares ps__law_shares := fun _ _ _ _ _ _ us hl => match us, hl with | [_, _], _ => rfl
abbrev s__law_holders : Stmt := top 47
abbrev N__law_holders : List Str := ["lots", "lot", "others", "few", "other", "key"]
abbrev ps__law_holders : List Str := ["lots", "lot"]
theorem sc__law_holders : FnScope N__law_holders ps__law_holders (defScope s__law_holders) := ⟨rfl, rfl, rfl, by decide +kernel, rfl, by decide +kernel, by decide +kernel⟩
theorem bd__law_holders : Bd "_law_holders" s__law_holders ps__law_holders := fun _ _ _ _ _ _ us hl => match us, hl with | [_, _], _ => rfl
abbrev s__law_taken_off : Stmt := top 48
abbrev N__law_taken_off : List Str := ["deal", "lots", "left", "found", "turn", "lot", "one"]
abbrev ps__law_taken_off : List Str := ["deal", "lots"]
theorem sc__law_taken_off : FnScope N__law_taken_off ps__law_taken_off (defScope s__law_taken_off) := ⟨rfl, rfl, rfl, by decide +kernel, rfl, by decide +kernel, by decide +kernel⟩
theorem bd__law_taken_off : Bd "_law_taken_off" s__law_taken_off ps__law_taken_off := fun _ _ _ _ _ _ us hl => match us, hl with | [_, _], _ => rfl
abbrev s__law_is_folding : Stmt := top 49
abbrev N__law_is_folding : List Str := ["lots", "value", "left", "pair", "one"]
abbrev ps__law_is_folding : List Str := ["lots", "value"]
theorem sc__law_is_folding : FnScope N__law_is_folding ps__law_is_folding (defScope s__law_is_folding) := ⟨rfl, rfl, rfl, by decide +kernel, rfl, by decide +kernel, by decide +kernel⟩
theorem bd__law_is_folding : Bd "_law_is_folding" s__law_is_folding ps__law_is_folding := fun _ _ _ _ _ _ us hl => match us, hl with | [_, _], _ => rfl
abbrev s__law_spoilt : Stmt := top 50
abbrev N__law_spoilt : List Str := ["deal", "value", "form", "at", "to", "row"]
abbrev ps__law_spoilt : List Str := ["deal", "value"]
theorem sc__law_spoilt : FnScope N__law_spoilt ps__law_spoilt (defScope s__law_spoilt) := ⟨rfl, rfl, rfl, by decide +kernel, rfl, by decide +kernel, by decide +kernel⟩
theorem bd__law_spoilt : Bd "_law_spoilt" s__law_spoilt ps__law_spoilt := fun _ _ _ _ _ _ us hl => match us, hl with | [_, _], _ => rfl
abbrev s__law_turned : Stmt := top 51
abbrev N__law_turned : List Str := ["deal", "lots", "value", "form", "at", "lot", "holder", "odd", "key"]
abbrev ps__law_turned : List Str := ["deal", "lots", "value"]
theorem sc__law_turned : FnScope N__law_turned ps__law_turned (defScope s__law_turned) := ⟨rfl, rfl, rfl, by decide +kernel, rfl, by decide +kernel, by decide +kernel⟩
theorem bd__law_turned : Bd "_law_turned" s__law_turned ps__law_turned := fun _ _ _ _ _ _ us hl => match us, hl with | [_, _, _], _ => rfl
abbrev s_law : Stmt := top 52
abbrev N_law : List Str := ["script", "deal", "turn", "keys", "lots", "frame", "due", "told", "again", "some", "way", "odd", "lot"]
abbrev ps_law : List Str := ["script"]
theorem sc_law : FnScope N_law ps_law (defScope s_law) := ⟨rfl, rfl, rfl, by decide +kernel, rfl, by decide +kernel, by decide +kernel⟩
theorem bd_law : Bd "law" s_law ps_law := fun _ _ _ _ _ _ us hl => match us, hl with | [_], _ => rfl
section
variable [TBL]
variable {P : Program} {w : World} {K : PySem.W.Frag} {mg : Str → Option Value} {base : Heap} {k : Nat} {f : Addr} {fd : FuncData}
theorem ok__law_heard (D : FnP K "_law_heard" s__law_heard f fd) (m : mg "_law_heard" = some (.ref f)) : Heard P w K mg base "_law_heard" s__law_heard "work" :=
  heard_of D m sc__law_heard rfl (by first | exact Or.inl rfl | exact Or.inr (Or.inl rfl)) rfl (fun _ => rfl)
theorem ok__law_tells {S__law_same : DSp} (D : FnP K "_law_tells" s__law_tells f fd) (m : mg "_law_tells" = some (.ref f)) (F__law_heard : Heard P w K mg base "_law_heard" s__law_heard "work") (F__law_same : Fx P w K mg base (k + 1) "_law_same" s__law_same ps__law_same S__law_same) : Tells P w K mg base k "_law_tells" s__law_tells "work" "due" S__law_same :=
  tells_of D m sc__law_tells (by first | exact Or.inl rfl | exact Or.inr (Or.inl rfl)) (by first | exact Or.inl rfl | exact Or.inr (Or.inl rfl)) rfl rfl F__law_heard bd__law_heard F__law_same bd__law_same rfl
def t_Frame___init__ (K : PySem.W.Frag) (S_is_lot_of S_is_sequence S_checked_keys : DSp) : DS := (dSeq (dSet 3 (dCall S_checked_keys (dCons (dVar 1) dNil))) (dSeq (dIfS (dNot (dTru (dCall S_is_sequence (dCons (dVar 2) dNil)))) (dSeq dBad dNext) dNext) (dSeq (dSet 4 (dLstM dNil)) (dSeq (dFor (iEnum (dCons (dVar 2) dNil)) (gT 2 (gsCons (gN 5) (gsCons (gN 6) gsNil))) (dSeq (dIfS (dOr (dNot (dTru (dCall S_is_lot_of (dCons (dVar 3) (dCons (dVar 6) dNil))))) (dTest (dOp gEq (dCB gLen (dCons (dVar 6) dNil)) (dC (.int 0))))) (dSeq dBad dNext) dNext) (dSeq (dDrop (dAppend (dVar 4) (dCons (dCB gTuple (dCons (dCB gSortQ (dCons (dVar 6) dNil)) dNil)) dNil))) dNext))) (dSeq (dIfS (dTest (dOp gLt (dLenSet (dComp2 (iSeq (dVar 4)) (gN 6) dYes (iSeq (dVar 6)) (gN 7) dYes (dVar 7) [6, 7] [7])) (dVar 3))) (dSeq dBad dNext) dNext) (dSeq (dPutF K "key_count" (dVar 0) (dVar 3)) (dSeq (dPutF K "lots" (dVar 0) (dCB gTuple (dCons (dSortSet (dVar 4)) dNil))) dNext)))))))
theorem b_Frame___init__  {S_is_lot_of S_is_sequence S_checked_keys : DSp} {cdv : Value} {A : Around} {outer : List Env} {s : Shared} {H : Hp} {E : XK} {W : WX} (F_is_lot_of : Fx P w K mg base k "is_lot_of" s_is_lot_of ps_is_lot_of S_is_lot_of) (F_is_sequence : Fx P w K mg base k "is_sequence" s_is_sequence ps_is_sequence S_is_sequence) (F_checked_keys : Fx P w K mg base k "checked_keys" s_checked_keys ps_checked_keys S_checked_keys) (n_tuple : mg "tuple" = none) (n_sorted : mg "sorted" = none) (n_set : mg "set" = none) (n_len : mg "len" = none) (n_enumerate : mg "enumerate" = none)
    (hr : Room k (CF P w K mg base N_Frame___init__ "Frame.__init__" s_Frame___init__ f cdv A outer s H E).A) (hgu : (CF P w K mg base N_Frame___init__ "Frame.__init__" s_Frame___init__ f cdv A outer s H E).A.guards = some []) (tk : Takes (CF P w K mg base N_Frame___init__ "Frame.__init__" s_Frame___init__ f cdv A outer s H E) W) : JSs (CF P w K mg base N_Frame___init__ "Frame.__init__" s_Frame___init__ f cdv A outer s H E) W (defBody s_Frame___init__) (t_Frame___init__ K S_is_lot_of S_is_sequence S_checked_keys) :=
  have nd : (CF P w K mg base N_Frame___init__ "Frame.__init__" s_Frame___init__ f cdv A outer s H E).N.Nodup := sc_Frame___init__.nd
  (js_cons (js_set (i := 3) nd rfl (by first | exact .inl rfl | exact .inr rfl) (je_cx F_checked_keys hr hgu tk bd_checked_keys rfl (ja_cons (jv 1) ja_nil))) (js_cons (js_if (jt_not (jt_tru (je_cx F_is_sequence hr hgu tk bd_is_sequence rfl (ja_cons (jv 2) ja_nil)))) (js_cons js_bad js_nil) js_nil) (js_cons (js_set (i := 4) nd rfl (by first | exact .inl rfl | exact .inr rfl) (je_lstM ja_nil)) (js_cons (js_for (ws := [5, 6]) (passes_of rfl) rfl (ji_enum rfl n_enumerate (ja_cons (jv 2) ja_nil)) (jg_tup rfl (jgs_cons (jg_name (i := 5) (by simp) nd rfl (by first | exact .inl rfl | exact .inr rfl)) (jgs_cons (jg_name (i := 6) (by simp) nd rfl (by first | exact .inl rfl | exact .inr rfl)) jgs_nil))) (js_cons (js_if (PW.pt (jw_or (jt_not (jt_tru (je_cx F_is_lot_of hr hgu tk bd_is_lot_of rfl (ja_cons (jv 3) (ja_cons (jv 6) ja_nil))))) (jw_or1 (jt_eq hr (je_len rfl n_len (ja_cons (jv 6) ja_nil)) je_int)))) (js_cons js_bad js_nil) js_nil) (js_cons (js_expr (je_append (jv 4) (ja_cons (je_tupleOf rfl n_tuple (ja_cons (je_sortQ rfl n_sorted (ja_cons (jv 6) ja_nil)) ja_nil)) ja_nil))) js_nil))) (js_cons (js_if (jt_lt (je_lenSet rfl rfl n_len rfl n_set (je_comp2 (own := [("lot", 6), ("key", 7)]) (ws := [6]) (ws1 := [7]) (vs1 := [7]) rfl nd (by simp) (by simp) (by simp) (ji_seq (jv 4)) (blkOk_by (by first | rfl | decide +kernel)) (fun _ _ _ _ _ => (jg_name (i := 6) (by simp) nd rfl (by first | exact .inl rfl | exact .inr rfl))) (fun _ _ _ _ _ => jts_nil) (fun _ _ _ _ _ => (ji_seq (jv 6))) (fun _ _ _ _ _ => (jg_name (i := 7) (by simp) nd rfl (by first | exact .inl rfl | exact .inr rfl))) (fun _ _ _ _ _ => jts_nil) (fun _ _ _ _ _ => (jv 7)))) (jv 3)) (js_cons js_bad js_nil) js_nil) (js_cons (js_fld (jv 0) (jv 3)) (js_cons (js_fld (jv 0) (je_tupleOf rfl n_tuple (ja_cons (je_sortSet hr rfl n_sorted rfl n_set (jv 4)) ja_nil))) js_nil)))))))
theorem ok_Frame___init__  {S_is_lot_of S_is_sequence S_checked_keys : DSp} {S : DSp} {C : Addr} (D : FnM K "__init__" "Frame.__init__" s_Frame___init__ f fd) (m : mg "Frame" = some (.ref C)) (hM : Mk K C f) (F_is_lot_of : Fx P w K mg base k "is_lot_of" s_is_lot_of ps_is_lot_of S_is_lot_of) (F_is_sequence : Fx P w K mg base k "is_sequence" s_is_sequence ps_is_sequence S_is_sequence) (F_checked_keys : Fx P w K mg base k "checked_keys" s_checked_keys ps_checked_keys S_checked_keys) (n_tuple : mg "tuple" = none) (n_sorted : mg "sorted" = none) (n_set : mg "set" = none) (n_len : mg "len" = none) (n_enumerate : mg "enumerate" = none) (len : ∀ ds M Pd X, S ds M Pd X → ds.length = ps_Frame___init__.length)
    (hp : ∀ ds M Pd X, MemOk M → S ds M Pd X → t_Frame___init__ K S_is_lot_of S_is_sequence S_checked_keys (dkOf M.length Pd X) (startD N_Frame___init__ ds) M) : Mx P w K mg base (k + 2) "Frame" "Frame.__init__" C s_Frame___init__ ps_Frame___init__ S :=
  mx_of D m hM sc_Frame___init__ _ len (fun _ _ _ _ _ _ _ hr hgu tk => b_Frame___init__ F_is_lot_of F_is_sequence F_checked_keys n_tuple n_sorted n_set n_len n_enumerate hr hgu tk) hp
def t_is_integer : DS := (dSeq (dRet (dAndV (dCB gIsi (dCons (dVar 0) (dCons (dC (.ty "int")) dNil))) (dNotV (dCB gIsi (dCons (dVar 0) (dCons (dC (.ty "bool")) dNil)))))) dNext)
theorem b_is_integer  {cdv : Value} {A : Around} {outer : List Env} {s : Shared} {H : Hp} {E : XK} {W : WX} (n_isinstance : mg "isinstance" = none) (n_bool : mg "bool" = none) (n_int : mg "int" = none)
    (hr : Room k (CF P w K mg base N_is_integer "is_integer" s_is_integer f cdv A outer s H E).A) (hgu : (CF P w K mg base N_is_integer "is_integer" s_is_integer f cdv A outer s H E).A.guards = some []) (tk : Takes (CF P w K mg base N_is_integer "is_integer" s_is_integer f cdv A outer s H E) W) : JSs (CF P w K mg base N_is_integer "is_integer" s_is_integer f cdv A outer s H E) W (defBody s_is_integer) (t_is_integer ) :=
  have nd : (CF P w K mg base N_is_integer "is_integer" s_is_integer f cdv A outer s H E).N.Nodup := sc_is_integer.nd
  (js_cons (js_ret (je_and (je_isi rfl n_isinstance (ja_cons (jv 0) (ja_cons (je_bty rfl n_int PyProof.Rows.boot_int) ja_nil))) (je_one (je_not (je_isi rfl n_isinstance (ja_cons (jv 0) (ja_cons (je_bty rfl n_bool PyProof.Rows.boot_bool) ja_nil))))))) js_nil)
theorem ok_is_integer  {S : DSp} (D : FnP K "is_integer" s_is_integer f fd) (m : mg "is_integer" = some (.ref f)) (n_isinstance : mg "isinstance" = none) (n_bool : mg "bool" = none) (n_int : mg "int" = none) (len : ∀ ds M Pd X, S ds M Pd X → ds.length = ps_is_integer.length)
    (hp : ∀ ds M Pd X, MemOk M → S ds M Pd X → t_is_integer  (dkOf M.length Pd X) (startD N_is_integer ds) M) : Fx P w K mg base (k + 1) "is_integer" s_is_integer ps_is_integer S :=
  fx_of D m sc_is_integer _ len (fun _ _ _ _ _ _ _ hr hgu tk => b_is_integer n_isinstance n_bool n_int hr hgu tk) hp
def t_is_number (S_is_integer : DSp) : DS := (dSeq (dRet (dAndV (dCall S_is_integer (dCons (dVar 0) dNil)) (dOp gGe (dVar 0) (dC (.int 0))))) dNext)
theorem b_is_number  {S_is_integer : DSp} {cdv : Value} {A : Around} {outer : List Env} {s : Shared} {H : Hp} {E : XK} {W : WX} (F_is_integer : Fx P w K mg base k "is_integer" s_is_integer ps_is_integer S_is_integer)
    (hr : Room k (CF P w K mg base N_is_number "is_number" s_is_number f cdv A outer s H E).A) (hgu : (CF P w K mg base N_is_number "is_number" s_is_number f cdv A outer s H E).A.guards = some []) (tk : Takes (CF P w K mg base N_is_number "is_number" s_is_number f cdv A outer s H E) W) : JSs (CF P w K mg base N_is_number "is_number" s_is_number f cdv A outer s H E) W (defBody s_is_number) (t_is_number S_is_integer) :=
  have nd : (CF P w K mg base N_is_number "is_number" s_is_number f cdv A outer s H E).N.Nodup := sc_is_number.nd
  (js_cons (js_ret (je_and (je_cx F_is_integer hr hgu tk bd_is_integer rfl (ja_cons (jv 0) ja_nil)) (je_one (je_ge (jv 0) je_int)))) js_nil)
theorem ok_is_number  {S_is_integer : DSp} {S : DSp} (D : FnP K "is_number" s_is_number f fd) (m : mg "is_number" = some (.ref f)) (F_is_integer : Fx P w K mg base k "is_integer" s_is_integer ps_is_integer S_is_integer) (len : ∀ ds M Pd X, S ds M Pd X → ds.length = ps_is_number.length)
    (hp : ∀ ds M Pd X, MemOk M → S ds M Pd X → t_is_number S_is_integer (dkOf M.length Pd X) (startD N_is_number ds) M) : Fx P w K mg base (k + 1) "is_number" s_is_number ps_is_number S :=
  fx_of D m sc_is_number _ len (fun _ _ _ _ _ _ _ hr hgu tk => b_is_number F_is_integer hr hgu tk) hp
def t_is_index (S_is_number : DSp) : DS := (dSeq (dRet (dAndV (dCall S_is_number (dCons (dVar 0) dNil)) (dOp gLt (dVar 0) (dVar 1)))) dNext)
theorem b_is_index  {S_is_number : DSp} {cdv : Value} {A : Around} {outer : List Env} {s : Shared} {H : Hp} {E : XK} {W : WX} (F_is_number : Fx P w K mg base k "is_number" s_is_number ps_is_number S_is_number)
    (hr : Room k (CF P w K mg base N_is_index "is_index" s_is_index f cdv A outer s H E).A) (hgu : (CF P w K mg base N_is_index "is_index" s_is_index f cdv A outer s H E).A.guards = some []) (tk : Takes (CF P w K mg base N_is_index "is_index" s_is_index f cdv A outer s H E) W) : JSs (CF P w K mg base N_is_index "is_index" s_is_index f cdv A outer s H E) W (defBody s_is_index) (t_is_index S_is_number) :=
  have nd : (CF P w K mg base N_is_index "is_index" s_is_index f cdv A outer s H E).N.Nodup := sc_is_index.nd
  (js_cons (js_ret (je_and (je_cx F_is_number hr hgu tk bd_is_number rfl (ja_cons (jv 0) ja_nil)) (je_one (je_lt (jv 0) (jv 1))))) js_nil)
theorem ok_is_index  {S_is_number : DSp} {S : DSp} (D : FnP K "is_index" s_is_index f fd) (m : mg "is_index" = some (.ref f)) (F_is_number : Fx P w K mg base k "is_number" s_is_number ps_is_number S_is_number) (len : ∀ ds M Pd X, S ds M Pd X → ds.length = ps_is_index.length)
    (hp : ∀ ds M Pd X, MemOk M → S ds M Pd X → t_is_index S_is_number (dkOf M.length Pd X) (startD N_is_index ds) M) : Fx P w K mg base (k + 1) "is_index" s_is_index ps_is_index S :=
  fx_of D m sc_is_index _ len (fun _ _ _ _ _ _ _ hr hgu tk => b_is_index F_is_number hr hgu tk) hp
def t_is_sequence : DS := (dSeq (dRet (dCB gIsiT (dCons (dVar 0) (dCons (dTup (dCons (dC (.ty "list")) (dCons (dC (.ty "tuple")) dNil))) dNil)))) dNext)
theorem b_is_sequence  {cdv : Value} {A : Around} {outer : List Env} {s : Shared} {H : Hp} {E : XK} {W : WX} (n_isinstance : mg "isinstance" = none) (n_tuple : mg "tuple" = none) (n_list : mg "list" = none)
    (hr : Room k (CF P w K mg base N_is_sequence "is_sequence" s_is_sequence f cdv A outer s H E).A) (hgu : (CF P w K mg base N_is_sequence "is_sequence" s_is_sequence f cdv A outer s H E).A.guards = some []) (tk : Takes (CF P w K mg base N_is_sequence "is_sequence" s_is_sequence f cdv A outer s H E) W) : JSs (CF P w K mg base N_is_sequence "is_sequence" s_is_sequence f cdv A outer s H E) W (defBody s_is_sequence) (t_is_sequence ) :=
  have nd : (CF P w K mg base N_is_sequence "is_sequence" s_is_sequence f cdv A outer s H E).N.Nodup := sc_is_sequence.nd
  (js_cons (js_ret (je_isiT rfl n_isinstance (ja_cons (jv 0) (ja_cons (je_tup (ja_cons (je_bty rfl n_list PyProof.Rows.boot_list) (ja_cons (je_bty rfl n_tuple PyProof.Rows.boot_tuple) ja_nil))) ja_nil)))) js_nil)
theorem ok_is_sequence  {S : DSp} (D : FnP K "is_sequence" s_is_sequence f fd) (m : mg "is_sequence" = some (.ref f)) (n_isinstance : mg "isinstance" = none) (n_tuple : mg "tuple" = none) (n_list : mg "list" = none) (len : ∀ ds M Pd X, S ds M Pd X → ds.length = ps_is_sequence.length)
    (hp : ∀ ds M Pd X, MemOk M → S ds M Pd X → t_is_sequence  (dkOf M.length Pd X) (startD N_is_sequence ds) M) : Fx P w K mg base (k + 1) "is_sequence" s_is_sequence ps_is_sequence S :=
  fx_of D m sc_is_sequence _ len (fun _ _ _ _ _ _ _ hr hgu tk => b_is_sequence n_isinstance n_tuple n_list hr hgu tk) hp
def t_is_lot_of (S_is_index S_is_sequence : DSp) : DS := (dSeq (dIfS (dOr (dNot (dTru (dCall S_is_sequence (dCons (dVar 1) dNil)))) (dNot (dTru (dCB gAll (dCons (dComp (iSeq (dVar 1)) (gN 2) dYes (dCall S_is_index (dCons (dVar 2) (dCons (dVar 0) dNil))) [2]) dNil))))) (dSeq (dRet (dC (.bl false))) dNext) dNext) (dSeq (dRet (dOp gEq (dLenSet (dVar 1)) (dCB gLen (dCons (dVar 1) dNil)))) dNext))
theorem b_is_lot_of  {S_is_index S_is_sequence : DSp} {cdv : Value} {A : Around} {outer : List Env} {s : Shared} {H : Hp} {E : XK} {W : WX} (F_is_index : Fx P w K mg base k "is_index" s_is_index ps_is_index S_is_index) (F_is_sequence : Fx P w K mg base k "is_sequence" s_is_sequence ps_is_sequence S_is_sequence) (n_len : mg "len" = none) (n_set : mg "set" = none) (n_all : mg "all" = none)
    (hr : Room k (CF P w K mg base N_is_lot_of "is_lot_of" s_is_lot_of f cdv A outer s H E).A) (hgu : (CF P w K mg base N_is_lot_of "is_lot_of" s_is_lot_of f cdv A outer s H E).A.guards = some []) (tk : Takes (CF P w K mg base N_is_lot_of "is_lot_of" s_is_lot_of f cdv A outer s H E) W) : JSs (CF P w K mg base N_is_lot_of "is_lot_of" s_is_lot_of f cdv A outer s H E) W (defBody s_is_lot_of) (t_is_lot_of S_is_index S_is_sequence) :=
  have nd : (CF P w K mg base N_is_lot_of "is_lot_of" s_is_lot_of f cdv A outer s H E).N.Nodup := sc_is_lot_of.nd
  (js_cons (js_if (PW.pt (jw_or (jt_not (jt_tru (je_cx F_is_sequence hr hgu tk bd_is_sequence rfl (ja_cons (jv 1) ja_nil)))) (jw_or1 (jt_not (jt_tru (je_all rfl rfl n_all (ja_cons (je_comp (own := [("key", 2)]) (ws := [2]) rfl nd (by simp) (ji_seq (jv 1)) (blkOk_by (by first | rfl | decide +kernel)) (fun _ _ _ _ _ => (jg_name (i := 2) (by simp) nd rfl (by first | exact .inl rfl | exact .inr rfl))) (fun _ _ _ _ _ => jts_nil) (fun _ _ _ _ _ => (je_cx F_is_index hr hgu takes0 bd_is_index rfl (ja_cons (jv 2) (ja_cons (jv 0) ja_nil))))) ja_nil))))))) (js_cons (js_ret je_bl) js_nil) js_nil) (js_cons (js_ret (je_eq hr (je_lenSet rfl rfl n_len rfl n_set (jv 1)) (je_len rfl n_len (ja_cons (jv 1) ja_nil)))) js_nil))
theorem ok_is_lot_of  {S_is_index S_is_sequence : DSp} {S : DSp} (D : FnP K "is_lot_of" s_is_lot_of f fd) (m : mg "is_lot_of" = some (.ref f)) (F_is_index : Fx P w K mg base k "is_index" s_is_index ps_is_index S_is_index) (F_is_sequence : Fx P w K mg base k "is_sequence" s_is_sequence ps_is_sequence S_is_sequence) (n_len : mg "len" = none) (n_set : mg "set" = none) (n_all : mg "all" = none) (len : ∀ ds M Pd X, S ds M Pd X → ds.length = ps_is_lot_of.length)
    (hp : ∀ ds M Pd X, MemOk M → S ds M Pd X → t_is_lot_of S_is_index S_is_sequence (dkOf M.length Pd X) (startD N_is_lot_of ds) M) : Fx P w K mg base (k + 1) "is_lot_of" s_is_lot_of ps_is_lot_of S :=
  fx_of D m sc_is_lot_of _ len (fun _ _ _ _ _ _ _ hr hgu tk => b_is_lot_of F_is_index F_is_sequence n_len n_set n_all hr hgu tk) hp
def t_checked_keys (S_is_number : DSp) : DS := (dSeq (dIfS (dOr (dNot (dTru (dCall S_is_number (dCons (dVar 0) dNil)))) (dTest (dOp gLt (dVar 0) (dC (.int 1))))) (dSeq dBad dNext) dNext) (dSeq (dRet (dVar 0)) dNext))
theorem b_checked_keys  {S_is_number : DSp} {cdv : Value} {A : Around} {outer : List Env} {s : Shared} {H : Hp} {E : XK} {W : WX} (F_is_number : Fx P w K mg base k "is_number" s_is_number ps_is_number S_is_number)
    (hr : Room k (CF P w K mg base N_checked_keys "checked_keys" s_checked_keys f cdv A outer s H E).A) (hgu : (CF P w K mg base N_checked_keys "checked_keys" s_checked_keys f cdv A outer s H E).A.guards = some []) (tk : Takes (CF P w K mg base N_checked_keys "checked_keys" s_checked_keys f cdv A outer s H E) W) : JSs (CF P w K mg base N_checked_keys "checked_keys" s_checked_keys f cdv A outer s H E) W (defBody s_checked_keys) (t_checked_keys S_is_number) :=
  have nd : (CF P w K mg base N_checked_keys "checked_keys" s_checked_keys f cdv A outer s H E).N.Nodup := sc_checked_keys.nd
  (js_cons (js_if (PW.pt (jw_or (jt_not (jt_tru (je_cx F_is_number hr hgu tk bd_is_number rfl (ja_cons (jv 0) ja_nil)))) (jw_or1 (jt_lt (jv 0) je_int)))) (js_cons js_bad js_nil) js_nil) (js_cons (js_ret (jv 0)) js_nil))
theorem ok_checked_keys  {S_is_number : DSp} {S : DSp} (D : FnP K "checked_keys" s_checked_keys f fd) (m : mg "checked_keys" = some (.ref f)) (F_is_number : Fx P w K mg base k "is_number" s_is_number ps_is_number S_is_number) (len : ∀ ds M Pd X, S ds M Pd X → ds.length = ps_checked_keys.length)
    (hp : ∀ ds M Pd X, MemOk M → S ds M Pd X → t_checked_keys S_is_number (dkOf M.length Pd X) (startD N_checked_keys ds) M) : Fx P w K mg base (k + 1) "checked_keys" s_checked_keys ps_checked_keys S :=
  fx_of D m sc_checked_keys _ len (fun _ _ _ _ _ _ _ hr hgu tk => b_checked_keys F_is_number hr hgu tk) hp
def t_common : DS := (dSeq (dRet (dCB gTuple (dCons (dComp (iSeq (dVar 0)) (gN 2) (dTest (dOp (gIn false) (dVar 2) (dVar 1))) (dVar 2) [2]) dNil))) dNext)
theorem b_common  {cdv : Value} {A : Around} {outer : List Env} {s : Shared} {H : Hp} {E : XK} {W : WX} (n_tuple : mg "tuple" = none)
    (hr : Room k (CF P w K mg base N_common "common" s_common f cdv A outer s H E).A) (hgu : (CF P w K mg base N_common "common" s_common f cdv A outer s H E).A.guards = some []) (tk : Takes (CF P w K mg base N_common "common" s_common f cdv A outer s H E) W) : JSs (CF P w K mg base N_common "common" s_common f cdv A outer s H E) W (defBody s_common) (t_common ) :=
  have nd : (CF P w K mg base N_common "common" s_common f cdv A outer s H E).N.Nodup := sc_common.nd
  (js_cons (js_ret (je_tupleOf rfl n_tuple (ja_cons (je_comp (own := [("key", 2)]) (ws := [2]) rfl nd (by simp) (ji_seq (jv 0)) (blkOk_by (by first | rfl | decide +kernel)) (fun _ _ _ _ _ => (jg_name (i := 2) (by simp) nd rfl (by first | exact .inl rfl | exact .inr rfl))) (fun _ _ _ _ _ => (jts_one (jt_in hr (jv 2) (jv 1)))) (fun _ _ _ _ _ => (jv 2))) ja_nil))) js_nil)
theorem ok_common  {S : DSp} (D : FnP K "common" s_common f fd) (m : mg "common" = some (.ref f)) (n_tuple : mg "tuple" = none) (len : ∀ ds M Pd X, S ds M Pd X → ds.length = ps_common.length)
    (hp : ∀ ds M Pd X, MemOk M → S ds M Pd X → t_common  (dkOf M.length Pd X) (startD N_common ds) M) : Fx P w K mg base (k + 1) "common" s_common ps_common S :=
  fx_of D m sc_common _ len (fun _ _ _ _ _ _ _ hr hgu tk => b_common n_tuple hr hgu tk) hp
def t_shared_with : DS := (dSeq (dRet (dCB gTuple (dCons (dComp (iSeq (dVar 0)) (gN 2) (dTru (dCB gAny (dCons (dComp (iSeq (dVar 1)) (gN 3) dYes (dOp (gIn false) (dVar 2) (dVar 3)) [3]) dNil))) (dVar 2) [2]) dNil))) dNext)
theorem b_shared_with  {cdv : Value} {A : Around} {outer : List Env} {s : Shared} {H : Hp} {E : XK} {W : WX} (n_tuple : mg "tuple" = none) (n_any : mg "any" = none)
    (hr : Room k (CF P w K mg base N_shared_with "shared_with" s_shared_with f cdv A outer s H E).A) (hgu : (CF P w K mg base N_shared_with "shared_with" s_shared_with f cdv A outer s H E).A.guards = some []) (tk : Takes (CF P w K mg base N_shared_with "shared_with" s_shared_with f cdv A outer s H E) W) : JSs (CF P w K mg base N_shared_with "shared_with" s_shared_with f cdv A outer s H E) W (defBody s_shared_with) (t_shared_with ) :=
  have nd : (CF P w K mg base N_shared_with "shared_with" s_shared_with f cdv A outer s H E).N.Nodup := sc_shared_with.nd
  (js_cons (js_ret (je_tupleOf rfl n_tuple (ja_cons (je_comp (own := [("key", 2)]) (ws := [2]) rfl nd (by simp) (ji_seq (jv 0)) (blkOk_by (by first | rfl | decide +kernel)) (fun _ _ _ _ _ => (jg_name (i := 2) (by simp) nd rfl (by first | exact .inl rfl | exact .inr rfl))) (fun _ _ _ _ _ => (jts_one (jt_tru (je_any rfl rfl n_any (ja_cons (je_comp (own := [("other", 3)]) (ws := [3]) rfl nd (by simp) (ji_seq (jv 1)) (blkOk_by (by first | rfl | decide +kernel)) (fun _ _ _ _ _ => (jg_name (i := 3) (by simp) nd rfl (by first | exact .inl rfl | exact .inr rfl))) (fun _ _ _ _ _ => jts_nil) (fun _ _ _ _ _ => (je_in hr (jv 2) (jv 3)))) ja_nil))))) (fun _ _ _ _ _ => (jv 2))) ja_nil))) js_nil)
theorem ok_shared_with  {S : DSp} (D : FnP K "shared_with" s_shared_with f fd) (m : mg "shared_with" = some (.ref f)) (n_tuple : mg "tuple" = none) (n_any : mg "any" = none) (len : ∀ ds M Pd X, S ds M Pd X → ds.length = ps_shared_with.length)
    (hp : ∀ ds M Pd X, MemOk M → S ds M Pd X → t_shared_with  (dkOf M.length Pd X) (startD N_shared_with ds) M) : Fx P w K mg base (k + 1) "shared_with" s_shared_with ps_shared_with S :=
  fx_of D m sc_shared_with _ len (fun _ _ _ _ _ _ _ hr hgu tk => b_shared_with n_tuple n_any hr hgu tk) hp
def t_is_holder (S_common S_shared_with : DSp) : DS := (dSeq (dSet 3 (dCall S_shared_with (dCons (dVar 0) (dCons (dVar 2) dNil)))) (dSeq (dRet (dOp gEq (dCall S_common (dCons (dVar 3) (dCons (dVar 1) dNil))) (dVar 3))) dNext))
theorem b_is_holder  {S_common S_shared_with : DSp} {cdv : Value} {A : Around} {outer : List Env} {s : Shared} {H : Hp} {E : XK} {W : WX} (F_common : Fx P w K mg base k "common" s_common ps_common S_common) (F_shared_with : Fx P w K mg base k "shared_with" s_shared_with ps_shared_with S_shared_with)
    (hr : Room k (CF P w K mg base N_is_holder "is_holder" s_is_holder f cdv A outer s H E).A) (hgu : (CF P w K mg base N_is_holder "is_holder" s_is_holder f cdv A outer s H E).A.guards = some []) (tk : Takes (CF P w K mg base N_is_holder "is_holder" s_is_holder f cdv A outer s H E) W) : JSs (CF P w K mg base N_is_holder "is_holder" s_is_holder f cdv A outer s H E) W (defBody s_is_holder) (t_is_holder S_common S_shared_with) :=
  have nd : (CF P w K mg base N_is_holder "is_holder" s_is_holder f cdv A outer s H E).N.Nodup := sc_is_holder.nd
  (js_cons (js_set (i := 3) nd rfl (by first | exact .inl rfl | exact .inr rfl) (je_cx F_shared_with hr hgu tk bd_shared_with rfl (ja_cons (jv 0) (ja_cons (jv 2) ja_nil)))) (js_cons (js_ret (je_eq hr (je_cx F_common hr hgu tk bd_common rfl (ja_cons (jv 3) (ja_cons (jv 1) ja_nil))) (jv 3))) js_nil))
theorem ok_is_holder  {S_common S_shared_with : DSp} {S : DSp} (D : FnP K "is_holder" s_is_holder f fd) (m : mg "is_holder" = some (.ref f)) (F_common : Fx P w K mg base k "common" s_common ps_common S_common) (F_shared_with : Fx P w K mg base k "shared_with" s_shared_with ps_shared_with S_shared_with) (len : ∀ ds M Pd X, S ds M Pd X → ds.length = ps_is_holder.length)
    (hp : ∀ ds M Pd X, MemOk M → S ds M Pd X → t_is_holder S_common S_shared_with (dkOf M.length Pd X) (startD N_is_holder ds) M) : Fx P w K mg base (k + 1) "is_holder" s_is_holder ps_is_holder S :=
  fx_of D m sc_is_holder _ len (fun _ _ _ _ _ _ _ hr hgu tk => b_is_holder F_common F_shared_with hr hgu tk) hp
def t_others_than : DS := (dSeq (dRet (dComp (iSeq (dVar 0)) (gN 2) (dTest (dOp gNe (dVar 2) (dVar 1))) (dVar 2) [2])) dNext)
theorem b_others_than  {cdv : Value} {A : Around} {outer : List Env} {s : Shared} {H : Hp} {E : XK} {W : WX}
    (hr : Room k (CF P w K mg base N_others_than "others_than" s_others_than f cdv A outer s H E).A) (hgu : (CF P w K mg base N_others_than "others_than" s_others_than f cdv A outer s H E).A.guards = some []) (tk : Takes (CF P w K mg base N_others_than "others_than" s_others_than f cdv A outer s H E) W) : JSs (CF P w K mg base N_others_than "others_than" s_others_than f cdv A outer s H E) W (defBody s_others_than) (t_others_than ) :=
  have nd : (CF P w K mg base N_others_than "others_than" s_others_than f cdv A outer s H E).N.Nodup := sc_others_than.nd
  (js_cons (js_ret (je_comp (own := [("other", 2)]) (ws := [2]) rfl nd (by simp) (ji_seq (jv 0)) (blkOk_by (by first | rfl | decide +kernel)) (fun _ _ _ _ _ => (jg_name (i := 2) (by simp) nd rfl (by first | exact .inl rfl | exact .inr rfl))) (fun _ _ _ _ _ => (jts_one (jt_ne hr (jv 2) (jv 1)))) (fun _ _ _ _ _ => (jv 2)))) js_nil)
theorem ok_others_than  {S : DSp} (D : FnP K "others_than" s_others_than f fd) (m : mg "others_than" = some (.ref f)) (len : ∀ ds M Pd X, S ds M Pd X → ds.length = ps_others_than.length)
    (hp : ∀ ds M Pd X, MemOk M → S ds M Pd X → t_others_than  (dkOf M.length Pd X) (startD N_others_than ds) M) : Fx P w K mg base (k + 1) "others_than" s_others_than ps_others_than S :=
  fx_of D m sc_others_than _ len (fun _ _ _ _ _ _ _ hr hgu tk => b_others_than hr hgu tk) hp
def t_first_holder (S_is_holder : DSp) : DS := (dSeq (dSet 2 (dComp (iSeq (dVar 1)) (gN 3) (dTru (dCall S_is_holder (dCons (dVar 0) (dCons (dVar 3) (dCons (dVar 1) dNil))))) (dVar 3) [3])) (dSeq (dRet (dIf (dTest (dOp gGt (dCB gLen (dCons (dVar 2) dNil)) (dC (.int 0)))) (dOp gIx (dVar 2) (dC (.int 0))) (dC .non))) dNext))
theorem b_first_holder  {S_is_holder : DSp} {cdv : Value} {A : Around} {outer : List Env} {s : Shared} {H : Hp} {E : XK} {W : WX} (F_is_holder : Fx P w K mg base k "is_holder" s_is_holder ps_is_holder S_is_holder) (n_len : mg "len" = none)
    (hr : Room k (CF P w K mg base N_first_holder "first_holder" s_first_holder f cdv A outer s H E).A) (hgu : (CF P w K mg base N_first_holder "first_holder" s_first_holder f cdv A outer s H E).A.guards = some []) (tk : Takes (CF P w K mg base N_first_holder "first_holder" s_first_holder f cdv A outer s H E) W) : JSs (CF P w K mg base N_first_holder "first_holder" s_first_holder f cdv A outer s H E) W (defBody s_first_holder) (t_first_holder S_is_holder) :=
  have nd : (CF P w K mg base N_first_holder "first_holder" s_first_holder f cdv A outer s H E).N.Nodup := sc_first_holder.nd
  (js_cons (js_comp (i := 2) (own := [("other", 3)]) (ws := [3]) rfl nd (by simp) (ji_seq (jv 1)) (blkOk_by (by first | rfl | decide +kernel)) (fun _ _ _ _ _ => (jg_name (i := 3) (by simp) nd rfl (by first | exact .inl rfl | exact .inr rfl))) (fun _ _ _ _ _ => (jts_one (jt_tru (je_cx F_is_holder hr hgu takes0 bd_is_holder rfl (ja_cons (jv 0) (ja_cons (jv 3) (ja_cons (jv 1) ja_nil))))))) (fun _ _ _ _ _ => (jv 3)) rfl rfl rfl) (js_cons (js_ret (je_if (jt_gt (je_len rfl n_len (ja_cons (jv 2) ja_nil)) je_int) (je_at (jv 2) je_int) je_non)) js_nil))
theorem ok_first_holder  {S_is_holder : DSp} {S : DSp} (D : FnP K "first_holder" s_first_holder f fd) (m : mg "first_holder" = some (.ref f)) (F_is_holder : Fx P w K mg base k "is_holder" s_is_holder ps_is_holder S_is_holder) (n_len : mg "len" = none) (len : ∀ ds M Pd X, S ds M Pd X → ds.length = ps_first_holder.length)
    (hp : ∀ ds M Pd X, MemOk M → S ds M Pd X → t_first_holder S_is_holder (dkOf M.length Pd X) (startD N_first_holder ds) M) : Fx P w K mg base (k + 1) "first_holder" s_first_holder ps_first_holder S :=
  fx_of D m sc_first_holder _ len (fun _ _ _ _ _ _ _ hr hgu tk => b_first_holder F_is_holder n_len hr hgu tk) hp
def t_ears_of (S_first_holder S_others_than : DSp) : DS := (dSeq (dRet (dComp (iSeq (dVar 0)) (gN 1) (dTest (dOp (gIs true) (dCall S_first_holder (dCons (dVar 1) (dCons (dCall S_others_than (dCons (dVar 0) (dCons (dVar 1) dNil))) dNil))) (dC .non))) (dVar 1) [1])) dNext)
theorem b_ears_of  {S_first_holder S_others_than : DSp} {cdv : Value} {A : Around} {outer : List Env} {s : Shared} {H : Hp} {E : XK} {W : WX} (F_first_holder : Fx P w K mg base k "first_holder" s_first_holder ps_first_holder S_first_holder) (F_others_than : Fx P w K mg base k "others_than" s_others_than ps_others_than S_others_than)
    (hr : Room k (CF P w K mg base N_ears_of "ears_of" s_ears_of f cdv A outer s H E).A) (hgu : (CF P w K mg base N_ears_of "ears_of" s_ears_of f cdv A outer s H E).A.guards = some []) (tk : Takes (CF P w K mg base N_ears_of "ears_of" s_ears_of f cdv A outer s H E) W) : JSs (CF P w K mg base N_ears_of "ears_of" s_ears_of f cdv A outer s H E) W (defBody s_ears_of) (t_ears_of S_first_holder S_others_than) :=
  have nd : (CF P w K mg base N_ears_of "ears_of" s_ears_of f cdv A outer s H E).N.Nodup := sc_ears_of.nd
  (js_cons (js_ret (je_comp (own := [("lot", 1)]) (ws := [1]) rfl nd (by simp) (ji_seq (jv 0)) (blkOk_by (by first | rfl | decide +kernel)) (fun _ _ _ _ _ => (jg_name (i := 1) (by simp) nd rfl (by first | exact .inl rfl | exact .inr rfl))) (fun _ _ _ _ _ => (jts_one (jt_isNot (je_cx F_first_holder hr hgu takes0 bd_first_holder rfl (ja_cons (jv 1) (ja_cons (je_cx F_others_than hr hgu takes0 bd_others_than rfl (ja_cons (jv 0) (ja_cons (jv 1) ja_nil))) ja_nil))) je_non))) (fun _ _ _ _ _ => (jv 1)))) js_nil)
theorem ok_ears_of  {S_first_holder S_others_than : DSp} {S : DSp} (D : FnP K "ears_of" s_ears_of f fd) (m : mg "ears_of" = some (.ref f)) (F_first_holder : Fx P w K mg base k "first_holder" s_first_holder ps_first_holder S_first_holder) (F_others_than : Fx P w K mg base k "others_than" s_others_than ps_others_than S_others_than) (len : ∀ ds M Pd X, S ds M Pd X → ds.length = ps_ears_of.length)
    (hp : ∀ ds M Pd X, MemOk M → S ds M Pd X → t_ears_of S_first_holder S_others_than (dkOf M.length Pd X) (startD N_ears_of ds) M) : Fx P w K mg base (k + 1) "ears_of" s_ears_of ps_ears_of S :=
  fx_of D m sc_ears_of _ len (fun _ _ _ _ _ _ _ hr hgu tk => b_ears_of F_first_holder F_others_than hr hgu tk) hp
def t_ears (K : PySem.W.Frag) (S_ears_of : DSp) : DS := (dSeq (dRet (dCB gTuple (dCons (dCall S_ears_of (dCons (dFld K "lots" (dVar 0)) dNil)) dNil))) dNext)
theorem b_ears  {S_ears_of : DSp} {cdv : Value} {A : Around} {outer : List Env} {s : Shared} {H : Hp} {E : XK} {W : WX} (F_ears_of : Fx P w K mg base k "ears_of" s_ears_of ps_ears_of S_ears_of) (n_tuple : mg "tuple" = none)
    (hr : Room k (CF P w K mg base N_ears "ears" s_ears f cdv A outer s H E).A) (hgu : (CF P w K mg base N_ears "ears" s_ears f cdv A outer s H E).A.guards = some []) (tk : Takes (CF P w K mg base N_ears "ears" s_ears f cdv A outer s H E) W) : JSs (CF P w K mg base N_ears "ears" s_ears f cdv A outer s H E) W (defBody s_ears) (t_ears K S_ears_of) :=
  have nd : (CF P w K mg base N_ears "ears" s_ears f cdv A outer s H E).N.Nodup := sc_ears.nd
  (js_cons (js_ret (je_tupleOf rfl n_tuple (ja_cons (je_cx F_ears_of hr hgu tk bd_ears_of rfl (ja_cons (je_fld (jv 0)) ja_nil)) ja_nil))) js_nil)
theorem ok_ears  {S_ears_of : DSp} {S : DSp} (D : FnP K "ears" s_ears f fd) (m : mg "ears" = some (.ref f)) (F_ears_of : Fx P w K mg base k "ears_of" s_ears_of ps_ears_of S_ears_of) (n_tuple : mg "tuple" = none) (len : ∀ ds M Pd X, S ds M Pd X → ds.length = ps_ears.length)
    (hp : ∀ ds M Pd X, MemOk M → S ds M Pd X → t_ears K S_ears_of (dkOf M.length Pd X) (startD N_ears ds) M) : Fx P w K mg base (k + 1) "ears" s_ears ps_ears S :=
  fx_of D m sc_ears _ len (fun _ _ _ _ _ _ _ hr hgu tk => b_ears F_ears_of n_tuple hr hgu tk) hp
def t_folding (K : PySem.W.Frag) (S_first_holder S_others_than S_ears_of : DSp) : DS := (dSeq (dPar 1 2 (dCons (dCB gList (dCons (dFld K "lots" (dVar 0)) dNil)) (dCons (dLstM dNil) dNil))) (dSeq (dWhile (dTest (dOp gGt (dCB gLen (dCons (dVar 1) dNil)) (dC (.int 1)))) (dSeq (dSet 3 (dCall S_ears_of (dCons (dVar 1) dNil))) (dSeq (dIfS (dTest (dOp gEq (dCB gLen (dCons (dVar 3) dNil)) (dC (.int 0)))) (dSeq (dRet (dC .non)) dNext) dNext) (dSeq (dSet 4 (dOp gIx (dVar 3) (dC (.int 0)))) (dSeq (dSet 1 (dCall S_others_than (dCons (dVar 1) (dCons (dVar 4) dNil)))) (dSeq (dDrop (dAppend (dVar 2) (dCons (dTup (dCons (dVar 4) (dCons (dCall S_first_holder (dCons (dVar 4) (dCons (dVar 1) dNil))) dNil))) dNil))) dNext)))))) (dSeq (dRet (dCB gTuple (dCons (dVar 2) dNil))) dNext)))
theorem b_folding  {S_first_holder S_others_than S_ears_of : DSp} {cdv : Value} {A : Around} {outer : List Env} {s : Shared} {H : Hp} {E : XK} {W : WX} (F_first_holder : Fx P w K mg base k "first_holder" s_first_holder ps_first_holder S_first_holder) (F_others_than : Fx P w K mg base k "others_than" s_others_than ps_others_than S_others_than) (F_ears_of : Fx P w K mg base k "ears_of" s_ears_of ps_ears_of S_ears_of) (n_tuple : mg "tuple" = none) (n_len : mg "len" = none) (n_list : mg "list" = none)
    (hr : Room k (CF P w K mg base N_folding "folding" s_folding f cdv A outer s H E).A) (hgu : (CF P w K mg base N_folding "folding" s_folding f cdv A outer s H E).A.guards = some []) (tk : Takes (CF P w K mg base N_folding "folding" s_folding f cdv A outer s H E) W) : JSs (CF P w K mg base N_folding "folding" s_folding f cdv A outer s H E) W (defBody s_folding) (t_folding K S_first_holder S_others_than S_ears_of) :=
  have nd : (CF P w K mg base N_folding "folding" s_folding f cdv A outer s H E).N.Nodup := sc_folding.nd
  (js_cons (js_par (i := 1) (j := 2) rfl nd rfl rfl (by decide) rfl rfl (ja_cons (je_listOf rfl n_list (ja_cons (je_fld (jv 0)) ja_nil)) (ja_cons (je_lstM ja_nil) ja_nil)) rfl) (js_cons (js_while (passes_of rfl) (jt_gt (je_len rfl n_len (ja_cons (jv 1) ja_nil)) je_int) (js_cons (js_set (i := 3) nd rfl (by first | exact .inl rfl | exact .inr rfl) (je_cx F_ears_of hr hgu tk bd_ears_of rfl (ja_cons (jv 1) ja_nil))) (js_cons (js_if (jt_eq hr (je_len rfl n_len (ja_cons (jv 3) ja_nil)) je_int) (js_cons (js_ret je_non) js_nil) js_nil) (js_cons (js_set (i := 4) nd rfl (by first | exact .inl rfl | exact .inr rfl) (je_at (jv 3) je_int)) (js_cons (js_set (i := 1) nd rfl (by first | exact .inl rfl | exact .inr rfl) (je_cx F_others_than hr hgu tk bd_others_than rfl (ja_cons (jv 1) (ja_cons (jv 4) ja_nil)))) (js_cons (js_expr (je_append (jv 2) (ja_cons (je_tup (ja_cons (jv 4) (ja_cons (je_cx F_first_holder hr hgu tk bd_first_holder rfl (ja_cons (jv 4) (ja_cons (jv 1) ja_nil))) ja_nil))) ja_nil))) js_nil)))))) (js_cons (js_ret (je_tupleOf rfl n_tuple (ja_cons (jv 2) ja_nil))) js_nil)))
theorem ok_folding  {S_first_holder S_others_than S_ears_of : DSp} {S : DSp} (D : FnP K "folding" s_folding f fd) (m : mg "folding" = some (.ref f)) (F_first_holder : Fx P w K mg base k "first_holder" s_first_holder ps_first_holder S_first_holder) (F_others_than : Fx P w K mg base k "others_than" s_others_than ps_others_than S_others_than) (F_ears_of : Fx P w K mg base k "ears_of" s_ears_of ps_ears_of S_ears_of) (n_tuple : mg "tuple" = none) (n_len : mg "len" = none) (n_list : mg "list" = none) (len : ∀ ds M Pd X, S ds M Pd X → ds.length = ps_folding.length)
    (hp : ∀ ds M Pd X, MemOk M → S ds M Pd X → t_folding K S_first_holder S_others_than S_ears_of (dkOf M.length Pd X) (startD N_folding ds) M) : Fx P w K mg base (k + 1) "folding" s_folding ps_folding S :=
  fx_of D m sc_folding _ len (fun _ _ _ _ _ _ _ hr hgu tk => b_folding F_first_holder F_others_than F_ears_of n_tuple n_len n_list hr hgu tk) hp
def t_is_one_of (S_is_integer : DSp) : DS := (dSeq (dRet (dAndV (dCB gIsi (dCons (dVar 1) (dCons (dC (.ty "tuple")) dNil))) (dAndV (dCB gAll (dCons (dComp (iSeq (dVar 1)) (gN 2) dYes (dCall S_is_integer (dCons (dVar 2) dNil)) [2]) dNil)) (dOp (gIn false) (dVar 1) (dVar 0))))) dNext)
theorem b_is_one_of  {S_is_integer : DSp} {cdv : Value} {A : Around} {outer : List Env} {s : Shared} {H : Hp} {E : XK} {W : WX} (F_is_integer : Fx P w K mg base k "is_integer" s_is_integer ps_is_integer S_is_integer) (n_all : mg "all" = none) (n_isinstance : mg "isinstance" = none) (n_tuple : mg "tuple" = none)
    (hr : Room k (CF P w K mg base N_is_one_of "is_one_of" s_is_one_of f cdv A outer s H E).A) (hgu : (CF P w K mg base N_is_one_of "is_one_of" s_is_one_of f cdv A outer s H E).A.guards = some []) (tk : Takes (CF P w K mg base N_is_one_of "is_one_of" s_is_one_of f cdv A outer s H E) W) : JSs (CF P w K mg base N_is_one_of "is_one_of" s_is_one_of f cdv A outer s H E) W (defBody s_is_one_of) (t_is_one_of S_is_integer) :=
  have nd : (CF P w K mg base N_is_one_of "is_one_of" s_is_one_of f cdv A outer s H E).N.Nodup := sc_is_one_of.nd
  (js_cons (js_ret (je_and (je_isi rfl n_isinstance (ja_cons (jv 1) (ja_cons (je_bty rfl n_tuple PyProof.Rows.boot_tuple) ja_nil))) (je_and (je_all rfl rfl n_all (ja_cons (je_comp (own := [("key", 2)]) (ws := [2]) rfl nd (by simp) (ji_seq (jv 1)) (blkOk_by (by first | rfl | decide +kernel)) (fun _ _ _ _ _ => (jg_name (i := 2) (by simp) nd rfl (by first | exact .inl rfl | exact .inr rfl))) (fun _ _ _ _ _ => jts_nil) (fun _ _ _ _ _ => (je_cx F_is_integer hr hgu takes0 bd_is_integer rfl (ja_cons (jv 2) ja_nil)))) ja_nil)) (je_one (je_in hr (jv 1) (jv 0)))))) js_nil)
theorem ok_is_one_of  {S_is_integer : DSp} {S : DSp} (D : FnP K "is_one_of" s_is_one_of f fd) (m : mg "is_one_of" = some (.ref f)) (F_is_integer : Fx P w K mg base k "is_integer" s_is_integer ps_is_integer S_is_integer) (n_all : mg "all" = none) (n_isinstance : mg "isinstance" = none) (n_tuple : mg "tuple" = none) (len : ∀ ds M Pd X, S ds M Pd X → ds.length = ps_is_one_of.length)
    (hp : ∀ ds M Pd X, MemOk M → S ds M Pd X → t_is_one_of S_is_integer (dkOf M.length Pd X) (startD N_is_one_of ds) M) : Fx P w K mg base (k + 1) "is_one_of" s_is_one_of ps_is_one_of S :=
  fx_of D m sc_is_one_of _ len (fun _ _ _ _ _ _ _ hr hgu tk => b_is_one_of F_is_integer n_all n_isinstance n_tuple hr hgu tk) hp
def t_is_pair_of (S_is_one_of : DSp) : DS := (dSeq (dRet (dAndV (dCB gIsi (dCons (dVar 1) (dCons (dC (.ty "tuple")) dNil))) (dAndV (dOp gEq (dCB gLen (dCons (dVar 1) dNil)) (dC (.int 2))) (dCB gAll (dCons (dComp (iSeq (dVar 1)) (gN 2) dYes (dCall S_is_one_of (dCons (dVar 0) (dCons (dVar 2) dNil))) [2]) dNil))))) dNext)
theorem b_is_pair_of  {S_is_one_of : DSp} {cdv : Value} {A : Around} {outer : List Env} {s : Shared} {H : Hp} {E : XK} {W : WX} (F_is_one_of : Fx P w K mg base k "is_one_of" s_is_one_of ps_is_one_of S_is_one_of) (n_all : mg "all" = none) (n_len : mg "len" = none) (n_isinstance : mg "isinstance" = none) (n_tuple : mg "tuple" = none)
    (hr : Room k (CF P w K mg base N_is_pair_of "is_pair_of" s_is_pair_of f cdv A outer s H E).A) (hgu : (CF P w K mg base N_is_pair_of "is_pair_of" s_is_pair_of f cdv A outer s H E).A.guards = some []) (tk : Takes (CF P w K mg base N_is_pair_of "is_pair_of" s_is_pair_of f cdv A outer s H E) W) : JSs (CF P w K mg base N_is_pair_of "is_pair_of" s_is_pair_of f cdv A outer s H E) W (defBody s_is_pair_of) (t_is_pair_of S_is_one_of) :=
  have nd : (CF P w K mg base N_is_pair_of "is_pair_of" s_is_pair_of f cdv A outer s H E).N.Nodup := sc_is_pair_of.nd
  (js_cons (js_ret (je_and (je_isi rfl n_isinstance (ja_cons (jv 1) (ja_cons (je_bty rfl n_tuple PyProof.Rows.boot_tuple) ja_nil))) (je_and (je_eq hr (je_len rfl n_len (ja_cons (jv 1) ja_nil)) je_int) (je_one (je_all rfl rfl n_all (ja_cons (je_comp (own := [("lot", 2)]) (ws := [2]) rfl nd (by simp) (ji_seq (jv 1)) (blkOk_by (by first | rfl | decide +kernel)) (fun _ _ _ _ _ => (jg_name (i := 2) (by simp) nd rfl (by first | exact .inl rfl | exact .inr rfl))) (fun _ _ _ _ _ => jts_nil) (fun _ _ _ _ _ => (je_cx F_is_one_of hr hgu takes0 bd_is_one_of rfl (ja_cons (jv 0) (ja_cons (jv 2) ja_nil))))) ja_nil)))))) js_nil)
theorem ok_is_pair_of  {S_is_one_of : DSp} {S : DSp} (D : FnP K "is_pair_of" s_is_pair_of f fd) (m : mg "is_pair_of" = some (.ref f)) (F_is_one_of : Fx P w K mg base k "is_one_of" s_is_one_of ps_is_one_of S_is_one_of) (n_all : mg "all" = none) (n_len : mg "len" = none) (n_isinstance : mg "isinstance" = none) (n_tuple : mg "tuple" = none) (len : ∀ ds M Pd X, S ds M Pd X → ds.length = ps_is_pair_of.length)
    (hp : ∀ ds M Pd X, MemOk M → S ds M Pd X → t_is_pair_of S_is_one_of (dkOf M.length Pd X) (startD N_is_pair_of ds) M) : Fx P w K mg base (k + 1) "is_pair_of" s_is_pair_of ps_is_pair_of S :=
  fx_of D m sc_is_pair_of _ len (fun _ _ _ _ _ _ _ hr hgu tk => b_is_pair_of F_is_one_of n_all n_len n_isinstance n_tuple hr hgu tk) hp
def t_is_folding (K : PySem.W.Frag) (S_is_holder S_others_than S_is_pair_of : DSp) : DS := (dSeq (dIfS (dOr (dNot (dTru (dCB gIsi (dCons (dVar 1) (dCons (dC (.ty "tuple")) dNil))))) (dTest (dOp gNe (dCB gLen (dCons (dVar 1) dNil)) (dOp gSub' (dCB gLen (dCons (dFld K "lots" (dVar 0)) dNil)) (dC (.int 1)))))) (dSeq (dRet (dC (.bl false))) dNext) dNext) (dSeq (dSet 2 (dCB gList (dCons (dFld K "lots" (dVar 0)) dNil))) (dSeq (dFor (iSeq (dVar 1)) (gN 3) (dSeq (dIfS (dOr (dNot (dTru (dCall S_is_pair_of (dCons (dVar 2) (dCons (dVar 3) dNil))))) (dTest (dOp gEq (dOp gIx (dVar 3) (dC (.int 0))) (dOp gIx (dVar 3) (dC (.int 1)))))) (dSeq (dRet (dC (.bl false))) dNext) dNext) (dSeq (dSet 2 (dCall S_others_than (dCons (dVar 2) (dCons (dOp gIx (dVar 3) (dC (.int 0))) dNil)))) (dSeq (dIfS (dNot (dTru (dCall S_is_holder (dCons (dOp gIx (dVar 3) (dC (.int 0))) (dCons (dOp gIx (dVar 3) (dC (.int 1))) (dCons (dVar 2) dNil)))))) (dSeq (dRet (dC (.bl false))) dNext) dNext) dNext)))) (dSeq (dRet (dC (.bl true))) dNext))))
theorem b_is_folding  {S_is_holder S_others_than S_is_pair_of : DSp} {cdv : Value} {A : Around} {outer : List Env} {s : Shared} {H : Hp} {E : XK} {W : WX} (F_is_holder : Fx P w K mg base k "is_holder" s_is_holder ps_is_holder S_is_holder) (F_others_than : Fx P w K mg base k "others_than" s_others_than ps_others_than S_others_than) (F_is_pair_of : Fx P w K mg base k "is_pair_of" s_is_pair_of ps_is_pair_of S_is_pair_of) (n_list : mg "list" = none) (n_len : mg "len" = none) (n_isinstance : mg "isinstance" = none) (n_tuple : mg "tuple" = none)
    (hr : Room k (CF P w K mg base N_is_folding "is_folding" s_is_folding f cdv A outer s H E).A) (hgu : (CF P w K mg base N_is_folding "is_folding" s_is_folding f cdv A outer s H E).A.guards = some []) (tk : Takes (CF P w K mg base N_is_folding "is_folding" s_is_folding f cdv A outer s H E) W) : JSs (CF P w K mg base N_is_folding "is_folding" s_is_folding f cdv A outer s H E) W (defBody s_is_folding) (t_is_folding K S_is_holder S_others_than S_is_pair_of) :=
  have nd : (CF P w K mg base N_is_folding "is_folding" s_is_folding f cdv A outer s H E).N.Nodup := sc_is_folding.nd
  (js_cons (js_if (PW.pt (jw_or (jt_not (jt_tru (je_isi rfl n_isinstance (ja_cons (jv 1) (ja_cons (je_bty rfl n_tuple PyProof.Rows.boot_tuple) ja_nil))))) (jw_or1 (jt_ne hr (je_len rfl n_len (ja_cons (jv 1) ja_nil)) (je_sub (je_len rfl n_len (ja_cons (je_fld (jv 0)) ja_nil)) je_int))))) (js_cons (js_ret je_bl) js_nil) js_nil) (js_cons (js_set (i := 2) nd rfl (by first | exact .inl rfl | exact .inr rfl) (je_listOf rfl n_list (ja_cons (je_fld (jv 0)) ja_nil))) (js_cons (js_for (ws := [3]) (passes_of rfl) rfl (ji_seq (jv 1)) (jg_name (i := 3) (by simp) nd rfl (by first | exact .inl rfl | exact .inr rfl)) (js_cons (js_if (PW.pt (jw_or (jt_not (jt_tru (je_cx F_is_pair_of hr hgu tk bd_is_pair_of rfl (ja_cons (jv 2) (ja_cons (jv 3) ja_nil))))) (jw_or1 (jt_eq hr (je_at (jv 3) je_int) (je_at (jv 3) je_int))))) (js_cons (js_ret je_bl) js_nil) js_nil) (js_cons (js_set (i := 2) nd rfl (by first | exact .inl rfl | exact .inr rfl) (je_cx F_others_than hr hgu tk bd_others_than rfl (ja_cons (jv 2) (ja_cons (je_at (jv 3) je_int) ja_nil)))) (js_cons (js_if (jt_not (jt_tru (je_cx F_is_holder hr hgu tk bd_is_holder rfl (ja_cons (je_at (jv 3) je_int) (ja_cons (je_at (jv 3) je_int) (ja_cons (jv 2) ja_nil)))))) (js_cons (js_ret je_bl) js_nil) js_nil) js_nil)))) (js_cons (js_ret je_bl) js_nil))))
theorem ok_is_folding  {S_is_holder S_others_than S_is_pair_of : DSp} {S : DSp} (D : FnP K "is_folding" s_is_folding f fd) (m : mg "is_folding" = some (.ref f)) (F_is_holder : Fx P w K mg base k "is_holder" s_is_holder ps_is_holder S_is_holder) (F_others_than : Fx P w K mg base k "others_than" s_others_than ps_others_than S_others_than) (F_is_pair_of : Fx P w K mg base k "is_pair_of" s_is_pair_of ps_is_pair_of S_is_pair_of) (n_list : mg "list" = none) (n_len : mg "len" = none) (n_isinstance : mg "isinstance" = none) (n_tuple : mg "tuple" = none) (len : ∀ ds M Pd X, S ds M Pd X → ds.length = ps_is_folding.length)
    (hp : ∀ ds M Pd X, MemOk M → S ds M Pd X → t_is_folding K S_is_holder S_others_than S_is_pair_of (dkOf M.length Pd X) (startD N_is_folding ds) M) : Fx P w K mg base (k + 1) "is_folding" s_is_folding ps_is_folding S :=
  fx_of D m sc_is_folding _ len (fun _ _ _ _ _ _ _ hr hgu tk => b_is_folding F_is_holder F_others_than F_is_pair_of n_list n_len n_isinstance n_tuple hr hgu tk) hp
def t__law_draw (K : PySem.W.Frag) : DS := (dSeq (dSet 2 (dComp (iSeq (dSlS K (dVar 0) dNoP (dPart (dC (.int 48))))) (gN 4) dYes (dCB gAbs (dCons (dCB gInt (dCons (dVar 4) dNil)) dNil)) [4])) (dSeq (dSet 3 (dOp gAdd (dC (.int 7919)) (dOp gMul (dC (.int 104729)) (dVar 1)))) (dSeq (dFor (iSeq (dVar 2)) (gN 4) (dSeq (dSet 3 (dOp gMod (dCB gInt (dCons (dOp gAdd (dOp gAdd (dOp gMul (dVar 3) (dC (.int 48271))) (dOp gMod (dVar 4) (dC (.int 2147483549)))) (dC (.int 11))) dNil)) (dC (.int 2147483647)))) dNext)) (dSeq (dRet (dLstM (dCons (dRevM (dComp (iSeq (dVar 2)) (gN 4) (dTest (dOp gGe (dVar 4) (dOp gPow (dC (.int 10)) (dC (.int 18))))) (dVar 4) [4])) (dCons (dVar 3) dNil)))) dNext))))
theorem b__law_draw  {cdv : Value} {A : Around} {outer : List Env} {s : Shared} {H : Hp} {E : XK} {W : WX} (n_int : mg "int" = none) (n_abs : mg "abs" = none)
    (hr : Room k (CF P w K mg base N__law_draw "_law_draw" s__law_draw f cdv A outer s H E).A) (hgu : (CF P w K mg base N__law_draw "_law_draw" s__law_draw f cdv A outer s H E).A.guards = some []) (tk : Takes (CF P w K mg base N__law_draw "_law_draw" s__law_draw f cdv A outer s H E) W) : JSs (CF P w K mg base N__law_draw "_law_draw" s__law_draw f cdv A outer s H E) W (defBody s__law_draw) (t__law_draw K ) :=
  have nd : (CF P w K mg base N__law_draw "_law_draw" s__law_draw f cdv A outer s H E).N.Nodup := sc__law_draw.nd
  (js_cons (js_comp (i := 2) (own := [("cell", 4)]) (ws := [4]) rfl nd (by simp) (ji_seq (je_sliceS (jv 0) jo_none (jo_some je_int))) (blkOk_by (by first | rfl | decide +kernel)) (fun _ _ _ _ _ => (jg_name (i := 4) (by simp) nd rfl (by first | exact .inl rfl | exact .inr rfl))) (fun _ _ _ _ _ => jts_nil) (fun _ _ _ _ _ => (je_abs rfl n_abs (ja_cons (je_int1 rfl n_int (ja_cons (jv 4) ja_nil)) ja_nil))) rfl rfl rfl) (js_cons (js_set (i := 3) nd rfl (by first | exact .inl rfl | exact .inr rfl) (je_add je_int (je_mul je_int (jv 1)))) (js_cons (js_for (ws := [4]) (passes_of rfl) rfl (ji_seq (jv 2)) (jg_name (i := 4) (by simp) nd rfl (by first | exact .inl rfl | exact .inr rfl)) (js_cons (js_set (i := 3) nd rfl (by first | exact .inl rfl | exact .inr rfl) (je_mod (je_int1 rfl n_int (ja_cons (je_add (je_add (je_mul (jv 3) je_int) (je_mod (jv 4) je_int)) je_int) ja_nil)) je_int)) js_nil)) (js_cons (js_ret (je_lstM (ja_cons (je_revM (je_comp (own := [("cell", 4)]) (ws := [4]) rfl nd (by simp) (ji_seq (jv 2)) (blkOk_by (by first | rfl | decide +kernel)) (fun _ _ _ _ _ => (jg_name (i := 4) (by simp) nd rfl (by first | exact .inl rfl | exact .inr rfl))) (fun _ _ _ _ _ => (jts_one (jt_ge (jv 4) (je_pow je_int je_int)))) (fun _ _ _ _ _ => (jv 4)))) (ja_cons (jv 3) ja_nil)))) js_nil))))
theorem ok__law_draw  {S : DSp} (D : FnP K "_law_draw" s__law_draw f fd) (m : mg "_law_draw" = some (.ref f)) (n_int : mg "int" = none) (n_abs : mg "abs" = none) (len : ∀ ds M Pd X, S ds M Pd X → ds.length = ps__law_draw.length)
    (hp : ∀ ds M Pd X, MemOk M → S ds M Pd X → t__law_draw K  (dkOf M.length Pd X) (startD N__law_draw ds) M) : Fx P w K mg base (k + 1) "_law_draw" s__law_draw ps__law_draw S :=
  fx_of D m sc__law_draw _ len (fun _ _ _ _ _ _ _ hr hgu tk => b__law_draw n_int n_abs hr hgu tk) hp
def t__law_any : DS := (dSeq (dWhile (dAnd (dTest (dOp gNe (dOp gIx (dVar 0) (dC (.int 0))) (dLst dNil))) (dTest (dOp gEq (dOp gIx (dOp gIx (dVar 0) (dC (.int 0))) (dUn gNeg (dC (.int 1)))) (dC (.int 0))))) (dSeq (dDrop (dPop (dOp gIx (dVar 0) (dC (.int 0))))) dNext)) (dSeq (dIfS (dTest (dOp gNe (dOp gIx (dVar 0) (dC (.int 0))) (dLst dNil))) (dSeq (dSet 2 (dCB gInt (dCons (dPop (dOp gIx (dVar 0) (dC (.int 0)))) dNil))) (dSeq (dDrop (dAppend (dOp gIx (dVar 0) (dC (.int 0))) (dCons (dOp gDiv (dVar 2) (dVar 1)) dNil))) (dSeq (dRet (dOp gMod (dVar 2) (dVar 1))) dNext))) dNext) (dSeq (dAsg (dOp gMod (dCB gInt (dCons (dOp gAdd (dOp gMul (dOp gIx (dVar 0) (dC (.int 1))) (dC (.int 40693))) (dC (.int 71))) dNil)) (dC (.int 2147483647))) (gSub (dVar 0) (dC (.int 1)))) (dSeq (dRet (dOp gMod (dCB gInt (dCons (dOp gDiv (dOp gIx (dVar 0) (dC (.int 1))) (dC (.int 64))) dNil)) (dVar 1))) dNext))))
theorem b__law_any  {cdv : Value} {A : Around} {outer : List Env} {s : Shared} {H : Hp} {E : XK} {W : WX} (n_int : mg "int" = none)
    (hr : Room k (CF P w K mg base N__law_any "_law_any" s__law_any f cdv A outer s H E).A) (hgu : (CF P w K mg base N__law_any "_law_any" s__law_any f cdv A outer s H E).A.guards = some []) (tk : Takes (CF P w K mg base N__law_any "_law_any" s__law_any f cdv A outer s H E) W) : JSs (CF P w K mg base N__law_any "_law_any" s__law_any f cdv A outer s H E) W (defBody s__law_any) (t__law_any ) :=
  have nd : (CF P w K mg base N__law_any "_law_any" s__law_any f cdv A outer s H E).N.Nodup := sc__law_any.nd
  (js_cons (js_while (passes_of rfl) (PW.pt (jw_and (jt_ne hr (je_at (jv 0) je_int) (je_lst ja_nil)) (jw_and1 (jt_eq hr (je_at (je_at (jv 0) je_int) (je_neg je_int)) je_int)))) (js_cons (js_expr (je_pop (je_at (jv 0) je_int))) js_nil)) (js_cons (js_if (jt_ne hr (je_at (jv 0) je_int) (je_lst ja_nil)) (js_cons (js_set (i := 2) nd rfl (by first | exact .inl rfl | exact .inr rfl) (je_int1 rfl n_int (ja_cons (je_pop (je_at (jv 0) je_int)) ja_nil))) (js_cons (js_expr (je_append (je_at (jv 0) je_int) (ja_cons (je_div (jv 2) (jv 1)) ja_nil))) (js_cons (js_ret (je_mod (jv 2) (jv 1))) js_nil))) js_nil) (js_cons (js_asg (ws := []) (je_mod (je_int1 rfl n_int (ja_cons (je_add (je_mul (je_at (jv 0) je_int) je_int) je_int) ja_nil)) je_int) (jg_sub (jv 0) je_int)) (js_cons (js_ret (je_mod (je_int1 rfl n_int (ja_cons (je_div (je_at (jv 0) je_int) je_int) ja_nil)) (jv 1))) js_nil))))
theorem ok__law_any  {S : DSp} (D : FnP K "_law_any" s__law_any f fd) (m : mg "_law_any" = some (.ref f)) (n_int : mg "int" = none) (len : ∀ ds M Pd X, S ds M Pd X → ds.length = ps__law_any.length)
    (hp : ∀ ds M Pd X, MemOk M → S ds M Pd X → t__law_any  (dkOf M.length Pd X) (startD N__law_any ds) M) : Fx P w K mg base (k + 1) "_law_any" s__law_any ps__law_any S :=
  fx_of D m sc__law_any _ len (fun _ _ _ _ _ _ _ hr hgu tk => b__law_any n_int hr hgu tk) hp
def t__law_of (S__law_any : DSp) : DS := (dSeq (dRet (dOp gIx (dVar 1) (dCall S__law_any (dCons (dVar 0) (dCons (dCB gLen (dCons (dVar 1) dNil)) dNil))))) dNext)
theorem b__law_of  {S__law_any : DSp} {cdv : Value} {A : Around} {outer : List Env} {s : Shared} {H : Hp} {E : XK} {W : WX} (F__law_any : Fx P w K mg base k "_law_any" s__law_any ps__law_any S__law_any) (n_len : mg "len" = none)
    (hr : Room k (CF P w K mg base N__law_of "_law_of" s__law_of f cdv A outer s H E).A) (hgu : (CF P w K mg base N__law_of "_law_of" s__law_of f cdv A outer s H E).A.guards = some []) (tk : Takes (CF P w K mg base N__law_of "_law_of" s__law_of f cdv A outer s H E) W) : JSs (CF P w K mg base N__law_of "_law_of" s__law_of f cdv A outer s H E) W (defBody s__law_of) (t__law_of S__law_any) :=
  have nd : (CF P w K mg base N__law_of "_law_of" s__law_of f cdv A outer s H E).N.Nodup := sc__law_of.nd
  (js_cons (js_ret (je_at (jv 1) (je_cx F__law_any hr hgu tk bd__law_any rfl (ja_cons (jv 0) (ja_cons (je_len rfl n_len (ja_cons (jv 1) ja_nil)) ja_nil))))) js_nil)
theorem ok__law_of  {S__law_any : DSp} {S : DSp} (D : FnP K "_law_of" s__law_of f fd) (m : mg "_law_of" = some (.ref f)) (F__law_any : Fx P w K mg base k "_law_any" s__law_any ps__law_any S__law_any) (n_len : mg "len" = none) (len : ∀ ds M Pd X, S ds M Pd X → ds.length = ps__law_of.length)
    (hp : ∀ ds M Pd X, MemOk M → S ds M Pd X → t__law_of S__law_any (dkOf M.length Pd X) (startD N__law_of ds) M) : Fx P w K mg base (k + 1) "_law_of" s__law_of ps__law_of S :=
  fx_of D m sc__law_of _ len (fun _ _ _ _ _ _ _ hr hgu tk => b__law_of F__law_any n_len hr hgu tk) hp
def t__law_mixed (S__law_any : DSp) : DS := (dSeq (dPar 2 3 (dCons (dListM (dCons (dVar 1) dNil)) (dCons (dLstM dNil) dNil))) (dSeq (dWhile (dTest (dOp gNe (dVar 2) (dLst dNil))) (dSeq (dDrop (dAppend (dVar 3) (dCons (dPopAt (dVar 2) (dCons (dCall S__law_any (dCons (dVar 0) (dCons (dCB gLen (dCons (dVar 2) dNil)) dNil))) dNil)) dNil))) dNext)) (dSeq (dRet (dVar 3)) dNext)))
theorem b__law_mixed  {S__law_any : DSp} {cdv : Value} {A : Around} {outer : List Env} {s : Shared} {H : Hp} {E : XK} {W : WX} (F__law_any : Fx P w K mg base k "_law_any" s__law_any ps__law_any S__law_any) (n_len : mg "len" = none) (n_list : mg "list" = none)
    (hr : Room k (CF P w K mg base N__law_mixed "_law_mixed" s__law_mixed f cdv A outer s H E).A) (hgu : (CF P w K mg base N__law_mixed "_law_mixed" s__law_mixed f cdv A outer s H E).A.guards = some []) (tk : Takes (CF P w K mg base N__law_mixed "_law_mixed" s__law_mixed f cdv A outer s H E) W) : JSs (CF P w K mg base N__law_mixed "_law_mixed" s__law_mixed f cdv A outer s H E) W (defBody s__law_mixed) (t__law_mixed S__law_any) :=
  have nd : (CF P w K mg base N__law_mixed "_law_mixed" s__law_mixed f cdv A outer s H E).N.Nodup := sc__law_mixed.nd
  (js_cons (js_par (i := 2) (j := 3) rfl nd rfl rfl (by decide) rfl rfl (ja_cons (je_listM rfl n_list (ja_cons (jv 1) ja_nil)) (ja_cons (je_lstM ja_nil) ja_nil)) rfl) (js_cons (js_while (passes_of rfl) (jt_ne hr (jv 2) (je_lst ja_nil)) (js_cons (js_expr (je_append (jv 3) (ja_cons (je_popAt (jv 2) (ja_cons (je_cx F__law_any hr hgu tk bd__law_any rfl (ja_cons (jv 0) (ja_cons (je_len rfl n_len (ja_cons (jv 2) ja_nil)) ja_nil))) ja_nil)) ja_nil))) js_nil)) (js_cons (js_ret (jv 3)) js_nil)))
theorem ok__law_mixed  {S__law_any : DSp} {S : DSp} (D : FnP K "_law_mixed" s__law_mixed f fd) (m : mg "_law_mixed" = some (.ref f)) (F__law_any : Fx P w K mg base k "_law_any" s__law_any ps__law_any S__law_any) (n_len : mg "len" = none) (n_list : mg "list" = none) (len : ∀ ds M Pd X, S ds M Pd X → ds.length = ps__law_mixed.length)
    (hp : ∀ ds M Pd X, MemOk M → S ds M Pd X → t__law_mixed S__law_any (dkOf M.length Pd X) (startD N__law_mixed ds) M) : Fx P w K mg base (k + 1) "_law_mixed" s__law_mixed ps__law_mixed S :=
  fx_of D m sc__law_mixed _ len (fun _ _ _ _ _ _ _ hr hgu tk => b__law_mixed F__law_any n_len n_list hr hgu tk) hp
def t__law_given_lots (S__law_of S__law_mixed : DSp) : DS := (dSeq (dRet (dComp (iSeq (dVar 1)) (gN 2) dYes (dCall S__law_of (dCons (dVar 0) (dCons (dLst (dCons (dCall S__law_mixed (dCons (dVar 0) (dCons (dCB gList (dCons (dVar 2) dNil)) dNil))) (dCons (dCB gTuple (dCons (dCall S__law_mixed (dCons (dVar 0) (dCons (dCB gList (dCons (dVar 2) dNil)) dNil))) dNil)) dNil))) dNil))) [2])) dNext)
theorem b__law_given_lots  {S__law_of S__law_mixed : DSp} {cdv : Value} {A : Around} {outer : List Env} {s : Shared} {H : Hp} {E : XK} {W : WX} (F__law_of : Fx P w K mg base k "_law_of" s__law_of ps__law_of S__law_of) (F__law_mixed : Fx P w K mg base k "_law_mixed" s__law_mixed ps__law_mixed S__law_mixed) (n_tuple : mg "tuple" = none) (n_list : mg "list" = none)
    (hr : Room k (CF P w K mg base N__law_given_lots "_law_given_lots" s__law_given_lots f cdv A outer s H E).A) (hgu : (CF P w K mg base N__law_given_lots "_law_given_lots" s__law_given_lots f cdv A outer s H E).A.guards = some []) (tk : Takes (CF P w K mg base N__law_given_lots "_law_given_lots" s__law_given_lots f cdv A outer s H E) W) : JSs (CF P w K mg base N__law_given_lots "_law_given_lots" s__law_given_lots f cdv A outer s H E) W (defBody s__law_given_lots) (t__law_given_lots S__law_of S__law_mixed) :=
  have nd : (CF P w K mg base N__law_given_lots "_law_given_lots" s__law_given_lots f cdv A outer s H E).N.Nodup := sc__law_given_lots.nd
  (js_cons (js_ret (je_comp (own := [("lot", 2)]) (ws := [2]) rfl nd (by simp) (ji_seq (jv 1)) (blkOk_by (by first | rfl | decide +kernel)) (fun _ _ _ _ _ => (jg_name (i := 2) (by simp) nd rfl (by first | exact .inl rfl | exact .inr rfl))) (fun _ _ _ _ _ => jts_nil) (fun _ _ _ _ _ => (je_cx F__law_of hr hgu takes0 bd__law_of rfl (ja_cons (jv 0) (ja_cons (je_lst (ja_cons (je_cx F__law_mixed hr hgu takes0 bd__law_mixed rfl (ja_cons (jv 0) (ja_cons (je_listOf rfl n_list (ja_cons (jv 2) ja_nil)) ja_nil))) (ja_cons (je_tupleOf rfl n_tuple (ja_cons (je_cx F__law_mixed hr hgu takes0 bd__law_mixed rfl (ja_cons (jv 0) (ja_cons (je_listOf rfl n_list (ja_cons (jv 2) ja_nil)) ja_nil))) ja_nil)) ja_nil))) ja_nil)))))) js_nil)
theorem ok__law_given_lots  {S__law_of S__law_mixed : DSp} {S : DSp} (D : FnP K "_law_given_lots" s__law_given_lots f fd) (m : mg "_law_given_lots" = some (.ref f)) (F__law_of : Fx P w K mg base k "_law_of" s__law_of ps__law_of S__law_of) (F__law_mixed : Fx P w K mg base k "_law_mixed" s__law_mixed ps__law_mixed S__law_mixed) (n_tuple : mg "tuple" = none) (n_list : mg "list" = none) (len : ∀ ds M Pd X, S ds M Pd X → ds.length = ps__law_given_lots.length)
    (hp : ∀ ds M Pd X, MemOk M → S ds M Pd X → t__law_given_lots S__law_of S__law_mixed (dkOf M.length Pd X) (startD N__law_given_lots ds) M) : Fx P w K mg base (k + 1) "_law_given_lots" s__law_given_lots ps__law_given_lots S :=
  fx_of D m sc__law_given_lots _ len (fun _ _ _ _ _ _ _ hr hgu tk => b__law_given_lots F__law_of F__law_mixed n_tuple n_list hr hgu tk) hp
def t__law_same (S__law_same : DSp) : DS := (dSeq (dIfS (dTru (dCB gIsi (dCons (dVar 1) (dCons (dC (.ty "tuple")) dNil)))) (dSeq (dIfS (dOr (dNot (dTru (dCB gIsi (dCons (dVar 0) (dCons (dC (.ty "tuple")) dNil))))) (dTest (dOp gNe (dCB gLen (dCons (dVar 0) dNil)) (dCB gLen (dCons (dVar 1) dNil))))) (dSeq (dRet (dC (.bl false))) dNext) dNext) (dSeq (dRet (dOp gEq (dComp (iRan1 (dCons (dCB gLen (dCons (dVar 1) dNil)) dNil)) (gN 2) (dNot (dTru (dCall S__law_same (dCons (dOp gIx (dVar 0) (dVar 2)) (dCons (dOp gIx (dVar 1) (dVar 2)) dNil))))) (dVar 2) [2]) (dLst dNil))) dNext)) dNext) (dSeq (dIfS (dTest (dOp (gIs false) (dVar 1) (dC .non))) (dSeq (dRet (dOp (gIs false) (dVar 0) (dC .non))) dNext) dNext) (dSeq (dIfS (dTest (dOp (gIs false) (dVar 1) (dC (.bl true)))) (dSeq (dRet (dOp (gIs false) (dVar 0) (dC (.bl true)))) dNext) dNext) (dSeq (dIfS (dTest (dOp (gIs false) (dVar 1) (dC (.bl false)))) (dSeq (dRet (dOp (gIs false) (dVar 0) (dC (.bl false)))) dNext) dNext) (dSeq (dIfS (dTru (dCB gIsi (dCons (dVar 1) (dCons (dC (.ty "str")) dNil)))) (dSeq (dRet (dAndV (dCB gIsi (dCons (dVar 0) (dCons (dC (.ty "str")) dNil))) (dOp gEq (dVar 0) (dVar 1)))) dNext) dNext) (dSeq (dRet (dAndV (dCB gIsi (dCons (dVar 0) (dCons (dC (.ty "int")) dNil))) (dAndV (dNotV (dCB gIsi (dCons (dVar 0) (dCons (dC (.ty "bool")) dNil)))) (dOp gEq (dVar 0) (dVar 1))))) dNext))))))
theorem b__law_same  {S__law_same : DSp} {cdv : Value} {A : Around} {outer : List Env} {s : Shared} {H : Hp} {E : XK} {W : WX} (F__law_same : Fx P w K mg base k "_law_same" s__law_same ps__law_same S__law_same) (n_isinstance : mg "isinstance" = none) (n_bool : mg "bool" = none) (n_int : mg "int" = none) (n_str : mg "str" = none) (n_tuple : mg "tuple" = none) (n_range : mg "range" = none) (n_len : mg "len" = none)
    (hr : Room k (CF P w K mg base N__law_same "_law_same" s__law_same f cdv A outer s H E).A) (hgu : (CF P w K mg base N__law_same "_law_same" s__law_same f cdv A outer s H E).A.guards = some []) (tk : Takes (CF P w K mg base N__law_same "_law_same" s__law_same f cdv A outer s H E) W) : JSs (CF P w K mg base N__law_same "_law_same" s__law_same f cdv A outer s H E) W (defBody s__law_same) (t__law_same S__law_same) :=
  have nd : (CF P w K mg base N__law_same "_law_same" s__law_same f cdv A outer s H E).N.Nodup := sc__law_same.nd
  (js_cons (js_if (jt_tru (je_isi rfl n_isinstance (ja_cons (jv 1) (ja_cons (je_bty rfl n_tuple PyProof.Rows.boot_tuple) ja_nil)))) (js_cons (js_if (PW.pt (jw_or (jt_not (jt_tru (je_isi rfl n_isinstance (ja_cons (jv 0) (ja_cons (je_bty rfl n_tuple PyProof.Rows.boot_tuple) ja_nil))))) (jw_or1 (jt_ne hr (je_len rfl n_len (ja_cons (jv 0) ja_nil)) (je_len rfl n_len (ja_cons (jv 1) ja_nil)))))) (js_cons (js_ret je_bl) js_nil) js_nil) (js_cons (js_ret (je_eq hr (je_comp (own := [("at", 2)]) (ws := [2]) rfl nd (by simp) (ji_range1 rfl n_range (ja_cons (je_len rfl n_len (ja_cons (jv 1) ja_nil)) ja_nil)) (blkOk_by (by first | rfl | decide +kernel)) (fun _ _ _ _ _ => (jg_name (i := 2) (by simp) nd rfl (by first | exact .inl rfl | exact .inr rfl))) (fun _ _ _ _ _ => (jts_one (jt_not (jt_tru (je_cx F__law_same hr hgu takes0 bd__law_same rfl (ja_cons (je_at (jv 0) (jv 2)) (ja_cons (je_at (jv 1) (jv 2)) ja_nil))))))) (fun _ _ _ _ _ => (jv 2))) (je_lst ja_nil))) js_nil)) js_nil) (js_cons (js_if (jt_is (jv 1) je_non) (js_cons (js_ret (je_is (jv 0) je_non)) js_nil) js_nil) (js_cons (js_if (jt_is (jv 1) je_bl) (js_cons (js_ret (je_is (jv 0) je_bl)) js_nil) js_nil) (js_cons (js_if (jt_is (jv 1) je_bl) (js_cons (js_ret (je_is (jv 0) je_bl)) js_nil) js_nil) (js_cons (js_if (jt_tru (je_isi rfl n_isinstance (ja_cons (jv 1) (ja_cons (je_bty rfl n_str PyProof.Rows.boot_str) ja_nil)))) (js_cons (js_ret (je_and (je_isi rfl n_isinstance (ja_cons (jv 0) (ja_cons (je_bty rfl n_str PyProof.Rows.boot_str) ja_nil))) (je_one (je_eq hr (jv 0) (jv 1))))) js_nil) js_nil) (js_cons (js_ret (je_and (je_isi rfl n_isinstance (ja_cons (jv 0) (ja_cons (je_bty rfl n_int PyProof.Rows.boot_int) ja_nil))) (je_and (je_not (je_isi rfl n_isinstance (ja_cons (jv 0) (ja_cons (je_bty rfl n_bool PyProof.Rows.boot_bool) ja_nil)))) (je_one (je_eq hr (jv 0) (jv 1)))))) js_nil))))))
theorem ok__law_same  {S__law_same : DSp} {S : DSp} (D : FnP K "_law_same" s__law_same f fd) (m : mg "_law_same" = some (.ref f)) (F__law_same : Fx P w K mg base k "_law_same" s__law_same ps__law_same S__law_same) (n_isinstance : mg "isinstance" = none) (n_bool : mg "bool" = none) (n_int : mg "int" = none) (n_str : mg "str" = none) (n_tuple : mg "tuple" = none) (n_range : mg "range" = none) (n_len : mg "len" = none) (len : ∀ ds M Pd X, S ds M Pd X → ds.length = ps__law_same.length)
    (hp : ∀ ds M Pd X, MemOk M → S ds M Pd X → t__law_same S__law_same (dkOf M.length Pd X) (startD N__law_same ds) M) : Fx P w K mg base (k + 1) "_law_same" s__law_same ps__law_same S :=
  fx_of D m sc__law_same _ len (fun _ _ _ _ _ _ _ hr hgu tk => b__law_same F__law_same n_isinstance n_bool n_int n_str n_tuple n_range n_len hr hgu tk) hp
def t__law_numbers : DS := (dSeq (dIfS (dNot (dTru (dCB gIsi (dCons (dVar 0) (dCons (dC (.ty "tuple")) dNil))))) (dSeq (dRet (dC (.bl false))) dNext) dNext) (dSeq (dRet (dOp gEq (dComp (iSeq (dVar 0)) (gN 1) (dOr (dNot (dTru (dCB gIsi (dCons (dVar 1) (dCons (dC (.ty "int")) dNil))))) (dTru (dCB gIsi (dCons (dVar 1) (dCons (dC (.ty "bool")) dNil))))) (dVar 1) [1]) (dLst dNil))) dNext))
theorem b__law_numbers  {cdv : Value} {A : Around} {outer : List Env} {s : Shared} {H : Hp} {E : XK} {W : WX} (n_isinstance : mg "isinstance" = none) (n_bool : mg "bool" = none) (n_int : mg "int" = none) (n_tuple : mg "tuple" = none)
    (hr : Room k (CF P w K mg base N__law_numbers "_law_numbers" s__law_numbers f cdv A outer s H E).A) (hgu : (CF P w K mg base N__law_numbers "_law_numbers" s__law_numbers f cdv A outer s H E).A.guards = some []) (tk : Takes (CF P w K mg base N__law_numbers "_law_numbers" s__law_numbers f cdv A outer s H E) W) : JSs (CF P w K mg base N__law_numbers "_law_numbers" s__law_numbers f cdv A outer s H E) W (defBody s__law_numbers) (t__law_numbers ) :=
  have nd : (CF P w K mg base N__law_numbers "_law_numbers" s__law_numbers f cdv A outer s H E).N.Nodup := sc__law_numbers.nd
  (js_cons (js_if (jt_not (jt_tru (je_isi rfl n_isinstance (ja_cons (jv 0) (ja_cons (je_bty rfl n_tuple PyProof.Rows.boot_tuple) ja_nil))))) (js_cons (js_ret je_bl) js_nil) js_nil) (js_cons (js_ret (je_eq hr (je_comp (own := [("one", 1)]) (ws := [1]) rfl nd (by simp) (ji_seq (jv 0)) (blkOk_by (by first | rfl | decide +kernel)) (fun _ _ _ _ _ => (jg_name (i := 1) (by simp) nd rfl (by first | exact .inl rfl | exact .inr rfl))) (fun _ _ _ _ _ => (jts_one (PW.pt (jw_or (jt_not (jt_tru (je_isi rfl n_isinstance (ja_cons (jv 1) (ja_cons (je_bty rfl n_int PyProof.Rows.boot_int) ja_nil))))) (jw_or1 (jt_tru (je_isi rfl n_isinstance (ja_cons (jv 1) (ja_cons (je_bty rfl n_bool PyProof.Rows.boot_bool) ja_nil))))))))) (fun _ _ _ _ _ => (jv 1))) (je_lst ja_nil))) js_nil))
theorem ok__law_numbers  {S : DSp} (D : FnP K "_law_numbers" s__law_numbers f fd) (m : mg "_law_numbers" = some (.ref f)) (n_isinstance : mg "isinstance" = none) (n_bool : mg "bool" = none) (n_int : mg "int" = none) (n_tuple : mg "tuple" = none) (len : ∀ ds M Pd X, S ds M Pd X → ds.length = ps__law_numbers.length)
    (hp : ∀ ds M Pd X, MemOk M → S ds M Pd X → t__law_numbers  (dkOf M.length Pd X) (startD N__law_numbers ds) M) : Fx P w K mg base (k + 1) "_law_numbers" s__law_numbers ps__law_numbers S :=
  fx_of D m sc__law_numbers _ len (fun _ _ _ _ _ _ _ hr hgu tk => b__law_numbers n_isinstance n_bool n_int n_tuple hr hgu tk) hp
def t__law_once : DS := (dSeq (dRet (dSortSet (dComp (iSeq (dVar 0)) (gN 1) dYes (dCB gTuple (dCons (dCB gSortQ (dCons (dVar 1) dNil)) dNil)) [1]))) dNext)
theorem b__law_once  {cdv : Value} {A : Around} {outer : List Env} {s : Shared} {H : Hp} {E : XK} {W : WX} (n_sorted : mg "sorted" = none) (n_tuple : mg "tuple" = none) (n_set : mg "set" = none)
    (hr : Room k (CF P w K mg base N__law_once "_law_once" s__law_once f cdv A outer s H E).A) (hgu : (CF P w K mg base N__law_once "_law_once" s__law_once f cdv A outer s H E).A.guards = some []) (tk : Takes (CF P w K mg base N__law_once "_law_once" s__law_once f cdv A outer s H E) W) : JSs (CF P w K mg base N__law_once "_law_once" s__law_once f cdv A outer s H E) W (defBody s__law_once) (t__law_once ) :=
  have nd : (CF P w K mg base N__law_once "_law_once" s__law_once f cdv A outer s H E).N.Nodup := sc__law_once.nd
  (js_cons (js_ret (je_sortSet hr rfl n_sorted rfl n_set (je_comp (own := [("lot", 1)]) (ws := [1]) rfl nd (by simp) (ji_seq (jv 0)) (blkOk_by (by first | rfl | decide +kernel)) (fun _ _ _ _ _ => (jg_name (i := 1) (by simp) nd rfl (by first | exact .inl rfl | exact .inr rfl))) (fun _ _ _ _ _ => jts_nil) (fun _ _ _ _ _ => (je_tupleOf rfl n_tuple (ja_cons (je_sortQ rfl n_sorted (ja_cons (jv 1) ja_nil)) ja_nil)))))) js_nil)
theorem ok__law_once  {S : DSp} (D : FnP K "_law_once" s__law_once f fd) (m : mg "_law_once" = some (.ref f)) (n_sorted : mg "sorted" = none) (n_tuple : mg "tuple" = none) (n_set : mg "set" = none) (len : ∀ ds M Pd X, S ds M Pd X → ds.length = ps__law_once.length)
    (hp : ∀ ds M Pd X, MemOk M → S ds M Pd X → t__law_once  (dkOf M.length Pd X) (startD N__law_once ds) M) : Fx P w K mg base (k + 1) "_law_once" s__law_once ps__law_once S :=
  fx_of D m sc__law_once _ len (fun _ _ _ _ _ _ _ hr hgu tk => b__law_once n_sorted n_tuple n_set hr hgu tk) hp
def t__law_grown (S__law_once S__law_any S__law_of S__law_mixed : DSp) : DS := (dSeq (dSet 3 (dCall S__law_mixed (dCons (dVar 0) (dCons (dLRg (dVar 1)) dNil)))) (dSeq (dSet 4 (dOp gAdd (dC (.int 1)) (dCall S__law_any (dCons (dVar 0) (dCons (dC (.int 3)) dNil))))) (dSeq (dPar 5 3 (dCons (dLstM (dCons (dSl (dVar 3) dNoP (dPart (dVar 4))) dNil)) (dCons (dSl (dVar 3) (dPart (dVar 4)) dNoP) dNil))) (dSeq (dFor (iRan1 (dCons (dOp gSub' (dVar 2) (dC (.int 1))) dNil)) (gN 6) (dSeq (dIfS (dOr (dTest (dOp gNe (dVar 3) (dLst dNil))) (dTest (dOp gEq (dCall S__law_any (dCons (dVar 0) (dCons (dC (.int 3)) dNil))) (dC (.int 0))))) (dSeq (dAsg (dTup (dCons (dCall S__law_of (dCons (dVar 0) (dCons (dVar 5) dNil))) (dCons (dCall S__law_of (dCons (dVar 0) (dCons (dLst (dCons (dC (.int 0)) (dCons (dC (.int 1)) (dCons (dC (.int 1)) (dCons (dC (.int 1)) (dCons (dC (.int 2)) dNil)))))) dNil))) (dCons (dCall S__law_of (dCons (dVar 0) (dCons (dLst (dCons (dC (.int 2)) (dCons (dC (.int 3)) (dCons (dC (.int 3)) (dCons (dC (.int 5)) dNil))))) dNil))) dNil)))) (gT 3 (gsCons (gN 7) (gsCons (gN 8) (gsCons (gN 9) gsNil))))) (dSeq (dSet 10 (dOp gAdd (dComp (iSeq (dVar 7)) (gN 11) (dTest (dOp gGt (dCall S__law_any (dCons (dVar 0) (dCons (dVar 9) dNil))) (dC (.int 0)))) (dVar 11) [11]) (dSl (dVar 3) dNoP (dPart (dVar 8))))) (dSeq (dSet 3 (dSl (dVar 3) (dPart (dVar 8)) dNoP)) (dSeq (dDrop (dAppend (dVar 5) (dCons (dIf (dTest (dOp gNe (dVar 10) (dLst dNil))) (dVar 10) (dSl (dVar 7) dNoP (dPart (dC (.int 1))))) dNil))) dNext)))) dNext) dNext)) (dSeq (dAsg (dOp gAdd (dOp gIx (dVar 5) (dUn gNeg (dC (.int 1)))) (dVar 3)) (gSub (dVar 5) (dUn gNeg (dC (.int 1))))) (dSeq (dRet (dCall S__law_once (dCons (dVar 5) dNil))) dNext))))))
theorem b__law_grown  {S__law_once S__law_any S__law_of S__law_mixed : DSp} {cdv : Value} {A : Around} {outer : List Env} {s : Shared} {H : Hp} {E : XK} {W : WX} (F__law_once : Fx P w K mg base k "_law_once" s__law_once ps__law_once S__law_once) (F__law_any : Fx P w K mg base k "_law_any" s__law_any ps__law_any S__law_any) (F__law_of : Fx P w K mg base k "_law_of" s__law_of ps__law_of S__law_of) (F__law_mixed : Fx P w K mg base k "_law_mixed" s__law_mixed ps__law_mixed S__law_mixed) (n_range : mg "range" = none) (n_list : mg "list" = none)
    (hr : Room k (CF P w K mg base N__law_grown "_law_grown" s__law_grown f cdv A outer s H E).A) (hgu : (CF P w K mg base N__law_grown "_law_grown" s__law_grown f cdv A outer s H E).A.guards = some []) (tk : Takes (CF P w K mg base N__law_grown "_law_grown" s__law_grown f cdv A outer s H E) W) : JSs (CF P w K mg base N__law_grown "_law_grown" s__law_grown f cdv A outer s H E) W (defBody s__law_grown) (t__law_grown S__law_once S__law_any S__law_of S__law_mixed) :=
  have nd : (CF P w K mg base N__law_grown "_law_grown" s__law_grown f cdv A outer s H E).N.Nodup := sc__law_grown.nd
  (js_cons (js_set (i := 3) nd rfl (by first | exact .inl rfl | exact .inr rfl) (je_cx F__law_mixed hr hgu tk bd__law_mixed rfl (ja_cons (jv 0) (ja_cons (je_lrg rfl rfl n_range (jv 1) rfl rfl n_list) ja_nil)))) (js_cons (js_set (i := 4) nd rfl (by first | exact .inl rfl | exact .inr rfl) (je_add je_int (je_cx F__law_any hr hgu tk bd__law_any rfl (ja_cons (jv 0) (ja_cons je_int ja_nil))))) (js_cons (js_par (i := 5) (j := 3) rfl nd rfl rfl (by decide) rfl rfl (ja_cons (je_lstM (ja_cons (je_slice (jv 3) jo_none (jo_some (jv 4))) ja_nil)) (ja_cons (je_slice (jv 3) (jo_some (jv 4)) jo_none) ja_nil)) rfl) (js_cons (js_for (ws := [6]) (passes_of rfl) rfl (ji_range1 rfl n_range (ja_cons (je_sub (jv 2) je_int) ja_nil)) (jg_name (i := 6) (by simp) nd rfl (by first | exact .inl rfl | exact .inr rfl)) (js_cons (js_if (PW.pt (jw_or (jt_ne hr (jv 3) (je_lst ja_nil)) (jw_or1 (jt_eq hr (je_cx F__law_any hr hgu tk bd__law_any rfl (ja_cons (jv 0) (ja_cons je_int ja_nil))) je_int)))) (js_cons (js_asg (ws := [7, 8, 9]) (je_tup (ja_cons (je_cx F__law_of hr hgu tk bd__law_of rfl (ja_cons (jv 0) (ja_cons (jv 5) ja_nil))) (ja_cons (je_cx F__law_of hr hgu tk bd__law_of rfl (ja_cons (jv 0) (ja_cons (je_lst (ja_cons je_int (ja_cons je_int (ja_cons je_int (ja_cons je_int (ja_cons je_int ja_nil)))))) ja_nil))) (ja_cons (je_cx F__law_of hr hgu tk bd__law_of rfl (ja_cons (jv 0) (ja_cons (je_lst (ja_cons je_int (ja_cons je_int (ja_cons je_int (ja_cons je_int ja_nil))))) ja_nil))) ja_nil)))) (jg_tup rfl (jgs_cons (jg_name (i := 7) (by simp) nd rfl (by first | exact .inl rfl | exact .inr rfl)) (jgs_cons (jg_name (i := 8) (by simp) nd rfl (by first | exact .inl rfl | exact .inr rfl)) (jgs_cons (jg_name (i := 9) (by simp) nd rfl (by first | exact .inl rfl | exact .inr rfl)) jgs_nil))))) (js_cons (js_set (i := 10) nd rfl (by first | exact .inl rfl | exact .inr rfl) (je_add (je_comp (own := [("key", 11)]) (ws := [11]) rfl nd (by simp) (ji_seq (jv 7)) (blkOk_by (by first | rfl | decide +kernel)) (fun _ _ _ _ _ => (jg_name (i := 11) (by simp) nd rfl (by first | exact .inl rfl | exact .inr rfl))) (fun _ _ _ _ _ => (jts_one (jt_gt (je_cx F__law_any hr hgu takes0 bd__law_any rfl (ja_cons (jv 0) (ja_cons (jv 9) ja_nil))) je_int))) (fun _ _ _ _ _ => (jv 11))) (je_slice (jv 3) jo_none (jo_some (jv 8))))) (js_cons (js_set (i := 3) nd rfl (by first | exact .inl rfl | exact .inr rfl) (je_slice (jv 3) (jo_some (jv 8)) jo_none)) (js_cons (js_expr (je_append (jv 5) (ja_cons (je_if (jt_ne hr (jv 10) (je_lst ja_nil)) (jv 10) (je_slice (jv 7) jo_none (jo_some je_int))) ja_nil))) js_nil)))) js_nil) js_nil)) (js_cons (js_asg (ws := []) (je_add (je_at (jv 5) (je_neg je_int)) (jv 3)) (jg_sub (jv 5) (je_neg je_int))) (js_cons (js_ret (je_cx F__law_once hr hgu tk bd__law_once rfl (ja_cons (jv 5) ja_nil))) js_nil))))))
theorem ok__law_grown  {S__law_once S__law_any S__law_of S__law_mixed : DSp} {S : DSp} (D : FnP K "_law_grown" s__law_grown f fd) (m : mg "_law_grown" = some (.ref f)) (F__law_once : Fx P w K mg base k "_law_once" s__law_once ps__law_once S__law_once) (F__law_any : Fx P w K mg base k "_law_any" s__law_any ps__law_any S__law_any) (F__law_of : Fx P w K mg base k "_law_of" s__law_of ps__law_of S__law_of) (F__law_mixed : Fx P w K mg base k "_law_mixed" s__law_mixed ps__law_mixed S__law_mixed) (n_range : mg "range" = none) (n_list : mg "list" = none) (len : ∀ ds M Pd X, S ds M Pd X → ds.length = ps__law_grown.length)
    (hp : ∀ ds M Pd X, MemOk M → S ds M Pd X → t__law_grown S__law_once S__law_any S__law_of S__law_mixed (dkOf M.length Pd X) (startD N__law_grown ds) M) : Fx P w K mg base (k + 1) "_law_grown" s__law_grown ps__law_grown S :=
  fx_of D m sc__law_grown _ len (fun _ _ _ _ _ _ _ hr hgu tk => b__law_grown F__law_once F__law_any F__law_of F__law_mixed n_range n_list hr hgu tk) hp
def t__law_round (S__law_once S__law_any S__law_mixed : DSp) : DS := (dSeq (dSet 3 (dCall S__law_mixed (dCons (dVar 0) (dCons (dLRg (dVar 1)) dNil)))) (dSeq (dSet 4 (dOp gAdd (dC (.int 3)) (dCall S__law_any (dCons (dVar 0) (dCons (dOp gSub' (dCB gMin2 (dCons (dVar 1) (dCons (dVar 2) dNil))) (dC (.int 2))) dNil))))) (dSeq (dSet 5 (dSl (dVar 3) dNoP (dPart (dVar 4)))) (dSeq (dIfS (dTest (dOp gEq (dCall S__law_any (dCons (dVar 0) (dCons (dC (.int 2)) dNil))) (dC (.int 0)))) (dSeq (dSet 6 (dCompM (iRan1 (dCons (dVar 4) dNil)) (gN 8) dYes (dLst (dCons (dOp gIx (dVar 5) (dOp gSub' (dVar 8) (dC (.int 1)))) (dCons (dOp gIx (dVar 5) (dVar 8)) dNil))) [8])) dNext) (dSeq (dSet 6 (dCompM (iSeq (dVar 5)) (gN 9) dYes (dComp (iSeq (dVar 5)) (gN 7) (dTest (dOp gNe (dVar 7) (dVar 9))) (dVar 7) [7]) [9])) dNext)) (dSeq (dFor (iSeq (dSl (dVar 3) (dPart (dVar 4)) dNoP)) (gN 7) (dSeq (dSet 8 (dCall S__law_any (dCons (dVar 0) (dCons (dCB gLen (dCons (dVar 6) dNil)) dNil)))) (dSeq (dAsg (dOp gAdd (dOp gIx (dVar 6) (dVar 8)) (dLst (dCons (dVar 7) dNil))) (gSub (dVar 6) (dVar 8))) (dSeq (dIfS (dAnd (dTest (dOp gEq (dCall S__law_any (dCons (dVar 0) (dCons (dC (.int 2)) dNil))) (dC (.int 0)))) (dTest (dOp (gIn true) (dVar 7) (dOp gIx (dVar 6) (dOp gSub' (dVar 8) (dC (.int 1))))))) (dSeq (dAsg (dOp gAdd (dOp gIx (dVar 6) (dOp gSub' (dVar 8) (dC (.int 1)))) (dLst (dCons (dVar 7) dNil))) (gSub (dVar 6) (dOp gSub' (dVar 8) (dC (.int 1))))) dNext) dNext) dNext)))) (dSeq (dIfS (dAnd (dTest (dOp gLt (dCB gLen (dCons (dVar 6) dNil)) (dVar 2))) (dTest (dOp gEq (dCall S__law_any (dCons (dVar 0) (dCons (dC (.int 2)) dNil))) (dC (.int 0))))) (dSeq (dDrop (dAppend (dVar 6) (dCons (dOp gAdd (dComp (iRan1 (dCons (dVar 1) dNil)) (gN 7) (dTest (dOp gEq (dCall S__law_any (dCons (dVar 0) (dCons (dC (.int 3)) dNil))) (dC (.int 0)))) (dVar 7) [7]) (dLst (dCons (dOp gIx (dVar 3) (dC (.int 0))) dNil))) dNil))) dNext) dNext) (dSeq (dRet (dCall S__law_once (dCons (dComp (iSeq (dVar 6)) (gN 10) dYes (dSortSet (dVar 10)) [10]) dNil))) dNext)))))))
theorem b__law_round  {S__law_once S__law_any S__law_mixed : DSp} {cdv : Value} {A : Around} {outer : List Env} {s : Shared} {H : Hp} {E : XK} {W : WX} (F__law_once : Fx P w K mg base k "_law_once" s__law_once ps__law_once S__law_once) (F__law_any : Fx P w K mg base k "_law_any" s__law_any ps__law_any S__law_any) (F__law_mixed : Fx P w K mg base k "_law_mixed" s__law_mixed ps__law_mixed S__law_mixed) (n_sorted : mg "sorted" = none) (n_set : mg "set" = none) (n_len : mg "len" = none) (n_range : mg "range" = none) (n_min : mg "min" = none) (n_list : mg "list" = none)
    (hr : Room k (CF P w K mg base N__law_round "_law_round" s__law_round f cdv A outer s H E).A) (hgu : (CF P w K mg base N__law_round "_law_round" s__law_round f cdv A outer s H E).A.guards = some []) (tk : Takes (CF P w K mg base N__law_round "_law_round" s__law_round f cdv A outer s H E) W) : JSs (CF P w K mg base N__law_round "_law_round" s__law_round f cdv A outer s H E) W (defBody s__law_round) (t__law_round S__law_once S__law_any S__law_mixed) :=
  have nd : (CF P w K mg base N__law_round "_law_round" s__law_round f cdv A outer s H E).N.Nodup := sc__law_round.nd
  (js_cons (js_set (i := 3) nd rfl (by first | exact .inl rfl | exact .inr rfl) (je_cx F__law_mixed hr hgu tk bd__law_mixed rfl (ja_cons (jv 0) (ja_cons (je_lrg rfl rfl n_range (jv 1) rfl rfl n_list) ja_nil)))) (js_cons (js_set (i := 4) nd rfl (by first | exact .inl rfl | exact .inr rfl) (je_add je_int (je_cx F__law_any hr hgu tk bd__law_any rfl (ja_cons (jv 0) (ja_cons (je_sub (je_min2 rfl rfl n_min (ja_cons (jv 1) (ja_cons (jv 2) ja_nil))) je_int) ja_nil))))) (js_cons (js_set (i := 5) nd rfl (by first | exact .inl rfl | exact .inr rfl) (je_slice (jv 3) jo_none (jo_some (jv 4)))) (js_cons (js_if (jt_eq hr (je_cx F__law_any hr hgu tk bd__law_any rfl (ja_cons (jv 0) (ja_cons je_int ja_nil))) je_int) (js_cons (js_compM (i := 6) (own := [("at", 8)]) (ws := [8]) rfl nd (by simp) (ji_range1 rfl n_range (ja_cons (jv 4) ja_nil)) (blkOk_by (by first | rfl | decide +kernel)) (fun _ _ _ _ _ => (jg_name (i := 8) (by simp) nd rfl (by first | exact .inl rfl | exact .inr rfl))) (fun _ _ _ _ _ => jts_nil) (fun _ _ _ _ _ => (je_lst (ja_cons (je_at (jv 5) (je_sub (jv 8) je_int)) (ja_cons (je_at (jv 5) (jv 8)) ja_nil)))) rfl rfl rfl) js_nil) (js_cons (js_compM (i := 6) (own := [("out", 9)]) (ws := [9]) rfl nd (by simp) (ji_seq (jv 5)) (blkOk_by (by first | rfl | decide +kernel)) (fun _ _ _ _ _ => (jg_name (i := 9) (by simp) nd rfl (by first | exact .inl rfl | exact .inr rfl))) (fun _ _ _ _ _ => jts_nil) (fun _ _ _ _ _ => (je_comp (own := [("key", 7)]) (ws := [7]) rfl nd (by simp) (ji_seq (jv 5)) (blkOk_by (by first | rfl | decide +kernel)) (fun _ _ _ _ _ => (jg_name (i := 7) (by simp) nd rfl (by first | exact .inl rfl | exact .inr rfl))) (fun _ _ _ _ _ => (jts_one (jt_ne hr (jv 7) (jv 9)))) (fun _ _ _ _ _ => (jv 7)))) rfl rfl rfl) js_nil)) (js_cons (js_for (ws := [7]) (passes_of rfl) rfl (ji_seq (je_slice (jv 3) (jo_some (jv 4)) jo_none)) (jg_name (i := 7) (by simp) nd rfl (by first | exact .inl rfl | exact .inr rfl)) (js_cons (js_set (i := 8) nd rfl (by first | exact .inl rfl | exact .inr rfl) (je_cx F__law_any hr hgu tk bd__law_any rfl (ja_cons (jv 0) (ja_cons (je_len rfl n_len (ja_cons (jv 6) ja_nil)) ja_nil)))) (js_cons (js_asg (ws := []) (je_add (je_at (jv 6) (jv 8)) (je_lst (ja_cons (jv 7) ja_nil))) (jg_sub (jv 6) (jv 8))) (js_cons (js_if (PW.pt (jw_and (jt_eq hr (je_cx F__law_any hr hgu tk bd__law_any rfl (ja_cons (jv 0) (ja_cons je_int ja_nil))) je_int) (jw_and1 (jt_notIn hr (jv 7) (je_at (jv 6) (je_sub (jv 8) je_int)))))) (js_cons (js_asg (ws := []) (je_add (je_at (jv 6) (je_sub (jv 8) je_int)) (je_lst (ja_cons (jv 7) ja_nil))) (jg_sub (jv 6) (je_sub (jv 8) je_int))) js_nil) js_nil) js_nil)))) (js_cons (js_if (PW.pt (jw_and (jt_lt (je_len rfl n_len (ja_cons (jv 6) ja_nil)) (jv 2)) (jw_and1 (jt_eq hr (je_cx F__law_any hr hgu tk bd__law_any rfl (ja_cons (jv 0) (ja_cons je_int ja_nil))) je_int)))) (js_cons (js_expr (je_append (jv 6) (ja_cons (je_add (je_comp (own := [("key", 7)]) (ws := [7]) rfl nd (by simp) (ji_range1 rfl n_range (ja_cons (jv 1) ja_nil)) (blkOk_by (by first | rfl | decide +kernel)) (fun _ _ _ _ _ => (jg_name (i := 7) (by simp) nd rfl (by first | exact .inl rfl | exact .inr rfl))) (fun _ _ _ _ _ => (jts_one (jt_eq hr (je_cx F__law_any hr hgu takes0 bd__law_any rfl (ja_cons (jv 0) (ja_cons je_int ja_nil))) je_int))) (fun _ _ _ _ _ => (jv 7))) (je_lst (ja_cons (je_at (jv 3) je_int) ja_nil))) ja_nil))) js_nil) js_nil) (js_cons (js_ret (je_cx F__law_once hr hgu tk bd__law_once rfl (ja_cons (je_comp (own := [("lot", 10)]) (ws := [10]) rfl nd (by simp) (ji_seq (jv 6)) (blkOk_by (by first | rfl | decide +kernel)) (fun _ _ _ _ _ => (jg_name (i := 10) (by simp) nd rfl (by first | exact .inl rfl | exact .inr rfl))) (fun _ _ _ _ _ => jts_nil) (fun _ _ _ _ _ => (je_sortSet hr rfl n_sorted rfl n_set (jv 10)))) ja_nil))) js_nil)))))))
theorem ok__law_round  {S__law_once S__law_any S__law_mixed : DSp} {S : DSp} (D : FnP K "_law_round" s__law_round f fd) (m : mg "_law_round" = some (.ref f)) (F__law_once : Fx P w K mg base k "_law_once" s__law_once ps__law_once S__law_once) (F__law_any : Fx P w K mg base k "_law_any" s__law_any ps__law_any S__law_any) (F__law_mixed : Fx P w K mg base k "_law_mixed" s__law_mixed ps__law_mixed S__law_mixed) (n_sorted : mg "sorted" = none) (n_set : mg "set" = none) (n_len : mg "len" = none) (n_range : mg "range" = none) (n_min : mg "min" = none) (n_list : mg "list" = none) (len : ∀ ds M Pd X, S ds M Pd X → ds.length = ps__law_round.length)
    (hp : ∀ ds M Pd X, MemOk M → S ds M Pd X → t__law_round S__law_once S__law_any S__law_mixed (dkOf M.length Pd X) (startD N__law_round ds) M) : Fx P w K mg base (k + 1) "_law_round" s__law_round ps__law_round S :=
  fx_of D m sc__law_round _ len (fun _ _ _ _ _ _ _ hr hgu tk => b__law_round F__law_once F__law_any F__law_mixed n_sorted n_set n_len n_range n_min n_list hr hgu tk) hp
def t__law_spotted (S__law_once S__law_any S__law_of : DSp) : DS := (dSeq (dAsg (dTup (dCons (dLstM dNil) (dCons (dCall S__law_of (dCons (dVar 0) (dCons (dLst (dCons (dC (.int 2)) (dCons (dC (.int 3)) (dCons (dC (.int 4)) dNil)))) dNil))) dNil))) (gT 2 (gsCons (gN 3) (gsCons (gN 4) gsNil)))) (dSeq (dFor (iRan1 (dCons (dOp gAdd (dC (.int 1)) (dCall S__law_any (dCons (dVar 0) (dCons (dOp gSub' (dVar 2) (dC (.int 1))) dNil)))) dNil)) (gN 5) (dSeq (dDrop (dAppend (dVar 3) (dCons (dOp gAdd (dComp (iRan1 (dCons (dVar 1) dNil)) (gN 7) (dTest (dOp gEq (dCall S__law_any (dCons (dVar 0) (dCons (dVar 4) dNil))) (dC (.int 0)))) (dVar 7) [7]) (dLst (dCons (dCall S__law_any (dCons (dVar 0) (dCons (dVar 1) dNil))) dNil))) dNil))) dNext)) (dSeq (dSet 6 (dComp (iRan1 (dCons (dVar 1) dNil)) (gN 7) (dTest (dOp gEq (dComp (iSeq (dVar 3)) (gN 8) (dTest (dOp (gIn false) (dVar 7) (dVar 8))) (dVar 8) [8]) (dLst dNil))) (dVar 7) [7])) (dSeq (dSet 3 (dCompM (iSeq (dVar 3)) (gN 8) dYes (dSortSet (dVar 8)) [8])) (dSeq (dRet (dCall S__law_once (dCons (dIf (dTest (dOp gNe (dVar 6) (dLst dNil))) (dOp gAdd (dVar 3) (dLst (dCons (dVar 6) dNil))) (dVar 3)) dNil))) dNext)))))
theorem b__law_spotted  {S__law_once S__law_any S__law_of : DSp} {cdv : Value} {A : Around} {outer : List Env} {s : Shared} {H : Hp} {E : XK} {W : WX} (F__law_once : Fx P w K mg base k "_law_once" s__law_once ps__law_once S__law_once) (F__law_any : Fx P w K mg base k "_law_any" s__law_any ps__law_any S__law_any) (F__law_of : Fx P w K mg base k "_law_of" s__law_of ps__law_of S__law_of) (n_sorted : mg "sorted" = none) (n_set : mg "set" = none) (n_range : mg "range" = none)
    (hr : Room k (CF P w K mg base N__law_spotted "_law_spotted" s__law_spotted f cdv A outer s H E).A) (hgu : (CF P w K mg base N__law_spotted "_law_spotted" s__law_spotted f cdv A outer s H E).A.guards = some []) (tk : Takes (CF P w K mg base N__law_spotted "_law_spotted" s__law_spotted f cdv A outer s H E) W) : JSs (CF P w K mg base N__law_spotted "_law_spotted" s__law_spotted f cdv A outer s H E) W (defBody s__law_spotted) (t__law_spotted S__law_once S__law_any S__law_of) :=
  have nd : (CF P w K mg base N__law_spotted "_law_spotted" s__law_spotted f cdv A outer s H E).N.Nodup := sc__law_spotted.nd
  (js_cons (js_asg (ws := [3, 4]) (je_tup (ja_cons (je_lstM ja_nil) (ja_cons (je_cx F__law_of hr hgu tk bd__law_of rfl (ja_cons (jv 0) (ja_cons (je_lst (ja_cons je_int (ja_cons je_int (ja_cons je_int ja_nil)))) ja_nil))) ja_nil))) (jg_tup rfl (jgs_cons (jg_name (i := 3) (by simp) nd rfl (by first | exact .inl rfl | exact .inr rfl)) (jgs_cons (jg_name (i := 4) (by simp) nd rfl (by first | exact .inl rfl | exact .inr rfl)) jgs_nil)))) (js_cons (js_for (ws := [5]) (passes_of rfl) rfl (ji_range1 rfl n_range (ja_cons (je_add je_int (je_cx F__law_any hr hgu tk bd__law_any rfl (ja_cons (jv 0) (ja_cons (je_sub (jv 2) je_int) ja_nil)))) ja_nil)) (jg_name (i := 5) (by simp) nd rfl (by first | exact .inl rfl | exact .inr rfl)) (js_cons (js_expr (je_append (jv 3) (ja_cons (je_add (je_comp (own := [("key", 7)]) (ws := [7]) rfl nd (by simp) (ji_range1 rfl n_range (ja_cons (jv 1) ja_nil)) (blkOk_by (by first | rfl | decide +kernel)) (fun _ _ _ _ _ => (jg_name (i := 7) (by simp) nd rfl (by first | exact .inl rfl | exact .inr rfl))) (fun _ _ _ _ _ => (jts_one (jt_eq hr (je_cx F__law_any hr hgu takes0 bd__law_any rfl (ja_cons (jv 0) (ja_cons (jv 4) ja_nil))) je_int))) (fun _ _ _ _ _ => (jv 7))) (je_lst (ja_cons (je_cx F__law_any hr hgu tk bd__law_any rfl (ja_cons (jv 0) (ja_cons (jv 1) ja_nil))) ja_nil))) ja_nil))) js_nil)) (js_cons (js_comp (i := 6) (own := [("key", 7)]) (ws := [7]) rfl nd (by simp) (ji_range1 rfl n_range (ja_cons (jv 1) ja_nil)) (blkOk_by (by first | rfl | decide +kernel)) (fun _ _ _ _ _ => (jg_name (i := 7) (by simp) nd rfl (by first | exact .inl rfl | exact .inr rfl))) (fun _ _ _ _ _ => (jts_one (jt_eq hr (je_comp (own := [("lot", 8)]) (ws := [8]) rfl nd (by simp) (ji_seq (jv 3)) (blkOk_by (by first | rfl | decide +kernel)) (fun _ _ _ _ _ => (jg_name (i := 8) (by simp) nd rfl (by first | exact .inl rfl | exact .inr rfl))) (fun _ _ _ _ _ => (jts_one (jt_in hr (jv 7) (jv 8)))) (fun _ _ _ _ _ => (jv 8))) (je_lst ja_nil)))) (fun _ _ _ _ _ => (jv 7)) rfl rfl rfl) (js_cons (js_set (i := 3) nd rfl (by first | exact .inl rfl | exact .inr rfl) (je_compM (own := [("lot", 8)]) (ws := [8]) rfl nd (by simp) (ji_seq (jv 3)) (blkOk_by (by first | rfl | decide +kernel)) (fun _ _ _ _ _ => (jg_name (i := 8) (by simp) nd rfl (by first | exact .inl rfl | exact .inr rfl))) (fun _ _ _ _ _ => jts_nil) (fun _ _ _ _ _ => (je_sortSet hr rfl n_sorted rfl n_set (jv 8))))) (js_cons (js_ret (je_cx F__law_once hr hgu tk bd__law_once rfl (ja_cons (je_if (jt_ne hr (jv 6) (je_lst ja_nil)) (je_add (jv 3) (je_lst (ja_cons (jv 6) ja_nil))) (jv 3)) ja_nil))) js_nil)))))
theorem ok__law_spotted  {S__law_once S__law_any S__law_of : DSp} {S : DSp} (D : FnP K "_law_spotted" s__law_spotted f fd) (m : mg "_law_spotted" = some (.ref f)) (F__law_once : Fx P w K mg base k "_law_once" s__law_once ps__law_once S__law_once) (F__law_any : Fx P w K mg base k "_law_any" s__law_any ps__law_any S__law_any) (F__law_of : Fx P w K mg base k "_law_of" s__law_of ps__law_of S__law_of) (n_sorted : mg "sorted" = none) (n_set : mg "set" = none) (n_range : mg "range" = none) (len : ∀ ds M Pd X, S ds M Pd X → ds.length = ps__law_spotted.length)
    (hp : ∀ ds M Pd X, MemOk M → S ds M Pd X → t__law_spotted S__law_once S__law_any S__law_of (dkOf M.length Pd X) (startD N__law_spotted ds) M) : Fx P w K mg base (k + 1) "_law_spotted" s__law_spotted ps__law_spotted S :=
  fx_of D m sc__law_spotted _ len (fun _ _ _ _ _ _ _ hr hgu tk => b__law_spotted F__law_once F__law_any F__law_of n_sorted n_set n_range hr hgu tk) hp
def t__law_frame (S__law_spotted S__law_once S__law_any S__law_grown S__law_round : DSp) : DS := (dSeq (dSet 3 (dCall S__law_any (dCons (dVar 0) (dCons (dC (.int 7)) dNil)))) (dSeq (dIfS (dOr (dTest (dOp gLt (dVar 3) (dC (.int 3)))) (dTest (dOp gLt (dVar 1) (dC (.int 3))))) (dSeq (dRet (dCall S__law_grown (dCons (dVar 0) (dCons (dVar 1) (dCons (dVar 2) dNil))))) dNext) dNext) (dSeq (dIfS (dTest (dOp gLt (dVar 3) (dC (.int 5)))) (dSeq (dRet (dCall S__law_round (dCons (dVar 0) (dCons (dVar 1) (dCons (dVar 2) dNil))))) dNext) dNext) (dSeq (dIfS (dTest (dOp gEq (dVar 3) (dC (.int 5)))) (dSeq (dSet 4 (dCall S__law_grown (dCons (dVar 0) (dCons (dVar 1) (dCons (dOp gSub' (dVar 2) (dC (.int 1))) dNil))))) (dSeq (dRet (dCall S__law_once (dCons (dOp gAdd (dVar 4) (dLst (dCons (dLst (dCons (dCall S__law_any (dCons (dVar 0) (dCons (dOp gDiv (dVar 1) (dC (.int 2))) dNil))) (dCons (dOp gAdd (dOp gDiv (dVar 1) (dC (.int 2))) (dCall S__law_any (dCons (dVar 0) (dCons (dOp gSub' (dVar 1) (dOp gDiv (dVar 1) (dC (.int 2)))) dNil)))) dNil))) dNil))) dNil))) dNext)) dNext) (dSeq (dRet (dCall S__law_spotted (dCons (dVar 0) (dCons (dVar 1) (dCons (dVar 2) dNil))))) dNext)))))
theorem b__law_frame  {S__law_spotted S__law_once S__law_any S__law_grown S__law_round : DSp} {cdv : Value} {A : Around} {outer : List Env} {s : Shared} {H : Hp} {E : XK} {W : WX} (F__law_spotted : Fx P w K mg base k "_law_spotted" s__law_spotted ps__law_spotted S__law_spotted) (F__law_once : Fx P w K mg base k "_law_once" s__law_once ps__law_once S__law_once) (F__law_any : Fx P w K mg base k "_law_any" s__law_any ps__law_any S__law_any) (F__law_grown : Fx P w K mg base k "_law_grown" s__law_grown ps__law_grown S__law_grown) (F__law_round : Fx P w K mg base k "_law_round" s__law_round ps__law_round S__law_round)
    (hr : Room k (CF P w K mg base N__law_frame "_law_frame" s__law_frame f cdv A outer s H E).A) (hgu : (CF P w K mg base N__law_frame "_law_frame" s__law_frame f cdv A outer s H E).A.guards = some []) (tk : Takes (CF P w K mg base N__law_frame "_law_frame" s__law_frame f cdv A outer s H E) W) : JSs (CF P w K mg base N__law_frame "_law_frame" s__law_frame f cdv A outer s H E) W (defBody s__law_frame) (t__law_frame S__law_spotted S__law_once S__law_any S__law_grown S__law_round) :=
  have nd : (CF P w K mg base N__law_frame "_law_frame" s__law_frame f cdv A outer s H E).N.Nodup := sc__law_frame.nd
  (js_cons (js_set (i := 3) nd rfl (by first | exact .inl rfl | exact .inr rfl) (je_cx F__law_any hr hgu tk bd__law_any rfl (ja_cons (jv 0) (ja_cons je_int ja_nil)))) (js_cons (js_if (PW.pt (jw_or (jt_lt (jv 3) je_int) (jw_or1 (jt_lt (jv 1) je_int)))) (js_cons (js_ret (je_cx F__law_grown hr hgu tk bd__law_grown rfl (ja_cons (jv 0) (ja_cons (jv 1) (ja_cons (jv 2) ja_nil))))) js_nil) js_nil) (js_cons (js_if (jt_lt (jv 3) je_int) (js_cons (js_ret (je_cx F__law_round hr hgu tk bd__law_round rfl (ja_cons (jv 0) (ja_cons (jv 1) (ja_cons (jv 2) ja_nil))))) js_nil) js_nil) (js_cons (js_if (jt_eq hr (jv 3) je_int) (js_cons (js_set (i := 4) nd rfl (by first | exact .inl rfl | exact .inr rfl) (je_cx F__law_grown hr hgu tk bd__law_grown rfl (ja_cons (jv 0) (ja_cons (jv 1) (ja_cons (je_sub (jv 2) je_int) ja_nil))))) (js_cons (js_ret (je_cx F__law_once hr hgu tk bd__law_once rfl (ja_cons (je_add (jv 4) (je_lst (ja_cons (je_lst (ja_cons (je_cx F__law_any hr hgu tk bd__law_any rfl (ja_cons (jv 0) (ja_cons (je_div (jv 1) je_int) ja_nil))) (ja_cons (je_add (je_div (jv 1) je_int) (je_cx F__law_any hr hgu tk bd__law_any rfl (ja_cons (jv 0) (ja_cons (je_sub (jv 1) (je_div (jv 1) je_int)) ja_nil)))) ja_nil))) ja_nil))) ja_nil))) js_nil)) js_nil) (js_cons (js_ret (je_cx F__law_spotted hr hgu tk bd__law_spotted rfl (ja_cons (jv 0) (ja_cons (jv 1) (ja_cons (jv 2) ja_nil))))) js_nil)))))
theorem ok__law_frame  {S__law_spotted S__law_once S__law_any S__law_grown S__law_round : DSp} {S : DSp} (D : FnP K "_law_frame" s__law_frame f fd) (m : mg "_law_frame" = some (.ref f)) (F__law_spotted : Fx P w K mg base k "_law_spotted" s__law_spotted ps__law_spotted S__law_spotted) (F__law_once : Fx P w K mg base k "_law_once" s__law_once ps__law_once S__law_once) (F__law_any : Fx P w K mg base k "_law_any" s__law_any ps__law_any S__law_any) (F__law_grown : Fx P w K mg base k "_law_grown" s__law_grown ps__law_grown S__law_grown) (F__law_round : Fx P w K mg base k "_law_round" s__law_round ps__law_round S__law_round) (len : ∀ ds M Pd X, S ds M Pd X → ds.length = ps__law_frame.length)
    (hp : ∀ ds M Pd X, MemOk M → S ds M Pd X → t__law_frame S__law_spotted S__law_once S__law_any S__law_grown S__law_round (dkOf M.length Pd X) (startD N__law_frame ds) M) : Fx P w K mg base (k + 1) "_law_frame" s__law_frame ps__law_frame S :=
  fx_of D m sc__law_frame _ len (fun _ _ _ _ _ _ _ hr hgu tk => b__law_frame F__law_spotted F__law_once F__law_any F__law_grown F__law_round hr hgu tk) hp
def t__law_any_way (S__law_mixed S__law_given_lots S__law_of S__law_any : DSp) : DS := (dSeq (dRet (dCall S__law_mixed (dCons (dVar 0) (dCons (dCall S__law_given_lots (dCons (dVar 0) (dCons (dOp gAdd (dCB gList (dCons (dVar 1) dNil)) (dSl (dLst (dCons (dCall S__law_of (dCons (dVar 0) (dCons (dVar 1) dNil))) dNil)) dNoP (dPart (dCall S__law_any (dCons (dVar 0) (dCons (dC (.int 2)) dNil)))))) dNil))) dNil)))) dNext)
theorem b__law_any_way  {S__law_mixed S__law_given_lots S__law_of S__law_any : DSp} {cdv : Value} {A : Around} {outer : List Env} {s : Shared} {H : Hp} {E : XK} {W : WX} (F__law_mixed : Fx P w K mg base k "_law_mixed" s__law_mixed ps__law_mixed S__law_mixed) (F__law_given_lots : Fx P w K mg base k "_law_given_lots" s__law_given_lots ps__law_given_lots S__law_given_lots) (F__law_of : Fx P w K mg base k "_law_of" s__law_of ps__law_of S__law_of) (F__law_any : Fx P w K mg base k "_law_any" s__law_any ps__law_any S__law_any) (n_list : mg "list" = none)
    (hr : Room k (CF P w K mg base N__law_any_way "_law_any_way" s__law_any_way f cdv A outer s H E).A) (hgu : (CF P w K mg base N__law_any_way "_law_any_way" s__law_any_way f cdv A outer s H E).A.guards = some []) (tk : Takes (CF P w K mg base N__law_any_way "_law_any_way" s__law_any_way f cdv A outer s H E) W) : JSs (CF P w K mg base N__law_any_way "_law_any_way" s__law_any_way f cdv A outer s H E) W (defBody s__law_any_way) (t__law_any_way S__law_mixed S__law_given_lots S__law_of S__law_any) :=
  have nd : (CF P w K mg base N__law_any_way "_law_any_way" s__law_any_way f cdv A outer s H E).N.Nodup := sc__law_any_way.nd
  (js_cons (js_ret (je_cx F__law_mixed hr hgu tk bd__law_mixed rfl (ja_cons (jv 0) (ja_cons (je_cx F__law_given_lots hr hgu tk bd__law_given_lots rfl (ja_cons (jv 0) (ja_cons (je_add (je_listOf rfl n_list (ja_cons (jv 1) ja_nil)) (je_slice (je_lst (ja_cons (je_cx F__law_of hr hgu tk bd__law_of rfl (ja_cons (jv 0) (ja_cons (jv 1) ja_nil))) ja_nil)) jo_none (jo_some (je_cx F__law_any hr hgu tk bd__law_any rfl (ja_cons (jv 0) (ja_cons je_int ja_nil)))))) ja_nil))) ja_nil)))) js_nil)
theorem ok__law_any_way  {S__law_mixed S__law_given_lots S__law_of S__law_any : DSp} {S : DSp} (D : FnP K "_law_any_way" s__law_any_way f fd) (m : mg "_law_any_way" = some (.ref f)) (F__law_mixed : Fx P w K mg base k "_law_mixed" s__law_mixed ps__law_mixed S__law_mixed) (F__law_given_lots : Fx P w K mg base k "_law_given_lots" s__law_given_lots ps__law_given_lots S__law_given_lots) (F__law_of : Fx P w K mg base k "_law_of" s__law_of ps__law_of S__law_of) (F__law_any : Fx P w K mg base k "_law_any" s__law_any ps__law_any S__law_any) (n_list : mg "list" = none) (len : ∀ ds M Pd X, S ds M Pd X → ds.length = ps__law_any_way.length)
    (hp : ∀ ds M Pd X, MemOk M → S ds M Pd X → t__law_any_way S__law_mixed S__law_given_lots S__law_of S__law_any (dkOf M.length Pd X) (startD N__law_any_way ds) M) : Fx P w K mg base (k + 1) "_law_any_way" s__law_any_way ps__law_any_way S :=
  fx_of D m sc__law_any_way _ len (fun _ _ _ _ _ _ _ hr hgu tk => b__law_any_way F__law_mixed F__law_given_lots F__law_of F__law_any n_list hr hgu tk) hp
def t__law_folds : DS := (dSeq (dSet 1 (dComp (iSeq (dVar 0)) (gN 8) dYes (dCB gList (dCons (dVar 8) dNil)) [8])) (dSeq (dFor (iRan1 (dCons (dC (.int 100)) dNil)) (gN 2) (dSeq (dSet 3 (dComp (iSeq (dVar 1)) (gN 6) dYes (dCB gList (dCons (dVar 6) dNil)) [6])) (dSeq (dSet 1 (dComp (iSeq (dVar 1)) (gN 6) dYes (dComp (iSeq (dVar 6)) (gN 9) (dTest (dOp gGt (dCB gLen (dCons (dComp (iSeq (dVar 3)) (gN 10) (dTest (dOp (gIn false) (dVar 9) (dVar 10))) (dVar 10) [10]) dNil)) (dC (.int 1)))) (dVar 9) [9]) [6])) (dSeq (dSet 4 (dLstM dNil)) (dSeq (dFor (iEnum (dCons (dVar 1) dNil)) (gT 2 (gsCons (gN 5) (gsCons (gN 6) gsNil))) (dSeq (dSet 7 (dComp (iEnum (dCons (dVar 1) dNil)) (gT 2 (gsCons (gN 11) (gsCons (gN 10) gsNil))) (dAnd (dTest (dOp gNe (dVar 11) (dVar 5))) (dTest (dOp gEq (dComp (iSeq (dVar 6)) (gN 9) (dTest (dOp (gIn true) (dVar 9) (dVar 10))) (dVar 9) [9]) (dLst dNil)))) (dVar 11) [11, 10])) (dSeq (dIfS (dTest (dOp gEq (dComp (iSeq (dVar 7)) (gN 11) (dOr (dTest (dOp gLt (dVar 11) (dVar 5))) (dTest (dOp gGt (dCB gLen (dCons (dOp gIx (dVar 1) (dVar 11)) dNil)) (dCB gLen (dCons (dVar 6) dNil))))) (dVar 11) [11]) (dLst dNil))) (dSeq (dDrop (dAppend (dVar 4) (dCons (dVar 6) dNil))) dNext) dNext) dNext))) (dSeq (dSet 1 (dVar 4)) (dSeq (dIfS (dTest (dOp gEq (dVar 1) (dVar 3))) (dSeq dBreak dNext) dNext) dNext))))))) (dSeq (dRet (dOp gLt (dCB gLen (dCons (dVar 1) dNil)) (dC (.int 2)))) dNext)))
theorem b__law_folds  {cdv : Value} {A : Around} {outer : List Env} {s : Shared} {H : Hp} {E : XK} {W : WX} (n_len : mg "len" = none) (n_range : mg "range" = none) (n_enumerate : mg "enumerate" = none) (n_list : mg "list" = none)
    (hr : Room k (CF P w K mg base N__law_folds "_law_folds" s__law_folds f cdv A outer s H E).A) (hgu : (CF P w K mg base N__law_folds "_law_folds" s__law_folds f cdv A outer s H E).A.guards = some []) (tk : Takes (CF P w K mg base N__law_folds "_law_folds" s__law_folds f cdv A outer s H E) W) : JSs (CF P w K mg base N__law_folds "_law_folds" s__law_folds f cdv A outer s H E) W (defBody s__law_folds) (t__law_folds ) :=
  have nd : (CF P w K mg base N__law_folds "_law_folds" s__law_folds f cdv A outer s H E).N.Nodup := sc__law_folds.nd
  (js_cons (js_set (i := 1) nd rfl (by first | exact .inl rfl | exact .inr rfl) (je_comp (own := [("lot", 8)]) (ws := [8]) rfl nd (by simp) (ji_seq (jv 0)) (blkOk_by (by first | rfl | decide +kernel)) (fun _ _ _ _ _ => (jg_name (i := 8) (by simp) nd rfl (by first | exact .inl rfl | exact .inr rfl))) (fun _ _ _ _ _ => jts_nil) (fun _ _ _ _ _ => (je_listOf rfl n_list (ja_cons (jv 8) ja_nil))))) (js_cons (js_for (ws := [2]) (passes_of rfl) rfl (ji_range1 rfl n_range (ja_cons je_int ja_nil)) (jg_name (i := 2) (by simp) nd rfl (by first | exact .inl rfl | exact .inr rfl)) (js_cons (js_set (i := 3) nd rfl (by first | exact .inl rfl | exact .inr rfl) (je_comp (own := [("row", 6)]) (ws := [6]) rfl nd (by simp) (ji_seq (jv 1)) (blkOk_by (by first | rfl | decide +kernel)) (fun _ _ _ _ _ => (jg_name (i := 6) (by simp) nd rfl (by first | exact .inl rfl | exact .inr rfl))) (fun _ _ _ _ _ => jts_nil) (fun _ _ _ _ _ => (je_listOf rfl n_list (ja_cons (jv 6) ja_nil))))) (js_cons (js_set (i := 1) nd rfl (by first | exact .inl rfl | exact .inr rfl) (je_comp (own := [("row", 6)]) (ws := [6]) rfl nd (by simp) (ji_seq (jv 1)) (blkOk_by (by first | rfl | decide +kernel)) (fun _ _ _ _ _ => (jg_name (i := 6) (by simp) nd rfl (by first | exact .inl rfl | exact .inr rfl))) (fun _ _ _ _ _ => jts_nil) (fun _ _ _ _ _ => (je_comp (own := [("key", 9)]) (ws := [9]) rfl nd (by simp) (ji_seq (jv 6)) (blkOk_by (by first | rfl | decide +kernel)) (fun _ _ _ _ _ => (jg_name (i := 9) (by simp) nd rfl (by first | exact .inl rfl | exact .inr rfl))) (fun _ _ _ _ _ => (jts_one (jt_gt (je_len rfl n_len (ja_cons (je_comp (own := [("other", 10)]) (ws := [10]) rfl nd (by simp) (ji_seq (jv 3)) (blkOk_by (by first | rfl | decide +kernel)) (fun _ _ _ _ _ => (jg_name (i := 10) (by simp) nd rfl (by first | exact .inl rfl | exact .inr rfl))) (fun _ _ _ _ _ => (jts_one (jt_in hr (jv 9) (jv 10)))) (fun _ _ _ _ _ => (jv 10))) ja_nil)) je_int))) (fun _ _ _ _ _ => (jv 9)))))) (js_cons (js_set (i := 4) nd rfl (by first | exact .inl rfl | exact .inr rfl) (je_lstM ja_nil)) (js_cons (js_for (ws := [5, 6]) (passes_of rfl) rfl (ji_enum rfl n_enumerate (ja_cons (jv 1) ja_nil)) (jg_tup rfl (jgs_cons (jg_name (i := 5) (by simp) nd rfl (by first | exact .inl rfl | exact .inr rfl)) (jgs_cons (jg_name (i := 6) (by simp) nd rfl (by first | exact .inl rfl | exact .inr rfl)) jgs_nil))) (js_cons (js_comp (i := 7) (own := [("to", 11), ("other", 10)]) (ws := [11, 10]) rfl nd (by simp) (ji_enum rfl n_enumerate (ja_cons (jv 1) ja_nil)) (blkOk_by (by first | rfl | decide +kernel)) (fun _ _ _ _ _ => (jg_tup rfl (jgs_cons (jg_name (i := 11) (by simp) nd rfl (by first | exact .inl rfl | exact .inr rfl)) (jgs_cons (jg_name (i := 10) (by simp) nd rfl (by first | exact .inl rfl | exact .inr rfl)) jgs_nil)))) (fun _ _ _ _ _ => (jts_one (PW.pt (jw_and (jt_ne hr (jv 11) (jv 5)) (jw_and1 (jt_eq hr (je_comp (own := [("key", 9)]) (ws := [9]) rfl nd (by simp) (ji_seq (jv 6)) (blkOk_by (by first | rfl | decide +kernel)) (fun _ _ _ _ _ => (jg_name (i := 9) (by simp) nd rfl (by first | exact .inl rfl | exact .inr rfl))) (fun _ _ _ _ _ => (jts_one (jt_notIn hr (jv 9) (jv 10)))) (fun _ _ _ _ _ => (jv 9))) (je_lst ja_nil))))))) (fun _ _ _ _ _ => (jv 11)) rfl rfl rfl) (js_cons (js_if (jt_eq hr (je_comp (own := [("to", 11)]) (ws := [11]) rfl nd (by simp) (ji_seq (jv 7)) (blkOk_by (by first | rfl | decide +kernel)) (fun _ _ _ _ _ => (jg_name (i := 11) (by simp) nd rfl (by first | exact .inl rfl | exact .inr rfl))) (fun _ _ _ _ _ => (jts_one (PW.pt (jw_or (jt_lt (jv 11) (jv 5)) (jw_or1 (jt_gt (je_len rfl n_len (ja_cons (je_at (jv 1) (jv 11)) ja_nil)) (je_len rfl n_len (ja_cons (jv 6) ja_nil)))))))) (fun _ _ _ _ _ => (jv 11))) (je_lst ja_nil)) (js_cons (js_expr (je_append (jv 4) (ja_cons (jv 6) ja_nil))) js_nil) js_nil) js_nil))) (js_cons (js_set (i := 1) nd rfl (by first | exact .inl rfl | exact .inr rfl) (jv 4)) (js_cons (js_if (jt_eq hr (jv 1) (jv 3)) (js_cons js_break js_nil) js_nil) js_nil))))))) (js_cons (js_ret (je_lt (je_len rfl n_len (ja_cons (jv 1) ja_nil)) je_int)) js_nil)))
theorem ok__law_folds  {S : DSp} (D : FnP K "_law_folds" s__law_folds f fd) (m : mg "_law_folds" = some (.ref f)) (n_len : mg "len" = none) (n_range : mg "range" = none) (n_enumerate : mg "enumerate" = none) (n_list : mg "list" = none) (len : ∀ ds M Pd X, S ds M Pd X → ds.length = ps__law_folds.length)
    (hp : ∀ ds M Pd X, MemOk M → S ds M Pd X → t__law_folds  (dkOf M.length Pd X) (startD N__law_folds ds) M) : Fx P w K mg base (k + 1) "_law_folds" s__law_folds ps__law_folds S :=
  fx_of D m sc__law_folds _ len (fun _ _ _ _ _ _ _ hr hgu tk => b__law_folds n_len n_range n_enumerate n_list hr hgu tk) hp
def t__law_shares : DS := (dSeq (dRet (dComp (iSeq (dVar 0)) (gN 2) (dTest (dOp gNe (dComp (iSeq (dVar 1)) (gN 3) (dTest (dOp (gIn false) (dVar 2) (dVar 3))) (dVar 3) [3]) (dLst dNil))) (dVar 2) [2])) dNext)
theorem b__law_shares  {cdv : Value} {A : Around} {outer : List Env} {s : Shared} {H : Hp} {E : XK} {W : WX}
    (hr : Room k (CF P w K mg base N__law_shares "_law_shares" s__law_shares f cdv A outer s H E).A) (hgu : (CF P w K mg base N__law_shares "_law_shares" s__law_shares f cdv A outer s H E).A.guards = some []) (tk : Takes (CF P w K mg base N__law_shares "_law_shares" s__law_shares f cdv A outer s H E) W) : JSs (CF P w K mg base N__law_shares "_law_shares" s__law_shares f cdv A outer s H E) W (defBody s__law_shares) (t__law_shares ) :=
  have nd : (CF P w K mg base N__law_shares "_law_shares" s__law_shares f cdv A outer s H E).N.Nodup := sc__law_shares.nd
  (js_cons (js_ret (je_comp (own := [("key", 2)]) (ws := [2]) rfl nd (by simp) (ji_seq (jv 0)) (blkOk_by (by first | rfl | decide +kernel)) (fun _ _ _ _ _ => (jg_name (i := 2) (by simp) nd rfl (by first | exact .inl rfl | exact .inr rfl))) (fun _ _ _ _ _ => (jts_one (jt_ne hr (je_comp (own := [("other", 3)]) (ws := [3]) rfl nd (by simp) (ji_seq (jv 1)) (blkOk_by (by first | rfl | decide +kernel)) (fun _ _ _ _ _ => (jg_name (i := 3) (by simp) nd rfl (by first | exact .inl rfl | exact .inr rfl))) (fun _ _ _ _ _ => (jts_one (jt_in hr (jv 2) (jv 3)))) (fun _ _ _ _ _ => (jv 3))) (je_lst ja_nil)))) (fun _ _ _ _ _ => (jv 2)))) js_nil)
theorem ok__law_shares  {S : DSp} (D : FnP K "_law_shares" s__law_shares f fd) (m : mg "_law_shares" = some (.ref f)) (len : ∀ ds M Pd X, S ds M Pd X → ds.length = ps__law_shares.length)
    (hp : ∀ ds M Pd X, MemOk M → S ds M Pd X → t__law_shares  (dkOf M.length Pd X) (startD N__law_shares ds) M) : Fx P w K mg base (k + 1) "_law_shares" s__law_shares ps__law_shares S :=
  fx_of D m sc__law_shares _ len (fun _ _ _ _ _ _ _ hr hgu tk => b__law_shares hr hgu tk) hp
def t__law_holders (S__law_shares : DSp) : DS := (dSeq (dSet 2 (dComp (iSeq (dVar 0)) (gN 4) (dTest (dOp gNe (dVar 4) (dVar 1))) (dVar 4) [4])) (dSeq (dSet 3 (dCall S__law_shares (dCons (dVar 1) (dCons (dVar 2) dNil)))) (dSeq (dRet (dComp (iSeq (dVar 2)) (gN 4) (dTest (dOp gEq (dComp (iSeq (dVar 3)) (gN 5) (dTest (dOp (gIn true) (dVar 5) (dVar 4))) (dVar 5) [5]) (dLst dNil))) (dVar 4) [4])) dNext)))
theorem b__law_holders  {S__law_shares : DSp} {cdv : Value} {A : Around} {outer : List Env} {s : Shared} {H : Hp} {E : XK} {W : WX} (F__law_shares : Fx P w K mg base k "_law_shares" s__law_shares ps__law_shares S__law_shares)
    (hr : Room k (CF P w K mg base N__law_holders "_law_holders" s__law_holders f cdv A outer s H E).A) (hgu : (CF P w K mg base N__law_holders "_law_holders" s__law_holders f cdv A outer s H E).A.guards = some []) (tk : Takes (CF P w K mg base N__law_holders "_law_holders" s__law_holders f cdv A outer s H E) W) : JSs (CF P w K mg base N__law_holders "_law_holders" s__law_holders f cdv A outer s H E) W (defBody s__law_holders) (t__law_holders S__law_shares) :=
  have nd : (CF P w K mg base N__law_holders "_law_holders" s__law_holders f cdv A outer s H E).N.Nodup := sc__law_holders.nd
  (js_cons (js_comp (i := 2) (own := [("other", 4)]) (ws := [4]) rfl nd (by simp) (ji_seq (jv 0)) (blkOk_by (by first | rfl | decide +kernel)) (fun _ _ _ _ _ => (jg_name (i := 4) (by simp) nd rfl (by first | exact .inl rfl | exact .inr rfl))) (fun _ _ _ _ _ => (jts_one (jt_ne hr (jv 4) (jv 1)))) (fun _ _ _ _ _ => (jv 4)) rfl rfl rfl) (js_cons (js_set (i := 3) nd rfl (by first | exact .inl rfl | exact .inr rfl) (je_cx F__law_shares hr hgu tk bd__law_shares rfl (ja_cons (jv 1) (ja_cons (jv 2) ja_nil)))) (js_cons (js_ret (je_comp (own := [("other", 4)]) (ws := [4]) rfl nd (by simp) (ji_seq (jv 2)) (blkOk_by (by first | rfl | decide +kernel)) (fun _ _ _ _ _ => (jg_name (i := 4) (by simp) nd rfl (by first | exact .inl rfl | exact .inr rfl))) (fun _ _ _ _ _ => (jts_one (jt_eq hr (je_comp (own := [("key", 5)]) (ws := [5]) rfl nd (by simp) (ji_seq (jv 3)) (blkOk_by (by first | rfl | decide +kernel)) (fun _ _ _ _ _ => (jg_name (i := 5) (by simp) nd rfl (by first | exact .inl rfl | exact .inr rfl))) (fun _ _ _ _ _ => (jts_one (jt_notIn hr (jv 5) (jv 4)))) (fun _ _ _ _ _ => (jv 5))) (je_lst ja_nil)))) (fun _ _ _ _ _ => (jv 4)))) js_nil)))
theorem ok__law_holders  {S__law_shares : DSp} {S : DSp} (D : FnP K "_law_holders" s__law_holders f fd) (m : mg "_law_holders" = some (.ref f)) (F__law_shares : Fx P w K mg base k "_law_shares" s__law_shares ps__law_shares S__law_shares) (len : ∀ ds M Pd X, S ds M Pd X → ds.length = ps__law_holders.length)
    (hp : ∀ ds M Pd X, MemOk M → S ds M Pd X → t__law_holders S__law_shares (dkOf M.length Pd X) (startD N__law_holders ds) M) : Fx P w K mg base (k + 1) "_law_holders" s__law_holders ps__law_holders S :=
  fx_of D m sc__law_holders _ len (fun _ _ _ _ _ _ _ hr hgu tk => b__law_holders F__law_shares hr hgu tk) hp
def t__law_taken_off (S__law_of S__law_holders : DSp) : DS := (dSeq (dAsg (dTup (dCons (dCB gList (dCons (dVar 1) dNil)) (dCons (dLstM dNil) dNil))) (gT 2 (gsCons (gN 2) (gsCons (gN 3) gsNil)))) (dSeq (dFor (iRan1 (dCons (dOp gSub' (dCB gLen (dCons (dVar 1) dNil)) (dC (.int 1))) dNil)) (gN 4) (dSeq (dSet 5 (dCall S__law_of (dCons (dVar 0) (dCons (dComp (iSeq (dVar 2)) (gN 6) (dTest (dOp gNe (dCall S__law_holders (dCons (dVar 2) (dCons (dVar 6) dNil))) (dLst dNil))) (dVar 6) [6]) dNil)))) (dSeq (dDrop (dAppend (dVar 3) (dCons (dTup (dCons (dVar 5) (dCons (dCall S__law_of (dCons (dVar 0) (dCons (dCall S__law_holders (dCons (dVar 2) (dCons (dVar 5) dNil))) dNil))) dNil))) dNil))) (dSeq (dSet 2 (dComp (iSeq (dVar 2)) (gN 6) (dTest (dOp gNe (dVar 6) (dVar 5))) (dVar 6) [6])) dNext)))) (dSeq (dRet (dCB gTuple (dCons (dVar 3) dNil))) dNext)))
theorem b__law_taken_off  {S__law_of S__law_holders : DSp} {cdv : Value} {A : Around} {outer : List Env} {s : Shared} {H : Hp} {E : XK} {W : WX} (F__law_of : Fx P w K mg base k "_law_of" s__law_of ps__law_of S__law_of) (F__law_holders : Fx P w K mg base k "_law_holders" s__law_holders ps__law_holders S__law_holders) (n_tuple : mg "tuple" = none) (n_range : mg "range" = none) (n_len : mg "len" = none) (n_list : mg "list" = none)
    (hr : Room k (CF P w K mg base N__law_taken_off "_law_taken_off" s__law_taken_off f cdv A outer s H E).A) (hgu : (CF P w K mg base N__law_taken_off "_law_taken_off" s__law_taken_off f cdv A outer s H E).A.guards = some []) (tk : Takes (CF P w K mg base N__law_taken_off "_law_taken_off" s__law_taken_off f cdv A outer s H E) W) : JSs (CF P w K mg base N__law_taken_off "_law_taken_off" s__law_taken_off f cdv A outer s H E) W (defBody s__law_taken_off) (t__law_taken_off S__law_of S__law_holders) :=
  have nd : (CF P w K mg base N__law_taken_off "_law_taken_off" s__law_taken_off f cdv A outer s H E).N.Nodup := sc__law_taken_off.nd
  (js_cons (js_asg (ws := [2, 3]) (je_tup (ja_cons (je_listOf rfl n_list (ja_cons (jv 1) ja_nil)) (ja_cons (je_lstM ja_nil) ja_nil))) (jg_tup rfl (jgs_cons (jg_name (i := 2) (by simp) nd rfl (by first | exact .inl rfl | exact .inr rfl)) (jgs_cons (jg_name (i := 3) (by simp) nd rfl (by first | exact .inl rfl | exact .inr rfl)) jgs_nil)))) (js_cons (js_for (ws := [4]) (passes_of rfl) rfl (ji_range1 rfl n_range (ja_cons (je_sub (je_len rfl n_len (ja_cons (jv 1) ja_nil)) je_int) ja_nil)) (jg_name (i := 4) (by simp) nd rfl (by first | exact .inl rfl | exact .inr rfl)) (js_cons (js_set (i := 5) nd rfl (by first | exact .inl rfl | exact .inr rfl) (je_cx F__law_of hr hgu tk bd__law_of rfl (ja_cons (jv 0) (ja_cons (je_comp (own := [("one", 6)]) (ws := [6]) rfl nd (by simp) (ji_seq (jv 2)) (blkOk_by (by first | rfl | decide +kernel)) (fun _ _ _ _ _ => (jg_name (i := 6) (by simp) nd rfl (by first | exact .inl rfl | exact .inr rfl))) (fun _ _ _ _ _ => (jts_one (jt_ne hr (je_cx F__law_holders hr hgu takes0 bd__law_holders rfl (ja_cons (jv 2) (ja_cons (jv 6) ja_nil))) (je_lst ja_nil)))) (fun _ _ _ _ _ => (jv 6))) ja_nil)))) (js_cons (js_expr (je_append (jv 3) (ja_cons (je_tup (ja_cons (jv 5) (ja_cons (je_cx F__law_of hr hgu tk bd__law_of rfl (ja_cons (jv 0) (ja_cons (je_cx F__law_holders hr hgu tk bd__law_holders rfl (ja_cons (jv 2) (ja_cons (jv 5) ja_nil))) ja_nil))) ja_nil))) ja_nil))) (js_cons (js_set (i := 2) nd rfl (by first | exact .inl rfl | exact .inr rfl) (je_comp (own := [("one", 6)]) (ws := [6]) rfl nd (by simp) (ji_seq (jv 2)) (blkOk_by (by first | rfl | decide +kernel)) (fun _ _ _ _ _ => (jg_name (i := 6) (by simp) nd rfl (by first | exact .inl rfl | exact .inr rfl))) (fun _ _ _ _ _ => (jts_one (jt_ne hr (jv 6) (jv 5)))) (fun _ _ _ _ _ => (jv 6)))) js_nil)))) (js_cons (js_ret (je_tupleOf rfl n_tuple (ja_cons (jv 3) ja_nil))) js_nil)))
theorem ok__law_taken_off  {S__law_of S__law_holders : DSp} {S : DSp} (D : FnP K "_law_taken_off" s__law_taken_off f fd) (m : mg "_law_taken_off" = some (.ref f)) (F__law_of : Fx P w K mg base k "_law_of" s__law_of ps__law_of S__law_of) (F__law_holders : Fx P w K mg base k "_law_holders" s__law_holders ps__law_holders S__law_holders) (n_tuple : mg "tuple" = none) (n_range : mg "range" = none) (n_len : mg "len" = none) (n_list : mg "list" = none) (len : ∀ ds M Pd X, S ds M Pd X → ds.length = ps__law_taken_off.length)
    (hp : ∀ ds M Pd X, MemOk M → S ds M Pd X → t__law_taken_off S__law_of S__law_holders (dkOf M.length Pd X) (startD N__law_taken_off ds) M) : Fx P w K mg base (k + 1) "_law_taken_off" s__law_taken_off ps__law_taken_off S :=
  fx_of D m sc__law_taken_off _ len (fun _ _ _ _ _ _ _ hr hgu tk => b__law_taken_off F__law_of F__law_holders n_tuple n_range n_len n_list hr hgu tk) hp
def t__law_is_folding (S__law_holders S__law_numbers : DSp) : DS := (dSeq (dIfS (dOr (dNot (dTru (dCB gIsi (dCons (dVar 1) (dCons (dC (.ty "tuple")) dNil))))) (dTest (dOp gNe (dCB gLen (dCons (dVar 1) dNil)) (dOp gSub' (dCB gLen (dCons (dVar 0) dNil)) (dC (.int 1)))))) (dSeq (dRet (dC (.bl false))) dNext) dNext) (dSeq (dSet 2 (dCB gList (dCons (dVar 0) dNil))) (dSeq (dFor (iSeq (dVar 1)) (gN 3) (dSeq (dIfS (dOr (dNot (dTru (dCB gIsi (dCons (dVar 3) (dCons (dC (.ty "tuple")) dNil))))) (dOr (dTest (dOp gNe (dCB gLen (dCons (dVar 3) dNil)) (dC (.int 2)))) (dOr (dNot (dTru (dCall S__law_numbers (dCons (dOp gIx (dVar 3) (dC (.int 0))) dNil)))) (dNot (dTru (dCall S__law_numbers (dCons (dOp gIx (dVar 3) (dC (.int 1))) dNil))))))) (dSeq (dRet (dC (.bl false))) dNext) dNext) (dSeq (dIfS (dOr (dTest (dOp (gIn true) (dOp gIx (dVar 3) (dC (.int 0))) (dVar 2))) (dTest (dOp (gIn true) (dOp gIx (dVar 3) (dC (.int 1))) (dCall S__law_holders (dCons (dVar 2) (dCons (dOp gIx (dVar 3) (dC (.int 0))) dNil)))))) (dSeq (dRet (dC (.bl false))) dNext) dNext) (dSeq (dSet 2 (dComp (iSeq (dVar 2)) (gN 4) (dTest (dOp gNe (dVar 4) (dOp gIx (dVar 3) (dC (.int 0))))) (dVar 4) [4])) dNext)))) (dSeq (dRet (dC (.bl true))) dNext))))
theorem b__law_is_folding  {S__law_holders S__law_numbers : DSp} {cdv : Value} {A : Around} {outer : List Env} {s : Shared} {H : Hp} {E : XK} {W : WX} (F__law_holders : Fx P w K mg base k "_law_holders" s__law_holders ps__law_holders S__law_holders) (F__law_numbers : Fx P w K mg base k "_law_numbers" s__law_numbers ps__law_numbers S__law_numbers) (n_len : mg "len" = none) (n_isinstance : mg "isinstance" = none) (n_tuple : mg "tuple" = none) (n_list : mg "list" = none)
    (hr : Room k (CF P w K mg base N__law_is_folding "_law_is_folding" s__law_is_folding f cdv A outer s H E).A) (hgu : (CF P w K mg base N__law_is_folding "_law_is_folding" s__law_is_folding f cdv A outer s H E).A.guards = some []) (tk : Takes (CF P w K mg base N__law_is_folding "_law_is_folding" s__law_is_folding f cdv A outer s H E) W) : JSs (CF P w K mg base N__law_is_folding "_law_is_folding" s__law_is_folding f cdv A outer s H E) W (defBody s__law_is_folding) (t__law_is_folding S__law_holders S__law_numbers) :=
  have nd : (CF P w K mg base N__law_is_folding "_law_is_folding" s__law_is_folding f cdv A outer s H E).N.Nodup := sc__law_is_folding.nd
  (js_cons (js_if (PW.pt (jw_or (jt_not (jt_tru (je_isi rfl n_isinstance (ja_cons (jv 1) (ja_cons (je_bty rfl n_tuple PyProof.Rows.boot_tuple) ja_nil))))) (jw_or1 (jt_ne hr (je_len rfl n_len (ja_cons (jv 1) ja_nil)) (je_sub (je_len rfl n_len (ja_cons (jv 0) ja_nil)) je_int))))) (js_cons (js_ret je_bl) js_nil) js_nil) (js_cons (js_set (i := 2) nd rfl (by first | exact .inl rfl | exact .inr rfl) (je_listOf rfl n_list (ja_cons (jv 0) ja_nil))) (js_cons (js_for (ws := [3]) (passes_of rfl) rfl (ji_seq (jv 1)) (jg_name (i := 3) (by simp) nd rfl (by first | exact .inl rfl | exact .inr rfl)) (js_cons (js_if (PW.pt (jw_or (jt_not (jt_tru (je_isi rfl n_isinstance (ja_cons (jv 3) (ja_cons (je_bty rfl n_tuple PyProof.Rows.boot_tuple) ja_nil))))) (jw_or (jt_ne hr (je_len rfl n_len (ja_cons (jv 3) ja_nil)) je_int) (jw_or (jt_not (jt_tru (je_cx F__law_numbers hr hgu tk bd__law_numbers rfl (ja_cons (je_at (jv 3) je_int) ja_nil)))) (jw_or1 (jt_not (jt_tru (je_cx F__law_numbers hr hgu tk bd__law_numbers rfl (ja_cons (je_at (jv 3) je_int) ja_nil))))))))) (js_cons (js_ret je_bl) js_nil) js_nil) (js_cons (js_if (PW.pt (jw_or (jt_notIn hr (je_at (jv 3) je_int) (jv 2)) (jw_or1 (jt_notIn hr (je_at (jv 3) je_int) (je_cx F__law_holders hr hgu tk bd__law_holders rfl (ja_cons (jv 2) (ja_cons (je_at (jv 3) je_int) ja_nil))))))) (js_cons (js_ret je_bl) js_nil) js_nil) (js_cons (js_comp (i := 2) (own := [("one", 4)]) (ws := [4]) rfl nd (by simp) (ji_seq (jv 2)) (blkOk_by (by first | rfl | decide +kernel)) (fun _ _ _ _ _ => (jg_name (i := 4) (by simp) nd rfl (by first | exact .inl rfl | exact .inr rfl))) (fun _ _ _ _ _ => (jts_one (jt_ne hr (jv 4) (je_at (jv 3) je_int)))) (fun _ _ _ _ _ => (jv 4)) rfl rfl rfl) js_nil)))) (js_cons (js_ret je_bl) js_nil))))
theorem ok__law_is_folding  {S__law_holders S__law_numbers : DSp} {S : DSp} (D : FnP K "_law_is_folding" s__law_is_folding f fd) (m : mg "_law_is_folding" = some (.ref f)) (F__law_holders : Fx P w K mg base k "_law_holders" s__law_holders ps__law_holders S__law_holders) (F__law_numbers : Fx P w K mg base k "_law_numbers" s__law_numbers ps__law_numbers S__law_numbers) (n_len : mg "len" = none) (n_isinstance : mg "isinstance" = none) (n_tuple : mg "tuple" = none) (n_list : mg "list" = none) (len : ∀ ds M Pd X, S ds M Pd X → ds.length = ps__law_is_folding.length)
    (hp : ∀ ds M Pd X, MemOk M → S ds M Pd X → t__law_is_folding S__law_holders S__law_numbers (dkOf M.length Pd X) (startD N__law_is_folding ds) M) : Fx P w K mg base (k + 1) "_law_is_folding" s__law_is_folding ps__law_is_folding S :=
  fx_of D m sc__law_is_folding _ len (fun _ _ _ _ _ _ _ hr hgu tk => b__law_is_folding F__law_holders F__law_numbers n_len n_isinstance n_tuple n_list hr hgu tk) hp
def t__law_spoilt (S__law_any S__law_of S__law_spoilt : DSp) : DS := (dSeq (dSet 2 (dCall S__law_any (dCons (dVar 0) (dCons (dC (.int 9)) dNil)))) (dSeq (dIfS (dOr (dTest (dOp gEq (dVar 2) (dC (.int 0)))) (dTest (dOp gEq (dCB gLen (dCons (dVar 1) dNil)) (dC (.int 0))))) (dSeq (dRet (dCall S__law_of (dCons (dVar 0) (dCons (dLst (dCons (dCB gList (dCons (dVar 1) dNil)) (dCons (dC .non) (dCons (dOp gAdd (dVar 1) (dTup (dCons (dC (.int 0)) dNil))) (dCons (dOp gAdd (dVar 1) (dSl (dVar 1) dNoP (dPart (dC (.int 1))))) (dCons (dTup (dCons (dVar 1) dNil)) (dCons (dC (.int 0)) dNil))))))) dNil)))) dNext) dNext) (dSeq (dSet 3 (dCall S__law_any (dCons (dVar 0) (dCons (dCB gLen (dCons (dVar 1) dNil)) dNil)))) (dSeq (dIfS (dTest (dOp gEq (dVar 2) (dC (.int 1)))) (dSeq (dRet (dOp gAdd (dSl (dVar 1) dNoP (dPart (dVar 3))) (dSl (dVar 1) (dPart (dOp gAdd (dVar 3) (dC (.int 1)))) dNoP))) dNext) dNext) (dSeq (dIfS (dTest (dOp gEq (dVar 2) (dC (.int 2)))) (dSeq (dRet (dRevQ (dVar 1))) dNext) dNext) (dSeq (dIfS (dTest (dOp gEq (dVar 2) (dC (.int 3)))) (dSeq (dSet 4 (dCall S__law_any (dCons (dVar 0) (dCons (dCB gLen (dCons (dVar 1) dNil)) dNil)))) (dSeq (dSet 5 (dListM (dCons (dVar 1) dNil))) (dSeq (dAsg (dTup (dCons (dOp gIx (dVar 5) (dVar 4)) (dCons (dOp gIx (dVar 5) (dVar 3)) dNil))) (gT 2 (gsCons (gSub (dVar 5) (dVar 3)) (gsCons (gSub (dVar 5) (dVar 4)) gsNil)))) (dSeq (dRet (dCB gTuple (dCons (dVar 5) dNil))) dNext)))) dNext) (dSeq (dIfS (dTru (dCB gIsi (dCons (dOp gIx (dVar 1) (dVar 3)) (dCons (dC (.ty "tuple")) dNil)))) (dSeq (dRet (dOp gAdd (dOp gAdd (dSl (dVar 1) dNoP (dPart (dVar 3))) (dTup (dCons (dCall S__law_spoilt (dCons (dVar 0) (dCons (dOp gIx (dVar 1) (dVar 3)) dNil))) dNil))) (dSl (dVar 1) (dPart (dOp gAdd (dVar 3) (dC (.int 1)))) dNoP))) dNext) dNext) (dSeq (dIfS (dTest (dOp gEq (dVar 2) (dC (.int 4)))) (dSeq (dRet (dOp gAdd (dOp gAdd (dSl (dVar 1) dNoP (dPart (dVar 3))) (dTup (dCons (dCall S__law_of (dCons (dVar 0) (dCons (dLst (dCons (dC (.bl true)) (dCons (dC (.bl false)) (dCons (dC .non) (dCons (dC (.str "0")) (dCons (dUn gNeg (dC (.int 1))) (dCons (dC (.int 99)) dNil))))))) dNil))) dNil))) (dSl (dVar 1) (dPart (dOp gAdd (dVar 3) (dC (.int 1)))) dNoP))) dNext) dNext) (dSeq (dRet (dOp gAdd (dOp gAdd (dSl (dVar 1) dNoP (dPart (dVar 3))) (dTup (dCons (dCall S__law_any (dCons (dVar 0) (dCons (dC (.int 8)) dNil))) dNil))) (dSl (dVar 1) (dPart (dOp gAdd (dVar 3) (dC (.int 1)))) dNoP))) dNext)))))))))
theorem b__law_spoilt  {S__law_any S__law_of S__law_spoilt : DSp} {cdv : Value} {A : Around} {outer : List Env} {s : Shared} {H : Hp} {E : XK} {W : WX} (F__law_any : Fx P w K mg base k "_law_any" s__law_any ps__law_any S__law_any) (F__law_of : Fx P w K mg base k "_law_of" s__law_of ps__law_of S__law_of) (F__law_spoilt : Fx P w K mg base k "_law_spoilt" s__law_spoilt ps__law_spoilt S__law_spoilt) (n_isinstance : mg "isinstance" = none) (n_tuple : mg "tuple" = none) (n_list : mg "list" = none) (n_len : mg "len" = none)
    (hr : Room k (CF P w K mg base N__law_spoilt "_law_spoilt" s__law_spoilt f cdv A outer s H E).A) (hgu : (CF P w K mg base N__law_spoilt "_law_spoilt" s__law_spoilt f cdv A outer s H E).A.guards = some []) (tk : Takes (CF P w K mg base N__law_spoilt "_law_spoilt" s__law_spoilt f cdv A outer s H E) W) : JSs (CF P w K mg base N__law_spoilt "_law_spoilt" s__law_spoilt f cdv A outer s H E) W (defBody s__law_spoilt) (t__law_spoilt S__law_any S__law_of S__law_spoilt) :=
  have nd : (CF P w K mg base N__law_spoilt "_law_spoilt" s__law_spoilt f cdv A outer s H E).N.Nodup := sc__law_spoilt.nd
  (js_cons (js_set (i := 2) nd rfl (by first | exact .inl rfl | exact .inr rfl) (je_cx F__law_any hr hgu tk bd__law_any rfl (ja_cons (jv 0) (ja_cons je_int ja_nil)))) (js_cons (js_if (PW.pt (jw_or (jt_eq hr (jv 2) je_int) (jw_or1 (jt_eq hr (je_len rfl n_len (ja_cons (jv 1) ja_nil)) je_int)))) (js_cons (js_ret (je_cx F__law_of hr hgu tk bd__law_of rfl (ja_cons (jv 0) (ja_cons (je_lst (ja_cons (je_listOf rfl n_list (ja_cons (jv 1) ja_nil)) (ja_cons je_non (ja_cons (je_add (jv 1) (je_tup (ja_cons je_int ja_nil))) (ja_cons (je_add (jv 1) (je_slice (jv 1) jo_none (jo_some je_int))) (ja_cons (je_tup (ja_cons (jv 1) ja_nil)) (ja_cons je_int ja_nil))))))) ja_nil)))) js_nil) js_nil) (js_cons (js_set (i := 3) nd rfl (by first | exact .inl rfl | exact .inr rfl) (je_cx F__law_any hr hgu tk bd__law_any rfl (ja_cons (jv 0) (ja_cons (je_len rfl n_len (ja_cons (jv 1) ja_nil)) ja_nil)))) (js_cons (js_if (jt_eq hr (jv 2) je_int) (js_cons (js_ret (je_add (je_slice (jv 1) jo_none (jo_some (jv 3))) (je_slice (jv 1) (jo_some (je_add (jv 3) je_int)) jo_none))) js_nil) js_nil) (js_cons (js_if (jt_eq hr (jv 2) je_int) (js_cons (js_ret (je_revQ (jv 1))) js_nil) js_nil) (js_cons (js_if (jt_eq hr (jv 2) je_int) (js_cons (js_set (i := 4) nd rfl (by first | exact .inl rfl | exact .inr rfl) (je_cx F__law_any hr hgu tk bd__law_any rfl (ja_cons (jv 0) (ja_cons (je_len rfl n_len (ja_cons (jv 1) ja_nil)) ja_nil)))) (js_cons (js_set (i := 5) nd rfl (by first | exact .inl rfl | exact .inr rfl) (je_listM rfl n_list (ja_cons (jv 1) ja_nil))) (js_cons (js_asg (ws := []) (je_tup (ja_cons (je_at (jv 5) (jv 4)) (ja_cons (je_at (jv 5) (jv 3)) ja_nil))) (jg_tup rfl (jgs_cons (jg_sub (jv 5) (jv 3)) (jgs_cons (jg_sub (jv 5) (jv 4)) jgs_nil)))) (js_cons (js_ret (je_tupleOf rfl n_tuple (ja_cons (jv 5) ja_nil))) js_nil)))) js_nil) (js_cons (js_if (jt_tru (je_isi rfl n_isinstance (ja_cons (je_at (jv 1) (jv 3)) (ja_cons (je_bty rfl n_tuple PyProof.Rows.boot_tuple) ja_nil)))) (js_cons (js_ret (je_add (je_add (je_slice (jv 1) jo_none (jo_some (jv 3))) (je_tup (ja_cons (je_cx F__law_spoilt hr hgu tk bd__law_spoilt rfl (ja_cons (jv 0) (ja_cons (je_at (jv 1) (jv 3)) ja_nil))) ja_nil))) (je_slice (jv 1) (jo_some (je_add (jv 3) je_int)) jo_none))) js_nil) js_nil) (js_cons (js_if (jt_eq hr (jv 2) je_int) (js_cons (js_ret (je_add (je_add (je_slice (jv 1) jo_none (jo_some (jv 3))) (je_tup (ja_cons (je_cx F__law_of hr hgu tk bd__law_of rfl (ja_cons (jv 0) (ja_cons (je_lst (ja_cons je_bl (ja_cons je_bl (ja_cons je_non (ja_cons je_str (ja_cons (je_neg je_int) (ja_cons je_int ja_nil))))))) ja_nil))) ja_nil))) (je_slice (jv 1) (jo_some (je_add (jv 3) je_int)) jo_none))) js_nil) js_nil) (js_cons (js_ret (je_add (je_add (je_slice (jv 1) jo_none (jo_some (jv 3))) (je_tup (ja_cons (je_cx F__law_any hr hgu tk bd__law_any rfl (ja_cons (jv 0) (ja_cons je_int ja_nil))) ja_nil))) (je_slice (jv 1) (jo_some (je_add (jv 3) je_int)) jo_none))) js_nil)))))))))
theorem ok__law_spoilt  {S__law_any S__law_of S__law_spoilt : DSp} {S : DSp} (D : FnP K "_law_spoilt" s__law_spoilt f fd) (m : mg "_law_spoilt" = some (.ref f)) (F__law_any : Fx P w K mg base k "_law_any" s__law_any ps__law_any S__law_any) (F__law_of : Fx P w K mg base k "_law_of" s__law_of ps__law_of S__law_of) (F__law_spoilt : Fx P w K mg base k "_law_spoilt" s__law_spoilt ps__law_spoilt S__law_spoilt) (n_isinstance : mg "isinstance" = none) (n_tuple : mg "tuple" = none) (n_list : mg "list" = none) (n_len : mg "len" = none) (len : ∀ ds M Pd X, S ds M Pd X → ds.length = ps__law_spoilt.length)
    (hp : ∀ ds M Pd X, MemOk M → S ds M Pd X → t__law_spoilt S__law_any S__law_of S__law_spoilt (dkOf M.length Pd X) (startD N__law_spoilt ds) M) : Fx P w K mg base (k + 1) "_law_spoilt" s__law_spoilt ps__law_spoilt S :=
  fx_of D m sc__law_spoilt _ len (fun _ _ _ _ _ _ _ hr hgu tk => b__law_spoilt F__law_any F__law_of F__law_spoilt n_isinstance n_tuple n_list n_len hr hgu tk) hp
def t__law_turned (S__law_spoilt S__law_of S__law_any : DSp) : DS := (dSeq (dSet 3 (dCall S__law_any (dCons (dVar 0) (dCons (dC (.int 6)) dNil)))) (dSeq (dIfS (dOr (dTest (dOp gEq (dCB gLen (dCons (dVar 2) dNil)) (dC (.int 0)))) (dTest (dOp gEq (dVar 3) (dC (.int 0))))) (dSeq (dRet (dCall S__law_of (dCons (dVar 0) (dCons (dLst (dCons (dCB gList (dCons (dVar 2) dNil)) (dCons (dC .non) (dCons (dOp gAdd (dVar 2) (dTup (dCons (dTup (dCons (dOp gIx (dVar 1) (dC (.int 0))) (dCons (dOp gIx (dVar 1) (dUn gNeg (dC (.int 1)))) dNil))) dNil))) (dCons (dTup dNil) (dCons (dSl (dVar 2) dNoP (dPart (dUn gNeg (dC (.int 1))))) (dCons (dTup (dCons (dTup (dCons (dC (.bl true)) (dCons (dC (.bl false)) dNil))) dNil)) dNil))))))) dNil)))) dNext) dNext) (dSeq (dSet 4 (dCall S__law_any (dCons (dVar 0) (dCons (dCB gLen (dCons (dVar 2) dNil)) dNil)))) (dSeq (dAsg (dOp gIx (dVar 2) (dVar 4)) (gT 2 (gsCons (gN 5) (gsCons (gN 6) gsNil)))) (dSeq (dIfS (dTest (dOp gEq (dVar 3) (dC (.int 1)))) (dSeq (dRet (dOp gAdd (dOp gAdd (dSl (dVar 2) dNoP (dPart (dVar 4))) (dTup (dCons (dTup (dCons (dVar 5) (dCons (dCall S__law_of (dCons (dVar 0) (dCons (dVar 1) dNil))) dNil))) dNil))) (dSl (dVar 2) (dPart (dOp gAdd (dVar 4) (dC (.int 1)))) dNoP))) dNext) dNext) (dSeq (dIfS (dTest (dOp gEq (dVar 3) (dC (.int 2)))) (dSeq (dRet (dOp gAdd (dOp gAdd (dSl (dVar 2) dNoP (dPart (dVar 4))) (dTup (dCons (dTup (dCons (dCall S__law_of (dCons (dVar 0) (dCons (dVar 1) dNil))) (dCons (dVar 6) dNil))) dNil))) (dSl (dVar 2) (dPart (dOp gAdd (dVar 4) (dC (.int 1)))) dNoP))) dNext) dNext) (dSeq (dIfS (dTest (dOp gEq (dVar 3) (dC (.int 3)))) (dSeq (dRet (dOp gAdd (dOp gAdd (dSl (dVar 2) dNoP (dPart (dVar 4))) (dTup (dCons (dTup (dCons (dVar 6) (dCons (dVar 5) dNil))) dNil))) (dSl (dVar 2) (dPart (dOp gAdd (dVar 4) (dC (.int 1)))) dNoP))) dNext) dNext) (dSeq (dIfS (dTest (dOp gEq (dVar 3) (dC (.int 4)))) (dSeq (dSet 7 (dLst (dCons (dCB gTuple (dCons (dComp (iSeq (dVar 5)) (gN 8) dYes (dIf (dTest (dOp gLt (dVar 8) (dC (.int 2)))) (dOp gEq (dVar 8) (dC (.int 1))) (dVar 8)) [8]) dNil)) (dCons (dCB gList (dCons (dVar 5) dNil)) (dCons (dRevQ (dVar 5)) (dCons (dOp gAdd (dVar 5) (dTup (dCons (dC (.int 9)) dNil))) (dCons (dSl (dVar 5) (dPart (dC (.int 1))) dNoP) dNil))))))) (dSeq (dRet (dOp gAdd (dOp gAdd (dSl (dVar 2) dNoP (dPart (dVar 4))) (dTup (dCons (dTup (dCons (dCall S__law_of (dCons (dVar 0) (dCons (dVar 7) dNil))) (dCons (dVar 6) dNil))) dNil))) (dSl (dVar 2) (dPart (dOp gAdd (dVar 4) (dC (.int 1)))) dNoP))) dNext)) dNext) (dSeq (dRet (dCall S__law_spoilt (dCons (dVar 0) (dCons (dVar 2) dNil)))) dNext)))))))))
theorem b__law_turned  {S__law_spoilt S__law_of S__law_any : DSp} {cdv : Value} {A : Around} {outer : List Env} {s : Shared} {H : Hp} {E : XK} {W : WX} (F__law_spoilt : Fx P w K mg base k "_law_spoilt" s__law_spoilt ps__law_spoilt S__law_spoilt) (F__law_of : Fx P w K mg base k "_law_of" s__law_of ps__law_of S__law_of) (F__law_any : Fx P w K mg base k "_law_any" s__law_any ps__law_any S__law_any) (n_list : mg "list" = none) (n_tuple : mg "tuple" = none) (n_len : mg "len" = none)
    (hr : Room k (CF P w K mg base N__law_turned "_law_turned" s__law_turned f cdv A outer s H E).A) (hgu : (CF P w K mg base N__law_turned "_law_turned" s__law_turned f cdv A outer s H E).A.guards = some []) (tk : Takes (CF P w K mg base N__law_turned "_law_turned" s__law_turned f cdv A outer s H E) W) : JSs (CF P w K mg base N__law_turned "_law_turned" s__law_turned f cdv A outer s H E) W (defBody s__law_turned) (t__law_turned S__law_spoilt S__law_of S__law_any) :=
  have nd : (CF P w K mg base N__law_turned "_law_turned" s__law_turned f cdv A outer s H E).N.Nodup := sc__law_turned.nd
  (js_cons (js_set (i := 3) nd rfl (by first | exact .inl rfl | exact .inr rfl) (je_cx F__law_any hr hgu tk bd__law_any rfl (ja_cons (jv 0) (ja_cons je_int ja_nil)))) (js_cons (js_if (PW.pt (jw_or (jt_eq hr (je_len rfl n_len (ja_cons (jv 2) ja_nil)) je_int) (jw_or1 (jt_eq hr (jv 3) je_int)))) (js_cons (js_ret (je_cx F__law_of hr hgu tk bd__law_of rfl (ja_cons (jv 0) (ja_cons (je_lst (ja_cons (je_listOf rfl n_list (ja_cons (jv 2) ja_nil)) (ja_cons je_non (ja_cons (je_add (jv 2) (je_tup (ja_cons (je_tup (ja_cons (je_at (jv 1) je_int) (ja_cons (je_at (jv 1) (je_neg je_int)) ja_nil))) ja_nil))) (ja_cons (je_tup ja_nil) (ja_cons (je_slice (jv 2) jo_none (jo_some (je_neg je_int))) (ja_cons (je_tup (ja_cons (je_tup (ja_cons je_bl (ja_cons je_bl ja_nil))) ja_nil)) ja_nil))))))) ja_nil)))) js_nil) js_nil) (js_cons (js_set (i := 4) nd rfl (by first | exact .inl rfl | exact .inr rfl) (je_cx F__law_any hr hgu tk bd__law_any rfl (ja_cons (jv 0) (ja_cons (je_len rfl n_len (ja_cons (jv 2) ja_nil)) ja_nil)))) (js_cons (js_asg (ws := [5, 6]) (je_at (jv 2) (jv 4)) (jg_tup rfl (jgs_cons (jg_name (i := 5) (by simp) nd rfl (by first | exact .inl rfl | exact .inr rfl)) (jgs_cons (jg_name (i := 6) (by simp) nd rfl (by first | exact .inl rfl | exact .inr rfl)) jgs_nil)))) (js_cons (js_if (jt_eq hr (jv 3) je_int) (js_cons (js_ret (je_add (je_add (je_slice (jv 2) jo_none (jo_some (jv 4))) (je_tup (ja_cons (je_tup (ja_cons (jv 5) (ja_cons (je_cx F__law_of hr hgu tk bd__law_of rfl (ja_cons (jv 0) (ja_cons (jv 1) ja_nil))) ja_nil))) ja_nil))) (je_slice (jv 2) (jo_some (je_add (jv 4) je_int)) jo_none))) js_nil) js_nil) (js_cons (js_if (jt_eq hr (jv 3) je_int) (js_cons (js_ret (je_add (je_add (je_slice (jv 2) jo_none (jo_some (jv 4))) (je_tup (ja_cons (je_tup (ja_cons (je_cx F__law_of hr hgu tk bd__law_of rfl (ja_cons (jv 0) (ja_cons (jv 1) ja_nil))) (ja_cons (jv 6) ja_nil))) ja_nil))) (je_slice (jv 2) (jo_some (je_add (jv 4) je_int)) jo_none))) js_nil) js_nil) (js_cons (js_if (jt_eq hr (jv 3) je_int) (js_cons (js_ret (je_add (je_add (je_slice (jv 2) jo_none (jo_some (jv 4))) (je_tup (ja_cons (je_tup (ja_cons (jv 6) (ja_cons (jv 5) ja_nil))) ja_nil))) (je_slice (jv 2) (jo_some (je_add (jv 4) je_int)) jo_none))) js_nil) js_nil) (js_cons (js_if (jt_eq hr (jv 3) je_int) (js_cons (js_set (i := 7) nd rfl (by first | exact .inl rfl | exact .inr rfl) (je_lst (ja_cons (je_tupleOf rfl n_tuple (ja_cons (je_comp (own := [("key", 8)]) (ws := [8]) rfl nd (by simp) (ji_seq (jv 5)) (blkOk_by (by first | rfl | decide +kernel)) (fun _ _ _ _ _ => (jg_name (i := 8) (by simp) nd rfl (by first | exact .inl rfl | exact .inr rfl))) (fun _ _ _ _ _ => jts_nil) (fun _ _ _ _ _ => (je_if (jt_lt (jv 8) je_int) (je_eq hr (jv 8) je_int) (jv 8)))) ja_nil)) (ja_cons (je_listOf rfl n_list (ja_cons (jv 5) ja_nil)) (ja_cons (je_revQ (jv 5)) (ja_cons (je_add (jv 5) (je_tup (ja_cons je_int ja_nil))) (ja_cons (je_slice (jv 5) (jo_some je_int) jo_none) ja_nil))))))) (js_cons (js_ret (je_add (je_add (je_slice (jv 2) jo_none (jo_some (jv 4))) (je_tup (ja_cons (je_tup (ja_cons (je_cx F__law_of hr hgu tk bd__law_of rfl (ja_cons (jv 0) (ja_cons (jv 7) ja_nil))) (ja_cons (jv 6) ja_nil))) ja_nil))) (je_slice (jv 2) (jo_some (je_add (jv 4) je_int)) jo_none))) js_nil)) js_nil) (js_cons (js_ret (je_cx F__law_spoilt hr hgu tk bd__law_spoilt rfl (ja_cons (jv 0) (ja_cons (jv 2) ja_nil)))) js_nil)))))))))
theorem ok__law_turned  {S__law_spoilt S__law_of S__law_any : DSp} {S : DSp} (D : FnP K "_law_turned" s__law_turned f fd) (m : mg "_law_turned" = some (.ref f)) (F__law_spoilt : Fx P w K mg base k "_law_spoilt" s__law_spoilt ps__law_spoilt S__law_spoilt) (F__law_of : Fx P w K mg base k "_law_of" s__law_of ps__law_of S__law_of) (F__law_any : Fx P w K mg base k "_law_any" s__law_any ps__law_any S__law_any) (n_list : mg "list" = none) (n_tuple : mg "tuple" = none) (n_len : mg "len" = none) (len : ∀ ds M Pd X, S ds M Pd X → ds.length = ps__law_turned.length)
    (hp : ∀ ds M Pd X, MemOk M → S ds M Pd X → t__law_turned S__law_spoilt S__law_of S__law_any (dkOf M.length Pd X) (startD N__law_turned ds) M) : Fx P w K mg base (k + 1) "_law_turned" s__law_turned ps__law_turned S :=
  fx_of D m sc__law_turned _ len (fun _ _ _ _ _ _ _ hr hgu tk => b__law_turned F__law_spoilt F__law_of F__law_any n_list n_tuple n_len hr hgu tk) hp
def t_law (C_Frame : Addr) (S__law_is_folding S_folding S__law_same S_is_folding S__law_turned S__law_taken_off S__law_grown S_ears S__law_holders S__law_folds S__law_any_way S__law_frame S__law_any S__law_draw S_Frame___init__ : DSp) : DS := (dSeq (dSet 1 (dCall S__law_draw (dCons (dVar 0) (dCons (dC (.int 35)) dNil)))) (dSeq (dFor (iRan1 (dCons (dC (.int 5)) dNil)) (gN 2) (dSeq (dSet 3 (dOp gAdd (dC (.int 1)) (dCall S__law_any (dCons (dVar 1) (dCons (dC (.int 8)) dNil))))) (dSeq (dSet 4 (dCall S__law_frame (dCons (dVar 1) (dCons (dVar 3) (dCons (dC (.int 10)) dNil))))) (dSeq (dAsg (dTup (dCons (dMake C_Frame S_Frame___init__ (dCons (dVar 3) (dCons (dCall S__law_any_way (dCons (dVar 1) (dCons (dVar 4) dNil))) dNil))) (dCons (dCall S__law_folds (dCons (dVar 4) dNil)) dNil))) (gT 2 (gsCons (gN 5) (gsCons (gN 6) gsNil)))) (dSeq (dIfS (dNot (dTru (dTells S__law_same (dCall S_ears (dCons (dVar 5) dNil)) (dCB gTuple (dCons (dComp (iSeq (dVar 4)) (gN 12) (dTest (dOp gNe (dCall S__law_holders (dCons (dVar 4) (dCons (dVar 12) dNil))) (dLst dNil))) (dVar 12) [12]) dNil))))) (dSeq (dRet (dC (.bl false))) dNext) dNext) (dSeq (dSet 7 (dCall S_folding (dCons (dVar 5) dNil))) (dSeq (dIfS (dOr (dTest (dOp gEq (dOp (gIs false) (dVar 7) (dC .non)) (dVar 6))) (dAnd (dTru (dVar 6)) (dNot (dTru (dCall S__law_is_folding (dCons (dVar 4) (dCons (dVar 7) dNil))))))) (dSeq (dRet (dC (.bl false))) dNext) dNext) (dSeq (dIfS (dNot (dTru (dVar 6))) (dSeq (dSet 4 (dCall S__law_grown (dCons (dVar 1) (dCons (dVar 3) (dCons (dC (.int 9)) dNil))))) (dSeq (dSet 5 (dMake C_Frame S_Frame___init__ (dCons (dVar 3) (dCons (dVar 4) dNil)))) dNext)) dNext) (dSeq (dFor (iRan1 (dCons (dC (.int 3)) dNil)) (gN 8) (dSeq (dSet 9 (dCall S__law_taken_off (dCons (dVar 1) (dCons (dVar 4) dNil)))) (dSeq (dIfS (dTest (dOp (gIs true) (dCall S_is_folding (dCons (dVar 5) (dCons (dVar 9) dNil))) (dC (.bl true)))) (dSeq (dRet (dC (.bl false))) dNext) dNext) (dSeq (dFor (iRan1 (dCons (dC (.int 6)) dNil)) (gN 10) (dSeq (dSet 11 (dCall S__law_turned (dCons (dVar 1) (dCons (dVar 4) (dCons (dVar 9) dNil))))) (dSeq (dIfS (dNot (dTru (dCall S__law_same (dCons (dCall S_is_folding (dCons (dVar 5) (dCons (dVar 11) dNil))) (dCons (dCall S__law_is_folding (dCons (dVar 4) (dCons (dVar 11) dNil))) dNil))))) (dSeq (dRet (dC (.bl false))) dNext) dNext) dNext))) dNext)))) (dSeq (dIfS (dNot (dTru (dCall S__law_is_folding (dCons (dVar 4) (dCons (dCall S_folding (dCons (dVar 5) dNil)) dNil))))) (dSeq (dRet (dC (.bl false))) dNext) dNext) dNext)))))))))) (dSeq (dRet (dC (.bl true))) dNext)))
theorem b_law  {C_Frame : Addr} {S__law_is_folding S_folding S__law_same S_is_folding S__law_turned S__law_taken_off S__law_grown S_ears S__law_holders S__law_folds S__law_any_way S__law_frame S__law_any S__law_draw S_Frame___init__ : DSp} {cdv : Value} {A : Around} {outer : List Env} {s : Shared} {H : Hp} {E : XK} {W : WX} (F__law_is_folding : Fx P w K mg base k "_law_is_folding" s__law_is_folding ps__law_is_folding S__law_is_folding) (F_folding : Fx P w K mg base k "folding" s_folding ps_folding S_folding) (F__law_same : Fx P w K mg base k "_law_same" s__law_same ps__law_same S__law_same) (F_is_folding : Fx P w K mg base k "is_folding" s_is_folding ps_is_folding S_is_folding) (F__law_turned : Fx P w K mg base k "_law_turned" s__law_turned ps__law_turned S__law_turned) (F__law_taken_off : Fx P w K mg base k "_law_taken_off" s__law_taken_off ps__law_taken_off S__law_taken_off) (F__law_grown : Fx P w K mg base k "_law_grown" s__law_grown ps__law_grown S__law_grown) (F_ears : Fx P w K mg base k "ears" s_ears ps_ears S_ears) (F__law_holders : Fx P w K mg base k "_law_holders" s__law_holders ps__law_holders S__law_holders) (F__law_folds : Fx P w K mg base k "_law_folds" s__law_folds ps__law_folds S__law_folds) (F__law_any_way : Fx P w K mg base k "_law_any_way" s__law_any_way ps__law_any_way S__law_any_way) (F__law_frame : Fx P w K mg base k "_law_frame" s__law_frame ps__law_frame S__law_frame) (F__law_any : Fx P w K mg base k "_law_any" s__law_any ps__law_any S__law_any) (F__law_draw : Fx P w K mg base k "_law_draw" s__law_draw ps__law_draw S__law_draw) (M_Frame : Mx P w K mg base k "Frame" "Frame.__init__" C_Frame s_Frame___init__ ps_Frame___init__ S_Frame___init__) (n_range : mg "range" = none) (n_tuple : mg "tuple" = none) (F__law_tells : Tells P w K mg base (k + 1) "_law_tells" s__law_tells "work" "due" S__law_same) {c Pt : Addr} (TB : LamX.TabB base mg c Pt) (hT : TBL.T = [(Pt, (("law" : Str) ++ ".<locals>.") ++ "<lambda>")])
    (hr3 : Room (k + 3) (CF P w K mg base N_law "law" s_law f (.ref c) A outer s H E).A) (hgu : (CF P w K mg base N_law "law" s_law f (.ref c) A outer s H E).A.guards = some []) (tk : Takes (CF P w K mg base N_law "law" s_law f (.ref c) A outer s H E) W) : JSs (CF P w K mg base N_law "law" s_law f (.ref c) A outer s H E) W (defBody s_law) (t_law C_Frame S__law_is_folding S_folding S__law_same S_is_folding S__law_turned S__law_taken_off S__law_grown S_ears S__law_holders S__law_folds S__law_any_way S__law_frame S__law_any S__law_draw S_Frame___init__) :=
  have nd : (CF P w K mg base N_law "law" s_law f (.ref c) A outer s H E).N.Nodup := sc_law.nd
  have hr : Room k (CF P w K mg base N_law "law" s_law f (.ref c) A outer s H E).A := hr3.mono (by omega)
  (js_cons (js_set (i := 1) nd rfl (by first | exact .inl rfl | exact .inr rfl) (je_cx F__law_draw hr hgu tk bd__law_draw rfl (ja_cons (jv 0) (ja_cons je_int ja_nil)))) (js_cons (js_for (ws := [2]) (passes_of rfl) rfl (ji_range1 rfl n_range (ja_cons je_int ja_nil)) (jg_name (i := 2) (by simp) nd rfl (by first | exact .inl rfl | exact .inr rfl)) (js_cons (js_set (i := 3) nd rfl (by first | exact .inl rfl | exact .inr rfl) (je_add je_int (je_cx F__law_any hr hgu tk bd__law_any rfl (ja_cons (jv 1) (ja_cons je_int ja_nil))))) (js_cons (js_set (i := 4) nd rfl (by first | exact .inl rfl | exact .inr rfl) (je_cx F__law_frame hr hgu tk bd__law_frame rfl (ja_cons (jv 1) (ja_cons (jv 3) (ja_cons je_int ja_nil))))) (js_cons (js_asg (ws := [5, 6]) (je_tup (ja_cons (je_cm M_Frame hr hgu tk bd_Frame___init__ rfl (ja_cons (jv 3) (ja_cons (je_cx F__law_any_way hr hgu tk bd__law_any_way rfl (ja_cons (jv 1) (ja_cons (jv 4) ja_nil))) ja_nil))) (ja_cons (je_cx F__law_folds hr hgu tk bd__law_folds rfl (ja_cons (jv 4) ja_nil)) ja_nil))) (jg_tup rfl (jgs_cons (jg_name (i := 5) (by simp) nd rfl (by first | exact .inl rfl | exact .inr rfl)) (jgs_cons (jg_name (i := 6) (by simp) nd rfl (by first | exact .inl rfl | exact .inr rfl)) jgs_nil)))) (js_cons (js_if (jt_not (jt_tru (je_tells F__law_tells hr3 hgu tk bd__law_tells rfl TB rfl (by rw [hT]; exact List.mem_singleton.mpr rfl) (by rw [hT]; intro p hp _; rw [List.mem_singleton.mp hp]; rfl) (LamX.lamS_by (by rfl)) (fun _ _ _ _ _ _ hr hgu => (je_cx F_ears hr hgu takes0 bd_ears rfl (ja_cons (jv 5) ja_nil))) (je_tupleOf rfl n_tuple (ja_cons (je_comp (own := [("lot", 12)]) (ws := [12]) rfl nd (by simp) (ji_seq (jv 4)) (blkOk_by (by first | rfl | decide +kernel)) (fun _ _ _ _ _ => (jg_name (i := 12) (by simp) nd rfl (by first | exact .inl rfl | exact .inr rfl))) (fun _ _ _ _ _ => (jts_one (jt_ne hr (je_cx F__law_holders hr hgu takes0 bd__law_holders rfl (ja_cons (jv 4) (ja_cons (jv 12) ja_nil))) (je_lst ja_nil)))) (fun _ _ _ _ _ => (jv 12))) ja_nil))))) (js_cons (js_ret je_bl) js_nil) js_nil) (js_cons (js_set (i := 7) nd rfl (by first | exact .inl rfl | exact .inr rfl) (je_cx F_folding hr hgu tk bd_folding rfl (ja_cons (jv 5) ja_nil))) (js_cons (js_if (PW.pt (jw_or (jt_eq hr (je_is (jv 7) je_non) (jv 6)) (jw_or1 (PW.pt (jw_and (jt_tru (jv 6)) (jw_and1 (jt_not (jt_tru (je_cx F__law_is_folding hr hgu tk bd__law_is_folding rfl (ja_cons (jv 4) (ja_cons (jv 7) ja_nil))))))))))) (js_cons (js_ret je_bl) js_nil) js_nil) (js_cons (js_if (jt_not (jt_tru (jv 6))) (js_cons (js_set (i := 4) nd rfl (by first | exact .inl rfl | exact .inr rfl) (je_cx F__law_grown hr hgu tk bd__law_grown rfl (ja_cons (jv 1) (ja_cons (jv 3) (ja_cons je_int ja_nil))))) (js_cons (js_set (i := 5) nd rfl (by first | exact .inl rfl | exact .inr rfl) (je_cm M_Frame hr hgu tk bd_Frame___init__ rfl (ja_cons (jv 3) (ja_cons (jv 4) ja_nil)))) js_nil)) js_nil) (js_cons (js_for (ws := [8]) (passes_of rfl) rfl (ji_range1 rfl n_range (ja_cons je_int ja_nil)) (jg_name (i := 8) (by simp) nd rfl (by first | exact .inl rfl | exact .inr rfl)) (js_cons (js_set (i := 9) nd rfl (by first | exact .inl rfl | exact .inr rfl) (je_cx F__law_taken_off hr hgu tk bd__law_taken_off rfl (ja_cons (jv 1) (ja_cons (jv 4) ja_nil)))) (js_cons (js_if (jt_isNot (je_cx F_is_folding hr hgu tk bd_is_folding rfl (ja_cons (jv 5) (ja_cons (jv 9) ja_nil))) je_bl) (js_cons (js_ret je_bl) js_nil) js_nil) (js_cons (js_for (ws := [10]) (passes_of rfl) rfl (ji_range1 rfl n_range (ja_cons je_int ja_nil)) (jg_name (i := 10) (by simp) nd rfl (by first | exact .inl rfl | exact .inr rfl)) (js_cons (js_set (i := 11) nd rfl (by first | exact .inl rfl | exact .inr rfl) (je_cx F__law_turned hr hgu tk bd__law_turned rfl (ja_cons (jv 1) (ja_cons (jv 4) (ja_cons (jv 9) ja_nil))))) (js_cons (js_if (jt_not (jt_tru (je_cx F__law_same hr hgu tk bd__law_same rfl (ja_cons (je_cx F_is_folding hr hgu tk bd_is_folding rfl (ja_cons (jv 5) (ja_cons (jv 11) ja_nil))) (ja_cons (je_cx F__law_is_folding hr hgu tk bd__law_is_folding rfl (ja_cons (jv 4) (ja_cons (jv 11) ja_nil))) ja_nil))))) (js_cons (js_ret je_bl) js_nil) js_nil) js_nil))) js_nil)))) (js_cons (js_if (jt_not (jt_tru (je_cx F__law_is_folding hr hgu tk bd__law_is_folding rfl (ja_cons (jv 4) (ja_cons (je_cx F_folding hr hgu tk bd_folding rfl (ja_cons (jv 5) ja_nil)) ja_nil))))) (js_cons (js_ret je_bl) js_nil) js_nil) js_nil)))))))))) (js_cons (js_ret je_bl) js_nil)))
end
end D.k35
end

section
set_option Elab.async false
set_option linter.all false
set_option autoImplicit false
/-! The plain law of k80, part 1: orders of simple keys. -/
namespace D.P80
abbrev Lot := List Int
def Adj (R : List Lot) (a b : Int) : Prop := ∃ l ∈ R, a ∈ l ∧ b ∈ l
/-- some lot holds v and all of left that share a lot with it -/
def Simple (R : List Lot) (left : List Int) (v : Int) : Prop := ∃ l ∈ R, v ∈ l ∧ ∀ w ∈ left, Adj R v w → w ∈ l
def Ord (R : List Lot) : List Int → Prop
  | [] => True
  | v :: t => Simple R t v ∧ Ord R t
theorem Simple.less {R : List Lot} {left left' : List Int} {v : Int} (h : Simple R left v) (hs : ∀ w ∈ left', w = v ∨ w ∈ left) : Simple R left' v := by
  obtain ⟨l, hl, hv, hw⟩ := h
  exact ⟨l, hl, hv, fun w h1 h2 => by
    rcases hs w h1 with rfl | h3
    · exact hv
    · exact hw w h3 h2⟩
theorem Ord.sub {R : List Lot} {t t' : List Int} (s : t'.Sublist t) : Ord R t → Ord R t' := by
  induction s with
  | slnil => exact id
  | cons a s ih => exact fun h => ih h.2
  | cons_cons a s ih => exact fun h => ⟨h.1.less fun w hw => .inr (s.subset hw), ih h.2⟩
theorem Ord.simple {R : List Lot} : ∀ {o : List Int}, Ord R o → ∀ {left : List Int}, left ≠ [] → (∀ w ∈ left, w ∈ o) → ∃ v ∈ left, Simple R left v
  | [], _, left, hn, hs => by
    cases left with
    | nil => exact absurd rfl hn
    | cons w t => cases hs w List.mem_cons_self
  | u :: o, h, left, hn, hs => by
    by_cases hu : u ∈ left
    · exact ⟨u, hu, h.1.less fun w hw => by
        rcases List.mem_cons.mp (hs w hw) with h1 | h1
        · exact .inl h1
        · exact .inr h1⟩
    · exact Ord.simple h.2 hn fun w hw => by
        rcases List.mem_cons.mp (hs w hw) with h1 | h1
        · exact absurd (h1 ▸ hw) hu
        · exact h1
/-- each of R lies within one of R' -/
def Cov (R R' : List Lot) : Prop := ∀ l ∈ R, ∃ l' ∈ R', ∀ x ∈ l, x ∈ l'
theorem Adj.cov {R R' : List Lot} (h : Cov R R') {a b : Int} (k : Adj R a b) : Adj R' a b := by
  obtain ⟨l, hl, ha, hb⟩ := k
  obtain ⟨l', hl', hs⟩ := h l hl
  exact ⟨l', hl', hs a ha, hs b hb⟩
/-- rows that lie within others may go -/
theorem Simple.cov {R R' : List Lot} (h : Cov R R') (h' : Cov R' R) {left : List Int} {v : Int} (k : Simple R left v) : Simple R' left v := by
  obtain ⟨l, hl, hv, hw⟩ := k
  obtain ⟨l', hl', hs⟩ := h l hl
  exact ⟨l', hl', hs v hv, fun w h1 h2 => hs w (hw w h1 (h2.cov h'))⟩
theorem Ord.cov {R R' : List Lot} (h : Cov R R') (h' : Cov R' R) : ∀ {o : List Int}, Ord R o → Ord R' o
  | [], _ => trivial
  | _ :: _, k => ⟨k.1.cov h h', Ord.cov h h' k.2⟩
/-- a stuck family of two or more is not in order: the lots of a simple key lie within one -/
theorem stuck {R : List Lot} {left : List Int} (hk : ∀ l ∈ R, ∀ x ∈ l, x ∈ left) {v : Int} (h : Simple R left v) : ∃ l ∈ R, v ∈ l ∧ ∀ m ∈ R, v ∈ m → ∀ x ∈ m, x ∈ l := by
  obtain ⟨l, hl, hv, hw⟩ := h
  exact ⟨l, hl, hv, fun m hm hvm x hx => hw x (hk m hm x hx) ⟨m, hm, hvm, hx⟩⟩
/-- the rows without the keys that p leaves out -/
def cutR (p : Int → Bool) (R : List Lot) : List Lot := R.map fun l => l.filter p
theorem adj_cut {p : Int → Bool} {R : List Lot} {a b : Int} : Adj (cutR p R) a b ↔ Adj R a b ∧ p a = true ∧ p b = true := by
  constructor
  · rintro ⟨l', hl', ha, hb⟩
    obtain ⟨l, hl, rfl⟩ := List.mem_map.mp hl'
    obtain ⟨a1, a2⟩ := List.mem_filter.mp ha
    obtain ⟨b1, b2⟩ := List.mem_filter.mp hb
    exact ⟨⟨l, hl, a1, b1⟩, a2, b2⟩
  · rintro ⟨⟨l, hl, ha, hb⟩, pa, pb⟩
    exact ⟨l.filter p, List.mem_map.mpr ⟨l, hl, rfl⟩, List.mem_filter.mpr ⟨ha, pa⟩, List.mem_filter.mpr ⟨hb, pb⟩⟩
theorem Ord.cut {p : Int → Bool} {R : List Lot} : ∀ {o : List Int}, Ord R o → Ord (cutR p R) (o.filter p)
  | [], _ => trivial
  | v :: t, h => by
    by_cases hp : p v = true
    · rw [List.filter_cons_of_pos hp]
      obtain ⟨l, hl, hv, hw⟩ := h.1
      exact ⟨⟨l.filter p, List.mem_map.mpr ⟨l, hl, rfl⟩, List.mem_filter.mpr ⟨hv, hp⟩, fun w h1 h2 => by
        obtain ⟨w1, w2⟩ := List.mem_filter.mp h1
        exact List.mem_filter.mpr ⟨hw w w1 (adj_cut.mp h2).1, w2⟩⟩, Ord.cut h.2⟩
    · rw [List.filter_cons_of_neg hp]; exact Ord.cut h.2
theorem Ord.uncut {p : Int → Bool} {R : List Lot} : ∀ {o : List Int}, (∀ v ∈ o, p v = true) → Ord (cutR p R) o → Ord R o
  | [], _, _ => trivial
  | v :: t, hp, h => by
    obtain ⟨l', hl', hv, hw⟩ := h.1
    obtain ⟨l, hl, rfl⟩ := List.mem_map.mp hl'
    exact ⟨⟨l, hl, (List.mem_filter.mp hv).1, fun w h1 h2 => (List.mem_filter.mp (hw w h1 (adj_cut.mpr ⟨h2, hp v List.mem_cons_self, hp w (List.mem_cons_of_mem _ h1)⟩))).1⟩, Ord.uncut (fun w hw => hp w (List.mem_cons_of_mem _ hw)) h.2⟩
/-- keys of one row alone come first -/
theorem Ord.first {R : List Lot} {o : List Int} (h : Ord R o) : ∀ {us : List Int}, (∀ u ∈ us, (∃ l ∈ R, u ∈ l) ∧ ∀ l ∈ R, ∀ m ∈ R, u ∈ l → u ∈ m → l = m) → Ord R (us ++ o)
  | [], _ => h
  | u :: us, hu => by
    obtain ⟨⟨l, hl, hul⟩, h1⟩ := hu u List.mem_cons_self
    exact ⟨⟨l, hl, hul, fun w _ ⟨m, hm, hum, hwm⟩ => by rw [h1 l hl m hm hul hum]; exact hwm⟩, Ord.first h fun x hx => hu x (List.mem_cons_of_mem _ hx)⟩
end D.P80
end

section
set_option Elab.async false
set_option linter.all false
set_option autoImplicit false
/-! The plain law of k80, part 2: ears. -/
namespace D.P80
/-- m holds all that e shares with others -/
def Holds (R : List Lot) (e m : Lot) : Prop := m ∈ R ∧ m ≠ e ∧ ∀ x ∈ e, (∃ l ∈ R, l ≠ e ∧ x ∈ l) → x ∈ m
/-- without an ear the rest stays in order -/
theorem Ord.ear {R : List Lot} {e m : Lot} (hm : Holds R e m) {q : Int → Bool} (hq : ∀ x, q x = true → ∃ l ∈ R, l ≠ e ∧ x ∈ l) : ∀ {o : List Int}, Ord R o → Ord (R.filter fun l => decide (l ≠ e)) (o.filter q)
  | [], _ => trivial
  | v :: t, h => by
    by_cases hv : q v = true
    · rw [List.filter_cons_of_pos hv]
      refine ⟨?_, Ord.ear hm hq h.2⟩
      obtain ⟨l, hl, hvl, hw⟩ := h.1
      have up : ∀ {w : Int}, Adj (R.filter fun l => decide (l ≠ e)) v w → Adj R v w := fun ⟨k, hk, a, b⟩ => ⟨k, (List.mem_filter.mp hk).1, a, b⟩
      by_cases he : l = e
      · subst he
        exact ⟨m, List.mem_filter.mpr ⟨hm.1, decide_eq_true hm.2.1⟩, hm.2.2 v hvl (hq v hv), fun w h1 h2 => by
          obtain ⟨w1, w2⟩ := List.mem_filter.mp h1
          exact hm.2.2 w (hw w w1 (up h2)) (hq w w2)⟩
      · exact ⟨l, List.mem_filter.mpr ⟨hl, decide_eq_true he⟩, hvl, fun w h1 h2 => hw w (List.mem_filter.mp h1).1 (up h2)⟩
    · rw [List.filter_cons_of_neg hv]; exact Ord.ear hm hq h.2
/-- a new ear: a part of a base and new keys -/
theorem Ord.grow {R : List Lot} {e b : Lot} {o us : List Int} (h : Ord R o) (hb : b ∈ R) (he : ∀ x ∈ e, x ∈ b ∨ x ∈ us) (hu : ∀ u ∈ us, u ∈ e ∧ ∀ l ∈ R, u ∉ l) (ho : ∀ v ∈ o, ∃ l ∈ R, v ∈ l) : Ord (e :: R) (us ++ o) := by
  have old : ∀ {o' : List Int}, Ord R o' → (∀ v ∈ o', v ∈ o) → Ord (e :: R) o' := fun {o'} => by
    induction o' with
    | nil => exact fun _ _ => trivial
    | cons v t ih =>
      intro h hs
      refine ⟨?_, ih h.2 fun w hw => hs w (List.mem_cons_of_mem _ hw)⟩
      obtain ⟨l, hl, hv, hw⟩ := h.1
      have nu : ∀ {x : Int}, x ∈ o → x ∉ us := fun {x} hx hxu => by
        obtain ⟨l, hl, hxl⟩ := ho x hx
        exact (hu x hxu).2 l hl hxl
      refine ⟨l, List.mem_cons_of_mem _ hl, hv, fun w h1 ⟨k, hk, a, c⟩ => hw w h1 ?_⟩
      rcases List.mem_cons.mp hk with rfl | hk
      · exact ⟨b, hb, (he v a).resolve_right (nu (hs v List.mem_cons_self)), (he w c).resolve_right (nu (hs w (List.mem_cons_of_mem _ h1)))⟩
      · exact ⟨k, hk, a, c⟩
  have base : Ord (e :: R) o := old h fun v hv => hv
  refine Ord.first base fun u hx => ⟨⟨e, List.mem_cons_self, (hu u hx).1⟩, fun l hl m hm hul hum => ?_⟩
  have only : ∀ l ∈ e :: R, u ∈ l → l = e := fun l hl hul => by
    rcases List.mem_cons.mp hl with rfl | hl
    · rfl
    · exact absurd hul ((hu u hx).2 l hl)
  rw [only l hl hul, only m hm hum]
end D.P80
end

section
set_option Elab.async false
set_option linter.all false
set_option autoImplicit false
/-! The plain law of k80, part 3: a family in order has an ear. -/
namespace D.P80
/-- no two of the rows hold the same keys -/
def Differ (R : List Lot) : Prop := ∀ l ∈ R, ∀ m ∈ R, (∀ x, x ∈ l ↔ x ∈ m) → l = m
theorem has_ear : ∀ {o : List Int} {R : List Lot}, Ord R o → (∀ l ∈ R, ∀ x ∈ l, x ∈ o) → ∀ {a b : Lot}, a ∈ R → b ∈ R → a ≠ b → ∃ e m, e ∈ R ∧ Holds R e m
  | [], R, _, hk, a, b, ha, hb, hne => ⟨a, b, ha, hb, Ne.symm hne, fun x hx _ => by cases hk a ha x hx⟩
  | v :: o, R, h, hk, a, b, ha, hb, hne => by
    obtain ⟨l, hl, hv, hw⟩ := h.1
    have inl : ∀ m ∈ R, v ∈ m → ∀ x ∈ m, x ∈ l := fun m hm hvm x hx => by
      rcases List.mem_cons.mp (hk m hm x hx) with rfl | h1
      · exact hv
      · exact hw x h1 ⟨m, hm, hvm, hx⟩
    by_cases h2 : ∃ m ∈ R, m ≠ l ∧ v ∈ m
    · obtain ⟨m, hm, hml, hvm⟩ := h2
      exact ⟨m, l, hm, hl, Ne.symm hml, fun x hx _ => inl m hm hvm x hx⟩
    · have only : ∀ m ∈ R, v ∈ m → m = l := fun m hm hvm => Classical.byContradiction fun z => h2 ⟨m, hm, z, hvm⟩
      by_cases h3 : ∃ m ∈ R, m ≠ l ∧ ∀ x ∈ l, x ≠ v → x ∈ m
      · obtain ⟨m, hm, hml, hs⟩ := h3
        exact ⟨l, m, hl, hm, hml, fun x hx ⟨k, hk, hkl, hxk⟩ => hs x hx fun e => hkl (only k hk (e ▸ hxk))⟩
      · -- the rows without v
        let p : Int → Bool := fun x => decide (x ≠ v)
        have cp : ∀ {k : Lot} {x : Int}, x ∈ k.filter p ↔ x ∈ k ∧ x ≠ v := fun {k x} => by simp [p]
        have keep : ∀ k ∈ R, k ≠ l → k.filter p = k := fun k hk2 hkl => List.filter_eq_self.mpr fun x hx => decide_eq_true fun e => hkl (only k hk2 (e ▸ hx))
        have inj : ∀ k ∈ R, ∀ k' ∈ R, k.filter p = k'.filter p → k = k' := fun k hk1 k' hk2 e => by
          by_cases e1 : k = l
          · by_cases e2 : k' = l
            · rw [e1, e2]
            · exact absurd ⟨k', hk2, e2, fun x hx hxv => by
                have : x ∈ k.filter p := cp.mpr ⟨e1 ▸ hx, hxv⟩
                rw [e] at this
                exact (cp.mp this).1⟩ h3
          · by_cases e2 : k' = l
            · exact absurd ⟨k, hk1, e1, fun x hx hxv => by
                have : x ∈ k'.filter p := cp.mpr ⟨e2 ▸ hx, hxv⟩
                rw [← e] at this
                exact (cp.mp this).1⟩ h3
            · rw [keep k hk1 e1, keep k' hk2 e2] at e; exact e
        have hO : Ord (cutR p R) (o.filter p) := by
          have := Ord.cut (p := p) h.2
          exact this
        obtain ⟨e', m', he', hm', hne', hs'⟩ := has_ear (o := o.filter p) (R := cutR p R) hO (fun k' hk' x hx => by
          obtain ⟨k, hk2, rfl⟩ := List.mem_map.mp hk'
          obtain ⟨x1, x2⟩ := cp.mp hx
          refine List.mem_filter.mpr ⟨?_, decide_eq_true x2⟩
          exact (List.mem_cons.mp (hk k hk2 x x1)).resolve_left x2) (a := a.filter p) (b := b.filter p) (List.mem_map.mpr ⟨a, ha, rfl⟩) (List.mem_map.mpr ⟨b, hb, rfl⟩) (fun e => hne (inj a ha b hb e))
        obtain ⟨e, he, rfl⟩ := List.mem_map.mp he'
        obtain ⟨m, hm, rfl⟩ := List.mem_map.mp hm'
        refine ⟨e, m, he, hm, fun z => hne' (by rw [z]), fun x hx ⟨k, hk2, hke, hxk⟩ => ?_⟩
        have hxv : x ≠ v := fun z => by
          subst z
          exact hke ((only k hk2 hxk).trans (only e he hx).symm)
        exact (cp.mp (hs' x (cp.mpr ⟨hx, hxv⟩) ⟨k.filter p, List.mem_map.mpr ⟨k, hk2, rfl⟩, fun z => hke (inj k hk2 e he z), cp.mpr ⟨hxk, hxv⟩⟩)).1
  termination_by o => o.length
  decreasing_by
    simp_wf
    exact Nat.lt_succ_of_le (List.length_filter_le _ o)
end D.P80
end

section
set_option Elab.async false
set_option linter.all false
set_option autoImplicit false
/-! The plain law of k80, part 4: lone keys of an ear first. -/
namespace D.P80
theorem Ord.lone {R : List Lot} {e m : Lot} {us o : List Int} (hm : Holds R e m) (he : e ∈ R) (hu : ∀ u ∈ us, u ∈ e ∧ ∀ l ∈ R, l ≠ e → u ∉ l) (ha : ∀ x ∈ e, x ∈ us ∨ ∃ l ∈ R, l ≠ e ∧ x ∈ l) (ho : ∀ v ∈ o, ∃ l ∈ R, l ≠ e ∧ v ∈ l)
    (h : Ord (R.filter fun l => decide (l ≠ e)) o) : Ord R (us ++ o) := by
  have mem : ∀ {l : Lot}, l ∈ R.filter (fun l => decide (l ≠ e)) ↔ l ∈ R ∧ l ≠ e := fun {l} => by simp
  have g : Ord (e :: R.filter fun l => decide (l ≠ e)) (us ++ o) := Ord.grow (b := m) h (mem.mpr ⟨hm.1, hm.2.1⟩) (fun x hx => (ha x hx).elim .inr fun q => .inl (hm.2.2 x hx q))
    (fun u hx => ⟨(hu u hx).1, fun l hl => (hu u hx).2 l (mem.mp hl).1 (mem.mp hl).2⟩) fun v hv => by
      obtain ⟨l, h1, h2, h3⟩ := ho v hv
      exact ⟨l, mem.mpr ⟨h1, h2⟩, h3⟩
  refine g.cov (fun l hl => ?_) fun l hl => ?_
  · rcases List.mem_cons.mp hl with rfl | hl
    · exact ⟨l, he, fun x hx => hx⟩
    · exact ⟨l, (mem.mp hl).1, fun x hx => hx⟩
  · by_cases hle : l = e
    · subst hle; exact ⟨l, List.mem_cons_self, fun x hx => hx⟩
    · exact ⟨l, List.mem_cons_of_mem _ (mem.mpr ⟨hl, hle⟩), fun x hx => hx⟩
/-- the keys of one row -/
theorem Ord.one {R : List Lot} {l : Lot} (hl : l ∈ R) : ∀ {o : List Int}, (∀ v ∈ o, v ∈ l) → Ord R o
  | [], _ => trivial
  | v :: t, h => ⟨⟨l, hl, h v List.mem_cons_self, fun w hw _ => h w (List.mem_cons_of_mem _ hw)⟩, Ord.one hl fun w hw => h w (List.mem_cons_of_mem _ hw)⟩
end D.P80
end

section
set_option Elab.async false
set_option linter.all false
set_option autoImplicit false
/-! The plain law of k80, part 5: the rounds of a store of lots. -/
namespace D.P80
def Ac (R : List Lot) : Prop := ∃ o, Ord R o ∧ ∀ l ∈ R, ∀ x ∈ l, x ∈ o
def many (R : List Lot) (k : Int) : Nat := (R.filter fun l => decide (k ∈ l)).length
def dropK (R : List Lot) : List Lot := cutR (fun k => decide (1 < many R k)) R
def within (a b : Lot) : Bool := a.all fun k => decide (k ∈ b)
def at_ (R : List Lot) (i : Nat) : Lot := R.getD i []
def goes (R : List Lot) (i : Nat) : Bool := (List.range R.length).any fun j => decide (j ≠ i) && within (at_ R i) (at_ R j) && (decide (j < i) || decide ((at_ R i).length < (at_ R j).length))
def keep (R : List Lot) : List Lot := ((List.range R.length).filter fun i => !goes R i).map (at_ R)
def round (R : List Lot) : List Lot := keep (dropK R)
theorem within_iff {a b : Lot} : within a b = true ↔ ∀ x ∈ a, x ∈ b := by simp [within]
theorem at_mem {R : List Lot} {i : Nat} (h : i < R.length) : at_ R i ∈ R := by
  unfold at_; rw [List.getD_eq_getElem?_getD, List.getElem?_eq_getElem h]; exact List.getElem_mem h
theorem mem_at {R : List Lot} {l : Lot} (h : l ∈ R) : ∃ i, i < R.length ∧ at_ R i = l := by
  obtain ⟨i, hi, e⟩ := List.mem_iff_getElem.mp h
  exact ⟨i, hi, by unfold at_; rw [List.getD_eq_getElem?_getD, List.getElem?_eq_getElem hi]; exact e⟩
theorem all_at (R : List Lot) : (List.range R.length).map (at_ R) = R := by
  refine List.ext_getElem (by simp) fun i h1 h2 => ?_
  simp [at_, List.getD_eq_getElem?_getD, List.getElem?_eq_getElem h2]
theorem keep_sub (R : List Lot) : (keep R).Sublist R := by
  have := (List.filter_sublist (p := fun i => !goes R i) (l := List.range R.length)).map (at_ R)
  rwa [all_at] at this
theorem nodup_len_le {a b : Lot} (nd : a.Nodup) (h : ∀ x ∈ a, x ∈ b) : a.length ≤ b.length := by
  induction a generalizing b with
  | nil => exact Nat.zero_le _
  | cons x a ih =>
    obtain ⟨s, t, rfl⟩ := List.append_of_mem (h x List.mem_cons_self)
    have nd2 := List.nodup_cons.mp nd
    have := ih nd2.2 (b := s ++ t) fun y hy => by
      have := h y (List.mem_cons_of_mem _ hy)
      simp only [List.mem_append, List.mem_cons] at this ⊢
      rcases this with h1 | rfl | h1
      · exact .inl h1
      · exact absurd hy nd2.1
      · exact .inr h1
    simp only [List.length_append, List.length_cons] at this ⊢
    omega
/-- a part as long as the whole is the whole -/
theorem part_all {a b : Lot} (nd : a.Nodup) (h : ∀ x ∈ a, x ∈ b) (hl : b.length ≤ a.length) : ∀ x ∈ b, x ∈ a := by
  intro x hx
  refine Classical.byContradiction fun hn => ?_
  have := nodup_len_le (a := x :: a) (b := b) (List.nodup_cons.mpr ⟨hn, nd⟩) fun y hy => by
    rcases List.mem_cons.mp hy with rfl | hy
    · exact hx
    · exact h y hy
  simp only [List.length_cons] at this
  omega
theorem le_sum {R : List Lot} {l : Lot} (h : l ∈ R) : l.length ≤ (R.map List.length).sum := by
  induction R with
  | nil => cases h
  | cons a R ih =>
    rw [List.map_cons, List.sum_cons]
    rcases List.mem_cons.mp h with rfl | h
    · omega
    · have := ih h; omega
theorem keep_cov {R : List Lot} (nd : ∀ l ∈ R, l.Nodup) : Cov R (keep R) := by
  have key : ∀ (n i : Nat), i < R.length → (R.map List.length).sum * (R.length + 1) + R.length - ((at_ R i).length * (R.length + 1) + (R.length - i)) ≤ n → ∃ l' ∈ keep R, ∀ x ∈ at_ R i, x ∈ l' := by
    intro n
    induction n with
    | zero | succ n ih =>
      intro i hi hn
      by_cases g : goes R i = true
      · obtain ⟨j, hj, e⟩ := List.any_eq_true.mp g
        simp only [Bool.and_eq_true, Bool.or_eq_true, decide_eq_true_eq, within_iff] at e
        obtain ⟨⟨e1, e2⟩, e3⟩ := e
        have hj := List.mem_range.mp hj
        have hlen := nodup_len_le (nd _ (at_mem hi)) e2
        have hs : (at_ R j).length ≤ (R.map List.length).sum := le_sum (at_mem hj)
        have hm : (at_ R j).length * (R.length + 1) ≤ (R.map List.length).sum * (R.length + 1) := Nat.mul_le_mul_right _ hs
        have up : (at_ R i).length * (R.length + 1) + (R.length - i) < (at_ R j).length * (R.length + 1) + (R.length - j) := by
          by_cases h4 : (at_ R i).length < (at_ R j).length
          · have : ((at_ R i).length + 1) * (R.length + 1) ≤ (at_ R j).length * (R.length + 1) := Nat.mul_le_mul_right _ h4
            rw [Nat.add_mul, Nat.one_mul] at this
            omega
          · have : (at_ R i).length = (at_ R j).length := by omega
            rw [this]
            have : j < i := e3.resolve_right h4
            omega
        first
          | (exfalso; omega)
          | (obtain ⟨l', h1, h2⟩ := ih j hj (by omega)
             exact ⟨l', h1, fun x hx => h2 x (e2 x hx)⟩)
      · exact ⟨at_ R i, List.mem_map.mpr ⟨i, List.mem_filter.mpr ⟨List.mem_range.mpr hi, by simp [Bool.eq_false_iff.mpr g]⟩, rfl⟩, fun x hx => hx⟩
  intro l hl
  obtain ⟨i, hi, rfl⟩ := mem_at hl
  exact key _ i hi (Nat.le_refl _)
theorem cov_sub {R R' : List Lot} (h : ∀ l ∈ R, l ∈ R') : Cov R R' := fun l hl => ⟨l, h l hl, fun x hx => hx⟩
theorem Ac.cov {R R' : List Lot} (h : Cov R R') (h' : Cov R' R) : Ac R → Ac R' := fun ⟨o, h1, h2⟩ => ⟨o, h1.cov h h', fun l hl x hx => by
  obtain ⟨m, hm, hs⟩ := h' l hl
  exact h2 m hm x (hs x hx)⟩
theorem one_of {R : List Lot} {u : Int} (h : many R u ≤ 1) : ∀ l ∈ R, ∀ m ∈ R, u ∈ l → u ∈ m → l = m := by
  intro l hl m hm h1 h2
  have a1 : l ∈ R.filter fun l => decide (u ∈ l) := List.mem_filter.mpr ⟨hl, decide_eq_true h1⟩
  have a2 : m ∈ R.filter fun l => decide (u ∈ l) := List.mem_filter.mpr ⟨hm, decide_eq_true h2⟩
  unfold many at h
  generalize R.filter (fun l => decide (u ∈ l)) = F at *
  match F, h with
  | [], _ => cases a1
  | [x], _ => rw [List.mem_singleton.mp a1, List.mem_singleton.mp a2]
  | _ :: _ :: _, h => simp at h
theorem ac_dropK {R : List Lot} : Ac (dropK R) ↔ Ac R := by
  constructor
  · rintro ⟨o, h1, h2⟩
    let p : Int → Bool := fun k => decide (1 < many R k)
    have g : Ord R (o.filter p) := Ord.uncut (p := p) (fun v hv => (List.mem_filter.mp hv).2) (h1.sub List.filter_sublist)
    have us : ∀ u ∈ (R.flatten.filter fun k => !p k), (∃ l ∈ R, u ∈ l) ∧ ∀ l ∈ R, ∀ m ∈ R, u ∈ l → u ∈ m → l = m := fun u hu => by
      obtain ⟨u1, u2⟩ := List.mem_filter.mp hu
      refine ⟨List.mem_flatten.mp u1, one_of ?_⟩
      simp [p] at u2
      exact u2
    refine ⟨_, g.first us, fun l hl x hx => ?_⟩
    by_cases hp : p x = true
    · exact List.mem_append_right _ (List.mem_filter.mpr ⟨h2 _ (List.mem_map.mpr ⟨l, hl, rfl⟩) x (List.mem_filter.mpr ⟨hx, hp⟩), hp⟩)
    · exact List.mem_append_left _ (List.mem_filter.mpr ⟨List.mem_flatten.mpr ⟨l, hl, hx⟩, by simp [Bool.eq_false_iff.mpr hp]⟩)
  · rintro ⟨o, h1, h2⟩
    refine ⟨_, h1.cut, fun l hl x hx => ?_⟩
    obtain ⟨m, hm, rfl⟩ := List.mem_map.mp hl
    obtain ⟨x1, x2⟩ := List.mem_filter.mp hx
    exact List.mem_filter.mpr ⟨h2 m hm x x1, x2⟩
theorem nd_dropK {R : List Lot} (nd : ∀ l ∈ R, l.Nodup) : ∀ l ∈ dropK R, l.Nodup := fun l hl => by
  obtain ⟨m, hm, rfl⟩ := List.mem_map.mp hl
  exact (nd m hm).sublist List.filter_sublist
theorem nd_round {R : List Lot} (nd : ∀ l ∈ R, l.Nodup) : ∀ l ∈ round R, l.Nodup := fun l hl => nd_dropK nd l ((keep_sub _).subset hl)
theorem ac_round {R : List Lot} (nd : ∀ l ∈ R, l.Nodup) : Ac (round R) ↔ Ac R := by
  refine Iff.trans ⟨fun h => ?_, fun h => ?_⟩ ac_dropK
  · exact Ac.cov (cov_sub fun l hl => (keep_sub _).subset hl) (keep_cov (nd_dropK nd)) h
  · exact Ac.cov (keep_cov (nd_dropK nd)) (cov_sub fun l hl => (keep_sub _).subset hl) h
/-! the size falls -/
def mu : List Lot → Nat
  | [] => 0
  | l :: R => l.length + 1 + mu R
theorem mu_sub {R' R : List Lot} (s : R'.Sublist R) : mu R' ≤ mu R ∧ (mu R' = mu R → R' = R) := by
  induction s with
  | slnil => exact ⟨Nat.le_refl _, fun _ => rfl⟩
  | cons a s ih => exact ⟨by show _ ≤ _ + _; omega, fun h => by have h : _ = _ + _ := h; omega⟩
  | cons_cons a s ih => exact ⟨by show _ + _ ≤ _ + _; omega, fun h => by
      have h : _ + _ = _ + _ := h
      rw [ih.2 (by omega)]⟩
theorem mu_cut (p : Int → Bool) : ∀ R : List Lot, mu (cutR p R) ≤ mu R ∧ (mu (cutR p R) = mu R → cutR p R = R)
  | [] => ⟨Nat.le_refl _, fun _ => rfl⟩
  | l :: R => by
    obtain ⟨h1, h2⟩ := mu_cut p R
    have h3 := List.length_filter_le p l
    refine ⟨?_, fun h => ?_⟩
    · show (l.filter p).length + 1 + mu (cutR p R) ≤ l.length + 1 + mu R
      omega
    · have h : (l.filter p).length + 1 + mu (cutR p R) = l.length + 1 + mu R := h
      show l.filter p :: cutR p R = l :: R
      rw [h2 (by omega), List.filter_sublist.eq_of_length (by omega)]
theorem mu_round (R : List Lot) : mu (round R) ≤ mu R ∧ (mu (round R) = mu R → round R = R) := by
  obtain ⟨h1, h2⟩ := mu_sub (keep_sub (dropK R))
  obtain ⟨h3, h4⟩ := mu_cut (fun k => decide (1 < many R k)) R
  refine ⟨Nat.le_trans h1 h3, fun h => ?_⟩
  have h3 : mu (dropK R) ≤ mu R := h3
  have h : mu (keep (dropK R)) = mu R := h
  exact (h2 (by omega)).trans (h4 (show mu (dropK R) = mu R by omega))
/-- where nothing goes any more -/
theorem fix_ac {R : List Lot} (nd : ∀ l ∈ R, l.Nodup) (h : round R = R) : Ac R ↔ R.length < 2 := by
  obtain ⟨h3, h4⟩ := mu_cut (fun k => decide (1 < many R k)) R
  have h1 := mu_sub (keep_sub (dropK R))
  have e1 : dropK R = R := h4 (by
    have e : mu (keep (dropK R)) = mu R := by rw [show keep (dropK R) = R from h]
    have h5 : mu (keep (dropK R)) ≤ mu (dropK R) := h1.1
    show mu (dropK R) = mu R
    have h3 : mu (dropK R) ≤ mu R := h3
    omega)
  have e2 : keep R = R := by
    have : keep (dropK R) = R := h
    rwa [e1] at this
  have stay : ∀ i, i < R.length → goes R i = false := by
    intro i hi
    refine Classical.byContradiction fun hg => ?_
    have hl : (keep R).length = R.length := by rw [e2]
    unfold keep at hl
    rw [List.length_map] at hl
    have hs := List.filter_sublist (p := fun i => !goes R i) (l := List.range R.length)
    have := hs.eq_of_length (by rw [hl, List.length_range])
    have hm : i ∈ (List.range R.length).filter fun i => !goes R i := by rw [this]; exact List.mem_range.mpr hi
    have := (List.mem_filter.mp hm).2
    simp at this
    exact hg this
  have two : ∀ l ∈ R, ∀ x ∈ l, 1 < many R x := by
    intro l hl x hx
    obtain ⟨m, hm, e⟩ := List.mem_map.mp (show l ∈ R.map (fun l => l.filter fun k => decide (1 < many R k)) from by
      have : l ∈ dropK R := by rw [e1]; exact hl
      exact this)
    rw [← e] at hx
    exact of_decide_eq_true (List.mem_filter.mp hx).2
  constructor
  · rintro ⟨o, h1, h2⟩
    refine Classical.byContradiction fun hlen => ?_
    have hlen : 2 ≤ R.length := by omega
    have stay' : ∀ i j, i < R.length → j < R.length → j ≠ i → (∀ x ∈ at_ R i, x ∈ at_ R j) → ¬ (j < i ∨ (at_ R i).length < (at_ R j).length) := by
      intro i j hi hj hne hw hor
      have := stay i hi
      have g : goes R i = true := List.any_eq_true.mpr ⟨j, List.mem_range.mpr hj, by simp only [Bool.and_eq_true, Bool.or_eq_true, decide_eq_true_eq, within_iff]; exact ⟨⟨hne, hw⟩, hor⟩⟩
      rw [this] at g; cases g
    -- a key
    by_cases hk : R.flatten = []
    · have emp : ∀ i, i < R.length → at_ R i = [] := fun i hi => List.flatten_eq_nil_iff.mp hk _ (at_mem hi)
      exact stay' 1 0 (by omega) (by omega) (by omega) (by rw [emp 1 (by omega)]; intro x hx; cases hx) (.inl (by omega))
    · obtain ⟨v, hv, hs⟩ := h1.simple (left := R.flatten) hk fun w hw => by
        obtain ⟨l, hl, hx⟩ := List.mem_flatten.mp hw
        exact h2 l hl w hx
      obtain ⟨l, hl, hvl, hin⟩ := stuck (fun l hl x hx => List.mem_flatten.mpr ⟨l, hl, hx⟩) hs
      -- another place with v
      obtain ⟨i, hi, ei⟩ := mem_at hl
      have hm := two l hl v hvl
      have other : ∃ j, j < R.length ∧ j ≠ i ∧ v ∈ at_ R j := by
        refine Classical.byContradiction fun hno => ?_
        have : many R v ≤ 1 := by
          unfold many
          rw [← all_at R, List.filter_map, List.length_map]
          have : (List.range R.length).filter ((fun l => decide (v ∈ l)) ∘ at_ R) = (List.range R.length).filter fun j => decide (j = i) := by
            refine List.filter_congr fun j hj => ?_
            have hj := List.mem_range.mp hj
            by_cases e : j = i
            · subst e; simp [ei, hvl]
            · have : v ∉ at_ R j := fun h => hno ⟨j, hj, e, h⟩
              simp [e, this]
          rw [this]
          have nr : ((List.range R.length).filter fun j => decide (j = i)).Nodup := (List.nodup_range).sublist List.filter_sublist
          match hF : (List.range R.length).filter (fun j => decide (j = i)) with
          | [] => exact Nat.zero_le _
          | [x] => exact Nat.le_refl _
          | x :: y :: t =>
            rw [hF] at nr
            have hx : x = i := by
              have : x ∈ (List.range R.length).filter fun j => decide (j = i) := by rw [hF]; exact List.mem_cons_self
              exact of_decide_eq_true (List.mem_filter.mp this).2
            have hy : y = i := by
              have : y ∈ (List.range R.length).filter fun j => decide (j = i) := by rw [hF]; exact List.mem_cons_of_mem _ List.mem_cons_self
              exact of_decide_eq_true (List.mem_filter.mp this).2
            rw [hx, hy] at nr
            exact absurd List.mem_cons_self (List.nodup_cons.mp nr).1
        omega
      obtain ⟨j, hj, hji, hvj⟩ := other
      have sub : ∀ x ∈ at_ R j, x ∈ at_ R i := by rw [ei]; exact hin _ (at_mem hj) hvj
      have n1 := stay' j i hj hi (Ne.symm hji) sub
      have back := part_all (nd _ (at_mem hj)) sub (by omega)
      have := stay' i j hi hj hji back
      omega
  · intro hl
    match R, hl with
    | [], _ => exact ⟨[], trivial, fun l hl => by cases hl⟩
    | [l], _ => exact ⟨l, Ord.one List.mem_cons_self fun v hv => hv, fun m hm x hx => by rw [List.mem_singleton.mp hm] at hx; exact hx⟩
/-- after k rounds -/
def rounds (R : List Lot) : Nat → List Lot
  | 0 => R
  | k + 1 => round (rounds R k)
theorem rounds_nd {R : List Lot} (nd : ∀ l ∈ R, l.Nodup) : ∀ k, ∀ l ∈ rounds R k, l.Nodup
  | 0 => nd
  | k + 1 => nd_round (rounds_nd nd k)
theorem rounds_ac {R : List Lot} (nd : ∀ l ∈ R, l.Nodup) : ∀ k, Ac (rounds R k) ↔ Ac R
  | 0 => Iff.rfl
  | k + 1 => (ac_round (rounds_nd nd k)).trans (rounds_ac nd k)
theorem rounds_mu {R : List Lot} : ∀ k, (∀ j, j < k → rounds R (j + 1) ≠ rounds R j) → mu (rounds R k) + k ≤ mu R
  | 0, _ => Nat.le_refl _
  | k + 1, h => by
    have ih := rounds_mu k fun j hj => h j (by omega)
    obtain ⟨h1, h2⟩ := mu_round (rounds R k)
    have : mu (round (rounds R k)) ≠ mu (rounds R k) := fun e => h k (by omega) (h2 e)
    show mu (round (rounds R k)) + (k + 1) ≤ mu R
    omega
end D.P80
end

section
set_option Elab.async false
set_option linter.all false
set_option autoImplicit false
/-! The plain law of k80, part 6: orders by taking simple keys; all orders; lots that grow; lots taken off. -/
namespace D.P80
/-- an order of any keys of an order -/
theorem greedy {R : List Lot} {o : List Int} (h : Ord R o) : ∀ (n : Nat) (left : List Int), left.length = n → left.Nodup → (∀ w ∈ left, w ∈ o) → ∃ o', o'.Perm left ∧ Ord R o'
  | 0, left, hl, _, _ => ⟨[], by rw [List.length_eq_zero_iff.mp hl], trivial⟩
  | n + 1, left, hl, nd, hs => by
    obtain ⟨v, hv, sv⟩ := h.simple (left := left) (by intro e; rw [e] at hl; cases hl) hs
    have hp := List.perm_cons_erase hv
    have hl2 : (left.erase v).length = n := by rw [List.length_erase_of_mem hv, hl]; rfl
    obtain ⟨o', p', g⟩ := greedy h n (left.erase v) hl2 (nd.sublist List.erase_sublist) fun w hw => hs w (List.mem_of_mem_erase hw)
    refine ⟨v :: o', (p'.cons v).trans hp.symm, sv.less fun w hw => .inr (List.mem_of_mem_erase (p'.mem_iff.mp hw)), g⟩
def rng (k : Nat) : List Int := (List.range k).map fun (i : Nat) => (i : Int)
theorem mem_rng {k : Nat} {x : Int} : x ∈ rng k ↔ 0 ≤ x ∧ x < k := by
  unfold rng
  rw [List.mem_map]
  constructor
  · rintro ⟨i, hi, rfl⟩
    have := List.mem_range.mp hi
    omega
  · rintro ⟨h0, h1⟩
    exact ⟨x.toNat, List.mem_range.mpr (by omega), by omega⟩
theorem rng_nd (k : Nat) : (rng k).Nodup := by
  unfold rng
  refine List.Pairwise.map _ (fun a b h => ?_) List.nodup_range
  intro e
  exact h (by omega)
theorem rng_len (k : Nat) : (rng k).length = k := by simp [rng]
theorem rng_succ (k : Nat) : rng (k + 1) = rng k ++ [(k : Int)] := by simp [rng, List.range_succ]
def FullO (k : Nat) (R : List Lot) : Prop := ∃ o, o.Perm (rng k) ∧ Ord R o
def Covers (k : Nat) (R : List Lot) : Prop := (∀ l ∈ R, ∀ x ∈ l, 0 ≤ x ∧ x < k) ∧ ∀ x : Int, 0 ≤ x → x < k → ∃ l ∈ R, x ∈ l
theorem ac_full {k : Nat} {R : List Lot} (h : Covers k R) : Ac R ↔ FullO k R := by
  constructor
  · rintro ⟨o, h1, h2⟩
    obtain ⟨o', p, g⟩ := greedy h1 k (rng k) (rng_len k) (rng_nd k) fun w hw => by
      obtain ⟨w0, w1⟩ := mem_rng.mp hw
      obtain ⟨l, hl, hx⟩ := h.2 w w0 w1
      exact h2 l hl w hx
    exact ⟨o', p, g⟩
  · rintro ⟨o, p, g⟩
    exact ⟨o, g, fun l hl x hx => p.mem_iff.mpr (mem_rng.mpr (h.1 l hl x hx))⟩
/-- all orders -/
def longer (k : Int) (row : List Int) : List (List Int) := (List.range (row.length + 1)).map fun i => row.take i ++ [k] ++ row.drop i
def orders : Nat → List (List Int)
  | 0 => [[]]
  | k + 1 => ((orders k).map (longer k)).flatten
theorem orders_perm : ∀ (k : Nat), ∀ o ∈ orders k, o.Perm (rng k)
  | 0, o, h => by rw [List.mem_singleton.mp h]; exact List.Perm.refl _
  | k + 1, o, h => by
    obtain ⟨L, hL, ho⟩ := List.mem_flatten.mp h
    obtain ⟨r, hr, rfl⟩ := List.mem_map.mp hL
    obtain ⟨i, _, rfl⟩ := List.mem_map.mp ho
    have ih := orders_perm k r hr
    rw [rng_succ, List.append_assoc]
    refine (List.perm_middle (l₁ := r.take i) (l₂ := r.drop i) (a := (k : Int))).trans ?_
    rw [List.take_append_drop]
    exact (ih.cons _).trans (List.perm_append_singleton _ _).symm
theorem orders_all : ∀ (k : Nat) (o : List Int), o.Perm (rng k) → o ∈ orders k
  | 0, o, h => by rw [h.eq_nil]; exact List.mem_singleton.mpr rfl
  | k + 1, o, h => by
    have hk : (k : Int) ∈ o := h.mem_iff.mpr (mem_rng.mpr ⟨by omega, by omega⟩)
    obtain ⟨s, t, rfl⟩ := List.append_of_mem hk
    rw [rng_succ] at h
    have h2 : (s ++ t).Perm (rng k) := by
      have := (List.perm_middle.symm.trans h).trans (List.perm_append_singleton _ _)
      exact this.cons_inv
    refine List.mem_flatten.mpr ⟨_, List.mem_map.mpr ⟨s ++ t, orders_all k _ h2, rfl⟩, List.mem_map.mpr ⟨s.length, List.mem_range.mpr (by rw [List.length_append]; omega), ?_⟩⟩
    simp
/-! lots that grow -/
theorem Ac.full {R : List Lot} : Ac R → ∃ o, Ord R o ∧ (∀ l ∈ R, ∀ x ∈ l, x ∈ o) ∧ ∀ v ∈ o, ∃ l ∈ R, v ∈ l := fun ⟨o, h1, h2⟩ =>
  ⟨o.filter fun v => decide (v ∈ R.flatten), h1.sub List.filter_sublist, fun l hl x hx => List.mem_filter.mpr ⟨h2 l hl x hx, decide_eq_true (List.mem_flatten.mpr ⟨l, hl, hx⟩)⟩, fun v hv => List.mem_flatten.mp (of_decide_eq_true (List.mem_filter.mp hv).2)⟩
theorem Ac.grow {R : List Lot} {e b : Lot} {us : List Int} (h : Ac R) (hb : b ∈ R) (he : ∀ x ∈ e, x ∈ b ∨ x ∈ us) (hu : ∀ u ∈ us, u ∈ e ∧ ∀ l ∈ R, u ∉ l) : Ac (R ++ [e]) := by
  obtain ⟨o, h1, h2, h3⟩ := h.full
  have : Ac (e :: R) := ⟨us ++ o, h1.grow hb he hu h3, fun l hl x hx => by
    rcases List.mem_cons.mp hl with rfl | hl
    · rcases he x hx with z | z
      · exact List.mem_append_right _ (h2 b hb x z)
      · exact List.mem_append_left _ z
    · exact List.mem_append_right _ (h2 l hl x hx)⟩
  exact this.cov (cov_sub fun l hl => by simp at hl ⊢; exact hl.symm) (cov_sub fun l hl => by simp at hl ⊢; exact hl.symm)
theorem Ac.last {R : List Lot} {l us : Lot} (h : Ac (R ++ [l])) (hu : ∀ u ∈ us, ∀ m ∈ R ++ [l], u ∉ m) : Ac (R ++ [l ++ us]) := by
  obtain ⟨o, h1, h2, h3⟩ := h.full
  let p : Int → Bool := fun x => decide (x ∉ us)
  have hp : ∀ m ∈ R ++ [l], m.filter p = m := fun m hm => List.filter_eq_self.mpr fun x hx => decide_eq_true fun z => hu x z m hm hx
  have e : cutR p (R ++ [l ++ us]) = R ++ [l] := by
    unfold cutR
    rw [List.map_append, List.map_congr_left (f := fun l => l.filter p) (g := id) (fun m hm => hp m (List.mem_append_left _ hm)), List.map_id]
    show R ++ [(l ++ us).filter p] = R ++ [l]
    rw [List.filter_append, hp l (by simp), List.filter_eq_nil_iff.mpr (fun x hx => by simp [p, hx]), List.append_nil]
  have g : Ord (R ++ [l ++ us]) o := Ord.uncut (p := p) (fun v hv => decide_eq_true fun z => by
    obtain ⟨m, hm, hx⟩ := h3 v hv
    exact hu v z m hm hx) (by rw [e]; exact h1)
  refine ⟨us ++ o, g.first fun u hx => ⟨⟨l ++ us, by simp, by simp [hx]⟩, ?_⟩, fun m hm x hx => ?_⟩
  · have only : ∀ m ∈ R ++ [l ++ us], u ∈ m → m = l ++ us := fun m hm hum => by
      rcases List.mem_append.mp hm with hm | hm
      · exact absurd hum (hu u hx m (List.mem_append_left _ hm))
      · exact List.mem_singleton.mp hm
    exact fun m hm m' hm' a b => by rw [only m hm a, only m' hm' b]
  · rcases List.mem_append.mp hm with hm | hm
    · exact List.mem_append_right _ (h2 m (List.mem_append_left _ hm) x hx)
    · rw [List.mem_singleton.mp hm] at hx
      rcases List.mem_append.mp hx with hx | hx
      · exact List.mem_append_right _ (h2 l (by simp) x hx)
      · exact List.mem_append_left _ hx
/-! lots taken off -/
def rest (ls : List Lot) (ps : List (Lot × Lot)) : List Lot := ls.filter fun l => decide (∀ p ∈ ps, l ≠ p.1)
theorem rest_nil (ls : List Lot) : rest ls [] = ls := by simp [rest]
theorem rest_snoc (ls : List Lot) (ps : List (Lot × Lot)) (p : Lot × Lot) : rest ls (ps ++ [p]) = (rest ls ps).filter fun l => decide (l ≠ p.1) := by
  unfold rest
  rw [List.filter_filter]
  refine List.filter_congr fun l _ => ?_
  rw [← Bool.decide_and]
  refine decide_eq_decide.mpr ⟨fun h => ⟨h p (by simp), fun q hq => h q (by simp [hq])⟩, fun ⟨h1, h2⟩ q hq => ?_⟩
  rcases List.mem_append.mp hq with hq | hq
  · exact h2 q hq
  · rw [List.mem_singleton.mp hq]; exact h1
def Chain (ls : List Lot) (ps : List (Lot × Lot)) : Prop := ∀ (k : Nat) (p : Lot × Lot), ps[k]? = some p → p.1 ∈ rest ls (ps.take k) ∧ Holds (rest ls (ps.take k)) p.1 p.2
theorem Chain.nil (ls : List Lot) : Chain ls [] := fun k p h => by simp at h
theorem Chain.snoc {ls : List Lot} {ps : List (Lot × Lot)} {p : Lot × Lot} (h : Chain ls ps) (h1 : p.1 ∈ rest ls ps) (h2 : Holds (rest ls ps) p.1 p.2) : Chain ls (ps ++ [p]) := fun k q hq => by
  by_cases hk : k < ps.length
  · rw [List.getElem?_append_left hk] at hq
    rw [List.take_append_of_le_length (Nat.le_of_lt hk)]
    exact h k q hq
  · have : k < (ps ++ [p]).length := (List.getElem?_eq_some_iff.mp hq).1
    have : k = ps.length := by simp at this; omega
    subst this
    simp at hq
    subst hq
    simpa using ⟨h1, h2⟩
theorem filter_ne_len {ls : List Lot} (nd : ls.Nodup) {e : Lot} (he : e ∈ ls) : (ls.filter fun l => decide (l ≠ e)).length + 1 = ls.length := by
  induction ls with
  | nil => cases he
  | cons a ls ih =>
    obtain ⟨n1, n2⟩ := List.nodup_cons.mp nd
    rcases List.mem_cons.mp he with rfl | he
    · rw [List.filter_cons_of_neg (by simp), List.filter_eq_self.mpr fun x hx => decide_eq_true (by rintro rfl; exact n1 hx)]; rfl
    · have hne : a ≠ e := fun z => n1 (z ▸ he)
      rw [List.filter_cons_of_pos (by simp [hne])]
      show _ + 1 + 1 = ls.length + 1
      rw [ih n2 he]
theorem ac_off {R : List Lot} {e m : Lot} (h : Ac R) (hm : Holds R e m) : Ac (R.filter fun l => decide (l ≠ e)) := by
  obtain ⟨o, h1, h2⟩ := h
  have g := Ord.ear hm (q := fun x => decide (∃ l ∈ R, l ≠ e ∧ x ∈ l)) (fun x hx => of_decide_eq_true hx) h1
  refine ⟨_, g, fun l hl x hx => ?_⟩
  obtain ⟨l1, l2⟩ := List.mem_filter.mp hl
  exact List.mem_filter.mpr ⟨h2 l l1 x hx, decide_eq_true ⟨l, l1, of_decide_eq_true l2, hx⟩⟩
/-- what a part f of a key order of ls has done, where left is left -/
structure Lone (ls left : List Lot) (f : List Int) : Prop where
  go : ∀ o, Ord left o → (∀ v ∈ o, ∃ l ∈ left, v ∈ l) → Ord ls (f ++ o)
  nd : f.Nodup
  off : ∀ x ∈ f, ∀ l ∈ left, x ∉ l
  all : ∀ l ∈ ls, ∀ x ∈ l, x ∈ f ∨ ∃ m ∈ left, x ∈ m
  sub : ∀ x ∈ f, ∃ l ∈ ls, x ∈ l
theorem Lone.start (ls : List Lot) : Lone ls ls [] := ⟨fun o h _ => h, List.nodup_nil, fun x h => (by cases h), fun l hl x hx => .inr ⟨l, hl, hx⟩, fun x h => (by cases h)⟩
theorem Lone.step {ls left : List Lot} {f us : List Int} {e m : Lot} (h : Lone ls left f) (sub : ∀ l ∈ left, l ∈ ls) (he : e ∈ left) (hm : Holds left e m) (nd : us.Nodup) (hu : ∀ u, u ∈ us ↔ u ∈ e ∧ ∀ l ∈ left, l ≠ e → u ∉ l) :
    Lone ls (left.filter fun l => decide (l ≠ e)) (f ++ us) := by
  have mem : ∀ {l : Lot}, l ∈ left.filter (fun l => decide (l ≠ e)) ↔ l ∈ left ∧ l ≠ e := fun {l} => by simp
  refine ⟨fun o ho hv => ?_, List.nodup_append.mpr ⟨h.nd, nd, fun x hx y hy z => h.off x hx e he (by rw [z]; exact ((hu y).mp hy).1)⟩, fun x hx l hl => ?_, fun l hl x hx => ?_, fun x hx => ?_⟩
  · rw [List.append_assoc]
    have sh : ∀ v ∈ o, ∃ l ∈ left, l ≠ e ∧ v ∈ l := fun v hx => by
      obtain ⟨l, hl, hvl⟩ := hv v hx
      exact ⟨l, (mem.mp hl).1, (mem.mp hl).2, hvl⟩
    refine h.go _ (Ord.lone hm he (fun u hx => (hu u).mp hx) (fun x hx => ?_) sh ho) fun v hx => ?_
    · by_cases z : ∃ l ∈ left, l ≠ e ∧ x ∈ l
      · exact .inr z
      · exact .inl ((hu x).mpr ⟨hx, fun l hl hne hxl => z ⟨l, hl, hne, hxl⟩⟩)
    · rcases List.mem_append.mp hx with hx | hx
      · exact ⟨e, he, ((hu v).mp hx).1⟩
      · obtain ⟨l, h1, _, h2⟩ := sh v hx
        exact ⟨l, h1, h2⟩
  · rcases List.mem_append.mp hx with hx | hx
    · exact h.off x hx l (mem.mp hl).1
    · exact ((hu x).mp hx).2 l (mem.mp hl).1 (mem.mp hl).2
  · rcases h.all l hl x hx with z | ⟨k, hk, hxk⟩
    · exact .inl (List.mem_append_left _ z)
    · by_cases z : ∃ l ∈ left, l ≠ e ∧ x ∈ l
      · obtain ⟨l, h1, h2, h3⟩ := z
        exact .inr ⟨l, mem.mpr ⟨h1, h2⟩, h3⟩
      · have : k = e := Classical.byContradiction fun hne => z ⟨k, hk, hne, hxk⟩
        subst this
        exact .inl (List.mem_append_right _ ((hu x).mpr ⟨hxk, fun l hl hne hxl => z ⟨l, hl, hne, hxl⟩⟩))
  · rcases List.mem_append.mp hx with hx | hx
    · exact h.sub x hx
    · exact ⟨e, sub e he, ((hu x).mp hx).1⟩
theorem Lone.done {ls : List Lot} {l : Lot} {f o : List Int} {k : Nat} (h : Lone ls [l] f) (hl : l ∈ ls) (nd : l.Nodup) (p : o.Perm l) (hc : Covers k ls) : (f ++ o).Perm (rng k) ∧ Ord ls (f ++ o) := by
  refine ⟨?_, h.go o (Ord.one (l := l) List.mem_cons_self fun v hv => p.mem_iff.mp hv) fun v hv => ⟨l, List.mem_cons_self, p.mem_iff.mp hv⟩⟩
  have n1 : (f ++ o).Nodup := List.nodup_append.mpr ⟨h.nd, p.nodup_iff.mpr nd, fun x hx y hy z => h.off x hx l List.mem_cons_self (by rw [z]; exact p.mem_iff.mp hy)⟩
  refine (List.perm_ext_iff_of_nodup n1 (rng_nd k)).mpr fun x => ?_
  rw [mem_rng]
  constructor
  · intro hx
    rcases List.mem_append.mp hx with hx | hx
    · obtain ⟨m, hm, hxm⟩ := h.sub x hx
      exact hc.1 m hm x hxm
    · exact hc.1 l hl x (p.mem_iff.mp hx)
  · rintro ⟨h0, h1⟩
    obtain ⟨m, hm, hxm⟩ := hc.2 x h0 h1
    rcases h.all m hm x hxm with z | ⟨k', hk', hx'⟩
    · exact List.mem_append_left _ z
    · rw [List.mem_singleton.mp hk'] at hx'
      exact List.mem_append_right _ (p.mem_iff.mpr hx')
end D.P80
end

section
set_option Elab.async false
set_option linter.all false
set_option maxRecDepth 100000
set_option maxHeartbeats 2000000
set_option autoImplicit false
/-! k35: kinds, draws. -/
namespace D.k35
open PySem PySem.Spec PyProof.Rows L2 D D.P80
theorem ret_now {n : Nat} {P : PD} {d : Dv} {M : Mem} (h : P d M) : Ret n P d M := .inl h
abbrev nms (ns : List Int) : List Dv := ns.map Dv.int
abbrev tupI (ns : List Int) : Dv := .tup (ns.map Dv.int)
def Sm (i : Int) : Prop := i.natAbs < 2 ^ 300
theorem sm_log {i : Int} (h : Sm i) : i.natAbs.log2 < 300 := by
  by_cases e : i.natAbs = 0
  · rw [e]; decide
  · exact (Nat.log2_lt e).mpr h
theorem sm_mul {i j : Int} (h : Sm i) (k : Sm j) : i.natAbs.log2 + j.natAbs.log2 < 1000000 := by
  have := sm_log h
  have := sm_log k
  omega
theorem le_size {n : Nat} (h : n ≤ 1000) : n ≤ sizeLine := by rw [sizeLine_eq]; omega
def isInt : Dv → Bool
  | .int _ => true
  | _ => false
theorem isi_int (v : Dv) (h : okV v = true) : (isiB (kind v) "int" && !(isiB (kind v) "bool")) = isInt v := by
  cases v <;> first | rfl | decide | (cases h)
def S_is_integer : DSp := fun ds M P _ => ∃ v, ds = [v] ∧ okV v = true ∧ P (.bl (isInt v)) M
theorem p_is_integer : ∀ ds M Pd X, MemOk M → S_is_integer ds M Pd X → t_is_integer (dkOf M.length Pd X) (startD N_is_integer ds) M := by
  rintro _ M Pd X - ⟨v, rfl, hv, h⟩
  show t_is_integer (dkOf M.length Pd X) [some v] M
  rw [← isi_int v hv] at h
  cases e : isiB (kind v) "int" <;> cases e2 : isiB (kind v) "bool" <;> rw [e, e2] at h <;> simp [t_is_integer, dkOf, s_isi hv, e, e2] <;> exact ret_now h
def isNum : Dv → Bool
  | .int i => decide (0 ≤ i)
  | _ => false
def S_is_number : DSp := fun ds M P _ => ∃ v, ds = [v] ∧ okV v = true ∧ P (.bl (isNum v)) M
theorem p_is_number : ∀ ds M Pd X, MemOk M → S_is_number ds M Pd X → t_is_number S_is_integer (dkOf M.length Pd X) (startD N_is_number ds) M := by
  rintro _ M Pd X - ⟨v, rfl, hv, h⟩
  show t_is_number S_is_integer (dkOf M.length Pd X) [some v] M
  simp [t_is_number, dkOf, S_is_integer, hv]
  cases v <;> first | (simp [isInt] ; exact ret_now h) | (cases hv)
def isIdx (v : Dv) (many : Int) : Bool := match v with
  | .int i => decide (0 ≤ i) && decide (i < many)
  | _ => false
def S_is_index : DSp := fun ds M P _ => ∃ v many, ds = [v, .int many] ∧ okV v = true ∧ P (.bl (isIdx v many)) M
theorem p_is_index : ∀ ds M Pd X, MemOk M → S_is_index ds M Pd X → t_is_index S_is_number (dkOf M.length Pd X) (startD N_is_index ds) M := by
  rintro _ M Pd X - ⟨v, many, rfl, hv, h⟩
  show t_is_index S_is_number (dkOf M.length Pd X) [some v, some (.int many)] M
  simp [t_is_index, dkOf, S_is_number, hv]
  cases v with
  | int i =>
    by_cases e : 0 ≤ i
    · simp [isNum, isIdx, e] at h ⊢; exact ret_now h
    · simp [isNum, isIdx, e] at h ⊢; exact ret_now h
  | _ => first | (simp [isNum] ; exact ret_now h) | (cases hv)
def isSeq : Dv → Bool
  | .tup _ => true
  | .lst _ => true
  | _ => false
def S_is_sequence : DSp := fun ds M P _ => ∃ v, ds = [v] ∧ okV v = true ∧ P (.bl (isSeq v)) M
theorem isi_seq (v : Dv) (h : okV v = true) : (isiB (kind v) "list" || isiB (kind v) "tuple") = isSeq v := by
  cases v <;> first | rfl | decide | (cases h)
theorem p_is_sequence : ∀ ds M Pd X, MemOk M → S_is_sequence ds M Pd X → t_is_sequence (dkOf M.length Pd X) (startD N_is_sequence ds) M := by
  rintro _ M Pd X - ⟨v, rfl, hv, h⟩
  show t_is_sequence (dkOf M.length Pd X) [some v] M
  rw [← isi_seq v hv] at h
  simp [t_is_sequence, dkOf]
  exact ⟨le_size (by omega), v, kind v, "list", "tuple", rfl, ty_ok hv, by simp, by simp, ret_now h⟩
def seqOf : Dv → List Dv
  | .tup l => l
  | .lst l => l
  | _ => []
theorem okV_seq {v : Dv} (hs : isSeq v = true) (h : okV v = true) : ∀ d ∈ seqOf v, okV d = true := by
  cases v with
  | tup l => exact okV_mem h
  | lst l => exact okV_mem h
  | _ => cases hs
theorem seqD_of {M : Mem} {v : Dv} (hs : isSeq v = true) : seqD M v = some (seqOf v) := by
  cases v <;> first | rfl | (cases hs)
theorem all_id_map {α : Type} (f : α → Bool) (l : List α) : (l.map f).all id = l.all f := by
  induction l with
  | nil => rfl
  | cons x t ih => simp [ih]
theorem log_lt {i : Int} {k : Nat} (h : i.natAbs < 2 ^ k) (hk : 0 < k) : i.natAbs.log2 < k := by
  by_cases e : i.natAbs = 0
  · rw [e]; simpa using hk
  · exact (Nat.log2_lt e).mpr h
theorem rng_nat (n : Nat) : rngD 0 (n : Int) = (List.range n).map fun (k : Nat) => .int (k : Int) := by
  unfold rngD
  simp
theorem cut_take (l : List Dv) (k : Nat) : cutD l none (some (k : Int)) = l.take k := by
  unfold cutD
  rw [HT.sIx_none, HT.sIx_nat]
  simp only [List.drop_zero, Nat.sub_zero]
  rw [List.take_eq_take_iff]; omega
/-- at i the deal, at j its cells -/
structure Dl (i j : Nat) (M : Mem) (xs : List Int) (b : Int) : Prop where
  di : M[i]? = some (.lst [.ref j, .int b])
  dj : M[j]? = some (.lst (nms xs))
  ne : i ≠ j
  pos : ∀ x ∈ xs, 0 ≤ x
  len : xs.length ≤ 1000
  b0 : 0 ≤ b
  b1 : b < 2147483647
def Deal (i j : Nat) (M : Mem) : Prop := ∃ xs b, Dl i j M xs b
structure To (i j : Nat) (M M' : Mem) : Prop where
  len : M'.length = M.length
  out : ∀ p, p ≠ i → p ≠ j → M'[p]? = M[p]?
  dl : Deal i j M'
theorem To.refl {i j : Nat} {M : Mem} (h : Deal i j M) : To i j M M := ⟨rfl, fun _ _ _ => rfl, h⟩
theorem To.trans {i j : Nat} {M M1 M2 : Mem} (h : To i j M M1) (k : To i j M1 M2) : To i j M M2 := ⟨k.len.trans h.len, fun p a b => (k.out p a b).trans (h.out p a b), k.dl⟩
theorem seqD_ref {M : Mem} {i : Nat} {l : List Dv} (h : M[i]? = some (.lst l)) : seqD M (.ref i) = some l := by
  show (match M[i]? with | some (.lst l) => some l | _ => none) = _; rw [h]
theorem res_ref {M : Mem} {i : Nat} {l : List Dv} (h : M[i]? = some (.lst l)) : res M (.ref i) = .lst l := by
  show (match M[i]? with | some (.lst l) => Dv.lst l | _ => .ref i) = _; rw [h]
theorem okDs_nms (k : Nat) : ∀ xs : List Int, okDs (nms xs) k = true
  | [] => rfl
  | x :: xs => by show (true && okDs (nms xs) k) = true; rw [okDs_nms k xs]; rfl
theorem ne_nil {M : Mem} {j : Nat} {xs : List Int} {G : Dv → Prop} (h : M[j]? = some (.lst (nms xs))) (g : G (.bl (!xs.isEmpty))) : gNe (.ref j) (.lst []) M G := by
  have e : pyEq (res M (.ref j)) (res M (.lst [])) = xs.isEmpty := by
    rw [res_ref h]
    show pyEqs (nms xs) [] = _
    cases xs <;> rfl
  refine ⟨by rw [res_ref h]; exact okDs_nms 59 xs, rfl, ?_⟩
  rw [e]; exact g
theorem set_self {M : Mem} {j : Nat} {o o' : MO} (h : M[j]? = some o) : (M.set j o')[j]? = some o' := by
  rw [List.getElem?_set_self (List.getElem?_eq_some_iff.mp h).1]
theorem set_other {M : Mem} {i j : Nat} {o : MO} (h : i ≠ j) : (M.set j o)[i]? = M[i]? := List.getElem?_set_ne (Ne.symm h)
theorem Dl.cells {i j : Nat} {M : Mem} {xs ys : List Int} {b : Int} (h : Dl i j M xs b) (hp : ∀ y ∈ ys, 0 ≤ y) (hl : ys.length ≤ 1000) : Dl i j (M.set j (.lst (nms ys))) ys b := ⟨(set_other h.ne).trans h.di, set_self h.dj, h.ne, hp, hl, h.b0, h.b1⟩
theorem Dl.blend {i j : Nat} {M : Mem} {xs : List Int} {b c : Int} (h : Dl i j M xs b) (h0 : 0 ≤ c) (h1 : c < 2147483647) : Dl i j (M.set i (.lst [.ref j, .int c])) xs c := ⟨set_self h.di, (set_other (Ne.symm h.ne)).trans h.dj, h.ne, h.pos, h.len, h0, h1⟩
theorem to_cells {i j : Nat} {M : Mem} {xs ys : List Int} {b : Int} (h : Dl i j M xs b) (hp : ∀ y ∈ ys, 0 ≤ y) (hl : ys.length ≤ 1000) : To i j M (M.set j (.lst (nms ys))) := ⟨List.length_set .., fun p _ h2 => set_other h2, _, _, h.cells hp hl⟩
theorem to_blend {i j : Nat} {M : Mem} {xs : List Int} {b c : Int} (h : Dl i j M xs b) (h0 : 0 ≤ c) (h1 : c < 2147483647) : To i j M (M.set i (.lst [.ref j, .int c])) := ⟨List.length_set .., fun p h1 _ => set_other h1, _, _, h.blend h0 h1⟩
def S__law_any : DSp := fun ds M P _ => ∃ (i j : Nat) (bound : Int), ds = [.ref i, .int bound] ∧ Deal i j M ∧ 0 < bound ∧ Sm bound ∧ ∀ r M', 0 ≤ r → r < bound → To i j M M' → P (.int r) M'
theorem nms_last {xs : List Int} {x : Int} : nms (xs ++ [x]) = nms xs ++ [.int x] := by simp
theorem atI_last (ys : List Int) (x : Int) : atI (nms (ys ++ [x])) (-1) = some (.int x) := by
  have hl : (nms (ys ++ [x])).length = ys.length + 1 := by simp
  have e : ixN (nms (ys ++ [x])).length (-1) = some ys.length := by
    unfold ixN
    rw [hl, if_neg (by decide), if_pos (by omega)]
    congr 1
    omega
  unfold atI
  rw [e]
  show (nms (ys ++ [x]))[ys.length]? = _
  simp
theorem nil_or_last {α : Type} (l : List α) : l = [] ∨ ∃ ys x, l = ys ++ [x] := by
  by_cases h : l = []
  · exact .inl h
  · exact .inr ⟨l.dropLast, l.getLast h, (List.dropLast_concat_getLast h).symm⟩
theorem p__law_any : ∀ ds M Pd X, MemOk M → S__law_any ds M Pd X → t__law_any (dkOf M.length Pd X) (startD N__law_any ds) M := by
  rintro _ M Pd X - ⟨i, j, bound, rfl, hd, hb, sb, h⟩
  show t__law_any (dkOf M.length Pd X) [some (.ref i), some (.int bound), none] M
  have rt : ∀ d M', Pd d M' → (dkOf M.length Pd X).rt d M' := fun d M' h => ret_now h
  have lb := sm_log sb
  unfold t__law_any
  refine seq_step fun C1 hC1 => ?_
  refine ⟨fun q l M' => l = [some (.ref i), some (.int bound), none] ∧ ∃ xs b, Dl i j M' xs b ∧ To i j M M' ∧ q = xs.length, ?_, ?_⟩
  · obtain ⟨xs, b, hdl⟩ := hd
    exact ⟨xs.length, rfl, xs, b, hdl, To.refl ⟨xs, b, hdl⟩, rfl⟩
  · rintro q l M' ⟨rfl, xs, b, hdl, to, rfl⟩
    have s1 := seqD_ref hdl.di
    have s2 := seqD_ref hdl.dj
    -- the loop's end
    have fin : C1 [some (.ref i), some (.int bound), none] M' := by
      subst hC1
      refine seq_step fun C2 hC2 => ?_
      simp
      refine s_ix (v := .ref j) s1 rfl (ne_nil hdl.dj ?_)
      rcases nil_or_last xs with rfl | ⟨ys, x, rfl⟩
      · simp
        subst hC2
        refine seq_step fun C3 hC3 => ?_
        simp
        refine s_ix (v := .int b) s1 rfl ?_
        simp
        have n0 := Int.emod_nonneg (b * 40693 + 71) (show (2147483647 : Int) ≠ 0 by decide)
        have n1 := Int.emod_lt_of_pos (b * 40693 + 71) (show (0 : Int) < 2147483647 by decide)
        refine ⟨?_, _, hdl.di, 1, rfl, ?_⟩
        · have : b.natAbs.log2 < 31 := log_lt (by have := hdl.b0; have := hdl.b1; omega) (by decide)
          have : (40693 : Nat).log2 < 20 := by decide
          omega
        · subst hC3
          have hd2 := hdl.blend n0 n1
          simp
          refine s_ix (v := .int ((b * 40693 + 71) % 2147483647)) (seqD_ref hd2.di) rfl ?_
          simp
          exact ⟨by decide, hb, rt _ _ (h _ _ (Int.emod_nonneg _ (by omega)) (Int.emod_lt_of_pos _ hb) (to.trans (to_blend hdl n0 n1)))⟩
      · have hx : 0 ≤ x := hdl.pos x (by simp)
        have hys : ∀ y ∈ ys, 0 ≤ y := fun y hy => hdl.pos y (by simp [hy])
        have hlen : ys.length ≤ 999 := by have := hdl.len; simp at this; omega
        simp
        have d1 := hdl.cells (ys := ys) hys (by omega)
        have t1 := to_cells hdl (ys := ys) hys (by omega)
        have ed : (nms (ys ++ [x])).dropLast = nms ys := by simp
        refine s_ix (v := .ref j) s1 rfl ⟨j, rfl, _, hdl.dj, .int x, by simp, ?_⟩
        rw [ed]
        simp
        refine s_ix (v := .ref j) (seqD_ref d1.di) rfl ⟨j, rfl, ⟨_, d1.dj⟩, ⟨hb, by omega⟩, _, d1.dj, by rw [sizeLine_eq]; simp; omega, ?_⟩
        simp
        have hq : 0 ≤ x / bound := Int.ediv_nonneg hx (by omega)
        refine ⟨hb, rt _ _ (h _ _ (Int.emod_nonneg _ (by omega)) (Int.emod_lt_of_pos _ hb) ?_)⟩
        have := to_cells hdl (ys := ys ++ [x / bound]) (fun y hy => by
          rcases List.mem_append.mp hy with hy | hy
          · exact hys y hy
          · have : y = x / bound := by simpa using hy
            subst this; exact hq) (by simp; omega)
        rw [nms_last] at this
        exact to.trans this
    simp
    refine s_ix (v := .ref j) s1 rfl (ne_nil hdl.dj ?_)
    rcases nil_or_last xs with rfl | ⟨ys, x, rfl⟩
    · simp
      exact fin
    · simp
      refine s_ix (v := .ref j) s1 rfl (s_ix (v := .int x) s2 (atI_last ys x) ?_)
      · simp
        by_cases e : x = 0
        · refine .inr ⟨e, ?_⟩
          have hys : ∀ y ∈ ys, 0 ≤ y := fun y hy => hdl.pos y (by simp [hy])
          have hlen : ys.length ≤ 999 := by have := hdl.len; simp at this; omega
          refine ⟨fun l M2 => l = [some (.ref i), some (.int bound), none] ∧ M2 = M'.set j (.lst (nms ys)), ?_, s_ix (v := .ref j) s1 rfl ⟨j, rfl, _, hdl.dj, ⟨.int x, by simp⟩, rfl, by simp⟩⟩
          rintro l' M2 ⟨rfl, rfl⟩
          exact ⟨ys.length, by omega, rfl, ys, ⟨b, hdl.cells hys (by omega)⟩, to.trans (to_cells hdl hys (by omega)), rfl⟩
        · exact .inl ⟨e, fin⟩
def S__law_of : DSp := fun ds M P _ => ∃ (i j : Nat) (x : Dv) (l : List Dv), ds = [.ref i, x] ∧ Deal i j M ∧ (∀ M', To i j M M' → seqD M' x = some l) ∧ 0 < l.length ∧ l.length ≤ 1000 ∧ ∀ d M', d ∈ l → To i j M M' → P d M'
theorem sm_le {i : Int} (h : i.natAbs ≤ 10 ^ 40) : Sm i := by
  unfold Sm
  have : (10 : Nat) ^ 40 < 2 ^ 300 := by decide
  omega
theorem p__law_of : ∀ ds M Pd X, MemOk M → S__law_of ds M Pd X → t__law_of S__law_any (dkOf M.length Pd X) (startD N__law_of ds) M := by
  rintro _ M Pd X - ⟨i, j, x, l, rfl, hd, hx, h0, h1, h⟩
  show t__law_of S__law_any (dkOf M.length Pd X) [some (.ref i), some x] M
  unfold t__law_of
  simp
  rw [s_len (hx M (To.refl hd))]
  refine ⟨i, j, (l.length : Int), rfl, hd, by omega, sm_le (by omega), fun r M' r0 r1 to => ?_⟩
  obtain ⟨k, rfl⟩ := Int.eq_ofNat_of_zero_le r0
  have hk : k < l.length := by omega
  exact s_ixn (hx M' to) (List.getElem?_eq_getElem hk) (ret_now (h _ _ (List.getElem_mem hk) to))
def S__law_draw (K : PySem.W.Frag) : DSp := fun ds M P _ => ∃ (d : Dv) (ns : List Int) (salt : Int), ds = [d, .int salt] ∧ ScrD K d ns ∧ ns.length ≤ 63 ∧ 0 ≤ salt ∧ salt ≤ 1000 ∧
  ∀ (xs : List Int) (b : Int), (∀ x ∈ xs, 0 ≤ x) → xs.length ≤ 63 → 0 ≤ b → b < 2147483647 → P (.ref (M.length + 1)) (M ++ [.lst (nms xs), .lst [.ref M.length, .int b]])
theorem cut_nms (ns : List Int) (k : Nat) : cutD (nms ns) none (some (k : Int)) = nms (ns.take k) := by
  rw [cut_take]
  show (ns.map Dv.int).take k = (ns.take k).map Dv.int
  rw [List.map_take]
theorem p__law_draw (K : PySem.W.Frag) : ∀ ds M Pd X, MemOk M → S__law_draw K ds M Pd X → t__law_draw K (dkOf M.length Pd X) (startD N__law_draw ds) M := by
  rintro _ M Pd X - ⟨d, ns, salt, rfl, hd, hl, s0, s1, h⟩
  show t__law_draw K (dkOf M.length Pd X) [some d, some (.int salt), none, none, none] M
  unfold t__law_draw
  refine seq_step fun C1 hC1 => ?_
  simp
  refine ⟨ns, hd, le_size (by omega), ?_⟩
  have ct : cutD (nms ns) none (some 48) = nms (ns.take 48) := cut_nms ns 48
  rw [ct]
  refine ⟨le_size (by simp; omega), loopC_map (fun d => match d with | .int i => .int (i.natAbs : Nat) | _ => .non) rfl ?_ ?_⟩
  · intro x hx C1 C2 hC
    obtain ⟨i, _, rfl⟩ := List.mem_map.mp hx
    simp
    exact hC
  · have e1 : (nms (ns.take 48)).map (fun d => match d with | .int i => .int (i.natAbs : Nat) | _ => Dv.non) = nms ((ns.take 48).map fun i => (i.natAbs : Int)) := by
      rw [List.map_map]
      show _ = List.map Dv.int (List.map _ _)
      rw [List.map_map]; rfl
    rw [List.nil_append, e1]
    generalize hcs : (ns.take 48).map (fun i => (i.natAbs : Int)) = cs
    have cl : cs.length ≤ 48 := by rw [← hcs]; simp; omega
    have cp : ∀ x ∈ cs, 0 ≤ x := by
      rw [← hcs]; intro x hx
      obtain ⟨i, _, rfl⟩ := List.mem_map.mp hx
      omega
    subst hC1
    refine seq_step fun C2 hC2 => ?_
    simp
    have l1 : (104729 : Nat).log2 < 20 := by decide
    have l2 : salt.natAbs.log2 < 20 := log_lt (by omega) (by decide)
    refine ⟨by omega, ?_⟩
    subst hC2
    refine seq_step fun C3 hC3 => ?_
    simp
    refine loopS_ix (fun k l M' => M' = M ∧ ∃ (b : Int) (o : Option Dv), l = [some d, some (.int salt), some (.lst (nms cs)), some (.int b), o] ∧ 0 ≤ b ∧ b < 2147483647) (fun k l M' ⟨e, _⟩ => by subst e; rfl) ⟨rfl, _, none, rfl, by omega, by omega⟩ ?_ ?_
    · rintro k x l M' hx ⟨rfl, b, o, rfl, b0, b1⟩ C hC
      obtain ⟨i, hi, rfl⟩ : ∃ i ∈ cs, x = .int i := by
        have := List.mem_of_getElem? hx
        obtain ⟨i, hi, rfl⟩ := List.mem_map.mp this
        exact ⟨i, hi, rfl⟩
      simp
      have l3 : (48271 : Nat).log2 < 20 := by decide
      have l4 : b.natAbs.log2 < 31 := log_lt (by omega) (by decide)
      refine ⟨by omega, hC _ _ ⟨rfl, _, _, rfl, Int.emod_nonneg _ (by decide), Int.emod_lt_of_pos _ (by decide)⟩⟩
    · rintro l M' ⟨rfl, b, o, rfl, b0, b1⟩
      subst hC3
      simp
      refine ⟨le_size (by omega), loopC_pure (fun d => match d with | .int i => decide (10 ^ 18 ≤ i) | _ => false) id (show chkD (.lst (nms cs)) (nms cs) M' from rfl) ?_ ?_⟩
      · intro x hx C1 C2 hC
        obtain ⟨i, _, rfl⟩ := List.mem_map.mp hx
        simp at hC ⊢
        by_cases e : 1000000000000000000 ≤ i
        · rw [if_pos e] at hC; exact .inr ⟨e, hC⟩
        · rw [if_neg e] at hC; exact .inl ⟨by omega, hC⟩
      · have e2 : ([] ++ ((nms cs).filter (fun d : Dv => match d with | .int i => decide (10 ^ 18 ≤ i) | _ => false)).map id).reverse = nms (cs.filter fun i => decide (10 ^ 18 ≤ i)).reverse := by
          rw [List.nil_append, List.map_id, List.filter_map]
          show _ = List.map Dv.int (List.reverse _)
          rw [List.map_reverse]; rfl
        rw [e2]
        refine ⟨le_size (by decide), ret_now ?_⟩
        have := h (cs.filter fun i => decide (10 ^ 18 ≤ i)).reverse b (fun x hx => cp x (List.mem_filter.mp (List.mem_reverse.mp hx)).1) (by
          have := List.length_filter_le (fun i => decide ((10 : Int) ^ 18 ≤ i)) cs
          rw [List.length_reverse]; omega) b0 b1
        simpa using this
theorem Deal.lt {i j : Nat} {M : Mem} (h : Deal i j M) : i < M.length ∧ j < M.length := by
  obtain ⟨xs, b, d⟩ := h
  exact ⟨(List.getElem?_eq_some_iff.mp d.di).1, (List.getElem?_eq_some_iff.mp d.dj).1⟩
theorem Deal.app {i j : Nat} {M : Mem} (h : Deal i j M) (o : MO) : Deal i j (M ++ [o]) := by
  have hl := h.lt
  obtain ⟨xs, b, d⟩ := h
  exact ⟨xs, b, by rw [List.getElem?_append_left hl.1]; exact d.di, by rw [List.getElem?_append_left hl.2]; exact d.dj, d.ne, d.pos, d.len, d.b0, d.b1⟩
theorem Deal.take {i j n : Nat} {M : Mem} (h : Deal i j M) (hi : i < n) (hj : j < n) : Deal i j (M.take n) := by
  obtain ⟨xs, b, d⟩ := h
  exact ⟨xs, b, by rw [List.getElem?_take_of_lt hi]; exact d.di, by rw [List.getElem?_take_of_lt hj]; exact d.dj, d.ne, d.pos, d.len, d.b0, d.b1⟩
theorem Deal.set {i j n : Nat} {M : Mem} {o : MO} (h : Deal i j M) (hi : i ≠ n) (hj : j ≠ n) : Deal i j (M.set n o) := by
  obtain ⟨xs, b, d⟩ := h
  exact ⟨xs, b, by rw [set_other hi]; exact d.di, by rw [set_other hj]; exact d.dj, d.ne, d.pos, d.len, d.b0, d.b1⟩
theorem cls_nms (n : Nat) : ∀ xs : List Int, cls n (nms xs) = true
  | [] => rfl
  | x :: xs => by show (true && cls n (nms xs)) = true; rw [cls_nms n xs]; rfl
end D.k35
end

section
set_option Elab.async false
set_option linter.all false
set_option maxRecDepth 100000
set_option maxHeartbeats 2000000
set_option autoImplicit false
/-! k35: comprehensions by what they walk; tests; what a def leaves. -/
namespace D.k35
open PySem PySem.Spec PyProof.Rows L2 D D.P80
section
variable {α : Type} {gd : DG} {tt : DT} {te : DE} {vs : List Nat} {chk : Mem → Prop} {l : Loc} {M : Mem} {P : List Dv → Mem → Prop} {i : Nat}
theorem compF_acc (f : α → Dv) (p : α → Bool) (g : α → Dv) (hc : chk M) : ∀ {as : List α} {acc : List Dv}, (∀ a ∈ as, ∀ (C1 : Dv → Mem → Prop) (C2 : Mem → Prop), (if p a = true then C1 (g a) M else C2 M) → gd (f a) (wipeD l vs) M fun l2 M2 => tt l2 M2 (fun b M3 => if b = true then te l2 M3 C1 noX else C2 M3) noX) →
    P (acc ++ (as.filter p).map g) M → loopC gd tt te vs chk (as.map f) acc l M P
  | [], acc, _, h => ⟨hc, by simpa using h⟩
  | a :: as, acc, st, h => ⟨hc, st a List.mem_cons_self _ _ (by
    by_cases e : p a = true
    · rw [if_pos e]
      rw [List.filter_cons_of_pos e] at h
      exact compF_acc f p g hc (fun y hy => st y (List.mem_cons_of_mem _ hy)) (by simpa using h)
    · rw [if_neg e]
      rw [List.filter_cons_of_neg e] at h
      exact compF_acc f p g hc (fun y hy => st y (List.mem_cons_of_mem _ hy)) h)⟩
/-- [x for x in xs if ..] -/
theorem compT {as : List α} (f : α → Dv) (p : α → Bool) (hc : chk M) (hi : i < l.length) (ht : ∀ a ∈ as, ∀ (Q : Bool → Mem → Prop), Q (p a) M → tt (l.set i (some (f a))) M Q noX) (h : P ((as.filter p).map f) M) : loopC (gN i) tt (dVar i) [i] chk (as.map f) [] l M P := by
  refine compF_acc f p f hc (fun a ha C1 C2 hC => ?_) h
  simp only [s_gN, s_wipe0, s_wipe1, List.set_set]
  refine ht a ha _ ?_
  by_cases e : p a = true
  · rw [if_pos e] at hC; rw [if_pos e]; exact ⟨_, by simp [hi], hC⟩
  · rw [if_neg e] at hC; rw [if_neg e]; exact hC
/-- [g(x) for x in xs] -/
theorem compM {as : List α} (f g : α → Dv) (hc : chk M) (ht : ∀ a ∈ as, ∀ (C : Dv → Mem → Prop), C (g a) M → te (l.set i (some (f a))) M C noX) (h : P (as.map g) M) : loopC (gN i) dYes te [i] chk (as.map f) [] l M P := by
  refine compF_acc f (fun _ => true) g hc (fun a ha C1 C2 hC => ?_) (by rw [filter_tt]; exact h)
  simp only [s_gN, s_wipe0, s_wipe1, List.set_set, s_yes]
  rw [if_pos rfl] at hC
  rw [if_pos trivial]
  exact ht a ha _ hC
/-- [g(x) for x in xs if ..] -/
theorem compG {as : List α} (f g : α → Dv) (p : α → Bool) (hc : chk M) (ht : ∀ a ∈ as, ∀ (Q : Bool → Mem → Prop), Q (p a) M → tt (l.set i (some (f a))) M Q noX) (he : ∀ a ∈ as, p a = true → ∀ (C : Dv → Mem → Prop), C (g a) M → te (l.set i (some (f a))) M C noX)
    (h : P ((as.filter p).map g) M) : loopC (gN i) tt te [i] chk (as.map f) [] l M P := by
  refine compF_acc f p g hc (fun a ha C1 C2 hC => ?_) h
  simp only [s_gN, s_wipe0, s_wipe1, List.set_set]
  refine ht a ha _ ?_
  by_cases e : p a = true
  · rw [if_pos e] at hC; rw [if_pos e]; exact he a ha e _ hC
  · rw [if_neg e] at hC; rw [if_neg e]; exact hC
end
/-! tests -/
theorem okDs_map {α : Type} {f : α → Dv} {k : Nat} : ∀ {as : List α}, (∀ a ∈ as, okD (f a) k = true) → okDs (as.map f) k = true
  | [], _ => rfl
  | a :: as, h => by
    show (okD (f a) k && okDs (as.map f) k) = true
    rw [h a List.mem_cons_self, okDs_map fun b hb => h b (List.mem_cons_of_mem _ hb)]; rfl
theorem okDs_mono {α : Type} {xs : List Dv} {k : Nat} (h : ∀ x ∈ xs, okD x k = true) : okDs xs k = true := by
  have := okDs_map (f := id) (as := xs) h
  rwa [List.map_id] at this
theorem ok_tupI (ns : List Int) (k : Nat) : okD (tupI ns) (k + 1) = true := okDs_nms k ns
theorem ne_nilL {M : Mem} {xs : List Dv} {G : Dv → Prop} (ok : okDs xs 59 = true) (g : G (.bl (!xs.isEmpty))) : gNe (.lst xs) (.lst []) M G := by
  refine ⟨ok, rfl, ?_⟩
  have e : pyEq (.lst xs) (.lst []) = xs.isEmpty := by cases xs <;> rfl
  show G (.bl (!pyEq (.lst xs) (.lst [])))
  rw [e]; exact g
theorem eq_nilL {M : Mem} {xs : List Dv} {G : Dv → Prop} (ok : okDs xs 59 = true) (g : G (.bl xs.isEmpty)) : gEq (.lst xs) (.lst []) M G := by
  refine ⟨ok, rfl, ?_⟩
  have e : pyEq (.lst xs) (.lst []) = xs.isEmpty := by cases xs <;> rfl
  show G (.bl (pyEq (.lst xs) (.lst [])))
  rw [e]; exact g
theorem ne_nilR {M : Mem} {r : Nat} {xs : List Dv} {G : Dv → Prop} (hr : M[r]? = some (.lst xs)) (ok : okDs xs 59 = true) (g : G (.bl (!xs.isEmpty))) : gNe (.ref r) (.lst []) M G := by
  refine ⟨by rw [res_ref hr]; exact ok, rfl, ?_⟩
  have e : pyEq (res M (.ref r)) (res M (.lst [])) = xs.isEmpty := by
    rw [res_ref hr]
    show pyEqs xs [] = _
    cases xs <;> rfl
  rw [e]; exact g
theorem pyIn_nms (k : Int) : ∀ ns : List Int, pyIn (.int k) (nms ns) = decide (k ∈ ns)
  | [] => rfl
  | n :: ns => by
    show (pyEq (.int n) (.int k) || pyIn (.int k) (nms ns)) = _ <;> rw [pyIn_nms k ns]
    show ((n == k) || decide (k ∈ ns)) = _
    by_cases e : n = k
    · subst e; simp
    · have : ¬ k = n := fun z => e z.symm
      simp [e, this]
theorem in_ints {neg : Bool} {k : Int} {M : Mem} {y : Dv} {ns : List Int} {G : Dv → Prop} (hy : inD M y = some (nms ns)) (g : G (.bl (if neg then !decide (k ∈ ns) else decide (k ∈ ns)))) : gIn neg (.int k) y M G :=
  ⟨nms ns, rfl, hy, okDs_nms 59 ns, by
    show G (.bl (if neg then !pyIn (.int k) (nms ns) else pyIn (.int k) (nms ns)))
    rw [pyIn_nms]; exact g⟩
theorem pyEqs_nms : ∀ a b : List Int, pyEqs (nms a) (nms b) = decide (a = b)
  | [], [] => rfl
  | [], _ :: _ => rfl
  | _ :: _, [] => rfl
  | x :: a, y :: b => by
    show ((x == y) && pyEqs (nms a) (nms b)) = _
    rw [pyEqs_nms a b]
    by_cases e : x = y
    · subst e; simp
    · simp [e]
theorem ne_tupI {M : Mem} {a b : List Int} {G : Dv → Prop} (g : G (.bl (!decide (a = b)))) : gNe (tupI a) (tupI b) M G := by
  refine ⟨okDs_nms 59 a, okDs_nms 59 b, ?_⟩
  show G (.bl (!pyEqs (nms a) (nms b)))
  rw [pyEqs_nms]; exact g
theorem ne_lstI {M : Mem} {a b : List Int} {G : Dv → Prop} (g : G (.bl (!decide (a = b)))) : gNe (.lst (nms a)) (.lst (nms b)) M G := by
  refine ⟨okDs_nms 59 a, okDs_nms 59 b, ?_⟩
  show G (.bl (!pyEqs (nms a) (nms b)))
  rw [pyEqs_nms]; exact g
/-! a lot as a value: a list or a tuple -/
def lotV : Bool × Lot → Dv
  | (true, l) => .lst (nms l)
  | (false, l) => tupI l
@[simp] theorem seq_lotV {M : Mem} (z : Bool × Lot) : seqD M (lotV z) = some (nms z.2) := by obtain ⟨b, l⟩ := z; cases b <;> rfl
@[simp] theorem in_lotV {M : Mem} (z : Bool × Lot) : inD M (lotV z) = some (nms z.2) := by obtain ⟨b, l⟩ := z; cases b <;> rfl
theorem ok_lotV (z : Bool × Lot) (k : Nat) : okD (lotV z) (k + 1) = true := by obtain ⟨b, l⟩ := z; cases b <;> exact okDs_nms k l
theorem okV_nms : ∀ ns : List Int, okVs (nms ns) = true
  | [] => rfl
  | n :: ns => by show (true && okVs (nms ns)) = true; rw [okV_nms ns]; rfl
theorem okV_lotV (z : Bool × Lot) : okV (lotV z) = true := by obtain ⟨b, l⟩ := z; cases b <;> exact okV_nms l
theorem cl_lotV (n : Nat) (z : Bool × Lot) : cl n (lotV z) = true := by obtain ⟨b, l⟩ := z; cases b <;> exact cls_nms n l
theorem cls_map {α : Type} {n : Nat} {f : α → Dv} : ∀ {as : List α}, (∀ a ∈ as, cl n (f a) = true) → cls n (as.map f) = true
  | [], _ => rfl
  | a :: as, h => by
    show (cl n (f a) && cls n (as.map f)) = true
    rw [h a List.mem_cons_self, cls_map fun b hb => h b (List.mem_cons_of_mem _ hb)]; rfl
theorem cls_of {n : Nat} {xs : List Dv} (h : ∀ x ∈ xs, cl n x = true) : cls n xs = true := by
  have := cls_map (f := id) (as := xs) h
  rwa [List.map_id] at this
theorem cls_mem {n : Nat} : ∀ {xs : List Dv}, cls n xs = true → ∀ x ∈ xs, cl n x = true
  | x :: xs, h, y, hy => by
    obtain ⟨h1, h2⟩ := Bool.and_eq_true_iff.mp (show (cl n x && cls n xs) = true from h)
    rcases List.mem_cons.mp hy with rfl | hy
    · exact h1
    · exact cls_mem h2 y hy
theorem okDs_mem {k : Nat} : ∀ {xs : List Dv}, okDs xs k = true → ∀ x ∈ xs, okD x k = true
  | x :: xs, h, y, hy => by
    obtain ⟨h1, h2⟩ := Bool.and_eq_true_iff.mp (show (okD x k && okDs xs k) = true from h)
    rcases List.mem_cons.mp hy with rfl | hy
    · exact h1
    · exact okDs_mem h2 y hy
/-! what a def leaves -/
structure Tx (i j : Nat) (M Mf : Mem) : Prop where
  le : M.length ≤ Mf.length
  out : ∀ p, p < M.length → p ≠ i → p ≠ j → Mf[p]? = M[p]?
  dl : Deal i j Mf
section
variable {i j p : Nat} {M M1 M2 Mf : Mem} {o : MO} {P : PD} {d : Dv} {l : List Dv}
theorem Tx.refl (h : Deal i j M) : Tx i j M M := ⟨Nat.le_refl _, fun _ _ _ _ => rfl, h⟩
theorem Tx.app (t : Tx i j M Mf) (o : MO) : Tx i j M (Mf ++ [o]) := ⟨by simp; have := t.le; omega, fun p h1 h2 h3 => by rw [List.getElem?_append_left (Nat.lt_of_lt_of_le h1 t.le)]; exact t.out p h1 h2 h3, t.dl.app o⟩
theorem Tx.to (t : Tx i j M Mf) (k : To i j Mf M2) : Tx i j M M2 := ⟨by rw [k.len]; exact t.le, fun p h1 h2 h3 => (k.out p h2 h3).trans (t.out p h1 h2 h3), k.dl⟩
theorem Tx.set (t : Tx i j M Mf) (hd : Deal i j M) (h : M.length ≤ p) : Tx i j M (Mf.set p o) := by
  have hl := hd.lt
  exact ⟨by simp; exact t.le, fun q h1 h2 h3 => by rw [set_other (by omega)]; exact t.out q h1 h2 h3, t.dl.set (by omega) (by omega)⟩
theorem Tx.take (t : Tx i j M Mf) (hd : Deal i j M) : To i j M (Mf.take M.length) := by
  have hl := hd.lt
  have := t.le
  refine ⟨by rw [List.length_take]; omega, fun p h1 h2 => ?_, t.dl.take hl.1 hl.2⟩
  by_cases hp : p < M.length
  · rw [List.getElem?_take_of_lt hp]; exact t.out p hp h1 h2
  · rw [List.getElem?_eq_none (by rw [List.length_take]; omega), List.getElem?_eq_none (by omega)]
theorem Tx.cl (t : Tx i j M Mf) (mo : MemOk M) (hd : Deal i j M) : ∀ o ∈ Mf.take M.length, clO M.length o = true := fun o ho => by
  have hlt := hd.lt
  obtain ⟨p, hp⟩ := List.mem_iff_getElem?.mp ho
  have hpl : p < M.length := by have := (List.getElem?_eq_some_iff.mp hp).1; rw [List.length_take] at this; omega
  rw [List.getElem?_take_of_lt hpl] at hp
  obtain ⟨xs, b, d⟩ := t.dl
  by_cases e1 : p = i
  · subst e1
    rw [d.di] at hp; cases hp
    show (decide (j < M.length) && true) = true
    rw [decide_eq_true hlt.2]; rfl
  · by_cases e2 : p = j
    · subst e2
      rw [d.dj] at hp; cases hp
      exact cls_nms _ xs
    · rw [t.out p hpl e1 e2] at hp
      exact mo o (List.mem_of_getElem? hp)
/-- a value goes back -/
theorem Tx.ret (t : Tx i j M Mf) (mo : MemOk M) (hd : Deal i j M) (hc : D.cl M.length d = true) (h : ∀ M', To i j M M' → P d M') : Ret M.length P d Mf := .inr ⟨t.le, t.cl mo hd, .inl ⟨hc, h _ (t.take hd)⟩⟩
/-- a list of the memory goes back -/
theorem Tx.retL (t : Tx i j M Mf) (mo : MemOk M) (hd : Deal i j M) (hp : Mf[p]? = some (.lst l)) (hn : M.length ≤ p) (hc : cls M.length l = true) (h : ∀ M', To i j M M' → P (.lst l) M') : Ret M.length P (.ref p) Mf :=
  .inr ⟨t.le, t.cl mo hd, .inr (.inl ⟨p, l, rfl, hp, hn, hc, h _ (t.take hd)⟩)⟩
theorem ret_cut (mo : MemOk M) (hc : D.cl M.length d = true) (h : P d M) (ex : List MO) : Ret M.length P d (M ++ ex) := .inr ⟨by simp, fun o ho => mo o (by simpa using ho), .inl ⟨hc, by simpa using h⟩⟩
theorem retL_cut (mo : MemOk M) {ex : List MO} (hp : (M ++ ex)[p]? = some (.lst l)) (hn : M.length ≤ p) (hc : cls M.length l = true) (h : P (.lst l) M) : Ret M.length P (.ref p) (M ++ ex) :=
  .inr ⟨by simp, fun o ho => mo o (by simpa using ho), .inr (.inl ⟨p, l, rfl, hp, hn, hc, by simpa using h⟩)⟩
theorem To.tx (t : To i j M M1) : Tx i j M M1 := ⟨Nat.le_of_eq t.len.symm, fun p _ h1 h2 => t.out p h1 h2, t.dl⟩
end
theorem erase_perm {α : Type} {l : List α} {k : Nat} (hk : k < l.length) : ([l[k]] ++ l.eraseIdx k).Perm l := by
  rw [List.eraseIdx_eq_take_drop_succ]
  have e : l.take k ++ l[k] :: l.drop (k + 1) = l := by simp
  refine (List.perm_middle (l₁ := l.take k) (a := l[k]) (l₂ := l.drop (k + 1))).symm.trans ?_
  rw [e]
/-! a drawn order -/
def S__law_mixed : DSp := fun ds M P _ => ∃ (i j : Nat) (x : Dv) (xs : List Dv), ds = [.ref i, x] ∧ Deal i j M ∧ seqD M x = some xs ∧ xs.length ≤ 1000 ∧ okDs xs 59 = true ∧ cls M.length xs = true ∧ ∀ ys M', ys.Perm xs → To i j M M' → P (.lst ys) M'
theorem p__law_mixed : ∀ ds M Pd X, MemOk M → S__law_mixed ds M Pd X → t__law_mixed S__law_any (dkOf M.length Pd X) (startD N__law_mixed ds) M := by
  rintro _ M Pd X mo ⟨i, j, x, xs, rfl, hd, hx, hl, ok, hc, h⟩
  show t__law_mixed S__law_any (dkOf M.length Pd X) [some (.ref i), some x, none, none] M
  unfold t__law_mixed
  refine seq_step fun C1 hC1 => ?_
  simp only [s_par, s_cons, s_listM, s_var, s_nil, s_lstM]
  refine ⟨_, rfl, _, _, rfl, hx, by simp [sizeLine_eq], _, _, rfl, ?_⟩
  subst hC1
  refine seq_step fun C2 hC2 => ?_
  have n1 : ((M ++ [MO.lst xs]) ++ [MO.lst []])[M.length]? = some (.lst xs) := by rw [List.getElem?_append_left (by simp)]; simp
  have n2 : ((M ++ [MO.lst xs]) ++ [MO.lst []])[(M ++ [MO.lst xs]).length]? = some (.lst []) := by simp
  have e2 : (M ++ [MO.lst xs]).length = M.length + 1 := by simp
  rw [e2] at n2 ⊢
  refine ⟨fun q l Mf => l = [some (.ref i), some x, some (.ref M.length), some (.ref (M.length + 1))] ∧ ∃ ls fs, Tx i j M Mf ∧ Mf[M.length]? = some (.lst ls) ∧ Mf[M.length + 1]? = some (.lst fs) ∧ (fs ++ ls).Perm xs ∧ q = ls.length, ⟨_, rfl, xs, [], ((Tx.refl hd).app _).app _, n1, n2, by simp, rfl⟩, ?_⟩
  rintro q l Mf ⟨rfl, ls, fs, tx, hls, hfs, pm, rfl⟩
  have sub : ∀ y ∈ ls, okD y 59 = true := fun y hy => okDs_mem ok y (pm.mem_iff.mp (List.mem_append_right _ hy))
  simp only [s_test, s_op, s_var, s_lst, s_nil]
  refine ⟨_, rfl, by simp [sizeLine_eq], ne_nilR hls (okDs_mono (α := Dv) sub) ⟨_, rfl, ?_⟩⟩
  have hlen := pm.length_eq
  rw [List.length_append] at hlen
  cases hL : ls with
  | nil =>
    subst hL
    simp
    subst hC2
    simp
    refine tx.retL mo hd hfs (Nat.le_succ _) ?_ fun M' to => h fs M' (by simpa using pm) to
    exact cls_of fun y hy => cls_mem hc y (pm.mem_iff.mp (List.mem_append_left _ hy))
  | cons y0 lr =>
    rw [← hL]
    have hne : ls.isEmpty = false := by rw [hL]; rfl
    have hpos : 0 < ls.length := by rw [hL]; simp
    rw [hne]
    simp only [Bool.not_false, if_true]
    refine ⟨_, fun l' M' hN => hN, ?_⟩
    simp only [s_seq, s_drop, s_append, s_cons, s_nil, s_popAt, s_var, s_call, s_cb, s_next]
    refine ⟨_, rfl, _, _, rfl, hfs, _, rfl, _, _, rfl, hls, _, rfl, _, rfl, ?_⟩
    rw [s_len (seqD_ref hls)]
    refine ⟨i, j, ls.length, rfl, tx.dl, by omega, sm_le (by omega), fun r M2 r0 r1 to => ?_⟩
    obtain ⟨k, rfl⟩ := Int.eq_ofNat_of_zero_le r0
    have hlt := hd.lt
    have hk : k < ls.length := by omega
    have a1 : M2[M.length]? = some (.lst ls) := (to.out _ (by omega) (by omega)).trans hls
    have a2 : M2[M.length + 1]? = some (.lst fs) := (to.out _ (by omega) (by omega)).trans hfs
    refine ⟨k, _, ls, rfl, a1, List.getElem?_eq_getElem hk, _, fs, rfl, (set_other (by omega)).trans a2, by rw [sizeLine_eq]; omega, ?_⟩
    refine ⟨(ls.eraseIdx k).length, by rw [List.length_eraseIdx_of_lt hk]; omega, by first | trivial | rfl, ls.eraseIdx k, fs ++ [ls[k]], ((tx.to to).set hd (Nat.le_refl _)).set hd (Nat.le_succ _), (set_other (by omega)).trans (set_self a1), set_self ((set_other (by omega)).trans a2), ?_, rfl⟩
    refine List.Perm.trans ?_ pm
    rw [List.append_assoc]
    refine List.Perm.append_left _ ?_
    exact erase_perm hk
end D.k35
end

section
set_option Elab.async false
set_option linter.all false
set_option maxRecDepth 100000
set_option maxHeartbeats 2000000
set_option autoImplicit false
/-! k35: lots in any form; kinds told apart; lots once. -/
namespace D.k35
open PySem PySem.Spec PyProof.Rows L2 D D.P80
theorem perm_map {α β : Type} {f : α → β} {l1 l2 : List β} (p : l1.Perm l2) : ∀ as : List α, l2 = as.map f → ∃ bs : List α, bs.Perm as ∧ l1 = bs.map f := by
  induction p with
  | nil => exact fun as e => ⟨as, List.Perm.refl _, e⟩
  | cons x p ih =>
    intro as e
    cases as with
    | nil => cases e
    | cons a as =>
      rw [List.map_cons] at e
      injection e with e1 e2
      obtain ⟨bs, h1, h2⟩ := ih as e2
      exact ⟨a :: bs, h1.cons a, by rw [List.map_cons, e1, h2]⟩
  | swap x y l =>
    intro as e
    match as, e with
    | a :: b :: as, e =>
      rw [List.map_cons, List.map_cons] at e
      injection e with e1 e2
      injection e2 with e2 e3
      exact ⟨b :: a :: as, List.Perm.swap _ _ _, by rw [List.map_cons, List.map_cons, e1, e2, e3]⟩
  | trans p q ih1 ih2 =>
    intro as e
    obtain ⟨bs, h1, h2⟩ := ih2 as e
    obtain ⟨cs, h3, h4⟩ := ih1 bs h2
    exact ⟨cs, h3.trans h1, h4⟩
/-- the same lots, whatever the order and the form -/
structure Sim (zs : List (Bool × Lot)) (ls : List Lot) : Prop where
  fw : ∀ z ∈ zs, ∃ l ∈ ls, z.2.Perm l
  bw : ∀ l ∈ ls, ∃ z ∈ zs, z.2.Perm l
theorem mixI {i j : Nat} {M : Mem} {x : Dv} {ns : List Int} {P : PD} {Y : PX} (hd : Deal i j M) (hx : seqD M x = some (nms ns)) (hl : ns.length ≤ 1000) (h : ∀ ms M', ms.Perm ns → To i j M M' → P (.lst (nms ms)) M') : S__law_mixed [.ref i, x] M P Y :=
  ⟨i, j, x, nms ns, rfl, hd, hx, by simpa using hl, okDs_nms 59 ns, cls_nms _ ns, fun ys M' p to => by
    obtain ⟨bs, h1, rfl⟩ := perm_map p ns rfl
    exact h bs M' h1 to⟩
def S__law_given_lots : DSp := fun ds M P _ => ∃ (i j : Nat) (ls : List Lot), ds = [.ref i, .lst (ls.map tupI)] ∧ Deal i j M ∧ ls.length ≤ 1000 ∧ (∀ l ∈ ls, l.length ≤ 1000) ∧ ∀ zs M', Sim zs ls → zs.length = ls.length → To i j M M' → P (.lst (zs.map lotV)) M'
theorem p__law_given_lots : ∀ ds M Pd X, MemOk M → S__law_given_lots ds M Pd X → t__law_given_lots S__law_of S__law_mixed (dkOf M.length Pd X) (startD N__law_given_lots ds) M := by
  rintro _ M Pd X - ⟨i, j, ls, rfl, hd, hn, hl, h⟩
  show t__law_given_lots S__law_of S__law_mixed (dkOf M.length Pd X) [some (.ref i), some (.lst (ls.map tupI)), none] M
  unfold t__law_given_lots
  refine seq_step fun C1 hC1 => ?_
  simp only [s_ret, s_comp, s_iSeq, s_var]
  refine ⟨_, rfl, _, rfl, le_size (by simpa using hn), loopC_inv (fun pre acc M' => To i j M M' ∧ ∃ zs as, pre = as.map tupI ∧ acc = zs.map lotV ∧ Sim zs as ∧ zs.length = as.length) (fun _ _ _ _ => rfl) ⟨To.refl hd, [], [], rfl, rfl, ⟨fun z hz => by simp at hz, fun l hl => by simp at hl⟩, rfl⟩ ?_ ?_⟩
  · rintro pre x acc M1 hx ⟨to1, zs, as, rfl, rfl, sim, len⟩ C1 C2 hC _
    obtain ⟨l, hlm, rfl⟩ := List.mem_map.mp hx
    have fin : ∀ (z : Bool × Lot) M', z.2.Perm l → To i j M M' → C1 (lotV z) M' := fun z M' pz to => hC _ _ ⟨to, zs ++ [z], as ++ [l], by simp, by simp, ⟨fun y hy => by
        rcases List.mem_append.mp hy with hy | hy
        · obtain ⟨m, hm, pm⟩ := sim.fw y hy
          exact ⟨m, List.mem_append_left _ hm, pm⟩
        · rw [List.mem_singleton.mp hy]; exact ⟨l, by simp, pz⟩, fun m hm => by
        rcases List.mem_append.mp hm with hm | hm
        · obtain ⟨y, hy, py⟩ := sim.bw m hm
          exact ⟨y, List.mem_append_left _ hy, py⟩
        · rw [List.mem_singleton.mp hm]; exact ⟨z, by simp, pz⟩⟩, by simp [len]⟩
    simp only [s_gN, s_wipe0, s_wipe1, s_yes, if_true, s_call, s_cons, s_nil, s_var, s_lst, s_cb]
    refine ⟨_, rfl, _, rfl, _, rfl, ?_⟩
    rw [s_list (e := tupI l) (x := nms l) rfl]
    refine mixI to1.dl rfl (hl l hlm) fun b1 M2 p1 to2 => ⟨_, rfl, _, rfl, ?_⟩
    rw [s_list (e := tupI l) (x := nms l) rfl]
    refine mixI to2.dl rfl (hl l hlm) fun b2 M3 p2 to3 => ?_
    rw [s_tuple (e := .lst (nms b2)) (x := nms b2) rfl]
    refine ⟨by simp [sizeLine_eq], i, j, _, [.lst (nms b1), .tup (nms b2)], rfl, to3.dl, fun _ _ => rfl, by simp, by simp, fun d M4 hd4 to4 => ?_⟩
    have to := ((to1.trans to2).trans to3).trans to4
    rcases List.mem_cons.mp hd4 with rfl | hd4
    · exact fin (true, b1) M4 p1 to
    · rw [List.mem_singleton.mp hd4]
      exact fin (false, b2) M4 p2 to
  · rintro acc M1 ⟨to1, zs, as, e, rfl, sim, len⟩
    have e : ls.map tupI = as.map tupI := e
    have : as = ls := by
      have inj : ∀ {a b : List Lot}, a.map tupI = b.map tupI → a = b := fun {a b} h => by
        have := congrArg (List.map fun d : Dv => match d with | .tup l => l.map (fun e : Dv => match e with | .int k => k | _ => 0) | _ => []) h
        rw [List.map_map, List.map_map] at this
        have id1 : ∀ c : List Lot, c.map ((fun d : Dv => match d with | .tup l => l.map (fun e : Dv => match e with | .int k => k | _ => 0) | _ => []) ∘ tupI) = c := fun c => by
          refine (List.map_congr_left (g := id) fun l _ => ?_).trans (List.map_id c)
          show (l.map Dv.int).map _ = l
          rw [List.map_map]
          exact (List.map_congr_left (g := id) fun _ _ => rfl).trans (List.map_id l)
        rw [id1, id1] at this
        exact this
      exact (inj e).symm
    subst this
    exact ret_now (h zs M1 sim len to1)
def S__law_any_way : DSp := fun ds M P _ => ∃ (i j : Nat) (ls : List Lot), ds = [.ref i, .lst (ls.map tupI)] ∧ Deal i j M ∧ 0 < ls.length ∧ ls.length ≤ 900 ∧ (∀ l ∈ ls, l.length ≤ 1000) ∧ ∀ zs M', Sim zs ls → zs.length ≤ ls.length + 1 → To i j M M' → P (.lst (zs.map lotV)) M'
theorem p__law_any_way : ∀ ds M Pd X, MemOk M → S__law_any_way ds M Pd X → t__law_any_way S__law_mixed S__law_given_lots S__law_of S__law_any (dkOf M.length Pd X) (startD N__law_any_way ds) M := by
  rintro _ M Pd X - ⟨i, j, ls, rfl, hd, h0, hn, hl, h⟩
  show t__law_any_way S__law_mixed S__law_given_lots S__law_of S__law_any (dkOf M.length Pd X) [some (.ref i), some (.lst (ls.map tupI))] M
  unfold t__law_any_way
  refine seq_step fun C1 hC1 => ?_
  simp only [s_ret, s_call, s_cons, s_nil, s_var, s_op, s_cb, s_sl, s_lst, s_noP, s_part, s_c]
  refine ⟨_, rfl, _, rfl, _, rfl, ?_⟩
  rw [s_list (e := .lst (ls.map tupI)) (x := ls.map tupI) rfl]
  refine ⟨_, rfl, _, rfl, i, j, _, ls.map tupI, rfl, hd, fun _ _ => rfl, by simpa using h0, by simp; omega, fun d M1 hd1 to1 => ?_⟩
  obtain ⟨a, ha, rfl⟩ := List.mem_map.mp hd1
  refine ⟨by simp [sizeLine_eq], _, rfl, i, j, 2, rfl, to1.dl, by decide, sm_le (by decide), fun r M2 r0 r1 to2 => ⟨r, rfl, ?_⟩⟩
  obtain ⟨k, rfl⟩ := Int.eq_ofNat_of_zero_le r0
  refine ⟨_, rfl, ?_⟩
  rw [cut_take]
  show gAdd _ _ _ _
  rw [s_add_l]
  have e1 : ls.map tupI ++ [tupI a].take k = (ls ++ [a].take k).map tupI := by rw [List.map_append, List.map_take]; rfl
  rw [e1]
  have tk : ∀ l ∈ [a].take k, l = a := fun l hl => List.mem_singleton.mp (List.mem_of_mem_take hl)
  have lk : ([a].take k).length ≤ 1 := by rw [List.length_take]; simp; omega
  refine ⟨by simp [sizeLine_eq]; omega, i, j, ls ++ [a].take k, rfl, to2.dl, by rw [List.length_append]; omega, fun l hl2 => ?_, fun zs M3 sim len to3 => ?_⟩
  · rcases List.mem_append.mp hl2 with h1 | h1
    · exact hl l h1
    · rw [tk l h1]; exact hl a ha
  · refine ⟨i, j, _, zs.map lotV, rfl, to3.dl, rfl, by rw [List.length_map, len, List.length_append]; omega, okDs_map fun z _ => ok_lotV z 58, cls_map fun z _ => cl_lotV _ z, fun ys M4 p4 to4 => ?_⟩
    obtain ⟨zs', p5, rfl⟩ := perm_map p4 zs rfl
    refine ret_now (h zs' M4 ⟨fun z hz => ?_, fun l hl2 => ?_⟩ (by rw [p5.length_eq, len, List.length_append]; omega) (((to1.trans to2).trans to3).trans to4))
    · obtain ⟨l, h1, h2⟩ := sim.fw z (p5.mem_iff.mp hz)
      rcases List.mem_append.mp h1 with h1 | h1
      · exact ⟨l, h1, h2⟩
      · rw [tk l h1] at h2; exact ⟨a, ha, h2⟩
    · obtain ⟨z, h1, h2⟩ := sim.bw l (List.mem_append_left _ hl2)
      exact ⟨z, p5.mem_iff.mpr h1, h2⟩
/-! the same, of True and False -/
def S_none : DSp := fun _ _ _ _ => False
theorem none_all {α : Type} (p : α → Bool) : ∀ l : List α, (l.filter fun d => !p d).isEmpty = l.all p
  | [] => rfl
  | a :: l => by
    cases e : p a with
    | true => rw [List.filter_cons_of_neg (by simp [e]), List.all_cons, e, none_all p l]; rfl
    | false => rw [List.filter_cons_of_pos (by simp [e]), List.all_cons, e]; rfl
def numB : Dv → Bool
  | .tup l => l.all isInt
  | _ => false
def S__law_numbers : DSp := fun ds M P _ => ∃ v, ds = [v] ∧ okV v = true ∧ okD v 60 = true ∧ (∀ l, v = .tup l → l.length ≤ 1000) ∧ P (.bl (numB v)) M
theorem isi_tup (v : Dv) (h : okV v = true) : isiB (kind v) "tuple" = true ↔ ∃ l, v = .tup l := by
  cases v <;> first | (constructor <;> simp [kind, isiB]; done) | (cases h; done) | skip
  all_goals (constructor <;> intro q <;> simp_all [kind, isiB])
theorem p__law_numbers : ∀ ds M Pd X, MemOk M → S__law_numbers ds M Pd X → t__law_numbers (dkOf M.length Pd X) (startD N__law_numbers ds) M := by
  rintro _ M Pd X - ⟨v, rfl, hv, hok, hlen, h⟩
  show t__law_numbers (dkOf M.length Pd X) [some v, none] M
  unfold t__law_numbers
  refine seq_step fun C1 hC1 => ?_
  simp only [s_ifS, s_not, s_tru, s_cb, s_cons, s_nil, s_var, s_c]
  refine ⟨_, rfl, ?_⟩
  rw [s_isi hv (by simp)]
  refine ⟨_, rfl, ?_⟩
  by_cases e : isiB (kind v) "tuple" = true
  · obtain ⟨l, rfl⟩ := (isi_tup v hv).mp e
    rw [e]
    simp only [Bool.not_true, Bool.false_eq_true, if_false, s_next]
    subst hC1
    refine seq_step fun C2 hC2 => ?_
    simp only [s_ret, s_op, s_comp, s_iSeq, s_var, s_lst, s_nil]
    have hl := hlen l rfl
    have hm := okV_mem (l := l) hv
    refine ⟨_, rfl, _, rfl, le_size hl, ?_⟩
    have e0 : l = l.map id := (List.map_id l).symm
    rw [e0]
    refine compT id (fun d => !isInt d) (by rw [← e0]; exact rfl) (by simp) (fun d hd Q hQ => ?_) ?_
    · have hok2 := hm d hd
      simp only [s_or, s_not, s_tru, s_cb, s_cons, s_nil, s_var, s_c]
      refine ⟨_, rfl, ?_⟩
      rw [s_isi (by exact hok2) (by simp)]
      refine ⟨_, rfl, ?_⟩
      have ie := isi_int d hok2
      cases q1 : isiB (kind d) "int" with
      | false =>
        have : isInt d = false := by rw [← ie, q1]; rfl
        rw [this] at hQ
        show (if (!isiB (kind d) "int") = true then _ else _)
        rw [q1]; exact hQ
      | true =>
        show (if (!isiB (kind d) "int") = true then _ else _)
        rw [q1]
        simp only [Bool.not_true, Bool.false_eq_true, if_false]
        refine ⟨_, rfl, ?_⟩
        rw [s_isi (by exact hok2) (by simp)]
        refine ⟨_, rfl, ?_⟩
        have : (!isInt d) = isiB (kind d) "bool" := by rw [← ie, q1]; cases isiB (kind d) "bool" <;> rfl
        rw [this] at hQ; exact hQ
    · refine ⟨by simp [sizeLine_eq], eq_nilL (okDs_mono (α := Dv) fun x hx => ?_) ?_⟩
      · rw [List.map_id] at hx
        exact okDs_mem (show okDs l 59 = true from hok) x (List.mem_filter.mp hx).1
      · refine ret_now ?_
        have : ((l.filter fun d => !isInt d).map id).isEmpty = numB (.tup l) := by
          rw [List.map_id]
          exact none_all isInt l
        rw [this]; exact h
  · rw [Bool.eq_false_iff.mpr e]
    simp
    refine ret_now ?_
    have : numB v = false := by
      cases v <;> first | rfl | exact absurd ((isi_tup _ hv).mpr ⟨_, rfl⟩) e
    rw [this] at h; exact h
/-! lots once -/
def srt (l : Lot) : Lot := l.mergeSort fun a b => decide (a ≤ b)
theorem srt_perm (l : Lot) : (srt l).Perm l := List.mergeSort_perm l _
theorem srt_sorted (l : Lot) : (srt l).Pairwise (· ≤ ·) := by
  have := List.pairwise_mergeSort (le := fun a b : Int => decide (a ≤ b)) (fun a b c h1 h2 => by simp at *; omega) (fun a b => by simp; omega) l
  exact this.imp fun h => by simpa using h
theorem srt_one {l m : Lot} (p : m.Perm l) (s : m.Pairwise (· ≤ ·)) : m = srt l := by
  have p2 : m.Perm (srt l) := p.trans (srt_perm l).symm
  exact p2.eq_of_pairwise (fun a b _ _ h1 h2 => Int.le_antisymm h1 h2) s (srt_sorted l)
/-- in order -/
abbrev Srt (ms : List Lot) : Prop := ms.Pairwise fun a b => lexB a b = true
theorem lex_no : ∀ {a b : Lot}, lexB a b = true → lexB b a = true → False
  | [], [], h, _ => by simp [lexB] at h
  | [], _ :: _, _, h => by simp [lexB] at h
  | _ :: _, [], h, _ => by simp [lexB] at h
  | x :: a, y :: b, h, g => by
    simp only [lexB, Bool.or_eq_true, decide_eq_true_eq, Bool.and_eq_true] at h g
    rcases h with h | ⟨h1, h2⟩
    · rcases g with g | ⟨g1, _⟩ <;> omega
    · rcases g with g | ⟨_, g2⟩
      · omega
      · exact lex_no h2 g2
theorem srt_eq {a b : List Lot} (na : a.Nodup) (nb : b.Nodup) (h : ∀ l, l ∈ a ↔ l ∈ b) (sa : Srt a) (sb : Srt b) : a = b :=
  ((List.perm_ext_iff_of_nodup na nb).mpr h).eq_of_pairwise (fun _ _ _ _ h1 h2 => (lex_no h1 h2).elim) sa sb
def S__law_once : DSp := fun ds M P _ => ∃ (d : Dv) (zs : List (Bool × Lot)), ds = [d] ∧ seqD M d = some (zs.map lotV) ∧ zs.length < 64 ∧ (∀ z ∈ zs, z.2 ≠ [] ∧ ∀ m ∈ z.2, 0 ≤ m) ∧ ∀ ms : List Lot, ms.Nodup → (∀ l, l ∈ ms ↔ ∃ z ∈ zs, l = srt z.2) → Srt ms → P (.lst (ms.map tupI)) M
theorem p__law_once : ∀ ds M Pd X, MemOk M → S__law_once ds M Pd X → t__law_once (dkOf M.length Pd X) (startD N__law_once ds) M := by
  rintro _ M Pd X - ⟨d, zs, rfl, hd, hn, hz, h⟩
  show t__law_once (dkOf M.length Pd X) [some d, none] M
  unfold t__law_once
  refine seq_step fun C1 hC1 => ?_
  simp only [s_ret, s_sortSet, s_comp, s_iSeq, s_var]
  refine ⟨_, rfl, _, hd, le_size (by simp; omega), compM lotV (fun z => tupI (srt z.2)) hd (fun z hz2 C hC => ?_) ?_⟩
  · simp only [s_cb, s_cons, s_nil, s_var]
    refine ⟨_, rfl, _, z.2, rfl, seq_lotV z, fun ms p s => ?_⟩
    rw [srt_one p s]
    exact ⟨_, _, rfl, rfl, hC⟩
  · have e1 : zs.map (fun z => tupI (srt z.2)) = (zs.map fun z => srt z.2).map tI := by rw [List.map_map]; rfl
    rw [e1]
    refine .inr ⟨zs.map fun z => srt z.2, rfl, by simpa using hn, fun l hl => ?_, fun ms nd hm so => ret_now (h ms nd (fun l => (hm l).trans ?_) so)⟩
    · obtain ⟨z, hz2, rfl⟩ := List.mem_map.mp hl
      obtain ⟨h1, h2⟩ := hz z hz2
      exact ⟨fun e => h1 ((srt_perm z.2).symm.trans (by rw [e])).eq_nil, fun m hm => h2 m ((srt_perm z.2).mem_iff.mp hm)⟩
    · rw [List.mem_map]
      exact ⟨fun ⟨z, a, b⟩ => ⟨z, a, b.symm⟩, fun ⟨z, a, b⟩ => ⟨z, a, b.symm⟩⟩
end D.k35
end

section
set_option Elab.async false
set_option linter.all false
set_option maxRecDepth 100000
set_option maxHeartbeats 2000000
set_option autoImplicit false
/-! k35: the program: simple keys, orders. -/
namespace D.k35
open PySem PySem.Spec PyProof.Rows L2 D D.P80
abbrev lotsT (R : List Lot) : Dv := .tup (R.map tupI)
def allIn (l k : Lot) : Bool := k.all fun x => decide (x ∈ l)
theorem map_bl {α : Type} (p : α → Bool) (l : List α) : l.map (fun a => Dv.bl (p a)) = (l.map p).map Dv.bl := by rw [List.map_map]; rfl
theorem any_id_map {α : Type} (f : α → Bool) (l : List α) : (l.map f).any id = l.any f := by
  induction l with
  | nil => rfl
  | cons x t ih => simp [ih]
theorem gAll_of {α : Type} {M : Mem} {as : List α} {p : α → Bool} {G : Dv → Prop} (g : G (.bl (as.all p))) : gAll [.lst (as.map fun a => .bl (p a))] M G := by
  refine ⟨_, as.map p, rfl, by rw [map_bl]; rfl, ?_⟩
  rw [all_id_map]; exact g
theorem gAny_of {α : Type} {M : Mem} {as : List α} {p : α → Bool} {G : Dv → Prop} (g : G (.bl (as.any p))) : gAny [.lst (as.map fun a => .bl (p a))] M G := by
  refine ⟨_, as.map p, rfl, by rw [map_bl]; rfl, ?_⟩
  rw [any_id_map]; exact g
theorem filter_ne {ks : List Int} (nd : ks.Nodup) {v : Int} (hv : v ∈ ks) : (v :: ks.filter fun k => !decide (k = v)).Perm ks := by
  have : (ks.filter fun k => !decide (k = v)) = ks.erase v := by
    rw [nd.erase_eq_filter]
    refine List.filter_congr fun x _ => ?_
    by_cases e : x = v <;> simp [e]
  rw [this]
  exact (List.perm_cons_erase hv).symm
end D.k35
end

section
set_option Elab.async false
set_option linter.all false
set_option maxRecDepth 100000
set_option maxHeartbeats 2000000
set_option autoImplicit false
/-! k35: key orders, by the program and by the law. -/
namespace D.k35
open PySem PySem.Spec PyProof.Rows L2 D D.P80
theorem enum_map {α : Type} (f : α → Dv) : ∀ (as : List α) (k : Nat), enumF (k : Int) (as.map f) = (as.zipIdx k).map fun p => .tup [.int (p.2 : Int), f p.1]
  | [], _ => rfl
  | a :: as, k => by
    rw [List.zipIdx_cons, List.map_cons, List.map_cons, ← enum_map f as (k + 1)]
    show _ :: enumF ((k : Int) + 1) _ = _
    rw [show (k : Int) + 1 = ((k + 1 : Nat) : Int) by omega]
theorem rng_D (k : Nat) : rngD 0 (k : Int) = nms (rng k) := by
  rw [rng_nat]; unfold rng
  show _ = List.map Dv.int (List.map _ _)
  rw [List.map_map]; rfl
theorem not_empty_any {α : Type} (p : α → Bool) : ∀ l : List α, (!(l.filter p).isEmpty) = l.any p
  | [] => rfl
  | a :: l => by
    cases e : p a with
    | true => rw [List.filter_cons_of_pos e, List.any_cons, e]; rfl
    | false => rw [List.filter_cons_of_neg (by simp [e]), List.any_cons, e, not_empty_any p l]; rfl
structure Tame (v : Dv) : Prop where
  ok : okV v = true
  dp : okD v 60 = true
  ln : ∀ l, v = .tup l → l.length ≤ 900
theorem srt_rng {k : Nat} {ns : List Int} : srt ns = rng k ↔ ns.Perm (rng k) := by
  constructor
  · intro e; rw [← e]; exact (srt_perm ns).symm
  · intro p
    refine (srt_one p.symm ?_).symm
    unfold rng
    refine List.pairwise_map.mpr (List.pairwise_lt_range.imp fun {a b} h => by omega)
theorem nms_inj {a b : List Int} (h : nms a = nms b) : a = b := by
  have := congrArg (List.map fun d : Dv => match d with | .int k => k | _ => 0) h
  rw [List.map_map, List.map_map] at this
  have id1 : ∀ c : List Int, c.map ((fun d : Dv => match d with | .int k => k | _ => 0) ∘ Dv.int) = c := fun c => (List.map_congr_left (g := id) fun _ _ => rfl).trans (List.map_id c)
  rwa [id1, id1] at this
theorem ints_all : ∀ {l : List Dv}, l.all isInt = true → ∃ ns, l = nms ns
  | [], _ => ⟨[], rfl⟩
  | d :: l, h => by
    rw [List.all_cons, Bool.and_eq_true] at h
    obtain ⟨ns, rfl⟩ := ints_all h.2
    cases d with
    | int i => exact ⟨i :: ns, rfl⟩
    | _ => exact absurd h.1 (by simp [isInt])
theorem idx_int {k : Int} {l : List Dv} (h : l.all (fun d => isIdx d k) = true) : l.all isInt = true := by
  rw [List.all_eq_true] at h ⊢
  intro d hd
  have := h d hd
  cases d <;> first | rfl | (simp [isIdx] at this)
/-! the program's key order -/
structure FV (K : PySem.W.Frag) (C : Addr) : Prop where
  k : FlC K C "key_count"
  l : FlC K C "lots"
abbrev frameV (C : Addr) (k : Nat) (R : List Lot) : Dv := .obj C ["key_count", "lots"] [.int (k : Int), lotsT R]
theorem cut_drop (l : List Dv) (k : Nat) : cutD l (some (k : Int)) none = l.drop k := by
  unfold cutD
  rw [HT.sIx_none, HT.sIx_nat]
  by_cases h : k ≤ l.length
  · rw [Nat.min_eq_left h, List.take_of_length_le (by rw [List.length_drop]; omega)]
  · rw [Nat.min_eq_right (by omega), List.drop_eq_nil_of_le (by omega), List.drop_eq_nil_of_le (by omega)]; simp
theorem drop_nms (ns : List Int) (k : Nat) : (nms ns).drop k = nms (ns.drop k) := (List.map_drop ..).symm
/-! the law's -/
end D.k35
end

section
set_option Elab.async false
set_option linter.all false
set_option maxRecDepth 100000
set_option maxHeartbeats 2000000
set_option autoImplicit false
/-! k35: all orders; rounds. -/
namespace D.k35
open PySem PySem.Spec PyProof.Rows L2 D D.P80
theorem s_slT {x : List Dv} {lo hi : Option Int} {M : Mem} {G : Dv → Prop} : gSl (.tup x) lo hi M G = G (.tup (cutD x lo hi)) := rfl
end D.k35
end

section
set_option Elab.async false
set_option linter.all false
set_option maxRecDepth 100000
set_option maxHeartbeats 4000000
set_option autoImplicit false
/-! k35: whether lots fold. -/
namespace D.k35
open PySem PySem.Spec PyProof.Rows L2 D D.P80
abbrev lstV (l : Lot) : Dv := .lst (nms l)
theorem enum_rng (f : Lot → Dv) (S : List Lot) : enumD (S.map f) = (List.range S.length).map fun (j : Nat) => .tup [.int (j : Int), f (at_ S j)] := by
  rw [show enumD (S.map f) = _ from enum_map f S 0]
  refine List.ext_getElem (by simp) fun i h1 h2 => ?_
  simp [at_, List.getD_eq_getElem?_getD, List.getElem?_eq_getElem (show i < S.length by simpa using h1)]
theorem mu_bd : ∀ {R : List Lot}, R.length ≤ mu R ∧ ∀ l ∈ R, l.length + 1 ≤ mu R
  | [] => ⟨Nat.le_refl _, fun l h => by cases h⟩
  | l :: R => by
    obtain ⟨h1, h2⟩ := mu_bd (R := R)
    refine ⟨by show R.length + 1 ≤ l.length + 1 + mu R; omega, fun m hm => ?_⟩
    show m.length + 1 ≤ l.length + 1 + mu R
    rcases List.mem_cons.mp hm with rfl | hm
    · omega
    · have := h2 m hm; omega
theorem pyEqs_lstV : ∀ A B : List Lot, pyEqs (A.map lstV) (B.map lstV) = decide (A = B)
  | [], [] => rfl
  | [], _ :: _ => rfl
  | _ :: _, [] => rfl
  | a :: A, b :: B => by
    show (pyEqs (nms a) (nms b) && pyEqs (A.map lstV) (B.map lstV)) = _
    rw [pyEqs_nms, pyEqs_lstV A B]
    by_cases e : a = b
    · subst e; simp
    · simp [e]
def RowsAt (d : Dv) (R : List Lot) (M : Mem) : Prop := d = .lst (R.map lstV) ∨ ∃ p, d = .ref p ∧ M[p]? = some (.lst (R.map lstV))
theorem RowsAt.seq {d : Dv} {R : List Lot} {M : Mem} (h : RowsAt d R M) : seqD M d = some (R.map lstV) := by
  rcases h with rfl | ⟨p, rfl, hp⟩
  · rfl
  · exact seqD_ref hp
def oversL (S : List Lot) (i : Nat) : List Nat := (List.range S.length).filter fun j => !decide (j = i) && within (at_ S i) (at_ S j)
theorem overs_goes (S : List Lot) (i : Nat) : (((oversL S i).filter fun j => decide (j < i) || decide ((at_ S i).length < (at_ S j).length))).isEmpty = !goes S i := by
  unfold oversL goes
  rw [List.filter_filter, ← not_empty_any, Bool.not_not]
  congr 1
  refine List.filter_congr fun j _ => ?_
  rw [Bool.and_comm]
  by_cases e : j = i <;> simp [e]
def keptL (S : List Lot) (i : Nat) : List Lot := ((List.range i).filter fun j => !goes S j).map (at_ S)
theorem kept_succ (S : List Lot) (i : Nat) : keptL S (i + 1) = if goes S i = true then keptL S i else keptL S i ++ [at_ S i] := by
  unfold keptL
  rw [List.range_succ, List.filter_append, List.map_append]
  cases e : goes S i <;> simp [e]
theorem kept_le (S : List Lot) (i : Nat) : (keptL S i).length ≤ i := by
  unfold keptL
  rw [List.length_map]
  have := List.length_filter_le (fun j => !goes S j) (List.range i)
  rwa [List.length_range] at this
theorem in_lst {neg : Bool} {k : Int} {M : Mem} {l : Lot} {G : Dv → Prop} (g : G (.bl (if neg then !decide (k ∈ l) else decide (k ∈ l)))) : gIn neg (.int k) (lstV l) M G := in_ints (ns := l) rfl g
def S__law_folds : DSp := fun ds M P _ => ∃ (ls : List Lot), ds = [.lst (ls.map tupI)] ∧ (∀ l ∈ ls, l.Nodup) ∧ mu ls ≤ 99 ∧ ∀ b : Bool, (b = true ↔ Ac ls) → P (.bl b) M
theorem p__law_folds : ∀ ds M Pd X, MemOk M → S__law_folds ds M Pd X → t__law_folds (dkOf M.length Pd X) (startD N__law_folds ds) M := by
  rintro _ M Pd X mo ⟨ls, rfl, nd, hmu, h⟩
  show t__law_folds (dkOf M.length Pd X) [some (.lst (ls.map tupI)), none, none, none, none, none, none, none, none, none, none, none] M
  have bd := mu_bd (R := ls)
  unfold t__law_folds
  refine seq_step fun C1 hC1 => ?_
  simp only [s_set, s_comp, s_iSeq, s_var]
  refine ⟨_, rfl, _, rfl, le_size (by simp; omega), compM tupI lstV rfl (fun l hl C hC => ⟨_, rfl, _, _, rfl, rfl, hC⟩) ?_⟩
  subst hC1
  refine seq_step fun C2 hC2 => ?_
  simp only [s_for, s_iR1, s_cons, s_nil, s_c]
  refine ⟨_, rfl, by decide, by decide, ?_⟩
  -- the end
  have fin : ∀ (k : Nat) (d : Dv) (ex : List MO) (o2 o3 o4 o5 o6 o7 o8 o9 o10 o11 : Option Dv), RowsAt d (rounds ls (k + 1)) (M ++ ex) → rounds ls (k + 1) = rounds ls k → C2 [some (.lst (ls.map tupI)), some d, o2, o3, o4, o5, o6, o7, o8, o9, o10, o11] (M ++ ex) := by
    intro k d ex o2 o3 o4 o5 o6 o7 o8 o9 o10 o11 hr he
    subst hC2
    simp only [s_seq, s_ret, s_op, s_cb, s_cons, s_nil, s_var, s_c]
    refine ⟨_, rfl, ?_⟩
    rw [s_len hr.seq]
    show gLt (.int _) (.int 2) _ _
    rw [s_lt]
    refine ret_cut mo rfl (h _ ?_) ex
    rw [he, List.length_map, decide_eq_true_iff]
    refine Iff.trans ?_ ((fix_ac (rounds_nd nd k) he).symm.trans (rounds_ac nd k))
    omega
  refine loopS_ix (fun k l Mf => ∃ (ex : List MO) (d : Dv) (o2 o3 o4 o5 o6 o7 o8 o9 o10 o11 : Option Dv), l = [some (.lst (ls.map tupI)), some d, o2, o3, o4, o5, o6, o7, o8, o9, o10, o11] ∧ Mf = M ++ ex ∧ RowsAt d (rounds ls k) Mf ∧ ∀ j, j < k → rounds ls (j + 1) ≠ rounds ls j) (fun _ _ _ _ => trivial)
    ⟨[], _, none, none, none, none, none, none, none, none, none, none, rfl, by simp, .inl rfl, fun j hj => absurd hj (Nat.not_lt_zero j)⟩ ?_ ?_
  · rintro k x l Mf hx ⟨ex, d, o2, o3, o4, o5, o6, o7, o8, o9, o10, o11, rfl, rfl, hr, pre⟩ C hC
    have nk := rounds_nd nd k
    have mk : mu (rounds ls k) ≤ 99 := by have := rounds_mu k pre; omega
    have bk := mu_bd (R := rounds ls k)
    have mk1 := (mu_cut (fun q => decide (1 < many (rounds ls k) q)) (rounds ls k)).1
    have er : rounds ls (k + 1) = keep (dropK (rounds ls k)) := rfl
    have ne1 : rounds ls (k + 1) ≠ rounds ls k → ∀ j, j < k + 1 → rounds ls (j + 1) ≠ rounds ls j := fun hn j hj => by
      by_cases e : j = k
      · subst e; exact hn
      · exact pre j (by omega)
    have fk := fun d' ex' p2 p3 p4 p5 p6 p7 p8 p9 p10 p11 => fin k d' ex' p2 p3 p4 p5 p6 p7 p8 p9 p10 p11
    clear fin
    rw [er] at ne1 fk
    have eC : ∀ (d' : Dv) (ex' : List MO) (p2 p3 p4 p5 p6 p7 p8 p9 p10 p11 : Option Dv), RowsAt d' (keep (dropK (rounds ls k))) (M ++ ex') → keep (dropK (rounds ls k)) ≠ rounds ls k → C [some (.lst (ls.map tupI)), some d', p2, p3, p4, p5, p6, p7, p8, p9, p10, p11] (M ++ ex') := fun d' ex' p2 p3 p4 p5 p6 p7 p8 p9 p10 p11 h1 h2 => hC _ _ ⟨ex', d', p2, p3, p4, p5, p6, p7, p8, p9, p10, p11, rfl, rfl, h1, ne1 h2⟩
    generalize rounds ls k = R at *
    clear hC pre er ne1
    simp only [s_gN]
    refine seq_step fun C3 hC3 => ?_
    simp only [s_set, s_comp, s_iSeq, s_var]
    refine ⟨_, rfl, _, hr.seq, le_size (by simp; omega), compM lstV lstV hr.seq (fun l hl C hC => ⟨_, rfl, _, _, rfl, rfl, hC⟩) ?_⟩
    subst hC3
    refine seq_step fun C4 hC4 => ?_
    simp only [s_set, s_comp, s_iSeq, s_var]
    refine ⟨_, rfl, _, hr.seq, le_size (by simp; omega), compM lstV (fun l => lstV (l.filter fun q => decide (1 < many R q))) hr.seq (fun l hl D hD => ?_) ?_⟩
    · have ll := bk.2 l hl
      refine ⟨_, rfl, _, rfl, le_size (by simp; omega), compT Dv.int (fun q => decide (1 < many R q)) rfl (by simp) (fun q hq Q hQ => ?_) hD⟩
      simp only [s_test, s_op, s_cb, s_cons, s_nil, s_comp, s_iSeq, s_var, s_c]
      refine ⟨_, rfl, _, rfl, le_size (by simp; omega), compT lstV (fun m => decide (q ∈ m)) rfl (by simp) (fun m hm Q2 hQ2 => ?_) ?_⟩
      · simp only [s_test, s_op, s_var]
        exact ⟨_, rfl, _, rfl, in_lst ⟨_, rfl, hQ2⟩⟩
      · rw [s_len_l]
        show gGt (.int _) (.int 1) _ _
        rw [s_gt, List.length_map]
        refine ⟨_, rfl, ?_⟩
        have : decide ((1 : Int) < ((R.filter fun m => decide (q ∈ m)).length : Int)) = decide (1 < many R q) := by
          refine decide_eq_decide.mpr ?_
          show _ ↔ 1 < (R.filter fun m => decide (q ∈ m)).length
          omega
        rw [this]; exact hQ
    have eS : R.map (fun l => lstV (l.filter fun q => decide (1 < many R q))) = (dropK R).map lstV := by
      show _ = (R.map _).map lstV
      rw [List.map_map]; rfl
    rw [eS]
    have mS : mu (dropK R) ≤ 99 := Nat.le_trans mk1 mk
    generalize dropK R = S at *
    have bS := mu_bd (R := S)
    subst hC4
    refine seq_step fun C5 hC5 => ?_
    simp only [s_set, s_lstM, s_nil]
    refine ⟨by simp [sizeLine_eq], ?_⟩
    subst hC5
    refine seq_step fun C6 hC6 => ?_
    simp only [s_for, s_iEnum, s_cons, s_nil, s_var]
    refine ⟨_, rfl, _, S.map lstV, rfl, rfl, ?_⟩
    rw [enum_rng]
    refine loopS_ix (fun i l Mg => ∃ (p5 p6 p7 p8 p9 p10 p11 : Option Dv), l = [some (.lst (ls.map tupI)), some (.lst (S.map lstV)), some x, some (.lst (R.map lstV)), some (.ref (M ++ ex).length), p5, p6, p7, p8, p9, p10, p11] ∧ Mg = M ++ ex ++ [.lst ((keptL S i).map lstV)]) (fun _ _ _ _ => rfl) ⟨o5, o6, o7, o8, o9, o10, o11, rfl, rfl⟩ ?_ ?_
    · rintro i y l Mg hy ⟨p5, p6, p7, p8, p9, p10, p11, rfl, rfl⟩ D hD
      obtain ⟨hi, rfl⟩ : i < S.length ∧ y = .tup [.int (i : Int), lstV (at_ S i)] := by
        rw [List.getElem?_map] at hy
        have : i < S.length := by
          refine Nat.lt_of_not_le fun z => ?_
          rw [List.getElem?_eq_none (by simpa using z)] at hy; cases hy
        rw [List.getElem?_range this] at hy
        simp at hy
        exact ⟨this, hy.symm⟩
      have li := bS.2 _ (at_mem hi)
      simp only [s_gT, s_gsC, s_gN, s_gsN]
      refine ⟨_, rfl, rfl, _, _, rfl, _, _, rfl, rfl, ?_⟩
      refine seq_step fun D2 hD2 => ?_
      simp only [s_set, s_comp, s_iEnum, s_cons, s_nil, s_var]
      refine ⟨_, rfl, _, S.map lstV, rfl, rfl, ?_⟩
      rw [enum_rng]
      refine ⟨le_size (by simp; omega), compF_acc (fun (j : Nat) => .tup [.int (j : Int), lstV (at_ S j)]) (fun j => !decide (j = i) && within (at_ S i) (at_ S j)) (fun (j : Nat) => .int (j : Int)) (show chkD (.lst (S.map lstV)) (S.map lstV) _ from rfl) (fun j hj D3 D4 hD3 => ?_) ?_⟩
      · have hj' := List.mem_range.mp hj
        have lj := bS.2 _ (at_mem hj')
        simp only [s_gT, s_gsC, s_gN, s_gsN]
        refine ⟨_, rfl, rfl, _, _, rfl, _, _, rfl, rfl, ?_⟩
        simp only [s_and, s_test, s_op, s_var]
        refine ⟨_, rfl, _, rfl, ?_⟩
        show gNe (.int (j : Int)) (.int (i : Int)) _ _
        rw [s_ne_i]
        refine ⟨_, rfl, ?_⟩
        have ed : decide ((j : Int) = (i : Int)) = decide (j = i) := decide_eq_decide.mpr (by omega)
        rw [ed]
        cases e : decide (j = i) with
        | true =>
          rw [e] at hD3
          simp at hD3 ⊢
          exact hD3
        | false =>
          rw [e] at hD3
          simp only [Bool.not_false, if_true, Bool.true_and, s_comp, s_iSeq, s_var, s_lst, s_nil] at hD3 ⊢
          refine ⟨_, rfl, _, rfl, le_size (by simp; omega), compT Dv.int (fun q => !decide (q ∈ at_ S j)) rfl (by simp [wipeD]) (fun q hq Q hQ => ?_) ⟨by simp [sizeLine_eq], eq_nilL (okDs_nms 59 _) ⟨_, rfl, ?_⟩⟩⟩
          · simp only [s_test, s_op, s_var]
            exact ⟨_, rfl, _, rfl, in_lst ⟨_, rfl, hQ⟩⟩
          · have : (((at_ S i).filter fun q => !decide (q ∈ at_ S j)).map Dv.int).isEmpty = within (at_ S i) (at_ S j) := by
              rw [List.isEmpty_map]; exact none_all _ _
            rw [this]
            by_cases w : within (at_ S i) (at_ S j) = true
            · rw [if_pos w] at hD3; rw [if_pos w]; exact ⟨_, rfl, hD3⟩
            · rw [if_neg w] at hD3; rw [if_neg w]; exact hD3
      · rw [List.nil_append]
        show D2 [_, _, _, _, _, _, _, some (.lst ((oversL S i).map fun (j : Nat) => .int (j : Int))), _, _, _, _] _
        subst hD2
        refine seq_step fun D5 hD5 => ?_
        have lo : (oversL S i).length ≤ S.length := by
          have := List.length_filter_le (fun j => !decide (j = i) && within (at_ S i) (at_ S j)) (List.range S.length)
          rwa [List.length_range] at this
        simp only [s_ifS, s_test, s_op, s_comp, s_iSeq, s_var, s_lst, s_nil]
        refine ⟨_, rfl, _, rfl, le_size (by simp; omega), compT (fun (j : Nat) => .int (j : Int)) (fun j => decide (j < i) || decide ((at_ S i).length < (at_ S j).length)) rfl (by simp) (fun j hj Q hQ => ?_) ⟨by simp [sizeLine_eq], eq_nilL (okDs_map fun _ _ => rfl) ⟨_, rfl, ?_⟩⟩⟩
        · have hj' : j < S.length := List.mem_range.mp (List.mem_filter.mp hj).1
          simp only [s_or, s_test, s_op, s_var, s_cb, s_cons, s_nil]
          refine ⟨_, rfl, _, rfl, ?_⟩
          show gLt (.int (j : Int)) (.int (i : Int)) _ _
          rw [s_lt]
          refine ⟨_, rfl, ?_⟩
          have ed : decide ((j : Int) < (i : Int)) = decide (j < i) := decide_eq_decide.mpr (by omega)
          rw [ed]
          cases e : decide (j < i) with
          | true =>
            rw [e] at hQ
            simp at hQ ⊢
            exact hQ
          | false =>
            rw [e] at hQ
            simp only [Bool.false_eq_true, if_false, Bool.false_or] at hQ ⊢
            refine ⟨_, rfl, _, rfl, s_ixn (x := S.map lstV) (v := lstV (at_ S j)) rfl (by rw [List.getElem?_map]; unfold at_; rw [List.getD_eq_getElem?_getD, List.getElem?_eq_getElem hj']; rfl) ?_⟩
            rw [s_len_l]
            refine ⟨_, rfl, ?_⟩
            rw [s_len_l]
            show gGt (.int _) (.int _) _ _
            rw [s_gt, List.length_map, List.length_map]
            refine ⟨_, rfl, ?_⟩
            have : decide (((at_ S i).length : Int) < ((at_ S j).length : Int)) = decide ((at_ S i).length < (at_ S j).length) := decide_eq_decide.mpr (by omega)
            rw [this]; exact hQ
        · rw [List.isEmpty_map, overs_goes]
          have ks := kept_succ S i
          have kl := kept_le S i
          cases eg : goes S i with
          | true =>
            rw [eg, if_pos rfl] at ks
            simp only [Bool.not_true, Bool.false_eq_true, if_false, s_next]
            subst hD5
            simp only [s_next]
            refine hD _ _ ⟨_, _, _, _, _, _, _, rfl, ?_⟩
            rw [ks]
          | false =>
            rw [eg, if_neg (by simp)] at ks
            simp only [Bool.not_false, if_true]
            refine seq_step fun D6 hD6 => ?_
            simp only [s_drop, s_append, s_cons, s_nil, s_var]
            have g1 : (M ++ ex ++ [MO.lst ((keptL S i).map lstV)])[(M ++ ex).length]? = some (.lst ((keptL S i).map lstV)) := by simp
            refine ⟨_, rfl, _, _, rfl, g1, _, rfl, _, _, rfl, g1, by rw [sizeLine_eq]; simp; omega, ?_⟩
            subst hD6
            subst hD5
            simp only [s_next]
            refine hD _ _ ⟨_, _, _, _, _, _, _, rfl, ?_⟩
            rw [ks, List.set_append_right _ _ (Nat.le_refl _), List.map_append]
            simp
    · rintro l Mg ⟨p5, p6, p7, p8, p9, p10, p11, rfl, rfl⟩
      have ek : keptL S ((List.range S.length).map fun (j : Nat) => Dv.tup [.int (j : Int), lstV (at_ S j)]).length = keep S := by
        rw [List.length_map, List.length_range]; rfl
      rw [ek]
      show C6 _ _
      subst hC6
      refine seq_step fun C7 hC7 => ?_
      simp only [s_set, s_var]
      refine ⟨_, rfl, ?_⟩
      subst hC7
      refine seq_step fun C8 hC8 => ?_
      have g1 : (M ++ (ex ++ [MO.lst ((keep S).map lstV)]))[(M ++ ex).length]? = some (.lst ((keep S).map lstV)) := by rw [← List.append_assoc]; simp
      have at1 : RowsAt (.ref (M ++ ex).length) (keep S) (M ++ (ex ++ [MO.lst ((keep S).map lstV)])) := .inr ⟨_, rfl, g1⟩
      rw [List.append_assoc]
      simp only [s_ifS, s_test, s_op, s_var]
      refine ⟨_, rfl, _, rfl, ?_⟩
      have r1 : res (M ++ (ex ++ [MO.lst ((keep S).map lstV)])) (.ref (M ++ ex).length) = .lst ((keep S).map lstV) := res_ref g1
      refine ⟨by rw [r1]; exact okDs_map fun l _ => okDs_nms 58 l, okDs_map fun l _ => okDs_nms 58 l, ?_⟩
      rw [r1]
      refine ⟨_, rfl, ?_⟩
      show if pyEqs ((keep S).map lstV) (R.map lstV) = true then _ else _
      rw [pyEqs_lstV]
      by_cases e : keep S = R
      · rw [decide_eq_true e, if_pos rfl]
        show C2 _ _
        exact fk _ _ _ _ _ _ _ _ _ _ _ _ at1 e
      · rw [decide_eq_false e, if_neg (by simp)]
        subst hC8
        simp only [s_next]
        exact eC _ _ _ _ _ _ _ _ _ _ _ _ at1 e
  · rintro l Mf ⟨ex, d, o2, o3, o4, o5, o6, o7, o8, o9, o10, o11, rfl, rfl, hr, pre⟩
    exfalso
    have e : (rngD 0 100).length = 100 := by
      rw [show (100 : Int) = ((100 : Nat) : Int) from rfl, rng_nat]; simp
    rw [e] at pre
    have := rounds_mu 100 pre
    omega
end D.k35
end

section
set_option Elab.async false
set_option linter.all false
set_option maxRecDepth 100000
set_option maxHeartbeats 4000000
set_option autoImplicit false
/-! k35: frames are made. -/
namespace D.k35
open PySem PySem.Spec PyProof.Rows L2 D D.P80
def S_checked_keys : DSp := fun ds M P _ => ∃ n : Int, ds = [.int n] ∧ 1 ≤ n ∧ P (.int n) M
theorem p_checked_keys : ∀ ds M Pd X, MemOk M → S_checked_keys ds M Pd X → t_checked_keys S_is_number (dkOf M.length Pd X) (startD N_checked_keys ds) M := by
  rintro _ M Pd X - ⟨n, rfl, h1, h⟩
  show t_checked_keys S_is_number (dkOf M.length Pd X) [some (.int n)] M
  unfold t_checked_keys
  refine seq_step fun C1 hC1 => ?_
  simp only [s_ifS, s_or, s_not, s_tru, s_call, s_cons, s_nil, s_var, s_test, s_op, s_c]
  refine ⟨_, rfl, .int n, rfl, rfl, _, rfl, ?_⟩
  have e : isNum (.int n) = true := decide_eq_true (by omega)
  rw [e]
  simp only [Bool.not_true, Bool.false_eq_true, if_false]
  refine ⟨_, rfl, ?_⟩
  show gLt (.int n) (.int 1) _ _
  rw [s_lt, decide_eq_false (by omega)]
  refine ⟨_, rfl, ?_⟩
  simp
  subst hC1
  simp
  exact ret_now h
def S_is_lot_of : DSp := fun ds M P _ => ∃ (k : Nat) (z : Bool × Lot), ds = [.int (k : Int), lotV z] ∧ z.2.Nodup ∧ z.2.length ≤ 900 ∧ (∀ x ∈ z.2, 0 ≤ x ∧ x < k) ∧ P (.bl true) M
theorem lst_ref {M : Mem} {i : Nat} {l : List Dv} (h : M[i]? = some (.lst l)) : lstD M (.ref i) = some l := by
  show (match M[i]? with | some (.lst l) => some l | _ => none) = _; rw [h]
theorem same_len {a b : List Int} (na : a.Nodup) (nb : b.Nodup) (h : ∀ k, k ∈ a ↔ k ∈ b) : a.length = b.length :=
  Nat.le_antisymm (nodup_le na fun k => (h k).mp) (nodup_le nb fun k => (h k).mpr)
theorem p_is_lot_of : ∀ ds M Pd X, MemOk M → S_is_lot_of ds M Pd X → t_is_lot_of S_is_index S_is_sequence (dkOf M.length Pd X) (startD N_is_lot_of ds) M := by
  rintro _ M Pd X - ⟨k, z, rfl, nd, hl, hr, h⟩
  show t_is_lot_of S_is_index S_is_sequence (dkOf M.length Pd X) [some (.int (k : Int)), some (lotV z), none] M
  unfold t_is_lot_of
  refine seq_step fun C1 hC1 => ?_
  simp only [s_ifS, s_or, s_not, s_tru, s_call, s_cons, s_nil, s_var, s_cb, s_comp, s_iSeq]
  refine ⟨_, rfl, lotV z, rfl, okV_lotV z, _, rfl, ?_⟩
  have e : isSeq (lotV z) = true := by obtain ⟨b, l⟩ := z; cases b <;> rfl
  rw [e]
  simp only [Bool.not_true, Bool.false_eq_true, if_false]
  refine ⟨_, rfl, _, seq_lotV z, le_size (by simp; omega), compM Dv.int (fun x => .bl (isIdx (.int x) k)) (seq_lotV z) (fun x hx C hC => ?_) (gAll_of ⟨_, rfl, ?_⟩)⟩
  · simp only [s_call, s_cons, s_nil, s_var]
    exact ⟨_, rfl, _, rfl, .int x, (k : Int), rfl, rfl, hC⟩
  · have ea : z.2.all (fun x => isIdx (.int x) k) = true := List.all_eq_true.mpr fun x hx => by
      obtain ⟨h0, h1⟩ := hr x hx
      simp [isIdx, h0, h1]
    rw [ea]
    simp only [Bool.not_true, Bool.false_eq_true, if_false, s_next]
    subst hC1
    simp only [s_seq, s_ret, s_op, s_lenSet, s_var, s_cb, s_cons, s_nil]
    refine ⟨_, rfl, z.2, seq_lotV z, by omega, fun ms n2 hm => ⟨_, rfl, ?_⟩⟩
    rw [s_len (seq_lotV z)]
    show gEq (.int _) (.int _) _ _
    rw [s_eq_i, decide_eq_true (by rw [List.length_map, same_len n2 nd hm])]
    exact ret_now h
def S_Frame___init__ (K : PySem.W.Frag) (C : Addr) : DSp := fun ds M P _ => ∃ (p k : Nat) (zs : List (Bool × Lot)), ds = [.ref p, .int (k : Int), .lst (zs.map lotV)] ∧ M[p]? = some (.ins C [] []) ∧ FV K C ∧ 1 ≤ k ∧ k ≤ 50 ∧ zs.length < 64 ∧
  (∀ z ∈ zs, z.2 ≠ [] ∧ z.2.Nodup ∧ ∀ x ∈ z.2, 0 ≤ x ∧ x < k) ∧ (∀ x : Int, 0 ≤ x → x < k → ∃ z ∈ zs, x ∈ z.2) ∧
  ∀ R : List Lot, R.Nodup → (∀ l, l ∈ R ↔ ∃ z ∈ zs, l = srt z.2) → Srt R → P .non (M.set p (.ins C ["key_count", "lots"] [.int (k : Int), lotsT R]))
theorem p_Frame___init__ (K : PySem.W.Frag) (C : Addr) : ∀ ds M Pd X, MemOk M → S_Frame___init__ K C ds M Pd X → t_Frame___init__ K S_is_lot_of S_is_sequence S_checked_keys (dkOf M.length Pd X) (startD N_Frame___init__ ds) M := by
  rintro _ M Pd X mo ⟨p, k, zs, rfl, hp, fv, k1, k2, hn, hz, cov, h⟩
  show t_Frame___init__ K S_is_lot_of S_is_sequence S_checked_keys (dkOf M.length Pd X) [some (.ref p), some (.int (k : Int)), some (.lst (zs.map lotV)), none, none, none, none, none] M
  have hpl : p < M.length := (List.getElem?_eq_some_iff.mp hp).1
  have zl : ∀ z ∈ zs, z.2.length ≤ k := fun z hz2 => by
    have := nodup_le (hz z hz2).2.1 (l2 := rng k) fun x hx => mem_rng.mpr ((hz z hz2).2.2 x hx)
    rwa [rng_len] at this
  unfold t_Frame___init__
  refine seq_step fun C1 hC1 => ?_
  simp only [s_set, s_call, s_cons, s_nil, s_var]
  refine ⟨_, rfl, (k : Int), rfl, by omega, ?_⟩
  subst hC1
  refine seq_step fun C2 hC2 => ?_
  simp only [s_ifS, s_not, s_tru, s_call, s_cons, s_nil, s_var]
  refine ⟨_, rfl, _, rfl, okVs_of fun d hd => ?_, true, rfl, ?_⟩
  · obtain ⟨z, _, rfl⟩ := List.mem_map.mp hd
    exact okV_lotV z
  simp only [Bool.not_true, Bool.false_eq_true, if_false, s_next]
  subst hC2
  refine seq_step fun C3 hC3 => ?_
  simp only [s_set, s_lstM, s_nil]
  refine ⟨by simp [sizeLine_eq], ?_⟩
  subst hC3
  refine seq_step fun C4 hC4 => ?_
  simp only [s_for, s_iEnum, s_cons, s_nil, s_var]
  refine ⟨_, rfl, _, zs.map lotV, rfl, rfl, ?_⟩
  rw [show enumD (zs.map lotV) = _ from enum_map lotV zs 0]
  let fl : List Lot := zs.map fun z => srt z.2
  have fl_len : fl.length = zs.length := List.length_map ..
  refine loopS_ix (fun i l Mg => Mg = M ++ [.lst ((fl.take i).map tI)] ∧ ∃ (o5 o6 o7 : Option Dv), l = [some (.ref p), some (.int (k : Int)), some (.lst (zs.map lotV)), some (.int (k : Int)), some (.ref M.length), o5, o6, o7]) (fun _ _ _ _ => rfl) ⟨rfl, none, none, none, rfl⟩ ?_ ?_
  · rintro i x l Mg hx ⟨rfl, o5, o6, o7, rfl⟩ D hD
    obtain ⟨z, hq, rfl⟩ : ∃ z, zs[i]? = some z ∧ x = .tup [.int (i : Int), lotV z] := by
      rw [List.getElem?_map, List.getElem?_zipIdx] at hx
      cases hq : zs[i]? with
      | none => rw [hq] at hx; cases hx
      | some v => rw [hq] at hx; simp at hx; exact ⟨v, rfl, hx.symm⟩
    have hzm := List.mem_of_getElem? hq
    obtain ⟨z1, z2, z3⟩ := hz z hzm
    have zk := zl z hzm
    have zi := (List.getElem?_eq_some_iff.mp hq).1
    simp only [s_gT, s_gsC, s_gN, s_gsN]
    refine ⟨_, rfl, rfl, _, _, rfl, _, _, rfl, rfl, ?_⟩
    refine seq_step fun D1 hD1 => ?_
    simp only [s_ifS, s_or, s_not, s_tru, s_call, s_cons, s_nil, s_var, s_test, s_op, s_cb, s_c]
    refine ⟨_, rfl, _, rfl, k, z, rfl, z2, by omega, z3, true, rfl, ?_⟩
    simp only [Bool.not_true, Bool.false_eq_true, if_false]
    refine ⟨_, rfl, ?_⟩
    rw [s_len (seq_lotV z)]
    show gEq (.int _) (.int 0) _ _
    rw [s_eq_i, decide_eq_false (by have := List.length_pos_iff.mpr z1; rw [List.length_map]; omega)]
    refine ⟨_, rfl, ?_⟩
    simp only [Bool.false_eq_true, if_false, s_next]
    subst hD1
    refine seq_step fun D2 hD2 => ?_
    simp only [s_drop, s_append, s_cons, s_nil, s_var, s_cb]
    have g1 : (M ++ [MO.lst ((fl.take i).map tI)])[M.length]? = some (.lst ((fl.take i).map tI)) := by simp
    refine ⟨_, rfl, _, _, rfl, g1, _, rfl, _, z.2, rfl, seq_lotV z, fun ms pm sm => ?_⟩
    rw [srt_one pm sm]
    refine ⟨_, _, rfl, rfl, _, _, rfl, g1, by rw [sizeLine_eq]; simp; omega, ?_⟩
    subst hD2
    simp only [s_next]
    refine hD _ _ ⟨?_, _, _, _, rfl⟩
    rw [List.set_append_right _ _ (Nat.le_refl _)]
    have : fl.take (i + 1) = fl.take i ++ [srt z.2] := by
      rw [List.take_add_one]
      show _ ++ (zs.map fun z => srt z.2)[i]?.toList = _
      rw [List.getElem?_map, hq]; rfl
    rw [this, List.map_append]
    simp
  · rintro l Mg ⟨rfl, o5, o6, o7, rfl⟩
    show C4 _ _
    rw [List.length_map, List.length_zipIdx]
    have et : fl.take zs.length = fl := List.take_of_length_le (by simp [fl])
    rw [et]
    have g1 : (M ++ [MO.lst (fl.map tI)])[M.length]? = some (.lst (fl.map tI)) := by simp
    have mfl : ∀ l, l ∈ fl ↔ ∃ z ∈ zs, l = srt z.2 := fun l => by
      rw [List.mem_map]
      exact ⟨fun ⟨z, a, b⟩ => ⟨z, a, b.symm⟩, fun ⟨z, a, b⟩ => ⟨z, a, b.symm⟩⟩
    have flat_le : (fl.map List.length).sum ≤ fl.length * 50 := by
      have : ∀ (L : List Lot), (∀ l ∈ L, l.length ≤ 50) → (L.map List.length).sum ≤ L.length * 50 := by
        intro L
        induction L with
        | nil => intro _; exact Nat.le_refl _
        | cons a L ih =>
          intro hL
          have := hL a List.mem_cons_self
          have := ih fun l hl => hL l (List.mem_cons_of_mem _ hl)
          rw [List.map_cons, List.sum_cons, List.length_cons]
          omega
      refine this fl fun l hl => ?_
      obtain ⟨z, hz2, rfl⟩ := (mfl l).mp hl
      rw [(srt_perm z.2).length_eq]
      have := zl z hz2
      omega
    have ff : fl.flatten.length ≤ 4000 := by rw [List.length_flatten]; omega
    subst hC4
    refine seq_step fun C5 hC5 => ?_
    simp only [s_ifS, s_test, s_op, s_lenSet, s_comp2, s_iSeq, s_var]
    refine ⟨_, rfl, _, seqD_ref g1, ?_⟩
    have e1 : ((fl.map tI).map fun d : Dv => match d with | .tup l => l | _ => []).flatten = nms fl.flatten := by
      rw [List.map_map]
      show (fl.map fun l => nms l).flatten = List.map Dv.int fl.flatten
      rw [List.map_flatten]
    refine loopE_flat (fun d => match d with | .tup l => l | _ => []) (seqD_ref g1) (by rw [e1, sizeLine_eq, List.length_map]; simp; omega) (fun x hx acc C1 C2 ha hC => ?_) ?_
    · obtain ⟨l, hl, rfl⟩ := List.mem_map.mp hx
      simp only [s_gN, s_wipe0, s_wipe1, s_yes, if_true, s_var]
      refine ⟨_, rfl, _, rfl, ?_⟩
      show loopD (gN 7) dYes (dVar 7) [7] (chkD (tI l) (nms l)) (nms l) acc _ _ C1
      refine loopD_map (xs := nms l) id (show chkD (tI l) (nms l) _ from rfl) ha (fun y hy D1 D2 hD => ?_) ?_
      · simp only [s_gN, s_wipe0, s_wipe1, s_yes, if_true, s_var]
        exact ⟨_, rfl, hD⟩
      · rw [List.map_id]; exact hC
    · rw [List.nil_append, e1]
      refine ⟨fl.flatten, rfl, ff, fun ms n2 hm => ⟨_, rfl, ?_⟩⟩
      show gLt (.int _) (.int _) _ _
      have km : k ≤ ms.length := by
        have := nodup_le (rng_nd k) (l2 := ms) fun x hx => by
          obtain ⟨x0, x1⟩ := mem_rng.mp hx
          obtain ⟨z, hz2, hxz⟩ := cov x x0 x1
          exact (hm x).mpr (List.mem_flatten.mpr ⟨srt z.2, (mfl _).mpr ⟨z, hz2, rfl⟩, (srt_perm z.2).mem_iff.mpr hxz⟩)
        rwa [rng_len] at this
      rw [s_lt, decide_eq_false (by omega)]
      refine ⟨_, rfl, ?_⟩
      simp only [Bool.false_eq_true, if_false, s_next]
      subst hC5
      refine seq_step fun C6 hC6 => ?_
      simp only [s_putF, s_var]
      have g0 : (M ++ [MO.lst (fl.map tI)])[p]? = some (.ins C [] []) := by rw [List.getElem?_append_left hpl]; exact hp
      refine ⟨_, rfl, _, rfl, p, C, [], [], rfl, g0, fv.k, by decide, ?_⟩
      have e2 : (M ++ [MO.lst (fl.map tI)]).set p (.ins C (putD "key_count" (.int (k : Int)) [] []).1 (putD "key_count" (.int (k : Int)) [] []).2) = M.set p (.ins C ["key_count"] [.int (k : Int)]) ++ [MO.lst (fl.map tI)] := by
        rw [List.set_append_left _ _ hpl]; rfl
      rw [e2]
      have g2 : (M.set p (MO.ins C ["key_count"] [.int (k : Int)]) ++ [MO.lst (fl.map tI)])[M.length]? = some (.lst (fl.map tI)) := by
        rw [List.getElem?_append_right (by simp)]; simp
      have g3 : (M.set p (MO.ins C ["key_count"] [.int (k : Int)]) ++ [MO.lst (fl.map tI)])[p]? = some (.ins C ["key_count"] [.int (k : Int)]) := by
        rw [List.getElem?_append_left (by simpa using hpl)]; exact set_self hp
      subst hC6
      refine seq_step fun C7 hC7 => ?_
      simp only [s_putF, s_cb, s_cons, s_nil, s_sortSet, s_var]
      refine ⟨_, rfl, .inr ⟨fl, lst_ref g2, by omega, fun l hl => ?_, fun ms n3 hm3 so3 => ?_⟩⟩
      · obtain ⟨z, hz2, rfl⟩ := (mfl l).mp hl
        obtain ⟨z1, _, z3⟩ := hz z hz2
        exact ⟨fun e => z1 ((srt_perm z.2).symm.trans (by rw [e])).eq_nil, fun m hm => (z3 m ((srt_perm z.2).mem_iff.mp hm)).1⟩
      · refine ⟨_, _, rfl, rfl, _, rfl, p, C, _, _, rfl, g3, fv.l, by decide, ?_⟩
        subst hC7
        simp only [s_next]
        have e3 : (M.set p (MO.ins C ["key_count"] [.int (k : Int)]) ++ [MO.lst (fl.map tI)]).set p (.ins C (putD "lots" (.tup (ms.map tI)) ["key_count"] [.int (k : Int)]).1 (putD "lots" (.tup (ms.map tI)) ["key_count"] [.int (k : Int)]).2)
            = M.set p (.ins C ["key_count", "lots"] [.int (k : Int), lotsT ms]) ++ [MO.lst (fl.map tI)] := by
          rw [List.set_append_left _ _ (by simpa using hpl), List.set_set]; rfl
        show Ret M.length Pd .non _
        rw [e3]
        have e4 : (M.set p (MO.ins C ["key_count", "lots"] [.int (k : Int), lotsT ms]) ++ [MO.lst (fl.map tI)]).take M.length = M.set p (.ins C ["key_count", "lots"] [.int (k : Int), lotsT ms]) := by
          rw [List.take_append_of_le_length (by simp), List.take_of_length_le (by simp)]
        refine .inr ⟨by simp, fun o ho => ?_, .inl ⟨rfl, ?_⟩⟩
        · rw [e4] at ho
          rcases List.mem_or_eq_of_mem_set ho with ho | rfl
          · exact mo o ho
          · show (true && (cls M.length (ms.map tI) && true)) = true
            rw [cls_map (f := tI) fun l _ => cls_nms _ l]; rfl
        · rw [e4]
          exact h ms n3 (fun l => (hm3 l).trans (mfl l)) so3
end D.k35
end

section
set_option Elab.async false
set_option linter.all false
set_option maxRecDepth 100000
set_option maxHeartbeats 4000000
set_option autoImplicit false
/-! k35: lots taken off; orders by lone keys. -/
namespace D.k35
open PySem PySem.Spec PyProof.Rows L2 D D.P80
def sharesL (l : Lot) (os : List Lot) : Lot := l.filter fun k => os.any fun m => decide (k ∈ m)
def S__law_shares : DSp := fun ds M P _ => ∃ (l : Lot) (os : List Lot), ds = [tupI l, .lst (os.map tupI)] ∧ l.length ≤ 1000 ∧ os.length ≤ 1000 ∧ P (.lst (nms (sharesL l os))) M
theorem p__law_shares : ∀ ds M Pd X, MemOk M → S__law_shares ds M Pd X → t__law_shares (dkOf M.length Pd X) (startD N__law_shares ds) M := by
  rintro _ M Pd X - ⟨l, os, rfl, hl, ho, h⟩
  show t__law_shares (dkOf M.length Pd X) [some (tupI l), some (.lst (os.map tupI)), none, none] M
  unfold t__law_shares
  simp only [s_seq, s_ret, s_comp, s_iSeq, s_var]
  refine ⟨_, rfl, _, rfl, le_size (by simpa using hl), compT Dv.int (fun k => os.any fun m => decide (k ∈ m)) rfl (by simp) (fun k hk Q hQ => ?_) (ret_now h)⟩
  simp only [s_test, s_op, s_comp, s_iSeq, s_var, s_lst, s_nil]
  refine ⟨_, rfl, _, rfl, le_size (by simpa using ho), compT tupI (fun m => decide (k ∈ m)) rfl (by simp) (fun m hm Q2 hQ2 => ?_) ⟨by simp [sizeLine_eq], ne_nilL (okDs_map fun l _ => ok_tupI l 58) ⟨_, rfl, ?_⟩⟩⟩
  · simp only [s_test, s_op, s_var]
    exact ⟨_, rfl, _, rfl, in_ints (ns := m) rfl ⟨_, rfl, hQ2⟩⟩
  · rw [List.isEmpty_map, not_empty_any]; exact hQ
def offL (ls : List Lot) (e : Lot) : List Lot := ls.filter fun l => decide (l ≠ e)
def holdL (ls : List Lot) (e : Lot) : List Lot := (offL ls e).filter fun o => ((sharesL e (offL ls e)).filter fun k => !decide (k ∈ o)).isEmpty
theorem mem_holdL {ls : List Lot} {e m : Lot} : m ∈ holdL ls e ↔ Holds ls e m := by
  have sh : ∀ x, x ∈ sharesL e (offL ls e) ↔ x ∈ e ∧ ∃ l ∈ ls, l ≠ e ∧ x ∈ l := fun x => by
    unfold sharesL offL
    rw [List.mem_filter, List.any_eq_true]
    constructor
    · rintro ⟨h1, l, hl, h2⟩
      obtain ⟨h3, h4⟩ := List.mem_filter.mp hl
      exact ⟨h1, l, h3, of_decide_eq_true h4, of_decide_eq_true h2⟩
    · rintro ⟨h1, l, hl, h2, h3⟩
      exact ⟨h1, l, List.mem_filter.mpr ⟨hl, decide_eq_true h2⟩, decide_eq_true h3⟩
  unfold holdL
  rw [List.mem_filter, List.isEmpty_iff, List.filter_eq_nil_iff]
  constructor
  · rintro ⟨h1, h2⟩
    obtain ⟨h3, h4⟩ := List.mem_filter.mp h1
    exact ⟨h3, of_decide_eq_true h4, fun x hx hs => by simpa using h2 x ((sh x).mpr ⟨hx, hs⟩)⟩
  · rintro ⟨h1, h2, h3⟩
    exact ⟨List.mem_filter.mpr ⟨h1, decide_eq_true h2⟩, fun x hx => by
      obtain ⟨a, b⟩ := (sh x).mp hx
      simpa using h3 x a b⟩
theorem off_le (ls : List Lot) (e : Lot) : (offL ls e).length ≤ ls.length := List.length_filter_le ..
theorem hold_le (ls : List Lot) (e : Lot) : (holdL ls e).length ≤ ls.length := Nat.le_trans (List.length_filter_le ..) (off_le ls e)
theorem shares_le (l : Lot) (os : List Lot) : (sharesL l os).length ≤ l.length := List.length_filter_le ..
theorem ne_off {M : Mem} {a b : List Int} {Q : Bool → Mem → Prop} (h : Q (decide (a ≠ b)) M) : gNe (tupI a) (tupI b) M fun d => ∃ k, d = .bl k ∧ Q k M := by
  refine ne_tupI ⟨_, rfl, ?_⟩
  have : (!decide (a = b)) = decide (a ≠ b) := by simp
  rw [this]; exact h
def S__law_holders : DSp := fun ds M P _ => ∃ (ls : List Lot) (e : Lot), ds = [.lst (ls.map tupI), tupI e] ∧ e.length ≤ 1000 ∧ ls.length ≤ 1000 ∧ P (.lst ((holdL ls e).map tupI)) M
theorem p__law_holders : ∀ ds M Pd X, MemOk M → S__law_holders ds M Pd X → t__law_holders S__law_shares (dkOf M.length Pd X) (startD N__law_holders ds) M := by
  rintro _ M Pd X - ⟨ls, e, rfl, he, hl, h⟩
  show t__law_holders S__law_shares (dkOf M.length Pd X) [some (.lst (ls.map tupI)), some (tupI e), none, none, none, none] M
  have ol := off_le ls e
  have sl := shares_le e (offL ls e)
  unfold t__law_holders
  refine seq_step fun C1 hC1 => ?_
  simp only [s_set, s_comp, s_iSeq, s_var]
  refine ⟨_, rfl, _, rfl, le_size (by simpa using hl), compT tupI (fun l => decide (l ≠ e)) rfl (by simp) (fun l hl2 Q hQ => ?_) ?_⟩
  · simp only [s_test, s_op, s_var]
    exact ⟨_, rfl, _, rfl, ne_off hQ⟩
  show C1 [_, _, some (.lst ((offL ls e).map tupI)), _, _, _] M
  subst hC1
  refine seq_step fun C2 hC2 => ?_
  simp only [s_set, s_call, s_cons, s_nil, s_var]
  refine ⟨_, rfl, _, rfl, e, offL ls e, rfl, he, by omega, ?_⟩
  subst hC2
  simp only [s_seq, s_ret, s_comp, s_iSeq, s_var]
  refine ⟨_, rfl, _, rfl, le_size (by simp; omega), compT tupI (fun o => ((sharesL e (offL ls e)).filter fun k => !decide (k ∈ o)).isEmpty) rfl (by simp) (fun o ho Q hQ => ?_) (ret_now h)⟩
  simp only [s_test, s_op, s_comp, s_iSeq, s_var, s_lst, s_nil]
  refine ⟨_, rfl, _, rfl, le_size (by simp; omega), compT Dv.int (fun k => !decide (k ∈ o)) rfl (by simp) (fun k hk Q2 hQ2 => ?_) ⟨by simp [sizeLine_eq], eq_nilL (okDs_nms 59 _) ⟨_, rfl, ?_⟩⟩⟩
  · simp only [s_test, s_op, s_var]
    exact ⟨_, rfl, _, rfl, in_ints (ns := o) rfl ⟨_, rfl, hQ2⟩⟩
  · rw [List.isEmpty_map]; exact hQ
abbrev pairV (p : Lot × Lot) : Dv := .tup [tupI p.1, tupI p.2]
theorem ear_there {R : List Lot} (h : Ac R) (nd : R.Nodup) (h2 : 2 ≤ R.length) : ∃ e ∈ R, holdL R e ≠ [] := by
  obtain ⟨o, h1, h3⟩ := h
  match R, h2 with
  | a :: b :: t, _ =>
    have hne : a ≠ b := fun z => by
      rw [z] at nd
      exact (List.nodup_cons.mp nd).1 List.mem_cons_self
    obtain ⟨e, m, he, hm⟩ := has_ear h1 h3 (a := a) (b := b) List.mem_cons_self (List.mem_cons_of_mem _ List.mem_cons_self) hne
    exact ⟨e, he, List.ne_nil_of_mem (mem_holdL.mpr hm)⟩
def S__law_taken_off : DSp := fun ds M P _ => ∃ (i j : Nat) (ls : List Lot), ds = [.ref i, .lst (ls.map tupI)] ∧ Deal i j M ∧ Ac ls ∧ ls.Nodup ∧ 0 < ls.length ∧ ls.length ≤ 900 ∧ (∀ l ∈ ls, l.length ≤ 900) ∧
  ∀ ps M', Chain ls ps → ps.length = ls.length - 1 → To i j M M' → P (.tup (ps.map pairV)) M'
theorem p__law_taken_off : ∀ ds M Pd X, MemOk M → S__law_taken_off ds M Pd X → t__law_taken_off S__law_of S__law_holders (dkOf M.length Pd X) (startD N__law_taken_off ds) M := by
  rintro _ M Pd X mo ⟨i, j, ls, rfl, hd, ac, nd, l0, l1, ll, h⟩
  show t__law_taken_off S__law_of S__law_holders (dkOf M.length Pd X) [some (.ref i), some (.lst (ls.map tupI)), none, none, none, none, none] M
  have hlt := hd.lt
  unfold t__law_taken_off
  refine seq_step fun C1 hC1 => ?_
  simp only [s_asg, s_tup, s_cons, s_nil, s_cb, s_var, s_lstM]
  refine ⟨_, rfl, ?_⟩
  rw [s_list (e := .lst (ls.map tupI)) (x := ls.map tupI) rfl]
  refine ⟨by simp [sizeLine_eq], by simp [sizeLine_eq], ?_⟩
  simp
  subst hC1
  refine seq_step fun C2 hC2 => ?_
  simp only [s_for, s_iR1, s_cons, s_nil, s_op, s_cb, s_var, s_c]
  refine ⟨_, rfl, ?_⟩
  rw [s_len_l]
  show gSub' (.int _) (.int 1) _ _
  rw [s_sub]
  have en : ((ls.map tupI).length : Int) - 1 = ((ls.length - 1 : Nat) : Int) := by rw [List.length_map]; omega
  rw [en]
  refine ⟨_, rfl, by omega, by omega, ?_⟩
  rw [rng_nat]
  refine loopS_ix (fun k l Mf => Tx i j M Mf ∧ ∃ (ps : List (Lot × Lot)) (o4 o5 o6 : Option Dv), l = [some (.ref i), some (.lst (ls.map tupI)), some (.lst ((rest ls ps).map tupI)), some (.ref M.length), o4, o5, o6] ∧ Mf[M.length]? = some (.lst (ps.map pairV)) ∧ Chain ls ps ∧ ps.length = k ∧ (rest ls ps).length + k = ls.length ∧ Ac (rest ls ps)) (fun _ _ _ _ => trivial)
    ⟨(Tx.refl hd).app _, [], none, none, none, by rw [rest_nil], by simp, Chain.nil ls, rfl, by rw [rest_nil]; rfl, by rw [rest_nil]; exact ac⟩ ?_ ?_
  · rintro k x l Mf hx ⟨tx, ps, o4, o5, o6, rfl, hf, ch, pl, rl, acr⟩ C hC
    have hk : k < ls.length - 1 := by
      have := (List.getElem?_eq_some_iff.mp hx).1
      simpa using this
    have ndr : (rest ls ps).Nodup := nd.sublist List.filter_sublist
    have sub : ∀ l ∈ rest ls ps, l ∈ ls := fun l hl => (List.mem_filter.mp hl).1
    obtain ⟨e0, he0, hh0⟩ := ear_there acr ndr (by omega)
    have rs := rest_snoc ls ps
    generalize hR : rest ls ps = R at *
    simp only [s_gN]
    refine seq_step fun C3 hC3 => ?_
    simp only [s_set, s_call, s_cons, s_nil, s_var, s_comp, s_iSeq]
    refine ⟨_, rfl, _, rfl, _, rfl, le_size (by simp; omega), compT tupI (fun e => !(holdL R e).isEmpty) rfl (by simp) (fun e he Q hQ => ?_) ?_⟩
    · simp only [s_test, s_op, s_call, s_cons, s_nil, s_var, s_lst]
      exact ⟨_, rfl, _, rfl, R, e, rfl, by have := ll e (sub e he); omega, by omega, by simp [sizeLine_eq], ne_nilL (okDs_map fun l _ => ok_tupI l 58) ⟨_, rfl, by rw [List.isEmpty_map]; exact hQ⟩⟩
    generalize hF : R.filter (fun e => !(holdL R e).isEmpty) = F
    have e0F : e0 ∈ F := by
      rw [← hF]
      refine List.mem_filter.mpr ⟨he0, ?_⟩
      cases q : holdL R e0 with
      | nil => exact absurd q hh0
      | cons _ _ => rfl
    have Fl : F.length ≤ R.length := by rw [← hF]; exact List.length_filter_le ..
    refine ⟨i, j, _, F.map tupI, rfl, tx.dl, fun _ _ => rfl, by rw [List.length_map]; exact List.length_pos_of_mem e0F, by rw [List.length_map]; omega, fun d M2 hd2 to2 => ?_⟩
    obtain ⟨e, he, rfl⟩ := List.mem_map.mp hd2
    rw [← hF] at he
    obtain ⟨eR, hne⟩ := List.mem_filter.mp he
    have hh : holdL R e ≠ [] := by
      intro z; rw [z] at hne; cases hne
    have tx2 := tx.to to2
    have hf2 : M2[M.length]? = some (.lst (ps.map pairV)) := (to2.out _ (by omega) (by omega)).trans hf
    subst hC3
    refine seq_step fun C4 hC4 => ?_
    simp only [s_drop, s_append, s_cons, s_nil, s_var, s_tup, s_call]
    refine ⟨_, rfl, _, _, rfl, hf2, _, rfl, _, rfl, _, rfl, _, rfl, R, e, rfl, by have := ll e (sub e eR); omega, by omega, ?_⟩
    refine ⟨i, j, _, (holdL R e).map tupI, rfl, tx2.dl, fun _ _ => rfl, by rw [List.length_map]; exact List.length_pos_iff.mpr hh, by rw [List.length_map]; have := hold_le R e; omega, fun d M3 hd3 to3 => ?_⟩
    obtain ⟨m, hm, rfl⟩ := List.mem_map.mp hd3
    have hold := mem_holdL.mp hm
    have hf3 : M3[M.length]? = some (.lst (ps.map pairV)) := (to3.out _ (by omega) (by omega)).trans hf2
    refine ⟨by simp [sizeLine_eq], _, _, rfl, hf3, by rw [sizeLine_eq]; simp; omega, ?_⟩
    subst hC4
    refine seq_step fun C5 hC5 => ?_
    simp only [s_set, s_comp, s_iSeq, s_var]
    refine ⟨_, rfl, _, rfl, le_size (by simp; omega), compT tupI (fun l => decide (l ≠ e)) rfl (by simp) (fun l hl2 Q hQ => ?_) ?_⟩
    · simp only [s_test, s_op, s_var]
      exact ⟨_, rfl, _, rfl, ne_off hQ⟩
    subst hC5
    simp only [s_next]
    have fl := filter_ne_len ndr eR
    rw [show (R.filter fun l => decide (l ≠ e)) = rest ls (ps ++ [(e, m)]) from (rs (e, m)).symm]
    refine hC _ _ ⟨(tx2.to to3).set hd (Nat.le_refl _), ps ++ [(e, m)], _, _, _, rfl, ?_, ?_, ?_, ?_, ?_⟩
    · rw [set_self hf3, List.map_append]; rfl
    · exact ch.snoc (p := (e, m)) (by rw [hR]; exact eR) (by rw [hR]; exact hold)
    · simp [pl]
    · rw [rs (e, m)]
      show _ + k + 1 = _
      rw [Nat.add_right_comm]
      exact (congrArg (· + k) fl).trans rl
    · rw [rs (e, m)]; exact ac_off acr hold
  · rintro l Mf ⟨tx, ps, o4, o5, o6, rfl, hf, ch, pl, rl, acr⟩
    show C2 _ _
    subst hC2
    simp only [s_seq, s_ret, s_cb, s_cons, s_nil, s_var]
    refine ⟨_, rfl, _, _, rfl, seqD_ref hf, tx.ret mo hd ?_ fun M' to => h ps M' ch (by rw [pl]; simp) to⟩
    exact cls_map (f := pairV) fun p _ => by
      show (cls _ (nms p.1) && (cls _ (nms p.2) && true)) = true
      rw [cls_nms, cls_nms]; rfl
theorem chain_len {ls : List Lot} (nd : ls.Nodup) {ps : List (Lot × Lot)} (ch : Chain ls ps) : ∀ k, k ≤ ps.length → (rest ls (ps.take k)).length + k = ls.length
  | 0, _ => by rw [List.take_zero, rest_nil]; rfl
  | k + 1, hk => by
    have ih := chain_len nd ch k (by omega)
    have hp : ps[k]? = some (ps[k]'hk) := List.getElem?_eq_getElem hk
    obtain ⟨h1, _⟩ := ch k _ hp
    have e : ps.take (k + 1) = ps.take k ++ [ps[k]'hk] := by rw [List.take_add_one, hp]; rfl
    rw [e, rest_snoc]
    have := filter_ne_len (nd.sublist (List.filter_sublist (p := fun l => decide (∀ p ∈ ps.take k, l ≠ p.1)))) h1
    have e2 : ls.filter (fun l => decide (∀ p ∈ ps.take k, l ≠ p.1)) = rest ls (ps.take k) := rfl
    rw [e2] at this
    omega
theorem few_keys {k : Nat} {ls : List Lot} (cov : Covers k ls) {f : List Int} (nd : f.Nodup) (sub : ∀ x ∈ f, ∃ l ∈ ls, x ∈ l) : f.length ≤ k := by
  have := nodup_le nd (l2 := rng k) fun x hx => by
    obtain ⟨l, hl, hxl⟩ := sub x hx
    exact mem_rng.mpr (cov.1 l hl x hxl)
  rwa [rng_len] at this
end D.k35
end

section
set_option Elab.async false
set_option linter.all false
set_option maxRecDepth 100000
set_option maxHeartbeats 4000000
set_option autoImplicit false
/-! k35: values with one thing changed. -/
namespace D.k35
open PySem PySem.Spec PyProof.Rows L2 D D.P80
theorem tame_tup {l : List Dv} (h : ∀ d ∈ l, okV d = true ∧ okD d 59 = true) (hl : l.length ≤ 900) : Tame (.tup l) :=
  ⟨okVs_of fun d hd => (h d hd).1, okDs_mono (α := Dv) fun d hd => (h d hd).2, fun m e => by cases e; exact hl⟩
theorem tame_ints {ns : List Int} (hl : ns.length ≤ 900) : Tame (tupI ns) := tame_tup (fun d hd => by
  obtain ⟨n, _, rfl⟩ := List.mem_map.mp hd
  exact ⟨rfl, rfl⟩) (by simpa using hl)
theorem one_in {ns : List Int} {a b : Nat} {x : Dv} (hx : okV x = true ∧ okD x 59 = true) (hl : ns.length ≤ 400) : Tame (.tup ((nms ns).take a ++ [x] ++ (nms ns).drop b)) := by
  refine tame_tup (fun d hd => ?_) (by simp; omega)
  have allI : ∀ d ∈ nms ns, okV d = true ∧ okD d 59 = true := fun d hd => by
    obtain ⟨n, _, rfl⟩ := List.mem_map.mp hd
    exact ⟨rfl, rfl⟩
  rcases List.mem_append.mp hd with hd | hd
  · rcases List.mem_append.mp hd with hd | hd
    · exact allI d (List.mem_of_mem_take hd)
    · rw [List.mem_singleton.mp hd]; exact hx
  · exact allI d (List.mem_of_mem_drop hd)
theorem ixN_nat {n k : Nat} (h : k < n) : ixN n (k : Int) = some k := by
  unfold ixN
  rw [if_pos (by omega)]
  simp [h]
end D.k35
end

section
set_option Elab.async false
set_option linter.all false
set_option maxRecDepth 100000
set_option maxHeartbeats 4000000
set_option autoImplicit false
/-! k35: lots that grow. -/
namespace D.k35
open PySem PySem.Spec PyProof.Rows L2 D D.P80
/-- the lots of a frame -/
structure Lots (k n : Nat) (ls : List Lot) : Prop where
  ne : 0 < ls.length
  len : ls.length ≤ n
  nd : ls.Nodup
  so : Srt ls
  each : ∀ l ∈ ls, l ≠ [] ∧ l.Nodup ∧ l.Pairwise (· ≤ ·)
  cov : Covers k ls
/-- lots before they are put in order -/
structure Raw (k n : Nat) (ls : List Lot) : Prop where
  ne : 0 < ls.length
  len : ls.length ≤ n
  each : ∀ l ∈ ls, l ≠ [] ∧ l.Nodup
  cov : Covers k ls
theorem raw_lots {k n : Nat} {zs : List (Bool × Lot)} {ms : List Lot} (r : Raw k n (zs.map (·.2))) (nd : ms.Nodup) (hm : ∀ l, l ∈ ms ↔ ∃ z ∈ zs, l = srt z.2) (so : Srt ms) : Lots k n ms ∧ (Ac (zs.map (·.2)) → Ac ms) := by
  have up : ∀ z ∈ zs, z.2 ∈ zs.map (·.2) := fun z hz => List.mem_map.mpr ⟨z, hz, rfl⟩
  have here : ∀ z ∈ zs, srt z.2 ∈ ms := fun z hz => (hm _).mpr ⟨z, hz, rfl⟩
  refine ⟨⟨?_, ?_, nd, so, fun l hl => ?_, fun l hl x hx => ?_, fun x h0 h1 => ?_⟩, Ac.cov (fun l hl => ?_) fun l hl => ?_⟩
  · have := r.ne
    rw [List.length_map] at this
    obtain ⟨z, hz⟩ := List.exists_mem_of_length_pos this
    exact List.length_pos_of_mem (here z hz)
  · have := nodup_le nd (l2 := zs.map fun z => srt z.2) fun l hl => by
      obtain ⟨z, hz, rfl⟩ := (hm l).mp hl
      exact List.mem_map.mpr ⟨z, hz, rfl⟩
    rw [List.length_map] at this
    have h2 := r.len
    rw [List.length_map] at h2
    omega
  · obtain ⟨z, hz, rfl⟩ := (hm l).mp hl
    obtain ⟨h1, h2⟩ := r.each _ (up z hz)
    exact ⟨fun e => h1 ((srt_perm z.2).symm.trans (by rw [e])).eq_nil, (srt_perm z.2).nodup_iff.mpr h2, srt_sorted z.2⟩
  · obtain ⟨z, hz, rfl⟩ := (hm l).mp hl
    exact r.cov.1 _ (up z hz) x ((srt_perm z.2).mem_iff.mp hx)
  · obtain ⟨l, hl, hx⟩ := r.cov.2 x h0 h1
    obtain ⟨z, hz, rfl⟩ := List.mem_map.mp hl
    exact ⟨_, here z hz, (srt_perm z.2).mem_iff.mpr hx⟩
  · obtain ⟨z, hz, rfl⟩ := List.mem_map.mp hl
    exact ⟨_, here z hz, fun x hx => (srt_perm z.2).mem_iff.mpr hx⟩
  · obtain ⟨z, hz, rfl⟩ := (hm l).mp hl
    exact ⟨_, up z hz, fun x hx => (srt_perm z.2).mem_iff.mp hx⟩
theorem Raw.pre {k n : Nat} {zs : List (Bool × Lot)} (r : Raw k n (zs.map (·.2))) : ∀ z ∈ zs, z.2 ≠ [] ∧ ∀ m ∈ z.2, 0 ≤ m := fun z hz =>
  have up : z.2 ∈ zs.map (·.2) := List.mem_map.mpr ⟨z, hz, rfl⟩
  ⟨(r.each _ up).1, fun m hm => (r.cov.1 _ up m hm).1⟩
theorem any_go {i j : Nat} {M : Mem} {b : Int} {P : PD} {Y : PX} (hd : Deal i j M) (h0 : 0 < b) (h1 : b ≤ 1000) (h : ∀ r M', 0 ≤ r → r < b → To i j M M' → P (.int r) M') : S__law_any [.ref i, .int b] M P Y :=
  ⟨i, j, b, rfl, hd, h0, sm_le (by omega), h⟩
/-- [x for x in xs if a draw says so] -/
theorem subC {i j q : Nat} {tt : DT} {chk : Mem → Prop} {xs : List Int} {l : Loc} {M0 : Mem} {P : List Dv → Mem → Prop} (hd : Deal i j M0) (hq : q < l.length) (hc : ∀ M', To i j M0 M' → chk M')
    (ht : ∀ k ∈ xs, ∀ M1, To i j M0 M1 → ∀ Q : Bool → Mem → Prop, (∀ b M2, To i j M1 M2 → Q b M2) → tt (l.set q (some (.int k))) M1 Q noX) (h : ∀ s M', s.Sublist xs → To i j M0 M' → P (nms s) M') :
    loopC (gN q) tt (dVar q) [q] chk (nms xs) [] l M0 P := by
  refine loopC_inv (fun pre acc M' => To i j M0 M' ∧ ∃ p s, pre = nms p ∧ acc = nms s ∧ s.Sublist p) (fun _ _ M' ⟨t, _⟩ => hc M' t) ⟨To.refl hd, [], [], rfl, rfl, List.Sublist.refl _⟩ ?_ ?_
  · rintro pre x acc M1 hx ⟨to, p, s, rfl, rfl, sb⟩ C1 C2 hC1 hC2
    obtain ⟨k, hk, rfl⟩ := List.mem_map.mp hx
    simp only [s_gN, s_wipe0, s_wipe1, List.set_set]
    refine ht k hk M1 to _ fun b M2 to2 => ?_
    cases b with
    | true =>
      rw [if_pos rfl]
      exact ⟨.int k, by simp [hq], hC1 _ _ ⟨to.trans to2, p ++ [k], s ++ [k], by simp, by simp, sb.append (List.Sublist.refl _)⟩⟩
    | false =>
      rw [if_neg (by simp)]
      refine hC2 _ ⟨to.trans to2, p ++ [k], s, by simp, rfl, sb.trans (List.sublist_append_left _ _)⟩
  · rintro acc M1 ⟨to, p, s, e, rfl, sb⟩
    have e : nms xs = nms p := e
    have e2 := nms_inj e
    subst e2
    exact h s M1 sb to
/-- lots that grow: what is left is fresh -/
structure Gr (k : Nat) (as : List Lot) (L : List Int) : Prop where
  ac : Ac as
  each : ∀ l ∈ as, l ≠ [] ∧ l.Nodup
  nd : L.Nodup
  off : ∀ x ∈ L, ∀ l ∈ as, x ∉ l
  rg : ∀ l ∈ as, ∀ x ∈ l, 0 ≤ x ∧ x < k
  lr : ∀ x ∈ L, 0 ≤ x ∧ x < k
  all : ∀ x : Int, 0 ≤ x → x < k → x ∈ L ∨ ∃ l ∈ as, x ∈ l
theorem Gr.step {k : Nat} {as : List Lot} {L : List Int} {b e : Lot} {m : Nat} (g : Gr k as L) (hb : b ∈ as) (ne : e ≠ []) (nde : e.Nodup) (h1 : ∀ x ∈ e, x ∈ b ∨ x ∈ L.take m) (h2 : ∀ u ∈ L.take m, u ∈ e) : Gr k (as ++ [e]) (L.drop m) := by
  have tm : ∀ x, x ∈ L.take m → x ∈ L := fun x => List.mem_of_mem_take
  have dm : ∀ x, x ∈ L.drop m → x ∈ L := fun x => List.mem_of_mem_drop
  have nd2 : (L.take m ++ L.drop m).Nodup := by rw [List.take_append_drop]; exact g.nd
  have ndt := List.nodup_append.mp nd2
  refine ⟨g.ac.grow hb h1 fun u hu => ⟨h2 u hu, fun l hl hx => g.off u (tm u hu) l hl hx⟩, fun l hl => ?_, ndt.2.1, fun x hx l hl hxl => ?_, fun l hl x hx => ?_, fun x hx => g.lr x (dm x hx), fun x x0 x1 => ?_⟩
  · rcases List.mem_append.mp hl with hl | hl
    · exact g.each l hl
    · rw [List.mem_singleton.mp hl]; exact ⟨ne, nde⟩
  · rcases List.mem_append.mp hl with hl | hl
    · exact g.off x (dm x hx) l hl hxl
    · rw [List.mem_singleton.mp hl] at hxl
      rcases h1 x hxl with z | z
      · exact g.off x (dm x hx) b hb z
      · exact ndt.2.2 x z x hx rfl
  · rcases List.mem_append.mp hl with hl | hl
    · exact g.rg l hl x hx
    · rw [List.mem_singleton.mp hl] at hx
      rcases h1 x hx with z | z
      · exact g.rg b hb x z
      · exact g.lr x (tm x z)
  · rcases g.all x x0 x1 with z | ⟨l, hl, hx⟩
    · rw [← List.take_append_drop m L] at z
      rcases List.mem_append.mp z with z | z
      · exact .inr ⟨e, by simp, h2 x z⟩
      · exact .inl z
    · exact .inr ⟨l, by simp [hl], hx⟩
theorem Gr.last {k n : Nat} {as : List Lot} {l L : Lot} (g : Gr k (as ++ [l]) L) (hn : as.length + 1 ≤ n) : Raw k n (as ++ [l ++ L]) ∧ Ac (as ++ [l ++ L]) := by
  have gl := g.each l (by simp)
  refine ⟨⟨by simp, by simpa using hn, fun m hm => ?_, fun m hm x hx => ?_, fun x x0 x1 => ?_⟩, g.ac.last g.off⟩
  · rcases List.mem_append.mp hm with hm | hm
    · exact g.each m (List.mem_append_left _ hm)
    · rw [List.mem_singleton.mp hm]
      exact ⟨fun z => gl.1 (List.append_eq_nil_iff.mp z).1, List.nodup_append.mpr ⟨gl.2, g.nd, fun a ha b hb z => g.off b hb l (by simp) (z ▸ ha)⟩⟩
  · rcases List.mem_append.mp hm with hm | hm
    · exact g.rg m (List.mem_append_left _ hm) x hx
    · rw [List.mem_singleton.mp hm] at hx
      rcases List.mem_append.mp hx with hx | hx
      · exact g.rg l (by simp) x hx
      · exact g.lr x hx
  · rcases g.all x x0 x1 with z | ⟨m, hm, hx⟩
    · exact ⟨l ++ L, by simp, List.mem_append_right _ z⟩
    · rcases List.mem_append.mp hm with hm | hm
      · exact ⟨m, List.mem_append_left _ hm, hx⟩
      · rw [List.mem_singleton.mp hm] at hx
        exact ⟨l ++ L, by simp, List.mem_append_left _ hx⟩
theorem Gr.start {k m : Nat} {L : List Int} (p : L.Perm (rng k)) (hk : 1 ≤ k) (hm : 1 ≤ m) : Gr k [L.take m] (L.drop m) := by
  have nd : (L.take m ++ L.drop m).Nodup := by rw [List.take_append_drop]; exact p.nodup_iff.mpr (rng_nd k)
  have ndt := List.nodup_append.mp nd
  have lk : L.length = k := by rw [p.length_eq, rng_len]
  have rg : ∀ x ∈ L, 0 ≤ x ∧ x < k := fun x hx => mem_rng.mp (p.mem_iff.mp hx)
  refine ⟨⟨L.take m, Ord.one (l := L.take m) (by simp) fun v hv => hv, fun l hl x hx => by rw [List.mem_singleton.mp hl] at hx; exact hx⟩, fun l hl => ?_, ndt.2.1, fun x hx l hl hxl => ?_, fun l hl x hx => ?_, fun x hx => rg x (List.mem_of_mem_drop hx), fun x x0 x1 => ?_⟩
  · rw [List.mem_singleton.mp hl]
    refine ⟨fun e => ?_, ndt.1⟩
    have := congrArg List.length e
    rw [List.length_take, List.length_nil] at this
    omega
  · rw [List.mem_singleton.mp hl] at hxl
    exact ndt.2.2 x hxl x hx rfl
  · rw [List.mem_singleton.mp hl] at hx
    exact rg x (List.mem_of_mem_take hx)
  · have hx : x ∈ L := p.mem_iff.mpr (mem_rng.mpr ⟨x0, x1⟩)
    rw [← List.take_append_drop m L] at hx
    rcases List.mem_append.mp hx with z | z
    · exact .inr ⟨_, List.mem_singleton.mpr rfl, z⟩
    · exact .inl z
theorem atI_neg1 (l : List Dv) (x : Dv) : atI (l ++ [x]) (-1) = some x := by
  have e : ixN (l ++ [x]).length (-1) = some l.length := by
    unfold ixN
    rw [List.length_append, List.length_singleton, if_neg (by decide), if_pos (by omega)]
    congr 1
    omega
  unfold atI
  rw [e]
  show (l ++ [x])[l.length]? = _
  simp
theorem ixN_neg1 (n : Nat) : ixN (n + 1) (-1) = some n := by
  unfold ixN
  rw [if_neg (by decide), if_pos (by omega)]
  congr 1
  omega
theorem s_slL {x : List Dv} {lo hi : Option Int} {M : Mem} {G : Dv → Prop} (h : G (.lst (cutD x lo hi))) : gSl (.lst x) lo hi M G := ⟨x, rfl, h⟩
theorem cut_nms1 (ns : List Int) (k : Nat) : cutD (nms ns) none (some (k : Int)) = nms (ns.take k) := cut_nms ns k
theorem cut_nms2 (ns : List Int) (k : Nat) : cutD (nms ns) (some (k : Int)) none = nms (ns.drop k) := by rw [cut_drop, drop_nms]
def S__law_grown : DSp := fun ds M P _ => ∃ (i j k n : Nat), ds = [.ref i, .int (k : Int), .int (n : Int)] ∧ Deal i j M ∧ 1 ≤ k ∧ k ≤ 50 ∧ 1 ≤ n ∧ n ≤ 50 ∧ ∀ ms M', Lots k n ms → Ac ms → To i j M M' → P (.lst (ms.map tupI)) M'
theorem p__law_grown : ∀ ds M Pd X, MemOk M → S__law_grown ds M Pd X → t__law_grown S__law_once S__law_any S__law_of S__law_mixed (dkOf M.length Pd X) (startD N__law_grown ds) M := by
  rintro _ M Pd X mo ⟨i, j, k, n, rfl, hd, k1, k2, n1, n2, h⟩
  show t__law_grown S__law_once S__law_any S__law_of S__law_mixed (dkOf M.length Pd X) [some (.ref i), some (.int (k : Int)), some (.int (n : Int)), none, none, none, none, none, none, none, none, none] M
  have hlt := hd.lt
  unfold t__law_grown
  refine seq_step fun C1 hC1 => ?_
  simp only [s_set, s_call, s_cons, s_nil, s_var, s_lrg]
  refine ⟨_, rfl, _, rfl, _, rfl, by omega, by omega, ?_⟩
  rw [rng_D]
  refine mixI hd rfl (by rw [rng_len]; omega) fun L M1 pL to1 => ?_
  subst hC1
  refine seq_step fun C2 hC2 => ?_
  simp only [s_set, s_op, s_c, s_call, s_cons, s_nil, s_var]
  refine ⟨_, rfl, any_go to1.dl (by decide) (by decide) fun r M2 r0 r1 to2 => ?_⟩
  show gAdd (.int 1) (.int r) _ _
  rw [s_add_i]
  have to := to1.trans to2
  obtain ⟨f, hf⟩ := Int.eq_ofNat_of_zero_le (show 0 ≤ 1 + r by omega)
  rw [hf]
  have f1 : 1 ≤ f := by omega
  subst hC2
  refine seq_step fun C3 hC3 => ?_
  simp only [s_par, s_cons, s_nil, s_lstM, s_sl, s_noP, s_part, s_var]
  refine ⟨_, rfl, _, rfl, _, rfl, s_slL ⟨by simp [sizeLine_eq], _, rfl, _, rfl, _, rfl, s_slL ⟨_, _, rfl, ?_⟩⟩⟩
  rw [cut_nms1, cut_nms2]
  have ml : M2.length = M.length := to.len
  rw [ml]
  have g0 := Gr.start pL k1 f1
  have tx0 : Tx i j M (M2 ++ [MO.lst [lstV (L.take f)]]) := to.tx.app _
  have m0 : (M2 ++ [MO.lst [lstV (L.take f)]])[M.length]? = some (.lst ([L.take f].map lstV)) := by rw [← ml]; simp
  show C3 [_, _, _, some (.lst (nms (L.drop f))), _, some (.ref M.length), _, _, _, _, _, _] (M2 ++ [MO.lst [lstV (L.take f)]])
  have len0 : [L.take f].length ≤ 1 := Nat.le_refl _
  have ne0 : [L.take f] ≠ [] := by simp
  generalize M2 ++ [MO.lst [lstV (L.take f)]] = M3 at *
  generalize L.drop f = L0 at *
  generalize [L.take f] = as0 at *
  have L0k : ∀ {as : List Lot} {L' : List Int}, Gr k as L' → L'.length ≤ k := fun {as L'} g => by
    have := nodup_le g.nd (l2 := rng k) fun x hx => mem_rng.mpr (g.lr x hx)
    rwa [rng_len] at this
  have asl : ∀ {as : List Lot} {L' : List Int}, Gr k as L' → ∀ l ∈ as, l.length ≤ k := fun {as L'} g l hl => by
    have := nodup_le (g.each l hl).2 (l2 := rng k) fun x hx => mem_rng.mpr (g.rg l hl x hx)
    rwa [rng_len] at this
  subst hC3
  refine seq_step fun C4 hC4 => ?_
  simp only [s_for, s_iR1, s_cons, s_nil, s_op, s_var, s_c]
  refine ⟨_, rfl, ?_⟩
  show gSub' (.int (n : Int)) (.int 1) _ _
  rw [s_sub, show (n : Int) - 1 = ((n - 1 : Nat) : Int) by omega]
  refine ⟨_, rfl, by omega, by omega, ?_⟩
  rw [rng_nat]
  refine loopS_ix (fun q l Mf => Tx i j M Mf ∧ ∃ (as : List Lot) (L : List Int) (o6 o7 o8 o9 o10 o11 : Option Dv), l = [some (.ref i), some (.int (k : Int)), some (.int (n : Int)), some (.lst (nms L)), some (.int (f : Int)), some (.ref M.length), o6, o7, o8, o9, o10, o11] ∧ Mf[M.length]? = some (.lst (as.map lstV)) ∧ Gr k as L ∧ as ≠ [] ∧ as.length ≤ q + 1) (fun _ _ _ _ => trivial)
    ⟨tx0, as0, L0, none, none, none, none, none, none, rfl, m0, g0, ?_, by omega⟩ ?_ ?_
  · exact ne0
  · rintro q x l Mf hx ⟨tx, as, L, o6, o7, o8, o9, o10, o11, rfl, hm, g, nas, la⟩ C hC
    have hq : q < n - 1 := by
      have := (List.getElem?_eq_some_iff.mp hx).1
      simpa using this
    have Lk := L0k g
    have al := asl g
    simp only [s_gN]
    refine seq_step fun D1 hD1 => ?_
    -- without a new lot
    have skip : ∀ M', To i j Mf M' → D1 [some (.ref i), some (.int (k : Int)), some (.int (n : Int)), some (.lst (nms L)), some (.int (f : Int)), some (.ref M.length), some x, o7, o8, o9, o10, o11] M' := by
      intro M' to'
      subst hD1
      simp only [s_next]
      exact hC _ _ ⟨tx.to to', as, L, _, _, _, _, _, _, rfl, (to'.out _ (by omega) (by omega)).trans hm, g, nas, by omega⟩
    -- with one
    have more : ∀ M', To i j Mf M' → dSeq (dAsg (dTup (dCons (dCall S__law_of (dCons (dVar 0) (dCons (dVar 5) dNil))) (dCons (dCall S__law_of (dCons (dVar 0) (dCons (dLst (dCons (dC (.int 0)) (dCons (dC (.int 1)) (dCons (dC (.int 1)) (dCons (dC (.int 1)) (dCons (dC (.int 2)) dNil)))))) dNil))) (dCons (dCall S__law_of (dCons (dVar 0) (dCons (dLst (dCons (dC (.int 2)) (dCons (dC (.int 3)) (dCons (dC (.int 3)) (dCons (dC (.int 5)) dNil))))) dNil))) dNil)))) (gT 3 (gsCons (gN 7) (gsCons (gN 8) (gsCons (gN 9) gsNil)))))
        (dSeq (dSet 10 (dOp gAdd (dComp (iSeq (dVar 7)) (gN 11) (dTest (dOp gGt (dCall S__law_any (dCons (dVar 0) (dCons (dVar 9) dNil))) (dC (.int 0)))) (dVar 11) [11]) (dSl (dVar 3) dNoP (dPart (dVar 8)))))
        (dSeq (dSet 3 (dSl (dVar 3) (dPart (dVar 8)) dNoP))
        (dSeq (dDrop (dAppend (dVar 5) (dCons (dIf (dTest (dOp gNe (dVar 10) (dLst dNil))) (dVar 10) (dSl (dVar 7) dNoP (dPart (dC (.int 1))))) dNil))) dNext)))
        { nx := D1, rt := (dkOf M.length Pd X).rt, bk := C4, ct := C, xc := (dkOf M.length Pd X).xc } [some (.ref i), some (.int (k : Int)), some (.int (n : Int)), some (.lst (nms L)), some (.int (f : Int)), some (.ref M.length), some x, o7, o8, o9, o10, o11] M' := by
      intro Ma toa
      have txa := tx.to toa
      have hma : Ma[M.length]? = some (.lst (as.map lstV)) := (toa.out _ (by omega) (by omega)).trans hm
      have keep : ∀ {Mx}, To i j Ma Mx → Mx[M.length]? = some (.lst (as.map lstV)) := fun t => (t.out _ (by omega) (by omega)).trans hma
      clear skip
      refine seq_step fun E1 hE1 => ?_
      simp only [s_asg, s_tup, s_cons, s_nil, s_call, s_var, s_lst, s_c]
      refine ⟨_, rfl, _, rfl, i, j, _, as.map lstV, rfl, txa.dl, fun M' t => seqD_ref (keep t), by rw [List.length_map]; exact List.length_pos_iff.mpr nas, by rw [List.length_map]; omega, fun d Mb hd2 tob => ?_⟩
      obtain ⟨b, hb, rfl⟩ := List.mem_map.mp hd2
      refine ⟨_, rfl, by simp [sizeLine_eq], i, j, _, _, rfl, tob.dl, fun _ _ => rfl, by simp, by simp, fun d Mc hd3 toc => ?_⟩
      obtain ⟨m, hm2, rfl⟩ : ∃ m : Nat, m ≤ 2 ∧ d = .int (m : Int) := by
        simp only [List.mem_cons, List.not_mem_nil, or_false] at hd3
        rcases hd3 with rfl | rfl | rfl | rfl | rfl
        · exact ⟨0, by omega, rfl⟩
        · exact ⟨1, by omega, rfl⟩
        · exact ⟨1, by omega, rfl⟩
        · exact ⟨1, by omega, rfl⟩
        · exact ⟨2, by omega, rfl⟩
      refine ⟨_, rfl, by simp [sizeLine_eq], i, j, _, _, rfl, toc.dl, fun _ _ => rfl, by simp, by simp, fun d Md hd4 tod => ?_⟩
      obtain ⟨sh, s0, s1, rfl⟩ : ∃ sh : Int, 0 < sh ∧ sh ≤ 5 ∧ d = .int sh := by
        simp only [List.mem_cons, List.not_mem_nil, or_false] at hd4
        rcases hd4 with rfl | rfl | rfl | rfl
        · exact ⟨2, by omega, by omega, rfl⟩
        · exact ⟨3, by omega, by omega, rfl⟩
        · exact ⟨3, by omega, by omega, rfl⟩
        · exact ⟨5, by omega, by omega, rfl⟩
      have t4 := (tob.trans toc).trans tod
      have bl := al b hb
      refine ⟨by simp [sizeLine_eq], ?_⟩
      simp only [s_gT, s_gsC, s_gN, s_gsN]
      refine ⟨_, rfl, rfl, _, _, rfl, _, _, rfl, _, _, rfl, rfl, ?_⟩
      subst hE1
      refine seq_step fun E2 hE2 => ?_
      simp only [s_set, s_op, s_comp, s_iSeq, s_sl, s_noP, s_part, s_var]
      refine ⟨_, rfl, nms b, rfl, le_size (by simp; omega), subC t4.dl (by simp) (fun _ _ => rfl) (fun x2 hx2 Me toe Q hQ => ?_) fun s Me sb toe => ⟨_, rfl, _, rfl, _, rfl, s_slL ?_⟩⟩
      · simp only [s_test, s_op, s_call, s_cons, s_nil, s_var, s_c]
        refine ⟨_, rfl, _, rfl, any_go toe.dl s0 (by omega) fun r Mg r0 r1 tog => ?_⟩
        show gGt (.int r) (.int 0) _ _
        rw [s_gt]
        exact ⟨_, rfl, hQ _ _ tog⟩
      rw [cut_nms1]
      show gAdd (.lst (nms s)) (.lst (nms (L.take m))) _ _
      have sl : s.length ≤ k := Nat.le_trans sb.length_le bl
      have tl : (L.take m).length ≤ k := Nat.le_trans (by rw [List.length_take]; omega) Lk
      rw [s_add_l, show nms s ++ nms (L.take m) = nms (s ++ L.take m) from (List.map_append ..).symm]
      refine ⟨by rw [sizeLine_eq, List.length_map, List.length_map]; omega, ?_⟩
      subst hE2
      refine seq_step fun E3 hE3 => ?_
      simp only [s_set, s_sl, s_noP, s_part, s_var]
      refine ⟨_, rfl, _, rfl, _, rfl, s_slL ?_⟩
      rw [cut_nms2]
      have t5 := t4.trans toe
      have hmz := keep t5
      -- the new lot
      have fin : ∀ e : Lot, e ≠ [] → e.Nodup → (∀ x ∈ e, x ∈ b ∨ x ∈ L.take m) → (∀ u ∈ L.take m, u ∈ e) → ∀ o10, C [some (.ref i), some (.int (k : Int)), some (.int (n : Int)), some (.lst (nms (L.drop m))), some (.int (f : Int)), some (.ref M.length), some x, some (lstV b), some (.int (m : Int)), some (.int sh), o10, o11] (Me.set M.length (.lst (as.map lstV ++ [lstV e]))) := by
        intro e e1 e2 e3 e4 o10
        refine hC _ _ ⟨(txa.to t5).set hd (Nat.le_refl _), as ++ [e], L.drop m, _, _, _, _, _, _, rfl, ?_, g.step hb e1 e2 e3 e4, by simp, by simp; omega⟩
        rw [set_self hmz, List.map_append]; rfl
      subst hE3
      refine seq_step fun E4 hE4 => ?_
      simp only [s_drop, s_append, s_cons, s_nil, s_if, s_test, s_op, s_lst, s_sl, s_noP, s_part, s_var, s_c]
      refine ⟨_, rfl, _, _, rfl, hmz, _, rfl, by simp [sizeLine_eq], ne_nilL (okDs_nms 59 _) ⟨_, rfl, ?_⟩⟩
      rw [List.isEmpty_map]
      have ut : ∀ u ∈ L.take m, u ∈ L := fun u => List.mem_of_mem_take
      cases he : (s ++ L.take m).isEmpty with
      | true =>
        have z := List.isEmpty_iff.mp he
        have ht : L.take m = [] := (List.append_eq_nil_iff.mp z).2
        simp only [Bool.not_true, Bool.false_eq_true, if_false]
        refine ⟨_, rfl, _, rfl, s_slL ?_⟩
        rw [show cutD (nms b) none (some 1) = nms (b.take 1) from cut_nms1 b 1]
        refine ⟨_, _, rfl, hmz, by rw [sizeLine_eq]; simp; omega, ?_⟩
        subst hE4
        subst hD1
        simp only [s_next]
        refine fin (b.take 1) (fun q => ?_) ((g.each b hb).2.sublist (List.take_sublist _ _)) (fun x hx => .inl (List.mem_of_mem_take hx)) (by rw [ht]; intro u hu; cases hu) _
        have := congrArg List.length q
        have bp := List.length_pos_iff.mpr (g.each b hb).1
        rw [List.length_take, List.length_nil] at this
        omega
      | false =>
        simp only [Bool.not_false, if_true]
        refine ⟨_, rfl, _, _, rfl, hmz, by rw [sizeLine_eq]; simp; omega, ?_⟩
        subst hE4
        subst hD1
        simp only [s_next]
        refine fin (s ++ L.take m) (fun q => by rw [q] at he; cases he) (List.nodup_append.mpr ⟨(g.each b hb).2.sublist sb, g.nd.sublist (List.take_sublist _ _), fun x hx y hy z => g.off y (ut y hy) b hb (z ▸ sb.subset hx)⟩) (fun x hx => ?_) (fun u hu => List.mem_append_right _ hu) _
        rcases List.mem_append.mp hx with hx | hx
        · exact .inl (sb.subset hx)
        · exact .inr hx
    simp only [s_ifS, s_or, s_test, s_op, s_var, s_lst, s_nil, s_call, s_cons, s_c]
    refine ⟨_, rfl, by simp [sizeLine_eq], ne_nilL (okDs_nms 59 _) ⟨_, rfl, ?_⟩⟩
    cases (nms L).isEmpty with
    | false =>
      simp only [Bool.not_false, if_true]
      exact more Mf (To.refl tx.dl)
    | true =>
      simp only [Bool.not_true, Bool.false_eq_true, if_false]
      refine ⟨_, rfl, any_go tx.dl (by decide) (by decide) fun r Ma r0 r1 toa => ?_⟩
      show gEq (.int r) (.int 0) _ _
      rw [s_eq_i]
      refine ⟨_, rfl, ?_⟩
      by_cases er : r = 0
      · rw [decide_eq_true er, if_pos rfl]; exact more Ma toa
      · rw [decide_eq_false er, if_neg (by simp)]; exact skip Ma toa
  · rintro l Mf ⟨tx, as, L, o6, o7, o8, o9, o10, o11, rfl, hm, g, nas, la⟩
    show C4 _ _
    rw [List.length_map, List.length_range] at la
    obtain ⟨as, l, rfl⟩ : ∃ bs b, as = bs ++ [b] := ⟨as.dropLast, as.getLast nas, (List.dropLast_concat_getLast nas).symm⟩
    have Lk := L0k g
    have ll := asl g l (by simp)
    have el : (as ++ [l]).map lstV = as.map lstV ++ [lstV l] := by rw [List.map_append]; rfl
    rw [el] at hm
    rw [List.length_append, List.length_singleton] at la
    obtain ⟨raw, ac⟩ := g.last (n := n) (by omega)
    subst hC4
    refine seq_step fun C5 hC5 => ?_
    simp only [s_asg, s_op, s_var, s_un, s_c, s_gSub]
    refine ⟨_, rfl, ?_⟩
    show gNeg (.int 1) _ _
    rw [s_neg]
    refine s_ix (a := -1) (seqD_ref hm) (atI_neg1 _ _) ⟨_, rfl, ?_⟩
    show gAdd (.lst (nms l)) (.lst (nms L)) _ _
    rw [s_add_l, show nms l ++ nms L = nms (l ++ L) from (List.map_append ..).symm]
    refine ⟨by rw [sizeLine_eq, List.length_map, List.length_map]; omega, _, rfl, ?_⟩
    show gNeg (.int 1) _ _
    rw [s_neg]
    refine ⟨M.length, -1, _, as.length, rfl, rfl, hm, by rw [List.length_append, List.length_map]; exact ixN_neg1 _, ?_⟩
    have es : (as.map lstV ++ [lstV l]).set as.length (lstV (l ++ L)) = (as ++ [l ++ L]).map lstV := by
      rw [List.set_append_right _ _ (by simp)]; simp
    rw [show Dv.lst (nms (l ++ L)) = lstV (l ++ L) from rfl, es]
    have e2 : (as ++ [l ++ L]).map lstV = ((as ++ [l ++ L]).map fun l => (true, l)).map lotV := by rw [List.map_map]; rfl
    have e3 : ((as ++ [l ++ L]).map fun l => (true, l)).map (·.2) = as ++ [l ++ L] := by rw [List.map_map]; exact (List.map_congr_left (g := id) fun _ _ => rfl).trans (List.map_id _)
    have tx2 := tx.set (o := .lst ((as ++ [l ++ L]).map lstV)) hd (Nat.le_refl M.length)
    have hm2 : (Mf.set M.length (.lst ((as ++ [l ++ L]).map lstV)))[M.length]? = some (.lst ((as ++ [l ++ L]).map lstV)) := set_self hm
    subst hC5
    simp only [s_seq, s_ret, s_call, s_cons, s_nil, s_var]
    rw [← e3] at raw ac
    refine ⟨_, rfl, _, (as ++ [l ++ L]).map fun l => (true, l), rfl, by rw [seqD_ref hm2, e2], by simp; omega, raw.pre, fun ms nd hms so => ?_⟩
    obtain ⟨lo, tr⟩ := raw_lots raw nd hms so
    exact tx2.ret mo hd (cls_map fun l _ => cls_nms _ l) fun M' to' => h ms M' lo (tr ac) to'
end D.k35
end

section
set_option Elab.async false
set_option linter.all false
set_option maxRecDepth 100000
set_option maxHeartbeats 4000000
set_option autoImplicit false
/-! k35: lots that go round. -/
namespace D.k35
open PySem PySem.Spec PyProof.Rows L2 D D.P80
theorem app_one (a : List Int) (k : Int) : nms a ++ [Dv.int k] = nms (a ++ [k]) := by
  show List.map Dv.int a ++ [Dv.int k] = List.map Dv.int (a ++ [k])
  rw [List.map_append]; rfl
def sset (l : Lot) : Lot := (rng 1000).filter fun x => decide (x ∈ l)
theorem rng_lt (k : Nat) : (rng k).Pairwise (· < ·) := by
  unfold rng
  exact List.pairwise_map.mpr (List.pairwise_lt_range.imp fun {a b} h => by omega)
theorem sset_mem {l : Lot} (h : ∀ x ∈ l, 0 ≤ x ∧ x < 1000) {x : Int} : x ∈ sset l ↔ x ∈ l := by
  unfold sset
  rw [List.mem_filter]
  exact ⟨fun ⟨_, h2⟩ => of_decide_eq_true h2, fun hx => ⟨mem_rng.mpr (h x hx), decide_eq_true hx⟩⟩
theorem sset_lt (l : Lot) : (sset l).Pairwise (· < ·) := (rng_lt 1000).sublist List.filter_sublist
theorem sset_one {l m : Lot} (h : ∀ x ∈ l, 0 ≤ x ∧ x < 1000) (s : m.Pairwise (· < ·)) (hm : ∀ k, k ∈ m ↔ k ∈ l) : m = sset l := by
  have n1 : m.Nodup := s.imp fun {a b} h => by omega
  have n2 : (sset l).Nodup := (sset_lt l).imp fun {a b} h => by omega
  have p : m.Perm (sset l) := (List.perm_ext_iff_of_nodup n1 n2).mpr fun x => (hm x).trans (sset_mem h).symm
  exact p.eq_of_pairwise (fun a b _ _ h1 h2 => Int.le_antisymm h1 h2) (s.imp fun h => Int.le_of_lt h) ((sset_lt l).imp fun h => Int.le_of_lt h)
/-- lots, keys perhaps twice in one -/
structure Rd (k m B : Nat) (C : Int → Prop) (as : List Lot) : Prop where
  len : as.length = m
  each : ∀ l ∈ as, l ≠ [] ∧ l.length ≤ B ∧ ∀ x ∈ l, 0 ≤ x ∧ x < k
  cov : ∀ x, C x → ∃ l ∈ as, x ∈ l
theorem Rd.raw {k m n B : Nat} {as : List Lot} (r : Rd k m B (fun x => 0 ≤ x ∧ x < k) as) (hm : 0 < m) (hn : m ≤ n) (hk : k ≤ 1000) : Raw k n (as.map sset) := by
  have rg : ∀ l ∈ as, ∀ x ∈ l, 0 ≤ x ∧ x < 1000 := fun l hl x hx => by have := (r.each l hl).2.2 x hx; omega
  refine ⟨by rw [List.length_map, r.len]; exact hm, by rw [List.length_map, r.len]; exact hn, fun l hl => ?_, fun l hl x hx => ?_, fun x x0 x1 => ?_⟩
  · obtain ⟨a, ha, rfl⟩ := List.mem_map.mp hl
    refine ⟨fun e => ?_, (sset_lt a).imp fun {a b} h => by omega⟩
    obtain ⟨x, hx⟩ := List.exists_mem_of_ne_nil _ (r.each a ha).1
    have := (sset_mem (rg a ha)).mpr hx
    rw [e] at this; cases this
  · obtain ⟨a, ha, rfl⟩ := List.mem_map.mp hl
    exact (r.each a ha).2.2 x ((sset_mem (rg a ha)).mp hx)
  · obtain ⟨l, hl, hx⟩ := r.cov x ⟨x0, x1⟩
    exact ⟨sset l, List.mem_map.mpr ⟨l, hl, rfl⟩, (sset_mem (rg l hl)).mpr hx⟩
theorem Rd.set {k m B a : Nat} {C : Int → Prop} {as : List Lot} {key : Int} (r : Rd k m B C as) (ha : a < m) (h0 : 0 ≤ key) (h1 : key < k) : Rd k m (B + 1) (fun x => C x ∨ x = key) (as.set a (at_ as a ++ [key])) := by
  have ha' : a < as.length := by rw [r.len]; exact ha
  have hm := at_mem ha'
  have new : at_ as a ++ [key] ∈ as.set a (at_ as a ++ [key]) := List.mem_iff_getElem?.mpr ⟨a, List.getElem?_set_self ha'⟩
  refine ⟨by rw [List.length_set]; exact r.len, fun l hl => ?_, fun x hx => ?_⟩
  · rcases List.mem_or_eq_of_mem_set hl with hl | rfl
    · obtain ⟨e1, e2, e3⟩ := r.each l hl
      exact ⟨e1, by omega, e3⟩
    · obtain ⟨e1, e2, e3⟩ := r.each _ hm
      refine ⟨by simp, by simp; omega, fun x hx => ?_⟩
      rcases List.mem_append.mp hx with hx | hx
      · exact e3 x hx
      · rw [List.mem_singleton.mp hx]; exact ⟨h0, h1⟩
  · rcases hx with hx | rfl
    · obtain ⟨l, hl, hxl⟩ := r.cov x hx
      obtain ⟨i, hi, e⟩ := mem_at hl
      by_cases z : i = a
      · subst z
        exact ⟨_, new, List.mem_append_left _ (by rw [e]; exact hxl)⟩
      · refine ⟨l, List.mem_iff_getElem?.mpr ⟨i, ?_⟩, hxl⟩
        rw [List.getElem?_set_ne (Ne.symm z)]
        rw [← e]
        unfold at_
        rw [List.getD_eq_getElem?_getD, List.getElem?_eq_getElem hi]; rfl
    · exact ⟨_, new, by simp⟩
theorem Rd.mono {k m B B' : Nat} {C C' : Int → Prop} {as : List Lot} (r : Rd k m B C as) (h : B ≤ B') (hc : ∀ x, C' x → C x) : Rd k m B' C' as := ⟨r.len, fun l hl => let ⟨a, b, c⟩ := r.each l hl; ⟨a, by omega, c⟩, fun x hx => r.cov x (hc x hx)⟩
theorem ix_prev {m a : Nat} (h : a < m) : ∃ c, c < m ∧ ixN m ((a : Int) - 1) = some c ∧ c = if a = 0 then m - 1 else a - 1 := by
  by_cases e : a = 0
  · subst e
    refine ⟨m - 1, by omega, ?_, by simp⟩
    obtain ⟨q, rfl⟩ : ∃ q, m = q + 1 := ⟨m - 1, by omega⟩
    exact ixN_neg1 q
  · refine ⟨a - 1, by omega, ?_, by simp [e]⟩
    rw [show (a : Int) - 1 = ((a - 1 : Nat) : Int) by omega]
    exact ixN_nat (by omega)
theorem map_at {as : List Lot} {c : Nat} (h : c < as.length) : (as.map lstV)[c]? = some (lstV (at_ as c)) := by
  rw [List.getElem?_map]
  unfold at_
  rw [List.getD_eq_getElem?_getD, List.getElem?_eq_getElem h]; rfl
theorem map_set (as : List Lot) (c : Nat) (l : Lot) : (as.map lstV).set c (lstV l) = (as.set c l).map lstV := (List.map_set ..).symm
theorem atI_ix {l : List Dv} {i : Int} {c : Nat} {x : Dv} (h : ixN l.length i = some c) (hx : l[c]? = some x) : atI l i = some x := by
  unfold atI
  rw [h]; exact hx
theorem other {S : List Int} (nd : S.Nodup) (h2 : 2 ≤ S.length) (x : Int) : ∃ y ∈ S, y ≠ x := by
  match S, h2 with
  | a :: b :: t, _ =>
    by_cases e : a = x
    · refine ⟨b, by simp, fun z => ?_⟩
      rw [e, z] at nd
      exact (List.nodup_cons.mp nd).1 List.mem_cons_self
    · exact ⟨a, by simp, e⟩
/-- the end of both: each lot's keys once, the lots once -/
theorem finish {i j k n m B p : Nat} {as : List Lot} {M Mf : Mem} {Pd : PD} {X : PX} {l : Loc} {C : Loc → Mem → Prop} {s v : Nat} (mo : MemOk M) (hd : Deal i j M) (tx : Tx i j M Mf) (hm : Mf[p]? = some (.lst (as.map lstV))) (r : Rd k m B (fun x => 0 ≤ x ∧ x < k) as) (hm0 : 0 < m) (hmn : m ≤ n) (hk : k ≤ 50) (hn : n ≤ 50) (hB : B < 64)
    (ls : l[s]? = some (some (.ref p))) (hv : v < l.length) (h : ∀ ms M', Lots k n ms → To i j M M' → Pd (.lst (ms.map tupI)) M') :
    dRet (dCall S__law_once (dCons (dComp (iSeq (dVar s)) (gN v) dYes (dSortSet (dVar v)) [v]) dNil)) { dkOf M.length Pd X with nx := C } l Mf := by
  have raw := r.raw hm0 hmn (by omega)
  simp only [s_ret, s_call, s_cons, s_nil, s_comp, s_iSeq, s_var]
  have e2 : as.map (fun l => lstV (sset l)) = (as.map fun l => (true, sset l)).map lotV := by rw [List.map_map]; rfl
  have e3 : (as.map fun l => (true, sset l)).map (·.2) = as.map sset := by rw [List.map_map]; rfl
  refine ⟨_, ls, _, seqD_ref hm, le_size (by rw [List.length_map, r.len]; omega), compM lstV (fun l => lstV (sset l)) (seqD_ref hm) (fun a ha D hD => ?_) ?_⟩
  · simp only [s_sortSet, s_var]
    obtain ⟨a1, a2, a3⟩ := r.each a ha
    refine ⟨_, by rw [List.getElem?_set_self hv], .inl ⟨a, rfl, by omega, fun ms h1 h2 => ?_⟩⟩
    rw [sset_one (fun x hx => by have := a3 x hx; omega) h1 h2]
    exact hD
  · rw [← e3] at raw
    refine ⟨_, as.map fun l => (true, sset l), rfl, by rw [e2]; rfl, by rw [List.length_map, r.len]; omega, raw.pre, fun ms nd hms so => ?_⟩
    exact tx.ret mo hd (cls_map fun l _ => cls_nms _ l) fun M' to' => h ms M' (raw_lots raw nd hms so).1 to'
def prevL (S : List Int) (m a : Nat) : Lot := [S.getD (if a = 0 then m - 1 else a - 1) 0, S.getD a 0]
theorem getD_mem {S : List Int} {a : Nat} (h : a < S.length) : S.getD a 0 ∈ S := by
  rw [List.getD_eq_getElem?_getD, List.getElem?_eq_getElem h]; exact List.getElem_mem h
theorem rd_one {k m : Nat} {S : List Int} (hm : 3 ≤ m) (hl : S.length = m) (rg : ∀ x ∈ S, 0 ≤ x ∧ x < k) : Rd k m m (fun x => x ∈ S) ((List.range m).map (prevL S m)) := by
  refine ⟨by simp, fun l hl2 => ?_, fun x hx => ?_⟩
  · obtain ⟨a, ha, rfl⟩ := List.mem_map.mp hl2
    have ha := List.mem_range.mp ha
    refine ⟨by simp [prevL], by simp [prevL]; omega, fun x hx => ?_⟩
    unfold prevL at hx
    simp only [List.mem_cons, List.not_mem_nil, or_false] at hx
    rcases hx with rfl | rfl
    · exact rg _ (getD_mem (by split <;> omega))
    · exact rg _ (getD_mem (by omega))
  · obtain ⟨a, ha, rfl⟩ := List.mem_iff_getElem.mp hx
    refine ⟨_, List.mem_map.mpr ⟨a, List.mem_range.mpr (by omega), rfl⟩, ?_⟩
    unfold prevL
    rw [List.getD_eq_getElem?_getD (i := a), List.getElem?_eq_getElem ha]
    simp
theorem rd_two {k m : Nat} {S : List Int} (hm : 3 ≤ m) (hl : S.length = m) (nd : S.Nodup) (rg : ∀ x ∈ S, 0 ≤ x ∧ x < k) : Rd k m m (fun x => x ∈ S) (S.map fun o => S.filter fun x => !decide (x = o)) := by
  refine ⟨by simpa using hl, fun l hl2 => ?_, fun x hx => ?_⟩
  · obtain ⟨o, ho, rfl⟩ := List.mem_map.mp hl2
    refine ⟨fun e => ?_, by rw [← hl]; exact List.length_filter_le .., fun x hx => rg x (List.mem_filter.mp hx).1⟩
    obtain ⟨y, hy, hne⟩ := other nd (by omega) o
    have : y ∈ S.filter fun x => !decide (x = o) := List.mem_filter.mpr ⟨hy, by simp [hne]⟩
    rw [e] at this; cases this
  · obtain ⟨y, hy, hne⟩ := other nd (by omega) x
    exact ⟨_, List.mem_map.mpr ⟨y, hy, rfl⟩, List.mem_filter.mpr ⟨hx, by simp [Ne.symm hne]⟩⟩
theorem get_nms {S : List Int} {a : Nat} (h : a < S.length) : (nms S)[a]? = some (.int (S.getD a 0)) := by
  rw [List.getElem?_map, List.getD_eq_getElem?_getD, List.getElem?_eq_getElem h]; rfl
def S__law_round : DSp := fun ds M P _ => ∃ (i j k n : Nat), ds = [.ref i, .int (k : Int), .int (n : Int)] ∧ Deal i j M ∧ 3 ≤ k ∧ k ≤ 10 ∧ 3 ≤ n ∧ n ≤ 50 ∧ ∀ ms M', Lots k n ms → To i j M M' → P (.lst (ms.map tupI)) M'
theorem p__law_round : ∀ ds M Pd X, MemOk M → S__law_round ds M Pd X → t__law_round S__law_once S__law_any S__law_mixed (dkOf M.length Pd X) (startD N__law_round ds) M := by
  rintro _ M Pd X mo ⟨i, j, k, n, rfl, hd, k1, k2, n1, n2, h⟩
  show t__law_round S__law_once S__law_any S__law_mixed (dkOf M.length Pd X) [some (.ref i), some (.int (k : Int)), some (.int (n : Int)), none, none, none, none, none, none, none, none] M
  have hlt := hd.lt
  unfold t__law_round
  refine seq_step fun C1 hC1 => ?_
  simp only [s_set, s_call, s_cons, s_nil, s_var, s_lrg]
  refine ⟨_, rfl, _, rfl, _, rfl, by omega, by omega, ?_⟩
  rw [rng_D]
  refine mixI hd rfl (by rw [rng_len]; omega) fun L M1 pL to1 => ?_
  have lk : L.length = k := by rw [pL.length_eq, rng_len]
  have ndL : L.Nodup := pL.nodup_iff.mpr (rng_nd k)
  have rgL : ∀ x ∈ L, 0 ≤ x ∧ x < k := fun x hx => mem_rng.mp (pL.mem_iff.mp hx)
  have allL : ∀ x : Int, 0 ≤ x → x < k → x ∈ L := fun x x0 x1 => pL.mem_iff.mpr (mem_rng.mpr ⟨x0, x1⟩)
  subst hC1
  refine seq_step fun C2 hC2 => ?_
  simp only [s_set, s_op, s_c, s_call, s_cons, s_nil, s_var, s_cb]
  refine ⟨_, rfl, _, rfl, _, rfl, ?_⟩
  show gMin2 [.int (k : Int), .int (n : Int)] _ _
  rw [s_min2]
  show gSub' (.int _) (.int 2) _ _
  rw [s_sub]
  refine any_go to1.dl (by omega) (by omega) fun r M2 r0 r1 to2 => ?_
  show gAdd (.int 3) (.int r) _ _
  rw [s_add_i]
  have to := to1.trans to2
  obtain ⟨m, hf⟩ := Int.eq_ofNat_of_zero_le (show 0 ≤ 3 + r by omega)
  rw [hf]
  have m1 : 3 ≤ m := by omega
  have mk : m ≤ k := by omega
  have mn : m ≤ n := by omega
  subst hC2
  refine seq_step fun C3 hC3 => ?_
  simp only [s_set, s_sl, s_noP, s_part, s_var]
  refine ⟨_, rfl, _, rfl, _, rfl, s_slL ?_⟩
  rw [cut_nms1]
  have lS : (L.take m).length = m := by rw [List.length_take]; omega
  have ndS : (L.take m).Nodup := ndL.sublist (List.take_sublist _ _)
  have rgS : ∀ x ∈ L.take m, 0 ≤ x ∧ x < k := fun x hx => rgL x (List.mem_of_mem_take hx)
  subst hC3
  refine seq_step fun C4 hC4 => ?_
  -- behind the first lots
  have go : ∀ (M3 : Mem) (as : List Lot) (o8 o9 o10 : Option Dv), To i j M M3 → Rd k m m (fun x => x ∈ L.take m) as → C4 [some (.ref i), some (.int (k : Int)), some (.int (n : Int)), some (.lst (nms L)), some (.int (m : Int)), some (.lst (nms (L.take m))), some (.ref M3.length), none, o8, o9, o10] (M3 ++ [.lst (as.map lstV)]) := by
    intro M3 as o8 o9 o10 to3 rd0
    have ml : M3.length = M.length := to3.len
    have tx0 : Tx i j M (M3 ++ [.lst (as.map lstV)]) := to3.tx.app _
    have hm0 : (M3 ++ [MO.lst (as.map lstV)])[M.length]? = some (.lst (as.map lstV)) := by rw [← ml]; simp
    rw [ml]
    subst hC4
    refine seq_step fun C5 hC5 => ?_
    simp only [s_for, s_iSeq, s_sl, s_noP, s_part, s_var]
    refine ⟨_, rfl, _, rfl, _, rfl, s_slL ?_⟩
    rw [cut_nms2]
    refine ⟨_, rfl, ?_⟩
    refine loopS_ix (fun q l Mf => Tx i j M Mf ∧ ∃ (as : List Lot) (o7 o8 o9 o10 : Option Dv), l = [some (.ref i), some (.int (k : Int)), some (.int (n : Int)), some (.lst (nms L)), some (.int (m : Int)), some (.lst (nms (L.take m))), some (.ref M.length), o7, o8, o9, o10] ∧ Mf[M.length]? = some (.lst (as.map lstV)) ∧ Rd k m (m + 2 * q) (fun x => x ∈ L.take (m + q)) as) (fun _ _ _ _ => rfl)
      ⟨tx0, as, none, o8, o9, o10, rfl, hm0, rd0⟩ ?_ ?_
    · rintro q x l Mf hx ⟨tx, as, o7, o8, o9, o10, rfl, hm, rd⟩ C hC
      obtain ⟨key, hkey, rfl⟩ : ∃ key, L[m + q]? = some key ∧ x = .int key := by
        rw [List.getElem?_map, List.getElem?_drop] at hx
        cases hq : L[m + q]? with
        | none => rw [hq] at hx; cases hx
        | some v => rw [hq] at hx; exact ⟨v, rfl, (Option.some.inj hx).symm⟩
      have hkm : key ∈ L := List.mem_of_getElem? hkey
      obtain ⟨y0, y1⟩ := rgL key hkm
      have tq : L.take (m + (q + 1)) = L.take (m + q) ++ [key] := by
        rw [show m + (q + 1) = m + q + 1 by omega, List.take_add_one, hkey]; rfl
      have hqk : m + q < k := by have := (List.getElem?_eq_some_iff.mp hkey).1; omega
      have fin : ∀ (as' : List Lot) (Mg : Mem) (o8 o9 o10 : Option Dv), Tx i j M Mg → Mg[M.length]? = some (.lst (as'.map lstV)) → Rd k m (m + 2 * q + 2) (fun x => x ∈ L.take (m + q) ∨ x = key) as' → C [some (.ref i), some (.int (k : Int)), some (.int (n : Int)), some (.lst (nms L)), some (.int (m : Int)), some (.lst (nms (L.take m))), some (.ref M.length), some (.int key), o8, o9, o10] Mg :=
        fun as' Mg o8 o9 o10 t hmg r => hC _ _ ⟨t, as', _, _, _, _, rfl, hmg, r.mono (by omega) fun x hx => by
          rw [tq] at hx
          rcases List.mem_append.mp hx with hx | hx
          · exact .inl hx
          · exact .inr (List.mem_singleton.mp hx)⟩
      clear hC
      simp only [s_gN]
      refine seq_step fun D1 hD1 => ?_
      simp only [s_set, s_call, s_cons, s_nil, s_var, s_cb]
      refine ⟨_, rfl, _, rfl, ?_⟩
      rw [s_len (seqD_ref hm), List.length_map, rd.len]
      refine any_go tx.dl (by omega) (by omega) fun r Ma r0 r1 toa => ?_
      obtain ⟨a, rfl⟩ := Int.eq_ofNat_of_zero_le r0
      have ha : a < m := by omega
      have haa : a < as.length := by rw [rd.len]; exact ha
      have hma : Ma[M.length]? = some (.lst (as.map lstV)) := (toa.out _ (by omega) (by omega)).trans hm
      have txa := tx.to toa
      subst hD1
      refine seq_step fun D2 hD2 => ?_
      simp only [s_asg, s_op, s_lst, s_cons, s_nil, s_var, s_gSub]
      have al := (rd.each _ (at_mem haa)).2.1
      refine ⟨_, rfl, _, rfl, s_ixn (seqD_ref hma) (map_at haa) ⟨_, rfl, by simp [sizeLine_eq], ?_⟩⟩
      show gAdd (.lst (nms _)) (.lst [.int key]) _ _
      rw [s_add_l, show nms (at_ as a) ++ [Dv.int key] = nms (at_ as a ++ [key]) from app_one _ _]
      refine ⟨by rw [sizeLine_eq, List.length_map]; simp; omega, _, rfl, _, rfl, M.length, (a : Int), _, a, rfl, rfl, hma, ixN_nat (by rw [List.length_map]; exact haa), ?_⟩
      rw [show Dv.lst (nms (at_ as a ++ [key])) = lstV (at_ as a ++ [key]) from rfl, map_set]
      have rd1 := rd.set ha y0 y1
      have hmb := set_self (o' := .lst ((as.set a (at_ as a ++ [key])).map lstV)) hma
      have txb := txa.set (o := .lst ((as.set a (at_ as a ++ [key])).map lstV)) hd (Nat.le_refl M.length)
      generalize as.set a (at_ as a ++ [key]) = as1 at *
      generalize Ma.set M.length (.lst (as1.map lstV)) = Mb at *
      subst hD2
      refine seq_step fun D3 hD3 => ?_
      have skip : ∀ Mc, To i j Mb Mc → D3 [some (.ref i), some (.int (k : Int)), some (.int (n : Int)), some (.lst (nms L)), some (.int (m : Int)), some (.lst (nms (L.take m))), some (.ref M.length), some (.int key), some (.int (a : Int)), o9, o10] Mc := by
        intro Mc toc
        subst hD3
        simp only [s_next]
        exact fin as1 Mc _ _ _ (txb.to toc) ((toc.out _ (by omega) (by omega)).trans hmb) (rd1.mono (by omega) fun x hx => hx)
      simp only [s_ifS, s_and, s_test, s_op, s_call, s_cons, s_nil, s_var, s_c]
      refine ⟨_, rfl, any_go txb.dl (by decide) (by decide) fun r2 Mc q0 q1 toc => ?_⟩
      show gEq (.int r2) (.int 0) _ _
      rw [s_eq_i]
      refine ⟨_, rfl, ?_⟩
      by_cases e2 : r2 = 0
      rotate_left
      · rw [decide_eq_false e2, if_neg (by simp)]
        exact skip Mc toc
      rw [decide_eq_true e2, if_pos rfl]
      have hmc : Mc[M.length]? = some (.lst (as1.map lstV)) := (toc.out _ (by omega) (by omega)).trans hmb
      have txc := txb.to toc
      obtain ⟨c, hc, hix, _⟩ := ix_prev ha
      have hca : c < as1.length := by rw [rd1.len]; exact hc
      have hix2 : ixN (as1.map lstV).length ((a : Int) - 1) = some c := by rw [List.length_map, rd1.len]; exact hix
      have cl := (rd1.each _ (at_mem hca)).2.1
      refine ⟨_, rfl, _, rfl, _, rfl, ?_⟩
      show gSub' (.int (a : Int)) (.int 1) _ _
      rw [s_sub]
      refine s_ix (seqD_ref hmc) (atI_ix hix2 (map_at hca)) (in_lst ⟨_, rfl, ?_⟩)
      simp only [if_true]
      by_cases e3 : key ∈ at_ as1 c
      · rw [decide_eq_true e3]
        simp only [Bool.not_true, Bool.false_eq_true, if_false]
        exact skip Mc toc
      rw [decide_eq_false e3]
      simp only [Bool.not_false, if_true]
      simp only [s_seq, s_asg, s_op, s_lst, s_cons, s_nil, s_var, s_gSub, s_c]
      refine ⟨_, rfl, _, rfl, ?_⟩
      show gSub' (.int (a : Int)) (.int 1) _ _
      rw [s_sub]
      refine s_ix (seqD_ref hmc) (atI_ix hix2 (map_at hca)) ⟨_, rfl, by simp [sizeLine_eq], ?_⟩
      show gAdd (.lst (nms _)) (.lst [.int key]) _ _
      rw [s_add_l, show nms (at_ as1 c) ++ [Dv.int key] = nms (at_ as1 c ++ [key]) from app_one _ _]
      refine ⟨by rw [sizeLine_eq, List.length_map]; simp; omega, _, rfl, _, rfl, ?_⟩
      show gSub' (.int (a : Int)) (.int 1) _ _
      rw [s_sub]
      refine ⟨M.length, (a : Int) - 1, _, c, rfl, rfl, hmc, hix2, ?_⟩
      rw [show Dv.lst (nms (at_ as1 c ++ [key])) = lstV (at_ as1 c ++ [key]) from rfl, map_set]
      subst hD3
      simp only [s_next]
      refine fin _ _ _ _ _ (txc.set hd (Nat.le_refl _)) (set_self hmc) ((rd1.set hc y0 y1).mono (by omega) fun x hx => .inl hx)
    · rintro l Mf ⟨tx, as, o7, o8, o9, o10, rfl, hm, rd⟩
      show C5 _ _
      have rdA : Rd k m 40 (fun x => 0 ≤ x ∧ x < k) as := rd.mono (by rw [List.length_map, List.length_drop]; omega) fun x hx => by
        rw [List.length_map, List.length_drop, List.take_of_length_le (by omega)]
        exact allL x hx.1 hx.2
      subst hC5
      refine seq_step fun C6 hC6 => ?_
      have skip : ∀ Mc, To i j Mf Mc → C6 [some (.ref i), some (.int (k : Int)), some (.int (n : Int)), some (.lst (nms L)), some (.int (m : Int)), some (.lst (nms (L.take m))), some (.ref M.length), o7, o8, o9, o10] Mc := by
        intro Mc toc
        subst hC6
        exact finish mo hd (tx.to toc) ((toc.out _ (by omega) (by omega)).trans hm) rdA (by omega) mn (by omega) n2 (by omega) rfl (by simp) h
      simp only [s_ifS, s_and, s_test, s_op, s_call, s_cons, s_nil, s_var, s_c, s_cb]
      refine ⟨_, rfl, ?_⟩
      rw [s_len (seqD_ref hm), List.length_map, rd.len]
      refine ⟨_, rfl, ?_⟩
      show gLt (.int _) (.int (n : Int)) _ _
      rw [s_lt]
      refine ⟨_, rfl, ?_⟩
      by_cases e1 : (m : Int) < (n : Int)
      rotate_left
      · rw [decide_eq_false e1, if_neg (by simp)]
        exact skip Mf (To.refl tx.dl)
      rw [decide_eq_true e1, if_pos rfl]
      refine ⟨_, rfl, any_go tx.dl (by decide) (by decide) fun r2 Mc q0 q1 toc => ?_⟩
      show gEq (.int r2) (.int 0) _ _
      rw [s_eq_i]
      refine ⟨_, rfl, ?_⟩
      by_cases e2 : r2 = 0
      rotate_left
      · rw [decide_eq_false e2, if_neg (by simp)]
        exact skip Mc toc
      rw [decide_eq_true e2, if_pos rfl]
      have hmc : Mc[M.length]? = some (.lst (as.map lstV)) := (toc.out _ (by omega) (by omega)).trans hm
      have txc := tx.to toc
      simp only [s_seq, s_drop, s_append, s_cons, s_nil, s_op, s_comp, s_iR1, s_lst, s_var, s_c]
      refine ⟨_, rfl, _, _, rfl, hmc, _, rfl, _, rfl, by omega, by omega, ?_⟩
      rw [rng_D]
      refine ⟨le_size (by rw [List.length_map, rng_len]; omega), subC txc.dl (by simp) (fun _ _ => trivial) (fun x2 hx2 Me toe Q hQ => ?_) fun s Me sb toe => ?_⟩
      · simp only [s_test, s_op, s_call, s_cons, s_nil, s_var, s_c]
        refine ⟨_, rfl, any_go toe.dl (by decide) (by decide) fun r Mg r0 r1 tog => ?_⟩
        show gEq (.int r) (.int 0) _ _
        rw [s_eq_i]
        exact ⟨_, rfl, hQ _ _ tog⟩
      have hL0 : 0 < L.length := by omega
      refine ⟨_, rfl, s_ixn (n := 0) (x := nms L) rfl (get_nms hL0) ⟨by simp [sizeLine_eq], ?_⟩⟩
      show gAdd (.lst (nms s)) (.lst [.int (L.getD 0 0)]) _ _
      have sl := sb.length_le
      rw [rng_len] at sl
      rw [s_add_l, show nms s ++ [Dv.int (L.getD 0 0)] = nms (s ++ [L.getD 0 0]) from app_one _ _]
      have hme : Me[M.length]? = some (.lst (as.map lstV)) := (toe.out _ (by omega) (by omega)).trans hmc
      refine ⟨by rw [sizeLine_eq, List.length_map]; simp; omega, _, _, rfl, hme, by rw [sizeLine_eq, List.length_map, rd.len]; omega, ?_⟩
      have em : as.map lstV ++ [Dv.lst (nms (s ++ [L.getD 0 0]))] = (as ++ [s ++ [L.getD 0 0]]).map lstV := by rw [List.map_append]; rfl
      rw [em]
      subst hC6
      have rdB : Rd k (m + 1) 40 (fun x => 0 ≤ x ∧ x < k) (as ++ [s ++ [L.getD 0 0]]) := by
        refine ⟨by simp [rd.len], fun l hl => ?_, fun x hx => ?_⟩
        · rcases List.mem_append.mp hl with hl | hl
          · exact rdA.each l hl
          · rw [List.mem_singleton.mp hl]
            refine ⟨by simp, by simp; omega, fun x hx => ?_⟩
            rcases List.mem_append.mp hx with hx | hx
            · exact mem_rng.mp (sb.subset hx)
            · rw [List.mem_singleton.mp hx]
              exact rgL _ (getD_mem hL0)
        · obtain ⟨l, hl, hxl⟩ := rdA.cov x hx
          exact ⟨l, List.mem_append_left _ hl, hxl⟩
      exact finish mo hd ((txc.to toe).set hd (Nat.le_refl _)) (set_self hme) rdB (by omega) (by omega) (by omega) n2 (by omega) rfl (by simp) h
  simp only [s_ifS, s_test, s_op, s_call, s_cons, s_nil, s_var, s_c]
  refine ⟨_, rfl, any_go to.dl (by decide) (by decide) fun r2 M3 q0 q1 to3 => ?_⟩
  show gEq (.int r2) (.int 0) _ _
  rw [s_eq_i]
  refine ⟨_, rfl, ?_⟩
  have too := to.trans to3
  by_cases e2 : r2 = 0
  · rw [decide_eq_true e2, if_pos rfl]
    simp only [s_seq, s_set, s_compM, s_iR1, s_cons, s_nil, s_var, s_next]
    refine ⟨_, rfl, _, rfl, by omega, by omega, ?_⟩
    rw [rng_nat]
    refine ⟨le_size (by simp; omega), compM (fun (a : Nat) => .int (a : Int)) (fun a => lstV (prevL (L.take m) m a)) trivial (fun a ha D hD => ?_) ?_⟩
    · have ha := List.mem_range.mp ha
      obtain ⟨c, hc, hix, ec⟩ := ix_prev ha
      simp only [s_lst, s_cons, s_nil, s_op, s_var, s_c]
      refine ⟨_, rfl, _, rfl, ?_⟩
      show gSub' (.int (a : Int)) (.int 1) _ _
      rw [s_sub]
      refine s_ix (e := .lst (nms (L.take m))) rfl (atI_ix (c := c) (by rw [List.length_map, lS]; exact hix) (get_nms (by omega))) ⟨_, rfl, _, rfl, s_ixn (e := .lst (nms (L.take m))) rfl (get_nms (by omega)) ⟨by simp [sizeLine_eq], ?_⟩⟩
      rw [ec]; exact hD
    · have e1 : (List.range m).map (fun a => lstV (prevL (L.take m) m a)) = ((List.range m).map (prevL (L.take m) m)).map lstV := by rw [List.map_map]; rfl
      rw [e1]
      exact go M3 _ _ _ _ too (rd_one m1 lS rgS)
  · rw [decide_eq_false e2, if_neg (by simp)]
    simp only [s_seq, s_set, s_compM, s_iSeq, s_var, s_next]
    refine ⟨_, rfl, _, rfl, le_size (by rw [List.length_map, lS]; omega), compM Dv.int (fun o => lstV ((L.take m).filter fun x => !decide (x = o))) rfl (fun o ho D hD => ?_) ?_⟩
    · simp only [s_comp, s_iSeq, s_var]
      refine ⟨_, rfl, _, rfl, le_size (by rw [List.length_map, lS]; omega), compT Dv.int (fun x => !decide (x = o)) rfl (by simp) (fun x hx Q hQ => ?_) hD⟩
      simp only [s_test, s_op, s_var]
      refine ⟨_, rfl, _, rfl, ?_⟩
      show gNe (.int x) (.int o) _ _
      rw [s_ne_i]
      exact ⟨_, rfl, hQ⟩
    · have e1 : (L.take m).map (fun o => lstV ((L.take m).filter fun x => !decide (x = o))) = ((L.take m).map fun o => (L.take m).filter fun x => !decide (x = o)).map lstV := by rw [List.map_map]; rfl
      rw [e1]
      exact go M3 _ _ _ _ too (rd_two m1 lS ndS rgS)
end D.k35
end

section
set_option Elab.async false
set_option linter.all false
set_option maxRecDepth 100000
set_option maxHeartbeats 4000000
set_option autoImplicit false
/-! k35: lots of any keys; the lots of a frame. -/
namespace D.k35
open PySem PySem.Spec PyProof.Rows L2 D D.P80
theorem raw_app {k n : Nat} {as : List Lot} {r : Lot} (h1 : ∀ l ∈ as, l ≠ [] ∧ l.Nodup ∧ ∀ x ∈ l, 0 ≤ x ∧ x < k) (hn : as.length + 1 ≤ n) (r1 : r ≠ []) (r2 : r.Nodup) (r3 : ∀ x ∈ r, 0 ≤ x ∧ x < k) (c : ∀ x : Int, 0 ≤ x → x < k → (∃ l ∈ as, x ∈ l) ∨ x ∈ r) : Raw k n (as ++ [r]) := by
  refine ⟨by simp, by simpa using hn, fun l hl => ?_, fun l hl x hx => ?_, fun x x0 x1 => ?_⟩
  · rcases List.mem_append.mp hl with hl | hl
    · exact ⟨(h1 l hl).1, (h1 l hl).2.1⟩
    · rw [List.mem_singleton.mp hl]; exact ⟨r1, r2⟩
  · rcases List.mem_append.mp hl with hl | hl
    · exact (h1 l hl).2.2 x hx
    · rw [List.mem_singleton.mp hl] at hx; exact r3 x hx
  · rcases c x x0 x1 with ⟨l, hl, hx⟩ | hx
    · exact ⟨l, List.mem_append_left _ hl, hx⟩
    · exact ⟨r, by simp, hx⟩
def S__law_spotted : DSp := fun ds M P _ => ∃ (i j k n : Nat), ds = [.ref i, .int (k : Int), .int (n : Int)] ∧ Deal i j M ∧ 1 ≤ k ∧ k ≤ 10 ∧ 2 ≤ n ∧ n ≤ 50 ∧ ∀ ms M', Lots k n ms → To i j M M' → P (.lst (ms.map tupI)) M'
theorem p__law_spotted : ∀ ds M Pd X, MemOk M → S__law_spotted ds M Pd X → t__law_spotted S__law_once S__law_any S__law_of (dkOf M.length Pd X) (startD N__law_spotted ds) M := by
  rintro _ M Pd X mo ⟨i, j, k, n, rfl, hd, k1, k2, n1, n2, h⟩
  show t__law_spotted S__law_once S__law_any S__law_of (dkOf M.length Pd X) [some (.ref i), some (.int (k : Int)), some (.int (n : Int)), none, none, none, none, none, none] M
  have hlt := hd.lt
  unfold t__law_spotted
  refine seq_step fun C1 hC1 => ?_
  simp only [s_asg, s_tup, s_cons, s_nil, s_lstM, s_call, s_lst, s_var, s_c]
  have tx0 : Tx i j M (M ++ [MO.lst []]) := (Tx.refl hd).app _
  have hm0 : (M ++ [MO.lst []])[M.length]? = some (.lst []) := by simp
  refine ⟨by simp [sizeLine_eq], _, rfl, by simp [sizeLine_eq], i, j, _, _, rfl, tx0.dl, fun _ _ => rfl, by simp, by simp, fun d M1 hd1 to1 => ?_⟩
  obtain ⟨sz, s0, s1, rfl⟩ : ∃ sz : Int, 0 < sz ∧ sz ≤ 4 ∧ d = .int sz := by
    simp only [List.mem_cons, List.not_mem_nil, or_false] at hd1
    rcases hd1 with rfl | rfl | rfl
    · exact ⟨2, by omega, by omega, rfl⟩
    · exact ⟨3, by omega, by omega, rfl⟩
    · exact ⟨4, by omega, by omega, rfl⟩
  have tx1 := tx0.to to1
  have hm1 : M1[M.length]? = some (.lst []) := (to1.out _ (by omega) (by omega)).trans hm0
  refine ⟨by simp [sizeLine_eq], ?_⟩
  simp only [s_gT, s_gsC, s_gN, s_gsN]
  refine ⟨_, rfl, rfl, _, _, rfl, _, _, rfl, rfl, ?_⟩
  subst hC1
  refine seq_step fun C2 hC2 => ?_
  simp only [s_for, s_iR1, s_cons, s_nil, s_op, s_c, s_call, s_var]
  refine ⟨_, rfl, _, rfl, ?_⟩
  show gSub' (.int (n : Int)) (.int 1) _ _
  rw [s_sub]
  refine any_go tx1.dl (by omega) (by omega) fun r M2 r0 r1 to2 => ?_
  show gAdd (.int 1) (.int r) _ _
  rw [s_add_i]
  obtain ⟨t, ht⟩ := Int.eq_ofNat_of_zero_le (show 0 ≤ 1 + r by omega)
  rw [ht]
  have t1 : 1 ≤ t := by omega
  have tn : t + 1 ≤ n := by omega
  have tx2 := tx1.to to2
  have hm2 : M2[M.length]? = some (.lst []) := (to2.out _ (by omega) (by omega)).trans hm1
  refine ⟨_, rfl, by omega, by omega, ?_⟩
  rw [rng_nat]
  refine loopS_ix (fun q l Mf => Tx i j M Mf ∧ ∃ (as : List Lot) (o5 o6 o7 o8 : Option Dv), l = [some (.ref i), some (.int (k : Int)), some (.int (n : Int)), some (.ref M.length), some (.int sz), o5, o6, o7, o8] ∧ Mf[M.length]? = some (.lst (as.map lstV)) ∧ Rd k q (k + 1) (fun _ => False) as) (fun _ _ _ _ => trivial)
    ⟨tx2, [], none, none, none, none, rfl, hm2, ⟨rfl, fun l hl => (by cases hl), fun _ z => z.elim⟩⟩ ?_ ?_
  · rintro q x l Mf hx ⟨tx, as, o5, o6, o7, o8, rfl, hm, rd⟩ C hC
    have hq : q < t := by
      have := (List.getElem?_eq_some_iff.mp hx).1
      simpa using this
    simp only [s_gN]
    refine seq_step fun D1 hD1 => ?_
    simp only [s_drop, s_append, s_cons, s_nil, s_op, s_comp, s_iR1, s_lst, s_call, s_var]
    refine ⟨_, rfl, _, _, rfl, hm, _, rfl, _, rfl, by omega, by omega, ?_⟩
    rw [rng_D]
    refine ⟨le_size (by rw [List.length_map, rng_len]; omega), subC tx.dl (by simp) (fun _ _ => trivial) (fun x2 hx2 Me toe Q hQ => ?_) fun s Me sb toe => ?_⟩
    · simp only [s_test, s_op, s_call, s_cons, s_nil, s_var, s_c]
      refine ⟨_, rfl, _, rfl, any_go toe.dl s0 (by omega) fun r Mg r0 r1 tog => ?_⟩
      show gEq (.int r) (.int 0) _ _
      rw [s_eq_i]
      exact ⟨_, rfl, hQ _ _ tog⟩
    refine ⟨_, rfl, _, rfl, any_go toe.dl (by omega) (by omega) fun y Mg y0 y1 tog => ⟨by simp [sizeLine_eq], ?_⟩⟩
    show gAdd (.lst (nms s)) (.lst [.int y]) _ _
    have sl := sb.length_le
    rw [rng_len] at sl
    rw [s_add_l, app_one]
    have tt := toe.trans tog
    have hmg : Mg[M.length]? = some (.lst (as.map lstV)) := (tt.out _ (by omega) (by omega)).trans hm
    refine ⟨by rw [sizeLine_eq, List.length_map]; simp; omega, _, _, rfl, hmg, by rw [sizeLine_eq, List.length_map, rd.len]; omega, ?_⟩
    have em : as.map lstV ++ [Dv.lst (nms (s ++ [y]))] = (as ++ [s ++ [y]]).map lstV := by rw [List.map_append]; rfl
    rw [em]
    subst hD1
    simp only [s_next]
    refine hC _ _ ⟨(tx.to tt).set hd (Nat.le_refl _), as ++ [s ++ [y]], _, _, _, _, rfl, set_self hmg, ⟨by simp [rd.len], fun l hl => ?_, fun _ z => z.elim⟩⟩
    rcases List.mem_append.mp hl with hl | hl
    · exact rd.each l hl
    · rw [List.mem_singleton.mp hl]
      refine ⟨by simp, by simp; omega, fun x hx => ?_⟩
      rcases List.mem_append.mp hx with hx | hx
      · exact mem_rng.mp (sb.subset hx)
      · rw [List.mem_singleton.mp hx]; exact ⟨y0, y1⟩
  · rintro l Mf ⟨tx, as, o5, o6, o7, o8, rfl, hm, rd⟩
    show C2 _ _
    rw [List.length_map, List.length_range] at rd
    have rg : ∀ l ∈ as, ∀ x ∈ l, 0 ≤ x ∧ x < 1000 := fun l hl x hx => by have := (rd.each l hl).2.2 x hx; omega
    have asl := rd.len
    subst hC2
    refine seq_step fun C3 hC3 => ?_
    simp only [s_set, s_comp, s_iR1, s_cons, s_nil, s_var]
    refine ⟨_, rfl, _, rfl, by omega, by omega, ?_⟩
    rw [rng_D]
    refine ⟨le_size (by rw [List.length_map, rng_len]; omega), compT Dv.int (fun x => (as.filter fun l => decide (x ∈ l)).isEmpty) trivial (by simp) (fun x hx Q hQ => ?_) ?_⟩
    · simp only [s_test, s_op, s_comp, s_iSeq, s_lst, s_nil, s_var]
      refine ⟨_, rfl, _, seqD_ref hm, le_size (by rw [List.length_map]; omega), compT lstV (fun l => decide (x ∈ l)) (seqD_ref hm) (by simp) (fun l hl Q2 hQ2 => ?_) ⟨by simp [sizeLine_eq], eq_nilL (okDs_map fun l _ => okDs_nms 58 l) ⟨_, rfl, ?_⟩⟩⟩
      · simp only [s_test, s_op, s_var]
        exact ⟨_, rfl, _, rfl, in_lst ⟨_, rfl, hQ2⟩⟩
      · rw [List.isEmpty_map]; exact hQ
    generalize hR : (rng k).filter (fun x => (as.filter fun l => decide (x ∈ l)).isEmpty) = R
    have Rm : ∀ x, x ∈ R ↔ (0 ≤ x ∧ x < k) ∧ ∀ l ∈ as, x ∉ l := fun x => by
      rw [← hR, List.mem_filter, mem_rng, List.isEmpty_iff, List.filter_eq_nil_iff]
      refine and_congr_right fun _ => ⟨fun h l hl => by simpa using h l hl, fun h l hl => by simpa using h l hl⟩
    have Rn : R.Nodup := by rw [← hR]; exact (rng_nd k).sublist List.filter_sublist
    have Rl : R.length ≤ k := by
      rw [← hR]
      have := List.length_filter_le (fun x => (as.filter fun l => decide (x ∈ l)).isEmpty) (rng k)
      rwa [rng_len] at this
    subst hC3
    refine seq_step fun C4 hC4 => ?_
    simp only [s_set, s_compM, s_iSeq, s_var]
    refine ⟨_, rfl, _, seqD_ref hm, le_size (by rw [List.length_map]; omega), compM lstV (fun l => lstV (sset l)) (seqD_ref hm) (fun a ha D hD => ?_) ?_⟩
    · simp only [s_sortSet, s_var]
      obtain ⟨a1, a2, a3⟩ := rd.each a ha
      refine ⟨_, rfl, .inl ⟨a, rfl, by omega, fun ms h1 h2 => ?_⟩⟩
      rw [sset_one (rg a ha) h1 h2]
      exact hD
    have ev : as.map (fun l => lstV (sset l)) = (as.map sset).map lstV := by rw [List.map_map]; rfl
    rw [ev]
    have txf := tx.app (.lst ((as.map sset).map lstV))
    have hmf : (Mf ++ [MO.lst ((as.map sset).map lstV)])[Mf.length]? = some (.lst ((as.map sset).map lstV)) := by simp
    generalize Mf ++ [MO.lst ((as.map sset).map lstV)] = Mg at *
    have each : ∀ l ∈ as.map sset, l ≠ [] ∧ l.Nodup ∧ ∀ x ∈ l, 0 ≤ x ∧ x < k := fun l hl => by
      obtain ⟨a, ha, rfl⟩ := List.mem_map.mp hl
      refine ⟨fun e => ?_, (sset_lt a).imp fun {a b} h => by omega, fun x hx => (rd.each a ha).2.2 x ((sset_mem (rg a ha)).mp hx)⟩
      obtain ⟨x, hx⟩ := List.exists_mem_of_ne_nil _ (rd.each a ha).1
      have := (sset_mem (rg a ha)).mpr hx
      rw [e] at this; cases this
    have there : ∀ x : Int, 0 ≤ x → x < k → (∃ l ∈ as.map sset, x ∈ l) ∨ x ∈ R := fun x x0 x1 => by
      by_cases z : ∃ l ∈ as, x ∈ l
      · obtain ⟨l, hl, hx⟩ := z
        exact .inl ⟨sset l, List.mem_map.mpr ⟨l, hl, rfl⟩, (sset_mem (rg l hl)).mpr hx⟩
      · exact .inr ((Rm x).mpr ⟨⟨x0, x1⟩, fun l hl hx => z ⟨l, hl, hx⟩⟩)
    have lsl : (as.map sset).length = t := by rw [List.length_map]; exact asl
    generalize as.map sset = bs at *
    -- lots once
    have last : ∀ (cs : List Lot) (d : Dv) (Y : PX), seqD Mg d = some (cs.map lstV) → Raw k n cs → S__law_once [d] Mg (fun d M' => (dkOf M.length Pd X).rt d M') Y := fun cs d Y hs raw => by
      have e2 : cs.map lstV = (cs.map fun l => (true, l)).map lotV := by rw [List.map_map]; rfl
      have e3 : (cs.map fun l => (true, l)).map (·.2) = cs := by rw [List.map_map]; exact (List.map_congr_left (g := id) fun _ _ => rfl).trans (List.map_id _)
      have rl := raw.len
      rw [← e3] at raw
      refine ⟨d, cs.map fun l => (true, l), rfl, by rw [hs, e2], by rw [List.length_map]; omega, raw.pre, fun ms nd hms so => ?_⟩
      exact txf.ret mo hd (cls_map fun l _ => cls_nms _ l) fun M' to' => h ms M' (raw_lots raw nd hms so).1 to'
    subst hC4
    simp only [s_seq, s_ret, s_call, s_cons, s_nil, s_if, s_test, s_op, s_lst, s_var]
    refine ⟨_, rfl, by simp [sizeLine_eq], ne_nilL (okDs_nms 59 R) ⟨_, rfl, ?_⟩⟩
    rw [List.isEmpty_map]
    cases er : R.isEmpty with
    | true =>
      have R0 := List.isEmpty_iff.mp er
      simp only [Bool.not_true, Bool.false_eq_true, if_false]
      refine ⟨_, rfl, last bs _ _ (seqD_ref hmf) ⟨by omega, by omega, fun l hl => ⟨(each l hl).1, (each l hl).2.1⟩, fun l hl x hx => (each l hl).2.2 x hx, fun x x0 x1 => ?_⟩⟩
      rcases there x x0 x1 with z | z
      · exact z
      · rw [R0] at z; cases z
    | false =>
      simp only [Bool.not_false, if_true]
      refine ⟨_, rfl, _, rfl, by simp [sizeLine_eq], ?_⟩
      refine ⟨_, _, (show lstW Mg (.ref Mf.length) = some (bs.map lstV) from by
        show (match Mg[Mf.length]? with | some (.lst l) => some l | _ => none) = _
        rw [hmf]), rfl, by rw [sizeLine_eq]; simp; omega, ?_⟩
      have em : bs.map lstV ++ [Dv.lst (nms R)] = (bs ++ [R]).map lstV := by rw [List.map_append]; rfl
      show S__law_once [.lst (bs.map lstV ++ [Dv.lst (nms R)])] Mg _ _
      rw [em]
      exact last (bs ++ [R]) _ _ rfl (raw_app each (by omega) (fun e => by rw [e] at er; cases er) Rn (fun x hx => ((Rm x).mp hx).1) there)
def S__law_frame : DSp := fun ds M P _ => ∃ (i j k n : Nat), ds = [.ref i, .int (k : Int), .int (n : Int)] ∧ Deal i j M ∧ 1 ≤ k ∧ k ≤ 10 ∧ 3 ≤ n ∧ n ≤ 50 ∧ ∀ ms M', Lots k n ms → To i j M M' → P (.lst (ms.map tupI)) M'
theorem p__law_frame : ∀ ds M Pd X, MemOk M → S__law_frame ds M Pd X → t__law_frame S__law_spotted S__law_once S__law_any S__law_grown S__law_round (dkOf M.length Pd X) (startD N__law_frame ds) M := by
  rintro _ M Pd X - ⟨i, j, k, n, rfl, hd, k1, k2, n1, n2, h⟩
  show t__law_frame S__law_spotted S__law_once S__law_any S__law_grown S__law_round (dkOf M.length Pd X) [some (.ref i), some (.int (k : Int)), some (.int (n : Int)), none, none] M
  have rt : ∀ ms M', Lots k n ms → To i j M M' → (dkOf M.length Pd X).rt (.lst (ms.map tupI)) M' := fun ms M' l to => ret_now (h ms M' l to)
  unfold t__law_frame
  refine seq_step fun C1 hC1 => ?_
  simp only [s_set, s_call, s_cons, s_nil, s_var, s_c]
  refine ⟨_, rfl, any_go hd (by decide) (by decide) fun r M1 r0 r1 to1 => ?_⟩
  subst hC1
  refine seq_step fun C2 hC2 => ?_
  have grow : dSeq (dRet (dCall S__law_grown (dCons (dVar 0) (dCons (dVar 1) (dCons (dVar 2) dNil))))) dNext { dkOf M.length Pd X with nx := C2 } [some (.ref i), some (.int (k : Int)), some (.int (n : Int)), some (.int r), none] M1 := by
    simp only [s_seq, s_ret, s_call, s_cons, s_nil, s_var]
    exact ⟨_, rfl, _, rfl, _, rfl, i, j, k, n, rfl, to1.dl, k1, by omega, by omega, n2, fun ms M' l _ to => rt ms M' l (to1.trans to)⟩
  simp only [s_ifS, s_or, s_test, s_op, s_var, s_c]
  refine ⟨_, rfl, ?_⟩
  show gLt (.int r) (.int 3) _ _
  rw [s_lt]
  refine ⟨_, rfl, ?_⟩
  by_cases e1 : r < 3
  · rw [decide_eq_true e1, if_pos rfl]; exact grow
  rw [decide_eq_false e1, if_neg (by simp)]
  refine ⟨_, rfl, ?_⟩
  show gLt (.int (k : Int)) (.int 3) _ _
  rw [s_lt]
  refine ⟨_, rfl, ?_⟩
  by_cases e2 : (k : Int) < 3
  · rw [decide_eq_true e2, if_pos rfl]; exact grow
  rw [decide_eq_false e2, if_neg (by simp)]
  clear grow
  simp only [s_next]
  subst hC2
  refine seq_step fun C3 hC3 => ?_
  simp only [s_ifS, s_test, s_op, s_var, s_c]
  refine ⟨_, rfl, ?_⟩
  show gLt (.int r) (.int 5) _ _
  rw [s_lt]
  refine ⟨_, rfl, ?_⟩
  by_cases e3 : r < 5
  · rw [decide_eq_true e3, if_pos rfl]
    simp only [s_seq, s_ret, s_call, s_cons, s_nil, s_var]
    exact ⟨_, rfl, _, rfl, _, rfl, i, j, k, n, rfl, to1.dl, by omega, k2, n1, n2, fun ms M' l to => rt ms M' l (to1.trans to)⟩
  rw [decide_eq_false e3, if_neg (by simp)]
  simp only [s_next]
  subst hC3
  refine seq_step fun C4 hC4 => ?_
  simp only [s_ifS, s_test, s_op, s_var, s_c]
  refine ⟨_, rfl, ?_⟩
  show gEq (.int r) (.int 5) _ _
  rw [s_eq_i]
  refine ⟨_, rfl, ?_⟩
  by_cases e4 : r = 5
  rotate_left
  · rw [decide_eq_false e4, if_neg (by simp)]
    simp only [s_next]
    subst hC4
    simp only [s_seq, s_ret, s_call, s_cons, s_nil, s_var]
    exact ⟨_, rfl, _, rfl, _, rfl, i, j, k, n, rfl, to1.dl, k1, k2, by omega, n2, fun ms M' l to => rt ms M' l (to1.trans to)⟩
  rw [decide_eq_true e4, if_pos rfl]
  refine seq_step fun D1 hD1 => ?_
  simp only [s_set, s_call, s_cons, s_nil, s_op, s_var, s_c]
  refine ⟨_, rfl, _, rfl, _, rfl, ?_⟩
  show gSub' (.int (n : Int)) (.int 1) _ _
  rw [s_sub, show (n : Int) - 1 = ((n - 1 : Nat) : Int) by omega]
  refine ⟨i, j, k, n - 1, rfl, to1.dl, k1, by omega, by omega, by omega, fun ms M2 lo _ to2 => ?_⟩
  subst hD1
  simp only [s_seq, s_ret, s_call, s_cons, s_nil, s_op, s_lst, s_var, s_c]
  refine ⟨_, rfl, _, rfl, _, rfl, ?_⟩
  show gDiv (.int (k : Int)) (.int 2) _ _
  have lk : (k : Int).natAbs.log2 < 20 := log_lt (by omega) (by decide)
  rw [s_div]
  refine ⟨⟨by decide, by decide⟩, any_go to2.dl (by omega) (by omega) fun u M3 u0 u1 to3 => ⟨_, rfl, ?_⟩⟩
  show gDiv (.int (k : Int)) (.int 2) _ _
  rw [s_div]
  refine ⟨⟨by decide, by decide⟩, _, rfl, _, rfl, _, rfl, ?_⟩
  show gDiv (.int (k : Int)) (.int 2) _ _
  rw [s_div]
  refine ⟨⟨by decide, by decide⟩, ?_⟩
  show gSub' (.int (k : Int)) (.int _) _ _
  rw [s_sub]
  refine any_go to3.dl (by omega) (by omega) fun v M4 v0 v1 to4 => ?_
  show gAdd (.int _) (.int v) _ _
  rw [s_add_i]
  refine ⟨by simp [sizeLine_eq], by simp [sizeLine_eq], ?_⟩
  show gAdd (.lst (ms.map tupI)) (.lst [.lst [.int u, .int ((k : Int) / 2 + v)]]) _ _
  have ml := lo.len
  rw [s_add_l]
  refine ⟨by rw [sizeLine_eq]; simp; omega, ?_⟩
  have e2 : ms.map tupI ++ [Dv.lst [.int u, .int ((k : Int) / 2 + v)]] = (ms.map (fun l => (false, l)) ++ [(true, [u, (k : Int) / 2 + v])]).map lotV := by rw [List.map_append, List.map_map]; rfl
  have e3 : (ms.map (fun l => (false, l)) ++ [(true, [u, (k : Int) / 2 + v])]).map (·.2) = ms ++ [[u, (k : Int) / 2 + v]] := by
    rw [List.map_append, List.map_map]
    congr 1
    exact (List.map_congr_left (g := id) fun _ _ => rfl).trans (List.map_id _)
  have raw : Raw k n (ms ++ [[u, (k : Int) / 2 + v]]) := raw_app (fun l hl => ⟨(lo.each l hl).1, (lo.each l hl).2.1, lo.cov.1 l hl⟩) (by omega) (by simp) (by simp; omega) (fun x hx => by
    simp only [List.mem_cons, List.not_mem_nil, or_false] at hx
    rcases hx with rfl | rfl <;> omega) fun x x0 x1 => .inl (lo.cov.2 x x0 x1)
  rw [← e3] at raw
  rw [e2]
  refine ⟨_, _, rfl, rfl, by simp; omega, raw.pre, fun cs nd hcs so => ?_⟩
  exact rt cs _ (raw_lots raw nd hcs so).1 (((to1.trans to2).trans to3).trans to4)
end D.k35
end

section
set_option Elab.async false
set_option linter.all false
set_option maxRecDepth 100000
set_option maxHeartbeats 4000000
set_option autoImplicit false
/-! k35: the law. -/
namespace D.k35
open PySem PySem.Spec PyProof.Rows L2 D D.P80
mutual
theorem cl_up {n m : Nat} (h : n ≤ m) : ∀ {d : Dv}, D.cl n d = true → D.cl m d = true
  | .non, _ => rfl
  | .bl _, _ => rfl
  | .int _, _ => rfl
  | .str _, _ => rfl
  | .adr _, _ => rfl
  | .ty _, _ => rfl
  | .dic, _ => rfl
  | .ref i, e => decide_eq_true (by have := of_decide_eq_true e; omega)
  | .tup l, e => cls_up h (l := l) e
  | .lst l, e => cls_up h (l := l) e
  | .frz l, e => cls_up h (l := l) e
  | .obj _ _ l, e => cls_up h (l := l) e
theorem cls_up {n m : Nat} (h : n ≤ m) : ∀ {l : List Dv}, cls n l = true → cls m l = true
  | [], _ => rfl
  | d :: l, e => by
    obtain ⟨h1, h2⟩ := Bool.and_eq_true_iff.mp (show (D.cl n d && cls n l) = true from e)
    show (D.cl m d && cls m l) = true
    rw [cl_up h h1, cls_up h h2]; rfl
end
theorem clO_up {n m : Nat} (h : n ≤ m) {o : MO} (e : clO n o = true) : clO m o = true := by
  cases o with
  | lst l => exact cls_up h (l := l) e
  | ins C ks l => exact cls_up h (l := l) e
theorem To.ok {i j : Nat} {M M' : Mem} (mo : MemOk M) (hd : Deal i j M) (t : To i j M M') : MemOk M' := fun o ho => by
  have h := t.tx.cl mo hd o (by rw [List.take_of_length_le (Nat.le_of_eq t.len)]; exact ho)
  rw [t.len]; exact h
/-- a frame of the lots, in any form -/
theorem make_go {K : PySem.W.Frag} {C : Addr} {k n : Nat} {ls : List Lot} {zs : List (Bool × Lot)} {M : Mem} {P : PD} {Y : PX} (fv : FV K C) (mo : MemOk M) (lo : Lots k n ls) (hk1 : 1 ≤ k) (hk : k ≤ 50) (sim : Sim zs ls) (hz : zs.length < 64)
    (h : P (frameV C k ls) M) : S_Frame___init__ K C [.ref M.length, .int (k : Int), .lst (zs.map lotV)] (M ++ [.ins C [] []]) (fun v M2 => v = .non ∧ Ret M.length P (.ref M.length) M2) Y := by
  refine ⟨M.length, k, zs, rfl, by simp, fv, hk1, hk, hz, fun z hz2 => ?_, fun x x0 x1 => ?_, fun R nd hR so => ⟨rfl, ?_⟩⟩
  · obtain ⟨l, hl, p⟩ := sim.fw z hz2
    obtain ⟨e1, e2, _⟩ := lo.each l hl
    exact ⟨fun e => e1 (p.symm.trans (by rw [e])).eq_nil, p.nodup_iff.mpr e2, fun x hx => lo.cov.1 l hl x (p.mem_iff.mp hx)⟩
  · obtain ⟨l, hl, hx⟩ := lo.cov.2 x x0 x1
    obtain ⟨z, hz2, p⟩ := sim.bw l hl
    exact ⟨z, hz2, p.mem_iff.mpr hx⟩
  · have s : R = ls := srt_eq nd lo.nd (fun l => (hR l).trans ⟨fun ⟨z, hz2, e⟩ => by
        obtain ⟨m, hm, p⟩ := sim.fw z hz2
        rw [e, ← srt_one p.symm (lo.each m hm).2.2]; exact hm, fun hl => by
        obtain ⟨z, hz2, p⟩ := sim.bw l hl
        exact ⟨z, hz2, srt_one p.symm (lo.each l hl).2.2⟩⟩) so lo.so
    subst s
    have e : (M ++ [MO.ins C [] []]).set M.length (.ins C ["key_count", "lots"] [.int (k : Int), lotsT R]) = M ++ [.ins C ["key_count", "lots"] [.int (k : Int), lotsT R]] := by
      rw [List.set_append_right _ _ (Nat.le_refl _)]; simp
    rw [e]
    refine .inr ⟨by simp, fun o ho => mo o (by simpa using ho), .inr (.inr ⟨M.length, C, ["key_count", "lots"], [.int (k : Int), lotsT R], rfl, by simp, Nat.le_refl _, ?_, by simpa using h⟩)⟩
    show (true && (cls M.length (R.map tupI) && true)) = true
    rw [cls_map (f := tupI) fun l _ => cls_nms _ l]; rfl
theorem eq_bl {M : Mem} {a b : Bool} {G : Dv → Prop} (g : G (.bl (a == b))) : gEq (.bl a) (.bl b) M G := ⟨rfl, rfl, g⟩
theorem bool_of {a b : Bool} {p : Prop} (h1 : a = true ↔ p) (h2 : b = true ↔ p) : a = b := Bool.eq_iff_iff.mpr (h1.trans h2.symm)
theorem mu_few {k : Nat} : ∀ {ls : List Lot}, (∀ l ∈ ls, l.length ≤ k) → mu ls ≤ ls.length * (k + 1)
  | [], _ => Nat.zero_le _
  | l :: ls, h => by
    have ih := mu_few fun m hm => h m (List.mem_cons_of_mem _ hm)
    have := h l List.mem_cons_self
    show l.length + 1 + mu ls ≤ (ls.length + 1) * (k + 1)
    rw [Nat.add_mul, Nat.one_mul]
    omega
theorem Lots.lens {k n : Nat} {ls : List Lot} (lo : Lots k n ls) : ∀ l ∈ ls, l.length ≤ k := fun l hl => by
  have := nodup_le (lo.each l hl).2.1 (l2 := rng k) fun x hx => mem_rng.mpr (lo.cov.1 l hl x hx)
  rwa [rng_len] at this
theorem folds_go {k n : Nat} {ls : List Lot} {M : Mem} {P : PD} {Y : PX} (lo : Lots k n ls) (hn : n ≤ 10) (hk : k ≤ 8) (h : ∀ b : Bool, (b = true ↔ FullO k ls) → P (.bl b) M) : S__law_folds [.lst (ls.map tupI)] M P Y := by
  refine ⟨ls, rfl, fun l hl => (lo.each l hl).2.1, ?_, fun b hb => h b (hb.trans (ac_full lo.cov))⟩
  have := mu_few lo.lens
  have h1 := lo.len
  have : ls.length * (k + 1) ≤ 10 * 9 := Nat.mul_le_mul (by omega) (by omega)
  omega
theorem sim_self (ls : List Lot) : Sim (ls.map fun l => (false, l)) ls := ⟨fun z hz => by
  obtain ⟨l, hl, rfl⟩ := List.mem_map.mp hz
  exact ⟨l, hl, List.Perm.refl _⟩, fun l hl => ⟨(false, l), List.mem_map.mpr ⟨l, hl, rfl⟩, List.Perm.refl _⟩⟩
theorem lots_V (ls : List Lot) : ls.map tupI = (ls.map fun l => (false, l)).map lotV := by rw [List.map_map]; rfl
theorem in_bls (a : Bool) : ∀ bs : List Bool, pyIn (.bl a) (bs.map Dv.bl) = bs.any fun b => b == a
  | [] => rfl
  | b :: bs => by
    show (pyEq (.bl b) (.bl a) || pyIn (.bl a) (bs.map Dv.bl)) = _
    rw [in_bls a bs]; rfl
end D.k35
end

section
set_option Elab.async false
set_option linter.all false
set_option maxRecDepth 100000
set_option maxHeartbeats 4000000
set_option autoImplicit false
/-! k35: ears, by the program. -/
namespace D.k35
open PySem PySem.Spec PyProof.Rows L2 D D.P80
def S_common : DSp := fun ds M P _ => ∃ (a b : Lot), ds = [tupI a, tupI b] ∧ a.length ≤ 1000 ∧ P (tupI (a.filter fun k => decide (k ∈ b))) M
theorem p_common : ∀ ds M Pd X, MemOk M → S_common ds M Pd X → t_common (dkOf M.length Pd X) (startD N_common ds) M := by
  rintro _ M Pd X - ⟨a, b, rfl, ha, h⟩
  show t_common (dkOf M.length Pd X) [some (tupI a), some (tupI b), none] M
  unfold t_common
  simp only [s_seq, s_ret, s_cb, s_cons, s_nil, s_comp, s_iSeq, s_var]
  refine ⟨_, rfl, _, rfl, le_size (by simpa using ha), compT Dv.int (fun k => decide (k ∈ b)) rfl (by simp) (fun k hk Q hQ => ?_) ?_⟩
  · simp only [s_test, s_op, s_var]
    exact ⟨_, rfl, _, rfl, in_ints (ns := b) rfl ⟨_, rfl, hQ⟩⟩
  · rw [s_tuple (x := nms (a.filter fun k => decide (k ∈ b))) rfl]
    exact ret_now h
def S_shared_with : DSp := fun ds M P _ => ∃ (l : Lot) (v : Dv) (os : List Lot), ds = [tupI l, v] ∧ seqD M v = some (os.map tupI) ∧ l.length ≤ 1000 ∧ os.length ≤ 1000 ∧ P (tupI (sharesL l os)) M
theorem p_shared_with : ∀ ds M Pd X, MemOk M → S_shared_with ds M Pd X → t_shared_with (dkOf M.length Pd X) (startD N_shared_with ds) M := by
  rintro _ M Pd X - ⟨l, v, os, rfl, hv, hl, ho, h⟩
  show t_shared_with (dkOf M.length Pd X) [some (tupI l), some v, none, none] M
  unfold t_shared_with
  simp only [s_seq, s_ret, s_cb, s_cons, s_nil, s_comp, s_iSeq, s_var]
  refine ⟨_, rfl, _, rfl, le_size (by simpa using hl), compT Dv.int (fun k => os.any fun m => decide (k ∈ m)) rfl (by simp) (fun k hk Q hQ => ?_) ?_⟩
  · simp only [s_tru, s_cb, s_cons, s_nil, s_comp, s_iSeq, s_var]
    refine ⟨_, rfl, _, hv, le_size (by simpa using ho), compM tupI (fun m => .bl (decide (k ∈ m))) hv (fun m hm C hC => ?_) (gAny_of ⟨_, rfl, hQ⟩)⟩
    simp only [s_op, s_var]
    exact ⟨_, rfl, _, rfl, in_ints (ns := m) rfl hC⟩
  · rw [s_tuple (x := nms (sharesL l os)) rfl]
    exact ret_now h
def holdB (l : Lot) (os : List Lot) (m : Lot) : Bool := ((sharesL l os).filter fun k => !decide (k ∈ m)).isEmpty
theorem eq_tupI {M : Mem} {a b : List Int} {G : Dv → Prop} (g : G (.bl (decide (a = b)))) : gEq (tupI a) (tupI b) M G := by
  refine ⟨okDs_nms 59 a, okDs_nms 59 b, ?_⟩
  show G (.bl (pyEqs (nms a) (nms b)))
  rw [pyEqs_nms]; exact g
theorem filter_all {p : Int → Bool} : ∀ l : Lot, decide (l.filter p = l) = (l.filter fun k => !p k).isEmpty := fun l => by
  rw [Bool.eq_iff_iff, decide_eq_true_iff, List.filter_eq_self, List.isEmpty_iff, List.filter_eq_nil_iff]
  exact ⟨fun h a ha => by simp [h a ha], fun h a ha => by simpa using h a ha⟩
def S_is_holder : DSp := fun ds M P _ => ∃ (l m : Lot) (v : Dv) (os : List Lot), ds = [tupI l, tupI m, v] ∧ seqD M v = some (os.map tupI) ∧ l.length ≤ 1000 ∧ os.length ≤ 1000 ∧ P (.bl (holdB l os m)) M
theorem p_is_holder : ∀ ds M Pd X, MemOk M → S_is_holder ds M Pd X → t_is_holder S_common S_shared_with (dkOf M.length Pd X) (startD N_is_holder ds) M := by
  rintro _ M Pd X - ⟨l, m, v, os, rfl, hv, hl, ho, h⟩
  show t_is_holder S_common S_shared_with (dkOf M.length Pd X) [some (tupI l), some (tupI m), some v, none] M
  unfold t_is_holder
  refine seq_step fun C1 hC1 => ?_
  simp only [s_set, s_call, s_cons, s_nil, s_var]
  refine ⟨_, rfl, _, rfl, l, v, os, rfl, hv, hl, ho, ?_⟩
  subst hC1
  simp only [s_seq, s_ret, s_op, s_call, s_cons, s_nil, s_var]
  refine ⟨_, rfl, _, rfl, sharesL l os, m, rfl, by have := shares_le l os; omega, _, rfl, eq_tupI ?_⟩
  rw [filter_all]
  exact ret_now h
def S_others_than : DSp := fun ds M P _ => ∃ (v : Dv) (ls : List Lot) (e : Lot), ds = [v, tupI e] ∧ seqD M v = some (ls.map tupI) ∧ ls.length ≤ 1000 ∧ P (.lst ((offL ls e).map tupI)) M
theorem p_others_than : ∀ ds M Pd X, MemOk M → S_others_than ds M Pd X → t_others_than (dkOf M.length Pd X) (startD N_others_than ds) M := by
  rintro _ M Pd X - ⟨v, ls, e, rfl, hv, hl, h⟩
  show t_others_than (dkOf M.length Pd X) [some v, some (tupI e), none] M
  unfold t_others_than
  simp only [s_seq, s_ret, s_comp, s_iSeq, s_var]
  refine ⟨_, rfl, _, hv, le_size (by simpa using hl), compT tupI (fun l => decide (l ≠ e)) hv (by simp) (fun l hl2 Q hQ => ?_) (ret_now h)⟩
  simp only [s_test, s_op, s_var]
  exact ⟨_, rfl, _, rfl, ne_off hQ⟩
def fstV : List Lot → Dv
  | [] => .non
  | m :: _ => tupI m
def S_first_holder : DSp := fun ds M P _ => ∃ (l : Lot) (v : Dv) (os : List Lot), ds = [tupI l, v] ∧ seqD M v = some (os.map tupI) ∧ l.length ≤ 1000 ∧ os.length ≤ 1000 ∧ P (fstV (os.filter (holdB l os))) M
theorem p_first_holder : ∀ ds M Pd X, MemOk M → S_first_holder ds M Pd X → t_first_holder S_is_holder (dkOf M.length Pd X) (startD N_first_holder ds) M := by
  rintro _ M Pd X - ⟨l, v, os, rfl, hv, hl, ho, h⟩
  show t_first_holder S_is_holder (dkOf M.length Pd X) [some (tupI l), some v, none, none] M
  unfold t_first_holder
  refine seq_step fun C1 hC1 => ?_
  simp only [s_set, s_comp, s_iSeq, s_var]
  refine ⟨_, rfl, _, hv, le_size (by simpa using ho), compT tupI (holdB l os) hv (by simp) (fun m hm Q hQ => ?_) ?_⟩
  · simp only [s_tru, s_call, s_cons, s_nil, s_var]
    exact ⟨_, rfl, _, rfl, _, rfl, l, m, v, os, rfl, hv, hl, ho, _, rfl, hQ⟩
  subst hC1
  generalize os.filter (holdB l os) = F at h
  simp only [s_seq, s_ret, s_if, s_test, s_op, s_cb, s_cons, s_nil, s_var, s_c]
  refine ⟨_, rfl, ?_⟩
  rw [s_len_l]
  show gGt (.int _) (.int 0) _ _
  rw [s_gt]
  refine ⟨_, rfl, ?_⟩
  cases F with
  | nil =>
    rw [decide_eq_false (by simp), if_neg (by simp)]
    exact ret_now h
  | cons m F =>
    rw [decide_eq_true (by simp), if_pos rfl]
    exact ⟨_, rfl, s_ixn (n := 0) (x := (m :: F).map tupI) rfl rfl (ret_now h)⟩
def earsL (ls : List Lot) : List Lot := ls.filter fun l => !(holdL ls l).isEmpty
theorem fst_is {M : Mem} {F : List Lot} {Q : Bool → Mem → Prop} (h : Q (!F.isEmpty) M) : gIs true (fstV F) .non M fun d => ∃ k, d = .bl k ∧ Q k M := by
  cases F with
  | nil => exact ⟨true, rfl, _, rfl, h⟩
  | cons m F => exact ⟨false, rfl, _, rfl, h⟩
def S_ears_of : DSp := fun ds M P _ => ∃ (v : Dv) (ls : List Lot), ds = [v] ∧ seqD M v = some (ls.map tupI) ∧ ls.length ≤ 1000 ∧ (∀ l ∈ ls, l.length ≤ 1000) ∧ P (.lst ((earsL ls).map tupI)) M
theorem p_ears_of : ∀ ds M Pd X, MemOk M → S_ears_of ds M Pd X → t_ears_of S_first_holder S_others_than (dkOf M.length Pd X) (startD N_ears_of ds) M := by
  rintro _ M Pd X - ⟨v, ls, rfl, hv, hl, hz, h⟩
  show t_ears_of S_first_holder S_others_than (dkOf M.length Pd X) [some v, none] M
  unfold t_ears_of
  simp only [s_seq, s_ret, s_comp, s_iSeq, s_var]
  refine ⟨_, rfl, _, hv, le_size (by simpa using hl), compT tupI (fun l => !(holdL ls l).isEmpty) hv (by simp) (fun l hl2 Q hQ => ?_) (ret_now h)⟩
  simp only [s_test, s_op, s_call, s_cons, s_nil, s_var, s_c]
  exact ⟨_, rfl, _, rfl, _, rfl, v, ls, l, rfl, hv, hl, l, _, offL ls l, rfl, rfl, hz l hl2, by have := off_le ls l; omega, fst_is hQ⟩
def S_ears (K : PySem.W.Frag) (C : Addr) : DSp := fun ds M P _ => ∃ (k : Nat) (R : List Lot), ds = [frameV C k R] ∧ FV K C ∧ R.length ≤ 1000 ∧ (∀ l ∈ R, l.length ≤ 1000) ∧ P (.tup ((earsL R).map tupI)) M
theorem p_ears (K : PySem.W.Frag) (C : Addr) : ∀ ds M Pd X, MemOk M → S_ears K C ds M Pd X → t_ears K S_ears_of (dkOf M.length Pd X) (startD N_ears ds) M := by
  rintro _ M Pd X - ⟨k, R, rfl, fv, hR, hz, h⟩
  show t_ears K S_ears_of (dkOf M.length Pd X) [some (frameV C k R)] M
  unfold t_ears
  simp only [s_seq, s_ret, s_cb, s_cons, s_nil, s_call, s_fld, s_var]
  refine ⟨_, rfl, C, _, _, lotsT R, rfl, fv.l, rfl, lotsT R, R, rfl, rfl, hR, hz, ?_⟩
  show gTuple [_] M _
  rw [s_tuple (x := (earsL R).map tupI) rfl]
  exact ret_now h
end D.k35
end

section
set_option Elab.async false
set_option linter.all false
set_option maxRecDepth 100000
set_option maxHeartbeats 4000000
set_option autoImplicit false
/-! k35: the same, kind by kind, also within. -/
namespace D.k35
open PySem PySem.Spec PyProof.Rows L2 D D.P80
/-- numbers, truths, texts, tuples of such -/
def plainD : Nat → Dv → Bool
  | _, .bl _ => true
  | _, .int _ => true
  | _, .str x => PyData.canLay0 (.str x)
  | n + 1, .tup l => decide (l.length ≤ 1000) && l.all (plainD n)
  | _, _ => false
theorem plain_okV : ∀ {n : Nat} {d : Dv}, plainD n d = true → okV d = true
  | _, .bl _, _ => rfl
  | _, .int _, _ => rfl
  | _, .str _, _ => rfl
  | n + 1, .tup l, h => by
    rw [plainD, Bool.and_eq_true, List.all_eq_true] at h
    exact okVs_of fun d hd => plain_okV (h.2 d hd)
  | 0, .tup l, h => by simp [plainD] at h
  | n, .non, h => by cases n <;> simp [plainD] at h
  | n, .lst l, h => by cases n <;> simp [plainD] at h
  | n, .obj _ _ l, h => by cases n <;> simp [plainD] at h
  | n, .ref l, h => by cases n <;> simp [plainD] at h
  | n, .adr l, h => by cases n <;> simp [plainD] at h
  | n, .frz l, h => by cases n <;> simp [plainD] at h
  | n, .ty l, h => by cases n <;> simp [plainD] at h
  | n, .dic, h => by cases n <;> simp [plainD] at h
def S__law_same (n : Nat) : DSp := fun ds M P _ => ∃ a b, ds = [a, b] ∧ ((∃ x y, a = .bl x ∧ b = .bl y ∧ P (.bl (x == y)) M) ∨ (a = b ∧ plainD n a = true ∧ P (.bl true) M))
theorem p__law_same (n : Nat) (Sc : DSp) (hc : ∀ m a M P Y, n = m + 1 → plainD m a = true → P (.bl true) M → Sc [a, a] M P Y) : ∀ ds M Pd X, MemOk M → S__law_same n ds M Pd X → t__law_same Sc (dkOf M.length Pd X) (startD N__law_same ds) M := by
  rintro _ M Pd X - ⟨a, b, rfl, h⟩
  show t__law_same Sc (dkOf M.length Pd X) [some a, some b, none] M
  unfold t__law_same
  refine seq_step fun C1 hC1 => ?_
  simp only [s_ifS, s_tru, s_cb, s_cons, s_nil, s_var, s_c]
  rcases h with ⟨a, b, rfl, rfl, h⟩ | ⟨rfl, hp, h⟩
  · refine ⟨_, rfl, ?_⟩
    rw [s_isi rfl (by simp)]
    refine ⟨_, rfl, ?_⟩
    have e1 : isiB (kind (.bl b)) "tuple" = false := show isiB "bool" "tuple" = false by decide
    rw [e1]
    simp only [Bool.false_eq_true, if_false, s_next]
    subst hC1
    refine seq_step fun C2 hC2 => ?_
    simp
    subst hC2
    refine seq_step fun C3 hC3 => ?_
    cases b with
    | true =>
      simp
      cases a <;> first | exact .inl ⟨rfl, ret_now h⟩ | exact .inr ⟨rfl, ret_now h⟩
    | false =>
      simp
      subst hC3
      refine seq_step fun C4 hC4 => ?_
      simp
      cases a <;> first | exact .inl ⟨rfl, ret_now h⟩ | exact .inr ⟨rfl, ret_now h⟩
  · have ok := plain_okV hp
    refine ⟨_, rfl, ?_⟩
    rw [s_isi ok (by simp)]
    refine ⟨_, rfl, ?_⟩
    cases a with
    | tup l =>
      cases n with
      | zero => simp [plainD] at hp
      | succ n =>
        rw [plainD, Bool.and_eq_true, List.all_eq_true] at hp
        have hl : l.length ≤ 1000 := of_decide_eq_true hp.1
        have e1 : isiB (kind (.tup l)) "tuple" = true := show isiB "tuple" "tuple" = true by decide
        rw [e1, if_pos rfl]
        refine seq_step fun C2 hC2 => ?_
        simp only [s_ifS, s_or, s_not, s_tru, s_cb, s_cons, s_nil, s_var, s_c, s_test, s_op]
        refine ⟨_, rfl, ?_⟩
        rw [s_isi ok (by simp), e1]
        refine ⟨_, rfl, ?_⟩
        simp only [Bool.not_true, Bool.false_eq_true, if_false]
        refine ⟨_, rfl, ?_⟩
        rw [s_len_t]
        refine ⟨_, rfl, ?_⟩
        rw [s_len_t]
        show gNe (.int _) (.int _) _ _
        rw [s_ne_i, decide_eq_true rfl]
        refine ⟨_, rfl, ?_⟩
        simp only [Bool.not_true, Bool.false_eq_true, if_false, s_next]
        subst hC2
        simp only [s_seq, s_ret, s_op, s_comp, s_iR1, s_cons, s_nil, s_cb, s_var, s_lst]
        refine ⟨_, rfl, ?_⟩
        rw [s_len_t]
        refine ⟨_, rfl, by omega, by omega, ?_⟩
        rw [rng_nat]
        refine ⟨le_size (by simpa using hl), compT (fun k : Nat => Dv.int (k : Int)) (fun _ => false) trivial (by simp) (fun k hk Q hQ => ?_) ⟨by simp [sizeLine_eq], ?_⟩⟩
        · have hk2 : k < l.length := List.mem_range.mp hk
          simp only [s_not, s_tru, s_call, s_cons, s_nil, s_op, s_var]
          have g : l[k]? = some l[k] := List.getElem?_eq_getElem hk2
          refine ⟨_, rfl, _, rfl, s_ixn (x := l) rfl g ⟨_, rfl, _, rfl, s_ixn (x := l) rfl g ?_⟩⟩
          exact hc n l[k] M _ _ rfl (hp.2 _ (List.getElem_mem hk2)) ⟨_, rfl, hQ⟩
        · have e : (List.range l.length).filter (fun _ : Nat => false) = [] := List.filter_eq_nil_iff.mpr fun _ _ => by simp
          rw [e]
          exact eq_nilL rfl (ret_now h)
    | bl b =>
      have e1 : isiB (kind (.bl b)) "tuple" = false := show isiB "bool" "tuple" = false by decide
      rw [e1]
      simp only [Bool.false_eq_true, if_false, s_next]
      subst hC1
      refine seq_step fun C2 hC2 => ?_
      simp
      subst hC2
      refine seq_step fun C3 hC3 => ?_
      cases b with
      | true =>
        simp
        exact ret_now h
      | false =>
        simp
        subst hC3
        refine seq_step fun C4 hC4 => ?_
        simp
        exact ret_now h
    | int i =>
      have e1 : isiB (kind (.int i)) "tuple" = false := show isiB "int" "tuple" = false by decide
      rw [e1]
      simp only [Bool.false_eq_true, if_false, s_next]
      subst hC1
      refine seq_step fun C2 hC2 => ?_
      simp
      subst hC2
      refine seq_step fun C3 hC3 => ?_
      simp
      subst hC3
      refine seq_step fun C4 hC4 => ?_
      simp
      subst hC4
      refine seq_step fun C5 hC5 => ?_
      simp only [s_ifS, s_tru, s_cb, s_cons, s_nil, s_var, s_c]
      refine ⟨_, rfl, ?_⟩
      rw [s_isi ok (by simp), show isiB (kind (.int i)) "str" = false from (show isiB "int" "str" = false by decide)]
      refine ⟨_, rfl, ?_⟩
      simp only [Bool.false_eq_true, if_false, s_next]
      subst hC5
      simp only [s_seq, s_ret, s_andV, s_notV, s_cb, s_cons, s_nil, s_var, s_c, s_op]
      refine ⟨_, rfl, ?_⟩
      rw [s_isi ok (by simp), show isiB (kind (.int i)) "int" = true from (show isiB "int" "int" = true by decide)]
      refine ⟨_, rfl, ?_⟩
      rw [if_pos rfl]
      refine ⟨_, rfl, ?_⟩
      rw [s_isi ok (by simp), show isiB (kind (.int i)) "bool" = false from (show isiB "int" "bool" = false by decide)]
      refine ⟨_, rfl, ?_⟩
      refine ⟨_, rfl, ?_⟩
      rw [Bool.not_false, if_pos rfl]
      refine ⟨_, rfl, _, rfl, ?_⟩
      rw [s_eq_i, decide_eq_true rfl]
      exact ret_now h
    | str x =>
      have e1 : isiB (kind (.str x)) "tuple" = false := show isiB "str" "tuple" = false by decide
      rw [e1]
      simp only [Bool.false_eq_true, if_false, s_next]
      subst hC1
      refine seq_step fun C2 hC2 => ?_
      simp
      subst hC2
      refine seq_step fun C3 hC3 => ?_
      simp
      subst hC3
      refine seq_step fun C4 hC4 => ?_
      simp
      subst hC4
      refine seq_step fun C5 hC5 => ?_
      simp only [s_ifS, s_tru, s_cb, s_cons, s_nil, s_var, s_c]
      refine ⟨_, rfl, ?_⟩
      rw [s_isi ok (by simp), show isiB (kind (.str x)) "str" = true from (show isiB "str" "str" = true by decide)]
      refine ⟨_, rfl, ?_⟩
      rw [if_pos rfl]
      simp only [s_seq, s_ret, s_andV, s_cb, s_cons, s_nil, s_var, s_c, s_op]
      refine ⟨_, rfl, ?_⟩
      rw [s_isi ok (by simp), show isiB (kind (.str x)) "str" = true from (show isiB "str" "str" = true by decide)]
      refine ⟨_, rfl, ?_⟩
      rw [if_pos rfl]
      have hx : PyData.canLay0 (.str x) = true := by cases n <;> exact hp
      refine ⟨_, rfl, _, rfl, hx, hx, ?_⟩
      show (dkOf M.length Pd X).rt (.bl (x == x)) M
      rw [beq_self_eq_true]
      exact ret_now h
    | _ => cases n <;> simp [plainD] at hp
end D.k35
end

section
set_option Elab.async false
set_option linter.all false
set_option maxRecDepth 100000
set_option maxHeartbeats 4000000
set_option autoImplicit false
/-! k35: values with one thing changed, also within. -/
namespace D.k35
open PySem PySem.Spec PyProof.Rows L2 D D.P80
/-- data, no deeper than k, no tuple or list longer than b -/
def tm : Nat → Nat → Dv → Bool
  | _, _, .non => true
  | _, _, .bl _ => true
  | _, _, .int _ => true
  | _, _, .str x => PyData.canLay0 (.str x)
  | k + 1, b, .tup l => decide (l.length ≤ b) && l.all (tm k b)
  | k + 1, b, .lst l => decide (l.length ≤ b) && l.all (tm k b)
  | _, _, _ => false
theorem tm_tup {k b : Nat} {l : List Dv} : tm (k + 1) b (.tup l) = true ↔ l.length ≤ b ∧ ∀ d ∈ l, tm k b d = true := by
  rw [tm, Bool.and_eq_true, decide_eq_true_iff, List.all_eq_true]
theorem tm_lst {k b : Nat} {l : List Dv} : tm (k + 1) b (.lst l) = true ↔ l.length ≤ b ∧ ∀ d ∈ l, tm k b d = true := by
  rw [tm, Bool.and_eq_true, decide_eq_true_iff, List.all_eq_true]
theorem tm_mono : ∀ {k b k' b' : Nat} {d : Dv}, tm k b d = true → k ≤ k' → b ≤ b' → tm k' b' d = true
  | _, _, _, _, .non, _, _, _ => by simp [tm]
  | _, _, _, _, .bl _, _, _, _ => by simp [tm]
  | _, _, _, _, .int _, _, _, _ => by simp [tm]
  | k, _, k', _, .str x, h, _, _ => by
    have h' : PyData.canLay0 (.str x) = true := by cases k <;> simpa [tm] using h
    cases k' <;> simpa [tm] using h'
  | k + 1, b, k' + 1, b', .tup l, h, h1, h2 => by
    obtain ⟨a, c⟩ := tm_tup.mp h
    exact tm_tup.mpr ⟨by omega, fun d hd => tm_mono (c d hd) (by omega) h2⟩
  | k + 1, b, k' + 1, b', .lst l, h, h1, h2 => by
    obtain ⟨a, c⟩ := tm_lst.mp h
    exact tm_lst.mpr ⟨by omega, fun d hd => tm_mono (c d hd) (by omega) h2⟩
  | k + 1, _, 0, _, .tup l, h, h1, _ => by omega
  | k + 1, _, 0, _, .lst l, h, h1, _ => by omega
  | 0, _, _, _, .tup l, h, _, _ => by simp [tm] at h
  | 0, _, _, _, .lst l, h, _, _ => by simp [tm] at h
  | k, _, _, _, .obj _ _ l, h, _, _ => by cases k <;> simp [tm] at h
  | k, _, _, _, .ref l, h, _, _ => by cases k <;> simp [tm] at h
  | k, _, _, _, .adr l, h, _, _ => by cases k <;> simp [tm] at h
  | k, _, _, _, .frz l, h, _, _ => by cases k <;> simp [tm] at h
  | k, _, _, _, .ty l, h, _, _ => by cases k <;> simp [tm] at h
  | k, _, _, _, .dic, h, _, _ => by cases k <;> simp [tm] at h
/-- what such a value is -/
theorem tm_ok : ∀ {k b : Nat} {d : Dv}, tm k b d = true → okV d = true ∧ okD d k = true ∧ ∀ n, D.cl n d = true
  | _, _, .non, _ => ⟨rfl, by cases ‹Nat› <;> rfl, fun _ => rfl⟩
  | k, _, .bl _, _ => ⟨rfl, by cases k <;> rfl, fun _ => rfl⟩
  | k, _, .int _, _ => ⟨rfl, by cases k <;> rfl, fun _ => rfl⟩
  | k, _, .str x, h => ⟨rfl, by
    have h' : PyData.canLay0 (.str x) = true := by cases k <;> simpa [tm] using h
    cases k <;> exact h', fun _ => rfl⟩
  | k + 1, b, .tup l, h => by
    obtain ⟨_, c⟩ := tm_tup.mp h
    exact ⟨okVs_of fun d hd => (tm_ok (c d hd)).1, okDs_mono (α := Dv) fun d hd => (tm_ok (c d hd)).2.1, fun n => cls_of fun d hd => (tm_ok (c d hd)).2.2 n⟩
  | k + 1, b, .lst l, h => by
    obtain ⟨_, c⟩ := tm_lst.mp h
    exact ⟨okVs_of fun d hd => (tm_ok (c d hd)).1, okDs_mono (α := Dv) fun d hd => (tm_ok (c d hd)).2.1, fun n => cls_of fun d hd => (tm_ok (c d hd)).2.2 n⟩
  | 0, _, .tup l, h => by simp [tm] at h
  | 0, _, .lst l, h => by simp [tm] at h
  | k, _, .obj _ _ l, h => by cases k <;> simp [tm] at h
  | k, _, .ref l, h => by cases k <;> simp [tm] at h
  | k, _, .adr l, h => by cases k <;> simp [tm] at h
  | k, _, .frz l, h => by cases k <;> simp [tm] at h
  | k, _, .ty l, h => by cases k <;> simp [tm] at h
  | k, _, .dic, h => by cases k <;> simp [tm] at h
theorem tm_str0 (k b : Nat) : tm k b (.str "0") = true := by
  have h : PyData.canLay0 (.str "0") = true := by kernel_rfl
  cases k <;> simpa [tm] using h
theorem tm_one {k b : Nat} {l : List Dv} {x : Dv} {p q : Nat} (hl : l.length ≤ b) (h : ∀ d ∈ l, tm k b d = true) (hx : tm k b x = true) (hpq : p < l.length ∧ q = p + 1) : tm (k + 1) b (.tup (l.take p ++ [x] ++ l.drop q)) = true := by
  refine tm_tup.mpr ⟨by simp; omega, fun d hd => ?_⟩
  rcases List.mem_append.mp hd with hd | hd
  · rcases List.mem_append.mp hd with hd | hd
    · exact h d (List.mem_of_mem_take hd)
    · rw [List.mem_singleton.mp hd]; exact hx
  · exact h d (List.mem_of_mem_drop hd)
def S__law_spoilt (n : Nat) : DSp := fun ds M P _ => ∃ (i j b : Nat) (l : List Dv), ds = [.ref i, .tup l] ∧ Deal i j M ∧ l.length ≤ b ∧ b ≤ 400 ∧ 6 ≤ b ∧ (∀ d ∈ l, tm n b d = true) ∧ ∀ d M', tm (n + 2) (b + 1) d = true → To i j M M' → P d M'
theorem p__law_spoilt (n : Nat) (Sc : DSp) (hc : ∀ m ds M P Y, n = m + 1 → S__law_spoilt m ds M P Y → Sc ds M P Y) : ∀ ds M Pd X, MemOk M → S__law_spoilt n ds M Pd X → t__law_spoilt S__law_any S__law_of Sc (dkOf M.length Pd X) (startD N__law_spoilt ds) M := by
  rintro _ M Pd X mo ⟨i, j, b, ns, rfl, hd, hn, hb4, hb6, hT, h⟩
  show t__law_spoilt S__law_any S__law_of Sc (dkOf M.length Pd X) [some (.ref i), some (.tup ns), none, none, none, none] M
  have hlt := hd.lt
  have rt : ∀ d M', tm (n + 2) (b + 1) d = true → To i j M M' → (dkOf M.length Pd X).rt d M' := fun d M' t to => ret_now (h d M' t to)
  have up : ∀ d ∈ ns, tm (n + 1) (b + 1) d = true := fun d hd => tm_mono (hT d hd) (by omega) (by omega)
  have up0 : ∀ d ∈ ns, tm n (b + 1) d = true := fun d hd => tm_mono (hT d hd) (by omega) (by omega)
  unfold t__law_spoilt
  refine seq_step fun C1 hC1 => ?_
  simp only [s_set, s_call, s_cons, s_nil, s_var, s_c]
  refine ⟨_, rfl, i, j, 9, rfl, hd, by decide, sm_le (by decide), fun form M1 f0 f1 to1 => ?_⟩
  subst hC1
  refine seq_step fun C2 hC2 => ?_
  -- the first way
  have first : ∀ M2, To i j M M2 → dSeq (dRet (dCall S__law_of (dCons (dVar 0) (dCons (dLst (dCons (dCB gList (dCons (dVar 1) dNil)) (dCons (dC .non) (dCons (dOp gAdd (dVar 1) (dTup (dCons (dC (.int 0)) dNil))) (dCons (dOp gAdd (dVar 1) (dSl (dVar 1) dNoP (dPart (dC (.int 1))))) (dCons (dTup (dCons (dVar 1) dNil)) (dCons (dC (.int 0)) dNil))))))) dNil)))) dNext { dkOf M.length Pd X with nx := C2 } [some (.ref i), some (.tup ns), some (.int form), none, none, none] M2 := by
    intro M2 to
    simp only [s_seq, s_ret, s_call, s_cons, s_nil, s_var, s_lst, s_cb, s_c, s_op, s_tup, s_sl, s_noP, s_part]
    refine ⟨_, rfl, _, rfl, ?_⟩
    rw [s_list (e := .tup ns) (x := ns) rfl]
    refine ⟨_, rfl, by simp [sizeLine_eq], ?_⟩
    rw [s_add_t]
    refine ⟨by rw [sizeLine_eq]; simp; omega, _, rfl, _, rfl, _, rfl, ?_⟩
    rw [s_slT, show cutD ns none (some 1) = ns.take 1 from cut_take ns 1, s_add_t]
    refine ⟨by rw [sizeLine_eq]; simp; omega, _, rfl, by simp [sizeLine_eq], by simp [sizeLine_eq], i, j, _, _, rfl, to.dl, fun _ _ => rfl, by simp, by simp, fun d M3 hd3 to3 => ?_⟩
    refine rt d M3 ?_ (to.trans to3)
    simp only [List.mem_cons, List.not_mem_nil, or_false] at hd3
    rcases hd3 with rfl | rfl | rfl | rfl | rfl | rfl
    · exact tm_lst.mpr ⟨by omega, up⟩
    · simp [tm]
    · refine tm_tup.mpr ⟨by simp; omega, fun d hd => ?_⟩
      rcases List.mem_append.mp hd with hd | hd
      · exact up d hd
      · rw [List.mem_singleton.mp hd]; simp [tm]
    · refine tm_tup.mpr ⟨by simp; omega, fun d hd => ?_⟩
      rcases List.mem_append.mp hd with hd | hd
      · exact up d hd
      · exact up d (List.mem_of_mem_take hd)
    · refine tm_tup.mpr ⟨by simp, fun d hd => ?_⟩
      rw [List.mem_singleton.mp hd]
      exact tm_tup.mpr ⟨by omega, up0⟩
    · simp [tm]
  simp only [s_ifS, s_or, s_test, s_op, s_cb, s_cons, s_nil, s_var, s_c]
  refine ⟨_, rfl, ?_⟩
  show gEq (.int form) (.int 0) _ _
  rw [s_eq_i]
  refine ⟨_, rfl, ?_⟩
  by_cases e0 : form = 0
  · rw [decide_eq_true e0, if_pos rfl]
    exact first M1 to1
  rw [decide_eq_false e0, if_neg (by simp)]
  refine ⟨_, rfl, ?_⟩
  rw [s_len (e := .tup ns) (x := ns) rfl]
  show gEq (.int _) (.int 0) _ _
  rw [s_eq_i]
  refine ⟨_, rfl, ?_⟩
  by_cases en : ns.length = 0
  · rw [decide_eq_true (by omega), if_pos rfl]
    exact first M1 to1
  rw [decide_eq_false (by omega), if_neg (by simp)]
  clear first
  simp only [s_next]
  subst hC2
  refine seq_step fun C3 hC3 => ?_
  simp only [s_set, s_call, s_cons, s_nil, s_var, s_cb]
  refine ⟨_, rfl, _, rfl, ?_⟩
  rw [s_len (e := .tup ns) (x := ns) rfl]
  refine ⟨i, j, _, rfl, to1.dl, by omega, sm_le (by omega), fun r M2 r0 r1 to2 => ?_⟩
  have to := to1.trans to2
  obtain ⟨a, rfl⟩ := Int.eq_ofNat_of_zero_le r0
  have ha : a < ns.length := by omega
  have cut1 : cutD ns (some ((a : Int) + 1)) none = ns.drop (a + 1) := cut_drop ns (a + 1)
  subst hC3
  refine seq_step fun C4 hC4 => ?_
  simp only [s_ifS, s_test, s_op, s_var, s_c]
  refine ⟨_, rfl, ?_⟩
  show gEq (.int form) (.int 1) _ _
  rw [s_eq_i]
  refine ⟨_, rfl, ?_⟩
  by_cases e1 : form = 1
  · rw [decide_eq_true e1, if_pos rfl]
    simp only [s_seq, s_ret, s_op, s_sl, s_var, s_noP, s_part, s_c]
    refine ⟨_, rfl, _, rfl, _, rfl, ?_⟩
    rw [s_slT, cut_take]
    refine ⟨_, rfl, _, rfl, ?_⟩
    show gAdd (.int (a : Int)) (.int 1) _ _
    rw [s_add_i]
    refine ⟨_, rfl, ?_⟩
    rw [s_slT, cut1, s_add_t]
    refine ⟨by rw [sizeLine_eq]; simp; omega, rt _ _ (tm_tup.mpr ⟨by simp; omega, fun d hd => ?_⟩) to⟩
    rcases List.mem_append.mp hd with hd | hd
    · exact up d (List.mem_of_mem_take hd)
    · exact up d (List.mem_of_mem_drop hd)
  rw [decide_eq_false e1, if_neg (by simp)]
  simp only [s_next]
  subst hC4
  refine seq_step fun C5 hC5 => ?_
  simp only [s_ifS, s_test, s_op, s_var, s_c]
  refine ⟨_, rfl, ?_⟩
  show gEq (.int form) (.int 2) _ _
  rw [s_eq_i]
  refine ⟨_, rfl, ?_⟩
  by_cases e2 : form = 2
  · rw [decide_eq_true e2, if_pos rfl]
    simp only [s_seq, s_ret]
    exact s_revT (xs := ns) rfl (rt _ _ (tm_tup.mpr ⟨by simp; omega, fun d hd => up d (List.mem_reverse.mp hd)⟩) to)
  rw [decide_eq_false e2, if_neg (by simp)]
  simp only [s_next]
  subst hC5
  refine seq_step fun C6 hC6 => ?_
  simp only [s_ifS, s_test, s_op, s_var, s_c]
  refine ⟨_, rfl, ?_⟩
  show gEq (.int form) (.int 3) _ _
  rw [s_eq_i]
  refine ⟨_, rfl, ?_⟩
  by_cases e3 : form = 3
  · rw [decide_eq_true e3, if_pos rfl]
    refine seq_step fun D1 hD1 => ?_
    simp only [s_set, s_call, s_cons, s_nil, s_var, s_cb]
    refine ⟨_, rfl, _, rfl, ?_⟩
    rw [s_len (e := .tup ns) (x := ns) rfl]
    refine ⟨i, j, _, rfl, to.dl, by omega, sm_le (by omega), fun r M3 q0 q1 to3 => ?_⟩
    have too := to.trans to3
    obtain ⟨c, rfl⟩ := Int.eq_ofNat_of_zero_le q0
    have hb : c < ns.length := by omega
    subst hD1
    refine seq_step fun D2 hD2 => ?_
    simp only [s_set, s_listM, s_cons, s_nil, s_var]
    refine ⟨_, rfl, _, ns, rfl, rfl, ?_⟩
    have g1 : (M3 ++ [MO.lst ns])[M3.length]? = some (.lst ns) := by simp
    have gb : ns[c]? = some (ns[c]'hb) := List.getElem?_eq_getElem hb
    have ga : ns[a]? = some (ns[a]'ha) := List.getElem?_eq_getElem ha
    subst hD2
    refine seq_step fun D3 hD3 => ?_
    simp only [s_asg, s_tup, s_cons, s_nil, s_op, s_var]
    refine ⟨_, rfl, _, rfl, s_ixn (seqD_ref g1) gb ⟨_, rfl, _, rfl, s_ixn (seqD_ref g1) ga ⟨by simp [sizeLine_eq], ?_⟩⟩⟩
    simp only [s_gT, s_gsC, s_gsN, s_gSub, s_var]
    refine ⟨_, rfl, rfl, _, _, rfl, _, rfl, _, rfl, M3.length, (a : Int), ns, a, rfl, rfl, g1, ixN_nat ha, _, _, rfl, _, rfl, _, rfl, M3.length, (c : Int), _, c, rfl, rfl, set_self g1, ixN_nat (by rw [List.length_set]; exact hb), rfl, ?_⟩
    subst hD3
    simp only [s_seq, s_ret, s_cb, s_cons, s_nil, s_var]
    have ml : M3.length = M.length := too.len
    have tx : Tx i j M (((M3 ++ [MO.lst ns]).set M3.length (.lst (ns.set a ns[c]))).set M3.length (.lst ((ns.set a ns[c]).set c ns[a]))) := ((too.tx.app _).set hd (by omega)).set hd (by omega)
    have tmd : ∀ d ∈ (ns.set a ns[c]).set c ns[a], tm n b d = true := fun d hd => by
      rcases List.mem_or_eq_of_mem_set hd with hd | rfl
      · rcases List.mem_or_eq_of_mem_set hd with hd | rfl
        · exact hT d hd
        · exact hT _ (List.getElem_mem hb)
      · exact hT _ (List.getElem_mem ha)
    refine ⟨_, rfl, _, _, rfl, seqD_ref (set_self (set_self g1)), tx.ret mo hd (cls_of fun d hd => (tm_ok (tmd d hd)).2.2 _) fun M' to' => h _ M' (tm_tup.mpr ⟨by simp; omega, fun d hd => tm_mono (tmd d hd) (by omega) (by omega)⟩) to'⟩
  rw [decide_eq_false e3, if_neg (by simp)]
  simp only [s_next]
  subst hC6
  refine seq_step fun C7 hC7 => ?_
  simp only [s_ifS, s_tru, s_cb, s_cons, s_nil, s_op, s_var, s_c]
  have ga : ns[a]? = some (ns[a]'ha) := List.getElem?_eq_getElem ha
  have ta := hT _ (List.getElem_mem ha)
  refine ⟨_, rfl, _, rfl, s_ixn (x := ns) rfl ga ?_⟩
  rw [s_isi (tm_ok ta).1 (by simp)]
  refine ⟨_, rfl, ?_⟩
  -- one put in
  have last : ∀ (M3 : Mem) (x : Dv), To i j M M3 → tm (n + 1) (b + 1) x = true → [x].length ≤ sizeLine ∧ gAdd (.tup (ns.take a)) (.tup [x]) M3 fun d => gAdd d (.tup (ns.drop (a + 1))) M3 fun d => (dkOf M.length Pd X).rt d M3 := by
    intro M3 x to3 hx
    refine ⟨by simp [sizeLine_eq], ?_⟩
    rw [s_add_t]
    refine ⟨by rw [sizeLine_eq]; simp; omega, ?_⟩
    rw [s_add_t]
    exact ⟨by rw [sizeLine_eq]; simp; omega, rt _ _ (tm_one (by omega) up hx ⟨ha, rfl⟩) to3⟩
  by_cases et : ∃ l, ns[a] = .tup l
  · obtain ⟨l, el⟩ := et
    rw [el] at ta ga ⊢
    have ei : isiB (kind (.tup l)) "tuple" = true := show isiB "tuple" "tuple" = true by decide
    rw [ei, if_pos rfl]
    cases n with
    | zero => simp [tm] at ta
    | succ m =>
      obtain ⟨t1, t2⟩ := tm_tup.mp ta
      simp only [s_seq, s_ret, s_op, s_sl, s_var, s_noP, s_part, s_c, s_tup, s_cons, s_nil, s_call]
      refine ⟨_, rfl, _, rfl, _, rfl, ?_⟩
      rw [s_slT, cut_take]
      refine ⟨_, rfl, _, rfl, _, rfl, s_ixn (x := ns) rfl ga (hc m _ _ _ _ rfl ⟨i, j, b, l, rfl, to.dl, t1, hb4, hb6, t2, fun x M3 hx to3 => ?_⟩)⟩
      obtain ⟨l1, l2⟩ := last M3 x (to.trans to3) hx
      refine ⟨l1, ?_⟩
      rw [s_add_t] at l2 ⊢
      refine ⟨l2.1, _, rfl, _, rfl, ?_⟩
      show gAdd (.int (a : Int)) (.int 1) _ _
      rw [s_add_i]
      refine ⟨_, rfl, ?_⟩
      rw [s_slT, cut1]
      exact l2.2
  have ei : isiB (kind ns[a]) "tuple" = false := by
    have := (tm_ok ta).1
    generalize ns[a] = v at et this
    cases v <;> first | decide | rfl | exact absurd ⟨_, rfl⟩ et | (cases this)
  rw [ei, if_neg (by simp)]
  simp only [s_next]
  subst hC7
  refine seq_step fun C8 hC8 => ?_
  simp only [s_ifS, s_test, s_op, s_var, s_c]
  refine ⟨_, rfl, ?_⟩
  show gEq (.int form) (.int 4) _ _
  rw [s_eq_i]
  refine ⟨_, rfl, ?_⟩
  by_cases e4 : form = 4
  · rw [decide_eq_true e4, if_pos rfl]
    simp only [s_seq, s_ret, s_op, s_sl, s_var, s_noP, s_part, s_c, s_tup, s_cons, s_nil, s_call, s_lst, s_un]
    refine ⟨_, rfl, _, rfl, _, rfl, ?_⟩
    rw [s_slT, cut_take]
    refine ⟨_, rfl, ?_⟩
    show gNeg (.int 1) _ _
    rw [s_neg]
    refine ⟨by simp [sizeLine_eq], i, j, _, _, rfl, to.dl, fun _ _ => rfl, by simp, by simp, fun x M3 hx to3 => ?_⟩
    have ok : tm (n + 1) (b + 1) x = true := by
      simp only [List.mem_cons, List.not_mem_nil, or_false] at hx
      rcases hx with rfl | rfl | rfl | rfl | rfl | rfl <;> first | exact tm_str0 _ _ | simp [tm]
    obtain ⟨l1, l2⟩ := last M3 x (to.trans to3) ok
    refine ⟨l1, ?_⟩
    rw [s_add_t] at l2 ⊢
    refine ⟨l2.1, _, rfl, _, rfl, ?_⟩
    show gAdd (.int (a : Int)) (.int 1) _ _
    rw [s_add_i]
    refine ⟨_, rfl, ?_⟩
    rw [s_slT, cut1]
    exact l2.2
  rw [decide_eq_false e4, if_neg (by simp)]
  simp only [s_next]
  subst hC8
  simp only [s_seq, s_ret, s_op, s_sl, s_var, s_noP, s_part, s_c, s_tup, s_cons, s_nil, s_call]
  refine ⟨_, rfl, _, rfl, _, rfl, ?_⟩
  rw [s_slT, cut_take]
  refine ⟨_, rfl, i, j, 8, rfl, to.dl, by decide, sm_le (by decide), fun r M3 q0 q1 to3 => ?_⟩
  obtain ⟨l1, l2⟩ := last M3 (.int r) (to.trans to3) (by simp [tm])
  refine ⟨l1, ?_⟩
  rw [s_add_t] at l2 ⊢
  refine ⟨l2.1, _, rfl, _, rfl, ?_⟩
  show gAdd (.int (a : Int)) (.int 1) _ _
  rw [s_add_i]
  refine ⟨_, rfl, ?_⟩
  rw [s_slT, cut1]
  exact l2.2
end D.k35
end

section
set_option Elab.async false
set_option linter.all false
set_option maxRecDepth 100000
set_option maxHeartbeats 8000000
set_option autoImplicit false
/-! k35: foldings with one thing changed. -/
namespace D.k35
open PySem PySem.Spec PyProof.Rows L2 D D.P80
theorem cut_mem {l : List Dv} {lo hi : Option Int} : ∀ d ∈ cutD l lo hi, d ∈ l := fun d h => List.mem_of_mem_drop (List.mem_of_mem_take h)
theorem cut_len {l : List Dv} {lo hi : Option Int} : (cutD l lo hi).length ≤ l.length := by
  unfold cutD
  rw [List.length_take, List.length_drop]; omega
theorem tm_int (k b : Nat) (i : Int) : tm k b (.int i) = true := by simp [tm]
theorem tm_tupI {k b : Nat} {l : Lot} (h : l.length ≤ b) : tm (k + 1) b (tupI l) = true := tm_tup.mpr ⟨by simpa using h, fun d hd => by
  obtain ⟨n, _, rfl⟩ := List.mem_map.mp hd
  exact tm_int _ _ _⟩
theorem tm_two {k b : Nat} {x y : Dv} (hx : tm k b x = true) (hy : tm k b y = true) (hb : 2 ≤ b) : tm (k + 1) b (.tup [x, y]) = true := tm_tup.mpr ⟨hb, fun d hd => by
  simp only [List.mem_cons, List.not_mem_nil, or_false] at hd
  rcases hd with rfl | rfl
  · exact hx
  · exact hy⟩
theorem tm_pair {b : Nat} {p : Lot × Lot} (h1 : p.1.length ≤ b) (h2 : p.2.length ≤ b) (hb : 2 ≤ b) : tm 2 b (pairV p) = true := tm_two (tm_tupI h1) (tm_tupI h2) hb
def S__law_turned : DSp := fun ds M P _ => ∃ (i j : Nat) (ls : List Lot) (ps : List (Lot × Lot)), ds = [.ref i, .lst (ls.map tupI), .tup (ps.map pairV)] ∧ Deal i j M ∧ 0 < ls.length ∧ ls.length ≤ 100 ∧ ps.length ≤ 100 ∧ (∀ l ∈ ls, l.length ≤ 100) ∧ (∀ p ∈ ps, p.1.length ≤ 100 ∧ p.2.length ≤ 100) ∧ ∀ d M', tm 10 200 d = true → To i j M M' → P d M'
theorem p__law_turned (Sc : DSp) (hc : ∀ ds M P Y, S__law_spoilt 2 ds M P Y → Sc ds M P Y) : ∀ ds M Pd X, MemOk M → S__law_turned ds M Pd X → t__law_turned Sc S__law_of S__law_any (dkOf M.length Pd X) (startD N__law_turned ds) M := by
  rintro _ M Pd X mo ⟨i, j, ls, ps, rfl, hd, l0, l1, p1, hl, hp, h⟩
  show t__law_turned Sc S__law_of S__law_any (dkOf M.length Pd X) [some (.ref i), some (.lst (ls.map tupI)), some (.tup (ps.map pairV)), none, none, none, none, none, none] M
  have rt : ∀ d M', tm 10 200 d = true → To i j M M' → (dkOf M.length Pd X).rt d M' := fun d M' t to => ret_now (h d M' t to)
  have tl : ∀ l ∈ ls, tm 4 200 (tupI l) = true := fun l hl2 => tm_tupI (by have := hl l hl2; omega)
  have tv : ∀ d ∈ ps.map pairV, tm 2 100 d = true := fun d hd => by
    obtain ⟨p, hp2, rfl⟩ := List.mem_map.mp hd
    exact tm_pair (hp p hp2).1 (hp p hp2).2 (by omega)
  have vl : (ps.map pairV).length ≤ 100 := by simpa using p1
  unfold t__law_turned
  refine seq_step fun C1 hC1 => ?_
  simp only [s_set, s_call, s_cons, s_nil, s_var, s_c]
  refine ⟨_, rfl, i, j, 6, rfl, hd, by decide, sm_le (by decide), fun form M1 f0 f1 to1 => ?_⟩
  subst hC1
  refine seq_step fun C2 hC2 => ?_
  have first : ∀ M2, To i j M M2 → dSeq (dRet (dCall S__law_of (dCons (dVar 0) (dCons (dLst (dCons (dCB gList (dCons (dVar 2) dNil)) (dCons (dC .non) (dCons (dOp gAdd (dVar 2) (dTup (dCons (dTup (dCons (dOp gIx (dVar 1) (dC (.int 0))) (dCons (dOp gIx (dVar 1) (dUn gNeg (dC (.int 1)))) dNil))) dNil))) (dCons (dTup dNil) (dCons (dSl (dVar 2) dNoP (dPart (dUn gNeg (dC (.int 1))))) (dCons (dTup (dCons (dTup (dCons (dC (.bl true)) (dCons (dC (.bl false)) dNil))) dNil)) dNil))))))) dNil)))) dNext { dkOf M.length Pd X with nx := C2 } [some (.ref i), some (.lst (ls.map tupI)), some (.tup (ps.map pairV)), some (.int form), none, none, none, none, none] M2 := by
    intro M2 to
    generalize ps.map pairV = vs at tv vl
    obtain ⟨as, z, rfl⟩ : ∃ as z, ls = as ++ [z] := by
      rcases List.eq_nil_or_concat ls with rfl | ⟨as, z, e⟩
      · simp at l0
      · exact ⟨as, z, by rw [e, List.concat_eq_append]⟩
    obtain ⟨a0, ha0⟩ : ∃ a0, (as ++ [z])[0]? = some a0 := ⟨_, List.getElem?_eq_getElem l0⟩
    have ma0 : a0 ∈ as ++ [z] := List.mem_of_getElem? ha0
    simp only [s_seq, s_ret, s_call, s_cons, s_nil, s_var, s_lst, s_cb, s_c, s_op, s_tup, s_sl, s_noP, s_part, s_un]
    refine ⟨_, rfl, _, rfl, ?_⟩
    rw [s_list (e := .tup vs) (x := vs) rfl]
    refine ⟨_, rfl, _, rfl, s_ixn (n := 0) (x := (as ++ [z]).map tupI) rfl (by rw [List.getElem?_map, ha0]; rfl) ⟨_, rfl, ?_⟩⟩
    show gNeg (.int 1) _ _
    rw [s_neg]
    refine s_ix (a := -1) (x := (as ++ [z]).map tupI) rfl (by rw [List.map_append]; exact atI_neg1 _ _) ⟨by simp [sizeLine_eq], by simp [sizeLine_eq], ?_⟩
    rw [s_add_t]
    refine ⟨by rw [sizeLine_eq]; simp; omega, by simp [sizeLine_eq], _, rfl, ?_⟩
    show gNeg (.int 1) _ _
    rw [s_neg]
    refine ⟨_, rfl, ?_⟩
    rw [s_slT]
    refine ⟨by simp [sizeLine_eq], by simp [sizeLine_eq], by simp [sizeLine_eq], i, j, _, _, rfl, to.dl, fun _ _ => rfl, by simp, by simp, fun d M3 hd3 to3 => ?_⟩
    refine rt d M3 ?_ (to.trans to3)
    have up : ∀ d ∈ vs, tm 9 200 d = true := fun d hd => tm_mono (tv d hd) (by omega) (by omega)
    simp only [List.mem_cons, List.not_mem_nil, or_false] at hd3
    rcases hd3 with rfl | rfl | rfl | rfl | rfl | rfl
    · exact tm_lst.mpr ⟨by omega, up⟩
    · simp [tm]
    · refine tm_tup.mpr ⟨by simp; omega, fun d hd => ?_⟩
      rcases List.mem_append.mp hd with hd | hd
      · exact up d hd
      · rw [List.mem_singleton.mp hd]
        exact tm_mono (tm_two (tl a0 ma0) (tl z (by simp)) (by omega)) (by omega) (Nat.le_refl _)
    · exact tm_tup.mpr ⟨by simp, fun d hd => by cases hd⟩
    · exact tm_tup.mpr ⟨by have := cut_len (l := vs) (lo := none) (hi := some (-1)); omega, fun d hd => up d (cut_mem d hd)⟩
    · refine tm_tup.mpr ⟨by simp, fun d hd => ?_⟩
      rw [List.mem_singleton.mp hd]
      exact tm_mono (tm_two (k := 0) (b := 200) (by simp [tm]) (by simp [tm]) (by omega)) (by omega) (Nat.le_refl _)
  simp only [s_ifS, s_or, s_test, s_op, s_cb, s_cons, s_nil, s_var, s_c]
  refine ⟨_, rfl, ?_⟩
  rw [s_len (e := .tup (ps.map pairV)) (x := ps.map pairV) rfl]
  show gEq (.int _) (.int 0) _ _
  rw [s_eq_i]
  refine ⟨_, rfl, ?_⟩
  by_cases en : (ps.map pairV).length = 0
  · rw [decide_eq_true (by omega), if_pos rfl]
    exact first M1 to1
  rw [decide_eq_false (by omega), if_neg (by simp)]
  refine ⟨_, rfl, ?_⟩
  show gEq (.int form) (.int 0) _ _
  rw [s_eq_i]
  refine ⟨_, rfl, ?_⟩
  by_cases e0 : form = 0
  · rw [decide_eq_true e0, if_pos rfl]
    exact first M1 to1
  rw [decide_eq_false e0, if_neg (by simp)]
  clear first
  simp only [s_next]
  subst hC2
  refine seq_step fun C3 hC3 => ?_
  simp only [s_set, s_call, s_cons, s_nil, s_var, s_cb]
  refine ⟨_, rfl, _, rfl, ?_⟩
  rw [s_len (e := .tup (ps.map pairV)) (x := ps.map pairV) rfl]
  refine ⟨i, j, _, rfl, to1.dl, by omega, sm_le (by omega), fun r M2 r0 r1 to2 => ?_⟩
  have to := to1.trans to2
  obtain ⟨a, rfl⟩ := Int.eq_ofNat_of_zero_le r0
  have ha : a < ps.length := by rw [List.length_map] at r1; omega
  obtain ⟨p, gp⟩ : ∃ p, ps[a]? = some p := ⟨_, List.getElem?_eq_getElem ha⟩
  have mp : p ∈ ps := List.mem_of_getElem? gp
  obtain ⟨pa, pb⟩ := hp p mp
  have ga : (ps.map pairV)[a]? = some (pairV p) := by rw [List.getElem?_map, gp]; rfl
  have cut1 : cutD (ps.map pairV) (some ((a : Int) + 1)) none = (ps.map pairV).drop (a + 1) := cut_drop _ (a + 1)
  subst hC3
  refine seq_step fun C4 hC4 => ?_
  simp only [s_asg, s_op, s_var]
  refine ⟨_, rfl, _, rfl, s_ixn (x := ps.map pairV) rfl ga ?_⟩
  simp only [s_gT, s_gsC, s_gsN, s_gN]
  refine ⟨_, rfl, rfl, _, _, rfl, _, _, rfl, rfl, ?_⟩
  subst hC4
  -- one pair put in
  have put : ∀ (M3 : Mem) (x y : Dv), To i j M M3 → tm 5 200 x = true → tm 5 200 y = true → [x, y].length ≤ sizeLine ∧ [Dv.tup [x, y]].length ≤ sizeLine ∧ gAdd (.tup ((ps.map pairV).take a)) (.tup [.tup [x, y]]) M3 fun d => gAdd d (.tup ((ps.map pairV).drop (a + 1))) M3 fun d => (dkOf M.length Pd X).rt d M3 := by
    intro M3 x y to3 hx hy
    generalize ps.map pairV = vs at tv vl
    refine ⟨by simp [sizeLine_eq], by simp [sizeLine_eq], ?_⟩
    rw [s_add_t]
    refine ⟨by rw [sizeLine_eq]; simp; omega, ?_⟩
    rw [s_add_t]
    refine ⟨by rw [sizeLine_eq]; simp; omega, rt _ _ (tm_tup.mpr ⟨by simp; omega, fun d hd => ?_⟩) to3⟩
    have up : ∀ d ∈ vs, tm 9 200 d = true := fun d hd => tm_mono (tv d hd) (by omega) (by omega)
    rcases List.mem_append.mp hd with hd | hd
    · rcases List.mem_append.mp hd with hd | hd
      · exact up d (List.mem_of_mem_take hd)
      · rw [List.mem_singleton.mp hd]
        exact tm_mono (tm_two hx hy (by omega)) (by omega) (Nat.le_refl _)
    · exact up d (List.mem_of_mem_drop hd)
  have t1 : tm 5 200 (tupI p.1) = true := tm_tupI (by omega)
  have t2 : tm 5 200 (tupI p.2) = true := tm_tupI (by omega)
  have tl5 : ∀ l ∈ ls, tm 5 200 (tupI l) = true := fun l hl2 => tm_tupI (by have := hl l hl2; omega)
  refine seq_step fun C5 hC5 => ?_
  simp only [s_ifS, s_test, s_op, s_var, s_c]
  refine ⟨_, rfl, ?_⟩
  show gEq (.int form) (.int 1) _ _
  rw [s_eq_i]
  refine ⟨_, rfl, ?_⟩
  by_cases e1 : form = 1
  · rw [decide_eq_true e1, if_pos rfl]
    simp only [s_seq, s_ret, s_op, s_sl, s_var, s_noP, s_part, s_c, s_tup, s_cons, s_nil, s_call]
    refine ⟨_, rfl, _, rfl, _, rfl, ?_⟩
    rw [s_slT, cut_take]
    refine ⟨_, rfl, _, rfl, _, rfl, i, j, _, ls.map tupI, rfl, to.dl, fun _ _ => rfl, by simpa using l0, by rw [List.length_map]; omega, fun x M3 hx to3 => ?_⟩
    obtain ⟨l, hl2, rfl⟩ := List.mem_map.mp hx
    obtain ⟨q1, q2, q3⟩ := put M3 (tupI p.1) (tupI l) (to.trans to3) t1 (tl5 l hl2)
    refine ⟨q1, q2, ?_⟩
    rw [s_add_t] at q3 ⊢
    refine ⟨q3.1, _, rfl, _, rfl, ?_⟩
    show gAdd (.int (a : Int)) (.int 1) _ _
    rw [s_add_i]
    refine ⟨_, rfl, ?_⟩
    rw [s_slT, cut1]
    exact q3.2
  rw [decide_eq_false e1, if_neg (by simp)]
  simp only [s_next]
  subst hC5
  refine seq_step fun C6 hC6 => ?_
  simp only [s_ifS, s_test, s_op, s_var, s_c]
  refine ⟨_, rfl, ?_⟩
  show gEq (.int form) (.int 2) _ _
  rw [s_eq_i]
  refine ⟨_, rfl, ?_⟩
  by_cases e2 : form = 2
  · rw [decide_eq_true e2, if_pos rfl]
    simp only [s_seq, s_ret, s_op, s_sl, s_var, s_noP, s_part, s_c, s_tup, s_cons, s_nil, s_call]
    refine ⟨_, rfl, _, rfl, _, rfl, ?_⟩
    rw [s_slT, cut_take]
    refine ⟨_, rfl, _, rfl, i, j, _, ls.map tupI, rfl, to.dl, fun _ _ => rfl, by simpa using l0, by rw [List.length_map]; omega, fun x M3 hx to3 => ?_⟩
    obtain ⟨l, hl2, rfl⟩ := List.mem_map.mp hx
    obtain ⟨q1, q2, q3⟩ := put M3 (tupI l) (tupI p.2) (to.trans to3) (tl5 l hl2) t2
    refine ⟨_, rfl, q1, q2, ?_⟩
    rw [s_add_t] at q3 ⊢
    refine ⟨q3.1, _, rfl, _, rfl, ?_⟩
    show gAdd (.int (a : Int)) (.int 1) _ _
    rw [s_add_i]
    refine ⟨_, rfl, ?_⟩
    rw [s_slT, cut1]
    exact q3.2
  rw [decide_eq_false e2, if_neg (by simp)]
  simp only [s_next]
  subst hC6
  refine seq_step fun C7 hC7 => ?_
  simp only [s_ifS, s_test, s_op, s_var, s_c]
  refine ⟨_, rfl, ?_⟩
  show gEq (.int form) (.int 3) _ _
  rw [s_eq_i]
  refine ⟨_, rfl, ?_⟩
  by_cases e3 : form = 3
  · rw [decide_eq_true e3, if_pos rfl]
    simp only [s_seq, s_ret, s_op, s_sl, s_var, s_noP, s_part, s_c, s_tup, s_cons, s_nil]
    refine ⟨_, rfl, _, rfl, _, rfl, ?_⟩
    rw [s_slT, cut_take]
    obtain ⟨q1, q2, q3⟩ := put M2 (tupI p.2) (tupI p.1) to t2 t1
    refine ⟨_, rfl, _, rfl, q1, q2, ?_⟩
    rw [s_add_t] at q3 ⊢
    refine ⟨q3.1, _, rfl, _, rfl, ?_⟩
    show gAdd (.int (a : Int)) (.int 1) _ _
    rw [s_add_i]
    refine ⟨_, rfl, ?_⟩
    rw [s_slT, cut1]
    exact q3.2
  rw [decide_eq_false e3, if_neg (by simp)]
  simp only [s_next]
  subst hC7
  refine seq_step fun C8 hC8 => ?_
  simp only [s_ifS, s_test, s_op, s_var, s_c]
  refine ⟨_, rfl, ?_⟩
  show gEq (.int form) (.int 4) _ _
  rw [s_eq_i]
  refine ⟨_, rfl, ?_⟩
  by_cases e4 : form = 4
  · rw [decide_eq_true e4, if_pos rfl]
    refine seq_step fun D1 hD1 => ?_
    simp only [s_set, s_lst, s_cons, s_nil, s_cb, s_comp, s_iSeq, s_var]
    refine ⟨_, rfl, _, rfl, le_size (by rw [List.length_map]; omega), compM Dv.int (fun k => if k < 2 then .bl (decide (k = 1)) else .int k) rfl (fun k hk C hC => ?_) ?_⟩
    · simp only [s_if, s_test, s_op, s_var, s_c]
      refine ⟨_, rfl, ?_⟩
      show gLt (.int k) (.int 2) _ _
      rw [s_lt]
      refine ⟨_, rfl, ?_⟩
      by_cases e : k < 2
      · rw [decide_eq_true e, if_pos rfl]
        rw [if_pos e] at hC
        refine ⟨_, rfl, ?_⟩
        show gEq (.int k) (.int 1) _ _
        rw [s_eq_i]; exact hC
      · rw [decide_eq_false e, if_neg (by simp)]
        rw [if_neg e] at hC
        exact ⟨_, rfl, hC⟩
    generalize hA : p.1.map (fun k : Int => if k < 2 then Dv.bl (decide (k = 1)) else .int k) = A
    rw [s_tuple (e := .lst A) (x := A) rfl]
    refine ⟨_, rfl, ?_⟩
    rw [s_list (e := tupI p.1) (x := nms p.1) rfl]
    refine s_revT (xs := nms p.1) rfl ?_
    simp only [s_op, s_var, s_tup, s_cons, s_nil, s_c, s_sl, s_noP, s_part]
    refine ⟨_, rfl, by simp [sizeLine_eq], ?_⟩
    rw [s_add_t]
    refine ⟨by rw [sizeLine_eq]; simp; omega, _, rfl, _, rfl, ?_⟩
    rw [s_slT]
    refine ⟨by simp [sizeLine_eq], ?_⟩
    subst hD1
    simp only [s_seq, s_ret, s_op, s_sl, s_var, s_noP, s_part, s_c, s_tup, s_cons, s_nil, s_call]
    refine ⟨_, rfl, _, rfl, _, rfl, ?_⟩
    rw [s_slT, cut_take]
    refine ⟨_, rfl, _, rfl, i, j, _, _, rfl, to.dl, fun _ _ => rfl, by simp, by simp, fun x M3 hx to3 => ?_⟩
    have ti : ∀ d ∈ nms p.1, tm 4 200 d = true := fun d hd => by
      obtain ⟨n, _, rfl⟩ := List.mem_map.mp hd
      exact tm_int _ _ _
    have tx : tm 5 200 x = true := by
      simp only [List.mem_cons, List.not_mem_nil, or_false] at hx
      rcases hx with rfl | rfl | rfl | rfl | rfl
      · refine tm_tup.mpr ⟨by rw [← hA, List.length_map]; omega, fun d hd => ?_⟩
        rw [← hA] at hd
        obtain ⟨n, _, rfl⟩ := List.mem_map.mp hd
        split <;> simp [tm]
      · exact tm_lst.mpr ⟨by simp; omega, ti⟩
      · exact tm_tup.mpr ⟨by simp; omega, fun d hd => ti d (List.mem_reverse.mp hd)⟩
      · refine tm_tup.mpr ⟨by simp; omega, fun d hd => ?_⟩
        rcases List.mem_append.mp hd with hd | hd
        · exact ti d hd
        · rw [List.mem_singleton.mp hd]; simp [tm]
      · exact tm_tup.mpr ⟨Nat.le_trans cut_len (by rw [List.length_map]; omega), fun d hd => ti d (cut_mem d hd)⟩
    obtain ⟨q1, q2, q3⟩ := put M3 x (tupI p.2) (to.trans to3) tx t2
    refine ⟨_, rfl, q1, q2, ?_⟩
    rw [s_add_t] at q3 ⊢
    refine ⟨q3.1, _, rfl, _, rfl, ?_⟩
    show gAdd (.int (a : Int)) (.int 1) _ _
    rw [s_add_i]
    refine ⟨_, rfl, ?_⟩
    rw [s_slT, cut1]
    exact q3.2
  rw [decide_eq_false e4, if_neg (by simp)]
  simp only [s_next]
  subst hC8
  simp only [s_seq, s_ret, s_call, s_cons, s_nil, s_var]
  exact ⟨_, rfl, _, rfl, hc _ _ _ _ ⟨i, j, 100, ps.map pairV, rfl, to.dl, vl, by omega, by omega, tv, fun d M3 hd3 to3 => rt d M3 (tm_mono hd3 (by omega) (by omega)) (to.trans to3)⟩⟩
end D.k35
end

section
set_option Elab.async false
set_option linter.all false
set_option maxRecDepth 100000
set_option maxHeartbeats 4000000
set_option autoImplicit false
/-! k35: a folding is told. -/
namespace D.k35
open PySem PySem.Spec PyProof.Rows L2 D D.P80
theorem ac_on {R : List Lot} {e m : Lot} (h : Ac (R.filter fun l => decide (l ≠ e))) (he : e ∈ R) (hm : Holds R e m) : Ac R := by
  have g := h.grow (e := e) (b := m) (us := e.filter fun x => decide (¬ ∃ l ∈ R, l ≠ e ∧ x ∈ l)) (List.mem_filter.mpr ⟨hm.1, decide_eq_true hm.2.1⟩) (fun x hx => ?_) (fun u hu => ?_)
  · refine g.cov (cov_sub fun l hl => ?_) (cov_sub fun l hl => ?_)
    · rcases List.mem_append.mp hl with hl | hl
      · exact (List.mem_filter.mp hl).1
      · rw [List.mem_singleton.mp hl]; exact he
    · by_cases q : l = e
      · exact List.mem_append_right _ (List.mem_singleton.mpr q)
      · exact List.mem_append_left _ (List.mem_filter.mpr ⟨hl, decide_eq_true q⟩)
  · by_cases q : ∃ l ∈ R, l ≠ e ∧ x ∈ l
    · exact .inl (hm.2.2 x hx q)
    · exact .inr (List.mem_filter.mpr ⟨hx, decide_eq_true q⟩)
  · obtain ⟨u1, u2⟩ := List.mem_filter.mp hu
    refine ⟨u1, fun l hl hul => ?_⟩
    obtain ⟨l1, l2⟩ := List.mem_filter.mp hl
    exact of_decide_eq_true u2 ⟨l, l1, of_decide_eq_true l2, hul⟩
theorem ac_few {R : List Lot} (h : R.length ≤ 1) : Ac R := by
  match R, h with
  | [], _ => exact ⟨[], trivial, fun l hl => by cases hl⟩
  | [l], _ => exact ⟨l, Ord.one (R := [l]) (l := l) List.mem_cons_self fun v hv => hv, fun m hm x hx => by rw [List.mem_singleton.mp hm] at hx; exact hx⟩
theorem hold_B {R : List Lot} {e m : Lot} : holdL R e = (offL R e).filter (holdB e (offL R e)) := rfl
def S_folding (K : PySem.W.Frag) (C : Addr) : DSp := fun ds M P _ => ∃ (k : Nat) (R : List Lot), ds = [frameV C k R] ∧ FV K C ∧ R.Nodup ∧ 0 < R.length ∧ R.length ≤ 900 ∧ (∀ l ∈ R, l.length ≤ 900) ∧ (¬ Ac R → P .non M) ∧
  ∀ ps, Chain R ps → ps.length + 1 = R.length → Ac R → P (.tup (ps.map pairV)) M
theorem p_folding (K : PySem.W.Frag) (C : Addr) : ∀ ds M Pd X, MemOk M → S_folding K C ds M Pd X → t_folding K S_first_holder S_others_than S_ears_of (dkOf M.length Pd X) (startD N_folding ds) M := by
  rintro _ M Pd X mo ⟨k, R, rfl, fv, nd, R0, hR, hz, h1, h2⟩
  show t_folding K S_first_holder S_others_than S_ears_of (dkOf M.length Pd X) [some (frameV C k R), none, none, none, none] M
  unfold t_folding
  refine seq_step fun C1 hC1 => ?_
  simp only [s_par, s_cons, s_nil, s_cb, s_fld, s_var, s_lstM]
  refine ⟨_, rfl, C, _, _, lotsT R, rfl, fv.l, rfl, ?_⟩
  show gList [_] M _
  rw [s_list (x := R.map tupI) rfl]
  refine ⟨by simp [sizeLine_eq], _, _, rfl, ?_⟩
  subst hC1
  refine seq_step fun C2 hC2 => ?_
  refine ⟨fun q l Mf => ∃ (ps : List (Lot × Lot)) (o3 o4 : Option Dv), l = [some (frameV C k R), some (.lst ((rest R ps).map tupI)), some (.ref M.length), o3, o4] ∧ Mf = M ++ [.lst (ps.map pairV)] ∧ Chain R ps ∧ ps.length + (rest R ps).length = R.length ∧ 0 < (rest R ps).length ∧ (Ac R ↔ Ac (rest R ps)) ∧ q = (rest R ps).length,
    ⟨_, [], none, none, by rw [rest_nil]; rfl, rfl, Chain.nil R, by rw [rest_nil]; simp, by rw [rest_nil]; exact R0, by rw [rest_nil], rfl⟩, ?_⟩
  rintro q l Mf ⟨ps, o3, o4, rfl, rfl, ch, hlen, hpos, hac, rfl⟩
  have ndr : (rest R ps).Nodup := nd.sublist List.filter_sublist
  have sub : ∀ l ∈ rest R ps, l ∈ R := fun l hl => (List.mem_filter.mp hl).1
  have rs := rest_snoc R ps
  have rf : (M ++ [MO.lst (ps.map pairV)])[M.length]? = some (.lst (ps.map pairV)) := by simp
  simp only [s_test, s_op, s_cb, s_cons, s_nil, s_var, s_c]
  refine ⟨_, rfl, ?_⟩
  rw [s_len_l]
  show gGt (.int _) (.int 1) _ _
  rw [s_gt]
  refine ⟨_, rfl, ?_⟩
  by_cases e : (rest R ps).length = 1
  · rw [decide_eq_false (by rw [List.length_map]; omega), if_neg (by simp)]
    subst hC2
    simp only [s_seq, s_ret, s_cb, s_cons, s_nil, s_var]
    have hcl : cls M.length (ps.map pairV) = true := cls_map (f := pairV) fun p _ => by
      show (cls _ (nms p.1) && (cls _ (nms p.2) && true)) = true
      rw [cls_nms, cls_nms]; rfl
    exact ⟨_, rfl, _, _, rfl, seqD_ref rf, ret_cut (d := .tup (ps.map pairV)) mo hcl (h2 ps ch (by omega) (hac.mpr (ac_few (by omega)))) _⟩
  generalize hL : rest R ps = left at *
  rw [decide_eq_true (by rw [List.length_map]; omega), if_pos rfl]
  refine ⟨_, fun l' M' hN => hN, ?_⟩
  refine seq_step fun C3 hC3 => ?_
  simp only [s_set, s_call, s_cons, s_nil, s_var]
  refine ⟨_, rfl, _, left, rfl, rfl, by omega, fun l hl => by have := hz l (sub l hl); omega, ?_⟩
  subst hC3
  refine seq_step fun C4 hC4 => ?_
  simp only [s_ifS, s_test, s_op, s_cb, s_cons, s_nil, s_var, s_c]
  refine ⟨_, rfl, ?_⟩
  rw [s_len_l]
  show gEq (.int _) (.int 0) _ _
  rw [s_eq_i]
  refine ⟨_, rfl, ?_⟩
  cases hE : earsL left with
  | nil =>
    rw [decide_eq_true (by simp), if_pos rfl]
    simp only [s_seq, s_ret, s_c]
    refine ret_cut mo rfl (h1 fun ac => ?_) _
    obtain ⟨e0, he0, hh0⟩ := ear_there (hac.mp ac) ndr (by omega)
    have : e0 ∈ earsL left := List.mem_filter.mpr ⟨he0, by
      cases q : holdL left e0 with
      | nil => exact absurd q hh0
      | cons _ _ => rfl⟩
    rw [hE] at this; cases this
  | cons e0 F =>
    have he : e0 ∈ left ∧ (!(holdL left e0).isEmpty) = true := List.mem_filter.mp (show e0 ∈ earsL left by rw [hE]; exact List.mem_cons_self)
    obtain ⟨m, G, hG⟩ : ∃ m G, holdL left e0 = m :: G := by
      cases q : holdL left e0 with
      | nil => rw [q] at he; simp at he
      | cons m G => exact ⟨m, G, rfl⟩
    have hold : Holds left e0 m := mem_holdL.mp (by rw [hG]; exact List.mem_cons_self)
    rw [decide_eq_false (by simp; omega), if_neg (by simp)]
    simp only [s_next]
    subst hC4
    refine seq_step fun C5 hC5 => ?_
    simp only [s_set, s_op, s_var, s_c]
    refine ⟨_, rfl, s_ixn (n := 0) (x := (e0 :: F).map tupI) rfl rfl ?_⟩
    subst hC5
    refine seq_step fun C6 hC6 => ?_
    simp only [s_set, s_call, s_cons, s_nil, s_var]
    refine ⟨_, rfl, _, rfl, _, left, e0, rfl, rfl, by omega, ?_⟩
    have ol := off_le left e0
    subst hC6
    refine seq_step fun C7 hC7 => ?_
    simp only [s_drop, s_append, s_cons, s_nil, s_var, s_tup, s_call]
    refine ⟨_, rfl, _, _, rfl, rf, _, rfl, _, rfl, _, rfl, e0, _, offL left e0, rfl, rfl, by have := hz e0 (sub e0 he.1); omega, by omega, ?_⟩
    rw [show (offL left e0).filter (holdB e0 (offL left e0)) = m :: G from hG]
    refine ⟨by simp [sizeLine_eq], _, _, rfl, rf, by rw [sizeLine_eq]; simp; omega, ?_⟩
    have em : (M ++ [MO.lst (ps.map pairV)]).set M.length (.lst (ps.map pairV ++ [.tup [tupI e0, fstV (m :: G)]])) = M ++ [.lst ((ps ++ [(e0, m)]).map pairV)] := by
      rw [List.set_append_right _ _ (Nat.le_refl _)]; simp [fstV]
    rw [em]
    subst hC7
    simp only [s_next]
    have fl := filter_ne_len ndr he.1
    have er : offL left e0 = rest R (ps ++ [(e0, m)]) := (rs (e0, m)).symm
    refine ⟨left.length - 1, by omega, ps ++ [(e0, m)], _, _, by rw [← er]; rfl, rfl, ?_, ?_, ?_, ?_, ?_⟩
    · exact ch.snoc (p := (e0, m)) (by rw [hL]; exact he.1) (by rw [hL]; exact hold)
    · rw [← er]; simp; unfold offL; omega
    · rw [← er]; unfold offL; omega
    · rw [← er]
      exact hac.trans ⟨fun a => ac_off a hold, fun a => ac_on a he.1 hold⟩
    · rw [← er]; unfold offL; omega
end D.k35
end

section
set_option Elab.async false
set_option linter.all false
set_option maxRecDepth 100000
set_option maxHeartbeats 8000000
set_option autoImplicit false
/-! k35: whether any value is a folding, by the program and by the law. -/
namespace D.k35
open PySem PySem.Spec PyProof.Rows L2 D D.P80
theorem pyIn_lots (l : Lot) : ∀ ls : List Lot, pyIn (tupI l) (ls.map tupI) = decide (l ∈ ls)
  | [] => rfl
  | m :: ls => by
    show (pyEqs (nms m) (nms l) || pyIn (tupI l) (ls.map tupI)) = _
    rw [pyIn_lots l ls, pyEqs_nms]
    by_cases e : m = l
    · subst e; simp
    · have : ¬ l = m := fun z => e z.symm
      simp [e, this]
theorem in_lots {neg : Bool} {l : Lot} {M : Mem} {y : Dv} {ls : List Lot} {G : Dv → Prop} (hy : inD M y = some (ls.map tupI)) (g : G (.bl (if neg then !decide (l ∈ ls) else decide (l ∈ ls)))) : gIn neg (tupI l) y M G :=
  ⟨ls.map tupI, okDs_nms 59 l, hy, okDs_map fun l _ => ok_tupI l 58, by
    show G (.bl (if neg then !pyIn (tupI l) (ls.map tupI) else pyIn (tupI l) (ls.map tupI)))
    rw [pyIn_lots]; exact g⟩
def FoldV (ls : List Lot) (v : Dv) : Prop := ∃ ps, v = .tup (ps.map pairV) ∧ Chain ls ps ∧ ps.length + 1 = ls.length
def S_is_one_of : DSp := fun ds M P _ => ∃ (ls : List Lot) (x : Dv), ds = [.lst (ls.map tupI), x] ∧ tm 9 900 x = true ∧ ∀ b : Bool, (b = true ↔ ∃ l ∈ ls, x = tupI l) → P (.bl b) M
theorem p_is_one_of : ∀ ds M Pd X, MemOk M → S_is_one_of ds M Pd X → t_is_one_of S_is_integer (dkOf M.length Pd X) (startD N_is_one_of ds) M := by
  rintro _ M Pd X - ⟨ls, x, rfl, tx, h⟩
  show t_is_one_of S_is_integer (dkOf M.length Pd X) [some (.lst (ls.map tupI)), some x, none] M
  have hv := (tm_ok tx).1
  unfold t_is_one_of
  simp only [s_seq, s_ret, s_andV, s_cb, s_cons, s_nil, s_var, s_c]
  refine ⟨_, rfl, ?_⟩
  rw [s_isi hv (by simp)]
  refine ⟨_, rfl, ?_⟩
  by_cases e : isiB (kind x) "tuple" = true
  · obtain ⟨l, rfl⟩ := (isi_tup x hv).mp e
    rw [e, if_pos rfl]
    obtain ⟨t1, t2⟩ := tm_tup.mp tx
    simp only [s_comp, s_iSeq, s_var]
    have e0 : l = l.map id := (List.map_id l).symm
    refine ⟨_, rfl, l, rfl, le_size (by omega), ?_⟩
    rw [show loopC (gN 2) dYes (dCall S_is_integer (dCons (dVar 2) dNil)) [2] (chkD (.tup l) l) l [] = loopC (gN 2) dYes (dCall S_is_integer (dCons (dVar 2) dNil)) [2] (chkD (.tup l) l) (l.map id) [] by rw [List.map_id]]
    refine compM id (fun d => .bl (isInt d)) rfl (fun d hd C hC => ?_) (gAll_of ⟨_, rfl, ?_⟩)
    · simp only [s_call, s_cons, s_nil, s_var]
      exact ⟨_, rfl, _, rfl, (tm_ok (t2 d hd)).1, hC⟩
    by_cases ei : l.all isInt = true
    · rw [ei, if_pos rfl]
      obtain ⟨ns, rfl⟩ := ints_all ei
      simp only [s_op, s_var]
      refine ⟨_, rfl, _, rfl, in_lots rfl (ret_now (h _ ?_))⟩
      rw [if_neg (by simp), decide_eq_true_iff]
      constructor
      · exact fun a => ⟨ns, a, rfl⟩
      · rintro ⟨m, hm, q⟩
        rw [nms_inj (Dv.tup.inj q)]; exact hm
    · rw [Bool.eq_false_iff.mpr ei, if_neg (by simp)]
      refine ret_now (h false ⟨fun q => (by cases q), fun ⟨m, hm, q⟩ => ?_⟩)
      have : l = nms m := Dv.tup.inj q
      rw [this] at ei
      exact absurd (List.all_eq_true.mpr fun d hd => by obtain ⟨n, _, rfl⟩ := List.mem_map.mp hd; rfl) ei
  · rw [Bool.eq_false_iff.mpr e, if_neg (by simp)]
    exact ret_now (h false ⟨fun q => (by cases q), fun ⟨m, hm, q⟩ => absurd ((isi_tup x hv).mpr ⟨_, q⟩) e⟩)
def S_is_pair_of : DSp := fun ds M P _ => ∃ (ls : List Lot) (x : Dv), ds = [.lst (ls.map tupI), x] ∧ tm 9 900 x = true ∧ ∀ b : Bool, (b = true ↔ ∃ a ∈ ls, ∃ c ∈ ls, x = pairV (a, c)) → P (.bl b) M
theorem p_is_pair_of : ∀ ds M Pd X, MemOk M → S_is_pair_of ds M Pd X → t_is_pair_of S_is_one_of (dkOf M.length Pd X) (startD N_is_pair_of ds) M := by
  rintro _ M Pd X - ⟨ls, x, rfl, tx, h⟩
  show t_is_pair_of S_is_one_of (dkOf M.length Pd X) [some (.lst (ls.map tupI)), some x, none] M
  have hv := (tm_ok tx).1
  unfold t_is_pair_of
  simp only [s_seq, s_ret, s_andV, s_cb, s_cons, s_nil, s_var, s_c, s_op]
  refine ⟨_, rfl, ?_⟩
  rw [s_isi hv (by simp)]
  refine ⟨_, rfl, ?_⟩
  by_cases e : isiB (kind x) "tuple" = true
  · obtain ⟨l, rfl⟩ := (isi_tup x hv).mp e
    rw [e, if_pos rfl]
    obtain ⟨t1, t2⟩ := tm_tup.mp tx
    refine ⟨_, rfl, ?_⟩
    rw [s_len_t]
    show gEq (.int _) (.int 2) _ _
    rw [s_eq_i]
    refine ⟨_, rfl, ?_⟩
    by_cases e2 : l.length = 2
    · rw [decide_eq_true (by omega), if_pos rfl]
      obtain ⟨y, z, rfl⟩ : ∃ y z, l = [y, z] := by
        match l, e2 with
        | [y, z], _ => exact ⟨y, z, rfl⟩
      have ty : tm 9 900 y = true := tm_mono (t2 y (by simp)) (by omega) (Nat.le_refl _)
      have tz : tm 9 900 z = true := tm_mono (t2 z (by simp)) (by omega) (Nat.le_refl _)
      simp only [s_comp, s_iSeq, s_var]
      refine ⟨_, rfl, _, rfl, by simp [sizeLine_eq], ?_⟩
      obtain ⟨f, hf⟩ : ∃ f : Dv → Bool, ∀ d, f d = true ↔ ∃ l ∈ ls, d = tupI l := ⟨fun d => @decide (∃ l ∈ ls, d = tupI l) (Classical.propDecidable _), fun d => by simp⟩
      have ht : ∀ d ∈ [y, z], tm 9 900 d = true := fun d hd => tm_mono (t2 d hd) (by omega) (Nat.le_refl _)
      rw [show loopC (gN 2) dYes (dCall S_is_one_of (dCons (dVar 0) (dCons (dVar 2) dNil))) [2] (chkD (.tup [y, z]) [y, z]) [y, z] [] = loopC (gN 2) dYes (dCall S_is_one_of (dCons (dVar 0) (dCons (dVar 2) dNil))) [2] (chkD (.tup [y, z]) [y, z]) ([y, z].map id) [] by rw [List.map_id]]
      refine compM id (fun d => .bl (f d)) rfl (fun d hd C hC => ?_) (gAll_of (ret_now (h _ ?_)))
      · simp only [s_call, s_cons, s_nil, s_var]
        refine ⟨_, rfl, _, rfl, ls, d, rfl, ht d hd, fun b hb => ?_⟩
        have : b = f d := Bool.eq_iff_iff.mpr (hb.trans (hf d).symm)
        rw [this]; exact hC
      · simp only [List.all_cons, List.all_nil, Bool.and_true, Bool.and_eq_true, hf]
        constructor
        · rintro ⟨⟨a, ha, rfl⟩, c, hc, rfl⟩
          exact ⟨a, ha, c, hc, rfl⟩
        · rintro ⟨a, ha, c, hc, q⟩
          have : [y, z] = [tupI a, tupI c] := Dv.tup.inj q
          cases this
          exact ⟨⟨a, ha, rfl⟩, c, hc, rfl⟩
    · rw [decide_eq_false (by omega), if_neg (by simp)]
      refine ret_now (h false ⟨fun q => (by cases q), fun ⟨a, _, c, _, q⟩ => ?_⟩)
      have : l = [tupI a, tupI c] := Dv.tup.inj q
      rw [this] at e2; exact absurd rfl e2
  · rw [Bool.eq_false_iff.mpr e, if_neg (by simp)]
    exact ret_now (h false ⟨fun q => (by cases q), fun ⟨a, _, c, _, q⟩ => absurd ((isi_tup x hv).mpr ⟨_, q⟩) e⟩)
/-! the walk over the pairs -/
theorem pairV_inj {p q : Lot × Lot} (h : pairV p = pairV q) : p = q := by
  have : [tupI p.1, tupI p.2] = [tupI q.1, tupI q.2] := Dv.tup.inj h
  obtain ⟨h1, h2⟩ := List.cons.inj this
  obtain ⟨h3, _⟩ := List.cons.inj h2
  exact Prod.ext (nms_inj (Dv.tup.inj h1)) (nms_inj (Dv.tup.inj h3))
theorem pairs_inj : ∀ {ps qs : List (Lot × Lot)}, ps.map pairV = qs.map pairV → ps = qs
  | [], [], _ => rfl
  | [], _ :: _, h => by cases h
  | _ :: _, [], h => by cases h
  | p :: ps, q :: qs, h => by
    obtain ⟨h1, h2⟩ := List.cons.inj h
    rw [pairV_inj h1, pairs_inj h2]
structure Pre (R : List Lot) (l : List Dv) (k : Nat) (ps : List (Lot × Lot)) : Prop where
  ch : Chain R ps
  ln : ps.length = k
  tk : l.take k = ps.map pairV
theorem Pre.start (R : List Lot) (l : List Dv) : Pre R l 0 [] := ⟨Chain.nil R, rfl, rfl⟩
theorem Pre.next {R : List Lot} {l : List Dv} {k : Nat} {ps : List (Lot × Lot)} (h : Pre R l k ps) {a c : Lot} (hx : l[k]? = some (pairV (a, c))) (ha : a ∈ rest R ps) (hh : Holds (rest R ps) a c) : Pre R l (k + 1) (ps ++ [(a, c)]) :=
  ⟨h.ch.snoc (p := (a, c)) ha hh, by simp [h.ln], by rw [List.take_add_one, hx, h.tk, List.map_append]; rfl⟩
theorem Pre.at {R : List Lot} {l : List Dv} {k : Nat} {ps : List (Lot × Lot)} (h : Pre R l k ps) {x : Dv} (hx : l[k]? = some x) (hf : FoldV R (.tup l)) : ∃ a c, x = pairV (a, c) ∧ a ∈ rest R ps ∧ Holds (rest R ps) a c := by
  obtain ⟨qs, e, ch, _⟩ := hf
  have e := Dv.tup.inj e
  have tq : qs.take k = ps := by
    have := h.tk
    rw [e, ← List.map_take] at this
    exact pairs_inj this
  rw [e, List.getElem?_map] at hx
  cases hq : qs[k]? with
  | none => rw [hq] at hx; cases hx
  | some p =>
    rw [hq] at hx
    have := ch k p hq
    rw [tq] at this
    exact ⟨p.1, p.2, (Option.some.inj hx).symm, this.1, this.2⟩
theorem Pre.done {R : List Lot} {l : List Dv} {ps : List (Lot × Lot)} (h : Pre R l l.length ps) (hl : l.length + 1 = R.length) : FoldV R (.tup l) :=
  ⟨ps, by have := h.tk; rw [List.take_length] at this; rw [this], h.ch, by rw [h.ln]; exact hl⟩
theorem not_fold {R : List Lot} {v : Dv} (h : FoldV R v) : ∃ l, v = .tup l ∧ l.length + 1 = R.length := by
  obtain ⟨ps, e, _, hl⟩ := h
  exact ⟨_, e, by simpa using hl⟩
def S_is_folding (K : PySem.W.Frag) (C : Addr) : DSp := fun ds M P _ => ∃ (k : Nat) (R : List Lot) (v : Dv), ds = [frameV C k R, v] ∧ FV K C ∧ 0 < R.length ∧ R.length ≤ 900 ∧ (∀ l ∈ R, l.length ≤ 900) ∧ tm 10 900 v = true ∧ ∀ b : Bool, (b = true ↔ FoldV R v) → P (.bl b) M
theorem p_is_folding (K : PySem.W.Frag) (C : Addr) : ∀ ds M Pd X, MemOk M → S_is_folding K C ds M Pd X → t_is_folding K S_is_holder S_others_than S_is_pair_of (dkOf M.length Pd X) (startD N_is_folding ds) M := by
  rintro _ M Pd X - ⟨k, R, v, rfl, fv, R0, hR, hz, tv, h⟩
  show t_is_folding K S_is_holder S_others_than S_is_pair_of (dkOf M.length Pd X) [some (frameV C k R), some v, none, none] M
  have hv := (tm_ok tv).1
  have no : ¬ FoldV R v → (dkOf M.length Pd X).rt (.bl false) M := fun q => ret_now (h false ⟨fun z => (by cases z), fun z => absurd z q⟩)
  unfold t_is_folding
  refine seq_step fun C1 hC1 => ?_
  simp only [s_ifS, s_or, s_not, s_tru, s_test, s_op, s_cb, s_cons, s_nil, s_var, s_c, s_fld]
  refine ⟨_, rfl, ?_⟩
  rw [s_isi hv (by simp)]
  refine ⟨_, rfl, ?_⟩
  by_cases e : isiB (kind v) "tuple" = true
  case neg =>
    rw [Bool.eq_false_iff.mpr e]
    simp only [Bool.not_false, if_true]
    exact no fun q => e ((isi_tup v hv).mpr (by obtain ⟨l, e, _⟩ := not_fold q; exact ⟨l, e⟩))
  obtain ⟨l, rfl⟩ := (isi_tup v hv).mp e
  rw [e]
  obtain ⟨t1, t2⟩ := tm_tup.mp tv
  simp only [Bool.not_true, Bool.false_eq_true, if_false]
  refine ⟨_, rfl, ?_⟩
  rw [s_len_t]
  refine ⟨_, rfl, C, _, _, lotsT R, rfl, fv.l, rfl, ?_⟩
  show gLen [_] M _
  rw [s_len_t]
  show gSub' (.int _) (.int 1) _ _
  rw [s_sub]
  show gNe (.int _) (.int _) _ _
  rw [s_ne_i]
  refine ⟨_, rfl, ?_⟩
  by_cases el : l.length + 1 = R.length
  case neg =>
    rw [decide_eq_false (by rw [List.length_map]; omega)]
    simp only [Bool.not_false, if_true]
    refine no fun q => ?_
    obtain ⟨l2, e2, e3⟩ := not_fold q
    rw [Dv.tup.inj e2] at el; exact el e3
  rw [decide_eq_true (by rw [List.length_map]; omega)]
  simp only [Bool.not_true, Bool.false_eq_true, if_false, s_next]
  subst hC1
  refine seq_step fun C2 hC2 => ?_
  simp only [s_set, s_cb, s_cons, s_nil, s_fld, s_var]
  refine ⟨_, rfl, C, _, _, lotsT R, rfl, fv.l, rfl, ?_⟩
  show gList [_] M _
  rw [s_list (x := R.map tupI) rfl]
  subst hC2
  refine seq_step fun C3 hC3 => ?_
  simp only [s_for, s_iSeq, s_var]
  refine ⟨_, rfl, l, rfl, ?_⟩
  refine loopS_ix (fun q lc Mf => Mf = M ∧ ∃ (ps : List (Lot × Lot)) (o3 : Option Dv), Pre R l q ps ∧ lc = [some (frameV C k R), some (.tup l), some (.lst ((rest R ps).map tupI)), o3]) (fun _ _ _ z => by obtain ⟨rfl, _⟩ := z; rfl) ⟨rfl, [], none, Pre.start R l, by rw [rest_nil]; rfl⟩ ?_ ?_
  · rintro q x lc Mf hx ⟨rfl, ps, o3, pre, rfl⟩ D hD
    have tx : tm 9 900 x = true := t2 x (List.mem_of_getElem? hx)
    have lr : (rest R ps).length ≤ R.length := List.length_filter_le ..
    have sub : ∀ l ∈ rest R ps, l ∈ R := fun l hl => (List.mem_filter.mp hl).1
    have rs := rest_snoc R ps
    simp only [s_gN]
    refine seq_step fun D1 hD1 => ?_
    simp only [s_ifS, s_or, s_not, s_tru, s_test, s_op, s_call, s_cons, s_nil, s_var, s_c]
    refine ⟨_, rfl, _, rfl, rest R ps, x, rfl, tx, fun b hb => ⟨_, rfl, ?_⟩⟩
    cases b with
    | false =>
      simp only [Bool.not_false, if_true]
      refine no fun z => ?_
      obtain ⟨a, c, e1, ha, hh⟩ := pre.at hx z
      have := hb.mpr ⟨a, ha, c, hh.1, e1⟩
      cases this
    | true =>
      obtain ⟨a, ha, c, hc, rfl⟩ := hb.mp rfl
      simp only [Bool.not_true, Bool.false_eq_true, if_false]
      refine ⟨_, rfl, s_ixn (n := 0) (x := [tupI a, tupI c]) rfl rfl ⟨_, rfl, s_ixn (n := 1) (x := [tupI a, tupI c]) rfl rfl (eq_tupI ⟨_, rfl, ?_⟩)⟩⟩
      by_cases eac : a = c
      · rw [decide_eq_true eac, if_pos rfl]
        refine no fun z => ?_
        obtain ⟨a', c', e1, _, hh⟩ := pre.at hx z
        have := pairV_inj e1
        cases this
        exact hh.2.1 eac.symm
      rw [decide_eq_false eac, if_neg (by simp)]
      simp only [s_next]
      subst hD1
      refine seq_step fun D2 hD2 => ?_
      simp only [s_set, s_call, s_cons, s_nil, s_var, s_op, s_c]
      refine ⟨_, rfl, _, rfl, s_ixn (n := 0) (x := [tupI a, tupI c]) rfl rfl ⟨_, rest R ps, a, rfl, rfl, by omega, ?_⟩⟩
      have ol := off_le (rest R ps) a
      subst hD2
      refine seq_step fun D3 hD3 => ?_
      simp only [s_ifS, s_not, s_tru, s_call, s_cons, s_nil, s_var, s_op, s_c]
      refine ⟨_, rfl, s_ixn (n := 0) (x := [tupI a, tupI c]) rfl rfl ⟨_, rfl, s_ixn (n := 1) (x := [tupI a, tupI c]) rfl rfl ⟨_, rfl, a, c, _, offL (rest R ps) a, rfl, rfl, by have := hz a (sub a ha); omega, by omega, _, rfl, ?_⟩⟩⟩
      have hol : holdB a (offL (rest R ps) a) c = true ↔ Holds (rest R ps) a c := by
        rw [← mem_holdL (ls := rest R ps) (e := a) (m := c), hold_B (m := c), List.mem_filter]
        exact ⟨fun z => ⟨List.mem_filter.mpr ⟨hc, decide_eq_true fun w => eac w.symm⟩, z⟩, fun z => z.2⟩
      cases hB : holdB a (offL (rest R ps) a) c with
      | false =>
        simp only [Bool.not_false, if_true]
        refine no fun z => ?_
        obtain ⟨a', c', e1, _, hh⟩ := pre.at hx z
        have := pairV_inj e1
        cases this
        rw [hol.mpr hh] at hB; cases hB
      | true =>
        simp only [Bool.not_true, Bool.false_eq_true, if_false, s_next]
        subst hD3
        simp only [s_next]
        refine hD _ _ ⟨rfl, ps ++ [(a, c)], some (.tup [tupI a, tupI c]), pre.next hx ha (hol.mp hB), ?_⟩
        rw [rs]; rfl
  · rintro lc Mf ⟨rfl, ps, o3, pre, rfl⟩
    show C3 _ _
    subst hC3
    simp only [s_seq, s_ret, s_c]
    exact ret_now (h true ⟨fun _ => pre.done el, fun _ => rfl⟩)
def S__law_is_folding : DSp := fun ds M P _ => ∃ (ls : List Lot) (v : Dv), ds = [.lst (ls.map tupI), v] ∧ 0 < ls.length ∧ ls.length ≤ 900 ∧ (∀ l ∈ ls, l.length ≤ 900) ∧ tm 10 900 v = true ∧ ∀ b : Bool, (b = true ↔ FoldV ls v) → P (.bl b) M
theorem p__law_is_folding : ∀ ds M Pd X, MemOk M → S__law_is_folding ds M Pd X → t__law_is_folding S__law_holders S__law_numbers (dkOf M.length Pd X) (startD N__law_is_folding ds) M := by
  rintro _ M Pd X - ⟨R, v, rfl, R0, hR, hz, tv, h⟩
  show t__law_is_folding S__law_holders S__law_numbers (dkOf M.length Pd X) [some (.lst (R.map tupI)), some v, none, none, none] M
  have hv := (tm_ok tv).1
  have no : ¬ FoldV R v → (dkOf M.length Pd X).rt (.bl false) M := fun q => ret_now (h false ⟨fun z => (by cases z), fun z => absurd z q⟩)
  unfold t__law_is_folding
  refine seq_step fun C1 hC1 => ?_
  simp only [s_ifS, s_or, s_not, s_tru, s_test, s_op, s_cb, s_cons, s_nil, s_var, s_c]
  refine ⟨_, rfl, ?_⟩
  rw [s_isi hv (by simp)]
  refine ⟨_, rfl, ?_⟩
  by_cases e : isiB (kind v) "tuple" = true
  case neg =>
    rw [Bool.eq_false_iff.mpr e]
    simp only [Bool.not_false, if_true]
    exact no fun q => e ((isi_tup v hv).mpr (by obtain ⟨l, e, _⟩ := not_fold q; exact ⟨l, e⟩))
  obtain ⟨l, rfl⟩ := (isi_tup v hv).mp e
  rw [e]
  obtain ⟨t1, t2⟩ := tm_tup.mp tv
  simp only [Bool.not_true, Bool.false_eq_true, if_false]
  refine ⟨_, rfl, ?_⟩
  rw [s_len_t]
  refine ⟨_, rfl, ?_⟩
  rw [s_len_l]
  show gSub' (.int _) (.int 1) _ _
  rw [s_sub]
  show gNe (.int _) (.int _) _ _
  rw [s_ne_i]
  refine ⟨_, rfl, ?_⟩
  by_cases el : l.length + 1 = R.length
  case neg =>
    rw [decide_eq_false (by rw [List.length_map]; omega)]
    simp only [Bool.not_false, if_true]
    refine no fun q => ?_
    obtain ⟨l2, e2, e3⟩ := not_fold q
    rw [Dv.tup.inj e2] at el; exact el e3
  rw [decide_eq_true (by rw [List.length_map]; omega)]
  simp only [Bool.not_true, Bool.false_eq_true, if_false, s_next]
  subst hC1
  refine seq_step fun C2 hC2 => ?_
  simp only [s_set, s_cb, s_cons, s_nil, s_var]
  refine ⟨_, rfl, ?_⟩
  rw [s_list (e := .lst (R.map tupI)) (x := R.map tupI) rfl]
  subst hC2
  refine seq_step fun C3 hC3 => ?_
  simp only [s_for, s_iSeq, s_var]
  refine ⟨_, rfl, l, rfl, ?_⟩
  refine loopS_ix (fun q lc Mf => Mf = M ∧ ∃ (ps : List (Lot × Lot)) (o3 : Option Dv), Pre R l q ps ∧ lc = [some (.lst (R.map tupI)), some (.tup l), some (.lst ((rest R ps).map tupI)), o3, none]) (fun _ _ _ z => by obtain ⟨rfl, _⟩ := z; rfl) ⟨rfl, [], none, Pre.start R l, by rw [rest_nil]; rfl⟩ ?_ ?_
  · rintro q x lc Mf hx ⟨rfl, ps, o3, pre, rfl⟩ D hD
    have tx : tm 9 900 x = true := t2 x (List.mem_of_getElem? hx)
    have hvx := (tm_ok tx).1
    have lr : (rest R ps).length ≤ R.length := List.length_filter_le ..
    have sub : ∀ l ∈ rest R ps, l ∈ R := fun l hl => (List.mem_filter.mp hl).1
    have rs := rest_snoc R ps
    simp only [s_gN]
    refine seq_step fun D1 hD1 => ?_
    simp only [s_ifS, s_or, s_not, s_tru, s_test, s_op, s_cb, s_call, s_cons, s_nil, s_var, s_c]
    refine ⟨_, rfl, ?_⟩
    rw [s_isi hvx (by simp)]
    refine ⟨_, rfl, ?_⟩
    by_cases ex : isiB (kind x) "tuple" = true
    case neg =>
      rw [Bool.eq_false_iff.mpr ex]
      simp only [Bool.not_false, if_true]
      refine no fun z => ?_
      obtain ⟨a, c, e1, _⟩ := pre.at hx z
      exact ex ((isi_tup x hvx).mpr ⟨_, e1⟩)
    obtain ⟨m, rfl⟩ := (isi_tup x hvx).mp ex
    obtain ⟨u1, u2⟩ := tm_tup.mp tx
    rw [ex]
    simp only [Bool.not_true, Bool.false_eq_true, if_false]
    refine ⟨_, rfl, ?_⟩
    rw [s_len_t]
    show gNe (.int _) (.int 2) _ _
    rw [s_ne_i]
    refine ⟨_, rfl, ?_⟩
    by_cases e2 : m.length = 2
    case neg =>
      rw [decide_eq_false (by omega)]
      simp only [Bool.not_false, if_true]
      refine no fun z => ?_
      obtain ⟨a, c, e1, _⟩ := pre.at hx z
      rw [Dv.tup.inj e1] at e2; exact e2 rfl
    obtain ⟨y, z, rfl⟩ : ∃ y z, m = [y, z] := by
      match m, e2 with
      | [y, z], _ => exact ⟨y, z, rfl⟩
    rw [decide_eq_true (by omega)]
    simp only [Bool.not_true, Bool.false_eq_true, if_false]
    have num : ∀ d, tm 8 900 d = true → (okV d = true ∧ okD d 60 = true ∧ ∀ l, d = .tup l → l.length ≤ 1000) ∧ (numB d = true → ∃ ns, d = tupI ns) := fun d hd => by
      have o := tm_ok (tm_mono hd (show 8 ≤ 60 by omega) (Nat.le_refl _))
      refine ⟨⟨o.1, o.2.1, fun l e => ?_⟩, fun q => ?_⟩
      · rw [e] at hd
        have := (tm_tup.mp hd).1
        omega
      · cases d with
        | tup l =>
          obtain ⟨ns, e⟩ := ints_all (show l.all isInt = true from q)
          exact ⟨ns, by rw [e]⟩
        | _ => cases (show false = true from q)
    obtain ⟨⟨y1, y2, y3⟩, y4⟩ := num y (u2 y (by simp))
    obtain ⟨⟨z1, z2, z3⟩, z4⟩ := num z (u2 z (by simp))
    refine ⟨_, rfl, s_ixn (n := 0) (x := [y, z]) rfl rfl ⟨y, rfl, y1, y2, y3, _, rfl, ?_⟩⟩
    cases ny : numB y with
    | false =>
      simp only [Bool.not_false, if_true]
      refine no fun w => ?_
      obtain ⟨a, c, e1, _⟩ := pre.at hx w
      have e1 : [y, z] = [tupI a, tupI c] := Dv.tup.inj e1
      obtain ⟨rfl, _⟩ := List.cons.inj e1
      rw [show numB (tupI a) = true from List.all_eq_true.mpr fun d hd => by obtain ⟨n, _, rfl⟩ := List.mem_map.mp hd; rfl] at ny
      cases ny
    | true =>
      obtain ⟨a, rfl⟩ := y4 ny
      simp only [Bool.not_true, Bool.false_eq_true, if_false]
      refine ⟨_, rfl, s_ixn (n := 1) (x := [tupI a, z]) rfl rfl ⟨z, rfl, z1, z2, z3, _, rfl, ?_⟩⟩
      cases nz : numB z with
      | false =>
        simp only [Bool.not_false, if_true]
        refine no fun w => ?_
        obtain ⟨a', c, e1, _⟩ := pre.at hx w
        have e1 : [tupI a, z] = [tupI a', tupI c] := Dv.tup.inj e1
        obtain ⟨_, e3⟩ := List.cons.inj e1
        obtain ⟨rfl, _⟩ := List.cons.inj e3
        rw [show numB (tupI c) = true from List.all_eq_true.mpr fun d hd => by obtain ⟨n, _, rfl⟩ := List.mem_map.mp hd; rfl] at nz
        cases nz
      | true =>
        obtain ⟨c, rfl⟩ := z4 nz
        simp only [Bool.not_true, Bool.false_eq_true, if_false, s_next]
        subst hD1
        refine seq_step fun D2 hD2 => ?_
        simp only [s_ifS, s_or, s_test, s_op, s_call, s_cons, s_nil, s_var, s_c]
        refine ⟨_, rfl, s_ixn (n := 0) (x := [tupI a, tupI c]) rfl rfl ⟨_, rfl, in_lots rfl ⟨_, rfl, ?_⟩⟩⟩
        rw [if_pos rfl]
        by_cases ha : a ∈ rest R ps
        case neg =>
          rw [decide_eq_false ha]
          simp only [Bool.not_false, if_true]
          refine no fun w => ?_
          obtain ⟨a', c', e1, h1, _⟩ := pre.at hx w
          have := pairV_inj (p := (a, c)) e1
          cases this
          exact ha h1
        rw [decide_eq_true ha]
        simp only [Bool.not_true, Bool.false_eq_true, if_false]
        refine ⟨_, rfl, s_ixn (n := 1) (x := [tupI a, tupI c]) rfl rfl ⟨_, rfl, _, rfl, s_ixn (n := 0) (x := [tupI a, tupI c]) rfl rfl ⟨rest R ps, a, rfl, by have := hz a (sub a ha); omega, by omega, in_lots rfl ⟨_, rfl, ?_⟩⟩⟩⟩
        rw [if_pos rfl]
        by_cases hh : Holds (rest R ps) a c
        case neg =>
          rw [decide_eq_false fun w => hh (mem_holdL.mp w)]
          simp only [Bool.not_false, if_true]
          refine no fun w => ?_
          obtain ⟨a', c', e1, _, h2⟩ := pre.at hx w
          have := pairV_inj (p := (a, c)) e1
          cases this
          exact hh h2
        rw [decide_eq_true (mem_holdL.mpr hh)]
        simp only [Bool.not_true, Bool.false_eq_true, if_false, s_next]
        subst hD2
        refine seq_step fun D3 hD3 => ?_
        simp only [s_set, s_comp, s_iSeq, s_var]
        refine ⟨_, rfl, _, rfl, le_size (by simp; omega), compT tupI (fun l => decide (l ≠ a)) rfl (by simp) (fun l hl2 Q hQ => ?_) ?_⟩
        · simp only [s_test, s_op, s_var, s_c]
          exact ⟨_, rfl, _, rfl, s_ixn (n := 0) (x := [tupI a, tupI c]) rfl rfl (ne_off hQ)⟩
        subst hD3
        simp only [s_next]
        refine hD _ _ ⟨rfl, ps ++ [(a, c)], some (.tup [tupI a, tupI c]), pre.next hx ha hh, ?_⟩
        rw [rs]; rfl
  · rintro lc Mf ⟨rfl, ps, o3, pre, rfl⟩
    show C3 _ _
    subst hC3
    simp only [s_seq, s_ret, s_c]
    exact ret_now (h true ⟨fun _ => pre.done el, fun _ => rfl⟩)
end D.k35
end

section
set_option Elab.async false
set_option linter.all false
set_option maxRecDepth 100000
set_option maxHeartbeats 8000000
set_option autoImplicit false
/-! k35: the law, put together. -/
namespace D.k35
open PySem PySem.Spec PyProof.Rows L2 D D.P80
theorem s_tells {S : DSp} {tb te : DE} {l : Loc} {M : Mem} {P : PD} {Y : PX} : dTells S tb te l M P Y = te l M (fun due M1 => tb l M1 (fun d M2 => S [toldD d, toldD due] M2 P Y) noX) Y := rfl
theorem chain_mem {ls : List Lot} {ps : List (Lot × Lot)} (ch : Chain ls ps) : ∀ p ∈ ps, p.1 ∈ ls ∧ p.2 ∈ ls := fun p hp => by
  obtain ⟨k, hk⟩ := List.mem_iff_getElem?.mp hp
  obtain ⟨h1, h2⟩ := ch k p hk
  exact ⟨(List.mem_filter.mp h1).1, (List.mem_filter.mp h2.1).1⟩
theorem tm_fold {ls : List Lot} {ps : List (Lot × Lot)} {b : Nat} (ch : Chain ls ps) (hl : ∀ l ∈ ls, l.length ≤ b) (hp : ps.length ≤ b) (hb : 2 ≤ b) : tm 3 b (.tup (ps.map pairV)) = true :=
  tm_tup.mpr ⟨by simpa using hp, fun d hd => by
    obtain ⟨p, hp2, rfl⟩ := List.mem_map.mp hd
    obtain ⟨h1, h2⟩ := chain_mem ch p hp2
    exact tm_pair (hl _ h1) (hl _ h2) hb⟩
theorem plain_ears {ls : List Lot} (hn : ls.length ≤ 1000) (hl : ∀ l ∈ ls, l.length ≤ 1000) : plainD 3 (toldD (.tup (ls.map tupI))) = true := by
  have hs : PyData.canLay0 (.str "told") = true := by kernel_rfl
  have h1 : ∀ l ∈ ls, plainD 1 (tupI l) = true := fun l h => by
    rw [plainD, Bool.and_eq_true, decide_eq_true_iff, List.all_eq_true]
    exact ⟨by simpa using hl l h, fun d hd => by obtain ⟨n, _, rfl⟩ := List.mem_map.mp hd; simp [plainD]⟩
  have h2 : plainD 2 (.tup (ls.map tupI)) = true := by
    rw [plainD, Bool.and_eq_true, decide_eq_true_iff, List.all_eq_true]
    exact ⟨by simpa using hn, fun d hd => by obtain ⟨l, h, rfl⟩ := List.mem_map.mp hd; exact h1 l h⟩
  rw [plainD, Bool.and_eq_true, decide_eq_true_iff, List.all_eq_true]
  refine ⟨by simp, fun d hd => ?_⟩
  simp only [List.mem_cons, List.not_mem_nil, or_false] at hd
  rcases hd with rfl | rfl
  · simpa [plainD] using hs
  · exact h2
theorem p_law (K : PySem.W.Frag) (C : Addr) (fv : FV K C) : ∀ ds M Pd X, MemOk M → SLaw K 63 ds M Pd X →
    t_law C S__law_is_folding (S_folding K C) (S__law_same 3) (S_is_folding K C) S__law_turned S__law_taken_off S__law_grown (S_ears K C) S__law_holders S__law_folds S__law_any_way S__law_frame S__law_any (S__law_draw K) (S_Frame___init__ K C) (dkOf M.length Pd X) (startD N_law ds) M := by
  rintro _ M0 Pd X mo0 ⟨d, ns, rfl, hs, hz, h⟩
  show t_law C S__law_is_folding (S_folding K C) (S__law_same 3) (S_is_folding K C) S__law_turned S__law_taken_off S__law_grown (S_ears K C) S__law_holders S__law_folds S__law_any_way S__law_frame S__law_any (S__law_draw K) (S_Frame___init__ K C) (dkOf M0.length Pd X) [some d, none, none, none, none, none, none, none, none, none, none, none, none] M0
  have rt : ∀ M', (dkOf M0.length Pd X).rt (.bl true) M' := fun M' => ret_now (h M')
  generalize dkOf M0.length Pd X = E at rt ⊢
  unfold t_law
  refine seq_step fun C1 hC1 => ?_
  simp only [s_set, s_call, s_cons, s_nil, s_var, s_c]
  refine ⟨_, rfl, d, ns, 35, rfl, hs, hz, by decide, by decide, fun xs b hx hxl hb0 hb1 => ?_⟩
  have hd0 : Deal (M0.length + 1) M0.length (M0 ++ [.lst (nms xs), .lst [.ref M0.length, .int b]]) := ⟨xs, b, by simp, by simp, by omega, hx, by omega, hb0, hb1⟩
  have mo : MemOk (M0 ++ [.lst (nms xs), .lst [.ref M0.length, .int b]]) := fun o ho => by
    rcases List.mem_append.mp ho with ho | ho
    · exact clO_up (by simp) (mo0 o ho)
    · simp only [List.mem_cons, List.not_mem_nil, or_false] at ho
      rcases ho with rfl | rfl
      · exact cls_nms _ xs
      · show (decide (M0.length < (M0 ++ [_, _]).length) && (true && true)) = true
        rw [decide_eq_true (by simp)]; rfl
  generalize M0 ++ [.lst (nms xs), .lst [.ref M0.length, .int b]] = M at hd0 mo
  generalize M0.length + 1 = i at hd0
  generalize M0.length = j at hd0
  show C1 [some d, some (.ref i), none, none, none, none, none, none, none, none, none, none, none] M
  subst hC1
  refine seq_step fun C2 hC2 => ?_
  simp only [s_for, s_iR1, s_cons, s_nil, s_c]
  refine ⟨_, rfl, by decide, by decide, ?_⟩
  refine loopS_ix (fun q l Mf => To i j M Mf ∧ ∃ (o2 o3 o4 o5 o6 o7 o8 o9 o10 o11 : Option Dv), l = [some d, some (.ref i), o2, o3, o4, o5, o6, o7, o8, o9, o10, o11, none]) (fun _ _ _ _ => trivial) ⟨To.refl hd0, none, none, none, none, none, none, none, none, none, none, rfl⟩ ?_ ?_
  · rintro q x l Mf hq ⟨to, o2, o3, o4, o5, o6, o7, o8, o9, o10, o11, rfl⟩ F hF
    clear hC2 hq
    simp only [s_gN]
    refine seq_step fun D1 hD1 => ?_
    simp only [s_set, s_op, s_call, s_cons, s_nil, s_var, s_c]
    refine ⟨_, rfl, any_go to.dl (by decide) (by decide) fun r M1 r0 r1 to1 => ?_⟩
    show gAdd (.int 1) (.int r) _ _
    rw [s_add_i]
    obtain ⟨k, hk⟩ := Int.eq_ofNat_of_zero_le (show 0 ≤ 1 + r by omega)
    rw [hk]
    have k1 : 1 ≤ k := by omega
    have k8 : k ≤ 8 := by omega
    replace to := to.trans to1
    subst hD1
    refine seq_step fun D2 hD2 => ?_
    simp only [s_set, s_call, s_cons, s_nil, s_var, s_c]
    refine ⟨_, rfl, _, rfl, i, j, k, 10, rfl, to.dl, k1, by omega, by decide, by decide, fun ls M2 lo to2 => ?_⟩
    replace to := to.trans to2
    have ll := lo.len
    have lz : ∀ l ∈ ls, l.length ≤ 8 := fun l hl => by have := lo.lens l hl; omega
    subst hD2
    refine seq_step fun D3 hD3 => ?_
    simp only [s_asg, s_tup, s_cons, s_nil, s_make, s_call, s_var]
    refine ⟨_, rfl, _, rfl, _, rfl, i, j, ls, rfl, to.dl, lo.ne, by omega, fun l hl => by have := lz l hl; omega, fun zs M3 sim zl to3 => ?_⟩
    replace to := to.trans to3
    have mo3 := To.ok mo hd0 to
    refine make_go fv mo3 lo k1 (by omega) sim (by omega) ⟨_, rfl, folds_go lo (by decide) k8 fun due hdue => ⟨by simp [sizeLine_eq], ?_⟩⟩
    have hac : due = true ↔ Ac ls := hdue.trans (ac_full lo.cov).symm
    clear sim
    simp only [s_gT, s_gsC, s_gsN, s_gN]
    refine ⟨_, rfl, rfl, _, _, rfl, _, _, rfl, rfl, ?_⟩
    subst hD3
    refine seq_step fun D4 hD4 => ?_
    -- the ears
    simp only [s_ifS, s_not, s_tru, s_tells, s_cb, s_cons, s_nil, s_comp, s_iSeq, s_var]
    refine ⟨_, rfl, _, rfl, le_size (by rw [List.length_map]; omega), compT tupI (fun e => !(holdL ls e).isEmpty) rfl (by simp) (fun e he Q hQ => ?_) ?_⟩
    · simp only [s_test, s_op, s_call, s_cons, s_nil, s_var, s_lst]
      exact ⟨_, rfl, _, rfl, ls, e, rfl, by have := lz e he; omega, by omega, by simp [sizeLine_eq], ne_nilL (okDs_map fun l _ => ok_tupI l 58) ⟨_, rfl, by rw [List.isEmpty_map]; exact hQ⟩⟩
    rw [s_tuple (x := (earsL ls).map tupI) rfl]
    simp only [s_call, s_cons, s_nil, s_var]
    have el : (earsL ls).length ≤ ls.length := List.length_filter_le ..
    refine ⟨_, rfl, k, ls, rfl, fv, by omega, fun l hl => by have := lz l hl; omega, ?_⟩
    refine ⟨_, _, rfl, .inr ⟨rfl, plain_ears (by omega) (fun l hl => by have := lz l (List.mem_filter.mp hl).1; omega), true, rfl, ?_⟩⟩
    simp only [Bool.not_true, Bool.false_eq_true, if_false, s_next]
    subst hD4
    refine seq_step fun D5 hD5 => ?_
    simp only [s_set, s_call, s_cons, s_nil, s_var]
    -- what is told
    have told : ∀ v, (v = .non ∧ due = false ∨ ∃ ps, v = .tup (ps.map pairV) ∧ due = true ∧ Chain ls ps ∧ ps.length + 1 = ls.length) → D5 [some d, some (.ref i), some x, some (.int (k : Int)), some (.lst (ls.map tupI)), some (frameV C k ls), some (.bl due), some v, o8, o9, o10, o11, none] M3 := by
      intro v hv
      subst hD5
      refine seq_step fun D6 hD6 => ?_
      have next : D6 [some d, some (.ref i), some x, some (.int (k : Int)), some (.lst (ls.map tupI)), some (frameV C k ls), some (.bl due), some v, o8, o9, o10, o11, none] M3 := by
        subst hD6
        refine seq_step fun D7 hD7 => ?_
        -- lots that fold, and their frame
        have last : ∀ (n : Nat) (as : List Lot) (Mh : Mem), To i j M Mh → n ≤ 10 → Lots k n as → Ac as → D7 [some d, some (.ref i), some x, some (.int (k : Int)), some (.lst (as.map tupI)), some (frameV C k as), some (.bl due), some v, o8, o9, o10, o11, none] Mh := by
          intro n as Mh toh n10 lo2 ac
          have al := lo2.len
          have az : ∀ l ∈ as, l.length ≤ 8 := fun l hl => by have := lo2.lens l hl; omega
          have a9 : ∀ l ∈ as, l.length ≤ 900 := fun l hl => by have := az l hl; omega
          subst hD7
          refine seq_step fun D8 hD8 => ?_
          simp only [s_for, s_iR1, s_cons, s_nil, s_c]
          refine ⟨_, rfl, by decide, by decide, ?_⟩
          refine loopS_ix (fun q l Mg => To i j M Mg ∧ ∃ (o8 o9 o10 o11 : Option Dv), l = [some d, some (.ref i), some x, some (.int (k : Int)), some (.lst (as.map tupI)), some (frameV C k as), some (.bl due), some v, o8, o9, o10, o11, none]) (fun _ _ _ _ => trivial) ⟨toh, o8, o9, o10, o11, rfl⟩ ?_ ?_
          · rintro q y l Mi hq ⟨toi, o8, o9, o10, o11, rfl⟩ G hG
            simp only [s_gN]
            refine seq_step fun G1 hG1 => ?_
            simp only [s_set, s_call, s_cons, s_nil, s_var]
            refine ⟨_, rfl, _, rfl, i, j, as, rfl, toi.dl, ac, lo2.nd, lo2.ne, by omega, a9, fun ps Mj ch pl toj => ?_⟩
            replace toi := toi.trans toj
            have a0 := lo2.ne
            have tmo : tm 10 900 (.tup (ps.map pairV)) = true := tm_mono (tm_fold (b := 900) ch a9 (by omega) (by omega)) (by omega) (Nat.le_refl _)
            have fo : FoldV as (.tup (ps.map pairV)) := ⟨ps, rfl, ch, by omega⟩
            subst hG1
            refine seq_step fun G2 hG2 => ?_
            simp only [s_ifS, s_test, s_op, s_call, s_cons, s_nil, s_var, s_c]
            refine ⟨_, rfl, _, rfl, k, as, _, rfl, fv, a0, by omega, a9, tmo, fun b hb => ?_⟩
            have eb : b = true := hb.mpr fo
            subst eb
            show gIs true (.bl true) (.bl true) _ _
            refine ⟨true, rfl, ?_⟩
            refine ⟨_, rfl, ?_⟩
            simp only [if_true, Bool.not_true, Bool.false_eq_true, if_false, s_next]
            subst hG2
            simp only [s_seq, s_for, s_iR1, s_cons, s_nil, s_c]
            refine ⟨_, rfl, by decide, by decide, ?_⟩
            refine loopS_ix (fun q l Mg => To i j M Mg ∧ ∃ (o10 o11 : Option Dv), l = [some d, some (.ref i), some x, some (.int (k : Int)), some (.lst (as.map tupI)), some (frameV C k as), some (.bl due), some v, some y, some (.tup (ps.map pairV)), o10, o11, none]) (fun _ _ _ _ => trivial) ⟨toi, o10, o11, rfl⟩ ?_ ?_
            · rintro q z l Mk hq ⟨tok, o10, o11, rfl⟩ G' hG'
              simp only [s_gN]
              refine seq_step fun G3 hG3 => ?_
              simp only [s_set, s_call, s_cons, s_nil, s_var]
              refine ⟨_, rfl, _, rfl, _, rfl, i, j, as, ps, rfl, tok.dl, a0, by omega, by omega, fun l hl => by have := az l hl; omega, fun p hp => ?_, fun odd Ml tmd tol => ?_⟩
              · obtain ⟨h1, h2⟩ := chain_mem ch p hp
                have := az _ h1
                have := az _ h2
                omega
              have tmd9 : tm 10 900 odd = true := tm_mono tmd (Nat.le_refl _) (by omega)
              subst hG3
              refine seq_step fun G4 hG4 => ?_
              simp only [s_ifS, s_not, s_tru, s_call, s_cons, s_nil, s_var]
              refine ⟨_, rfl, _, rfl, k, as, odd, rfl, fv, a0, by omega, a9, tmd9, fun b hb => ⟨_, rfl, _, rfl, as, odd, rfl, a0, by omega, a9, tmd9, fun b' hb' => ?_⟩⟩
              have e : b = b' := bool_of hb hb'
              subst e
              refine ⟨_, _, rfl, .inl ⟨b, b, rfl, rfl, true, by simp, ?_⟩⟩
              simp only [Bool.not_true, Bool.false_eq_true, if_false, s_next]
              subst hG4
              simp only [s_next]
              exact hG' _ _ ⟨tok.trans tol, _, _, rfl⟩
            · rintro l Mk ⟨tok, o10, o11, rfl⟩
              exact hG _ _ ⟨tok, _, _, _, _, rfl⟩
          · rintro l Mi ⟨toi, o8, o9, o10, o11, rfl⟩
            show D8 _ _
            have a0 := lo2.ne
            subst hD8
            refine seq_step fun D9 hD9 => ?_
            simp only [s_ifS, s_not, s_tru, s_call, s_cons, s_nil, s_var]
            refine ⟨_, rfl, _, rfl, k, as, rfl, fv, lo2.nd, a0, by omega, a9, fun z => absurd ac z, fun ps ch pl _ => ?_⟩
            refine ⟨as, _, rfl, a0, by omega, a9, tm_mono (tm_fold (b := 900) ch a9 (by omega) (by omega)) (by omega) (Nat.le_refl _), fun b hb => ?_⟩
            have eb : b = true := hb.mpr ⟨ps, rfl, ch, pl⟩
            subst eb
            refine ⟨_, rfl, ?_⟩
            simp only [Bool.not_true, Bool.false_eq_true, if_false, s_next]
            subst hD9
            simp only [s_next]
            exact hF _ _ ⟨toi, _, _, _, _, _, _, _, _, _, _, rfl⟩
        simp only [s_ifS, s_not, s_tru, s_var]
        refine ⟨_, rfl, _, rfl, ?_⟩
        cases due with
        | true =>
          simp only [Bool.not_true, Bool.false_eq_true, if_false, s_next]
          exact last 10 ls M3 to (by decide) lo (hac.mp rfl)
        | false =>
          simp only [Bool.not_false, if_true]
          refine seq_step fun G1 hG1 => ?_
          simp only [s_set, s_call, s_cons, s_nil, s_var, s_c]
          refine ⟨_, rfl, _, rfl, i, j, k, 9, rfl, to.dl, k1, by omega, by decide, by decide, fun as Mh lo2 ac toh => ?_⟩
          have moh := To.ok mo hd0 (to.trans toh)
          have al := lo2.len
          subst hG1
          simp only [s_seq, s_set, s_make, s_cons, s_nil, s_var]
          refine ⟨_, rfl, _, rfl, ?_⟩
          rw [lots_V as]
          refine make_go fv moh lo2 k1 (by omega) (sim_self as) (by rw [List.length_map]; omega) ?_
          rw [← lots_V as]
          exact last 9 as Mh (to.trans toh) (by decide) lo2 ac
      simp only [s_ifS, s_or, s_and, s_not, s_tru, s_test, s_op, s_call, s_cons, s_nil, s_var, s_c]
      refine ⟨_, rfl, ?_⟩
      rcases hv with ⟨rfl, e⟩ | ⟨ps, rfl, e, ch, pl⟩
      · subst e
        refine ⟨true, rfl, _, rfl, ?_⟩
        show gEq (.bl true) (.bl false) _ _
        refine eq_bl ⟨_, rfl, ?_⟩
        rw [if_neg (by decide)]
        refine ⟨_, rfl, _, rfl, ?_⟩
        rw [if_neg (by simp), if_neg (by simp)]
        exact next
      · subst e
        refine ⟨false, rfl, _, rfl, ?_⟩
        show gEq (.bl false) (.bl true) _ _
        refine eq_bl ⟨_, rfl, ?_⟩
        rw [if_neg (by decide)]
        refine ⟨_, rfl, _, rfl, ?_⟩
        rw [if_pos rfl]
        have l9 : ∀ l ∈ ls, l.length ≤ 900 := fun l hl => by have := lz l hl; omega
        refine ⟨_, rfl, _, rfl, ls, _, rfl, lo.ne, by omega, l9, tm_mono (tm_fold (b := 900) ch l9 (by omega) (by omega)) (by omega) (Nat.le_refl _), fun b hb => ?_⟩
        have eb : b = true := hb.mpr ⟨ps, rfl, ch, pl⟩
        subst eb
        refine ⟨_, rfl, ?_⟩
        rw [if_neg (by simp)]
        exact next
    refine ⟨_, rfl, k, ls, rfl, fv, lo.nd, lo.ne, by omega, fun l hl => by have := lz l hl; omega, fun hn => told .non (.inl ⟨rfl, ?_⟩), fun ps ch pl ac => told _ (.inr ⟨ps, rfl, hac.mpr ac, ch, pl⟩)⟩
    cases due with
    | false => rfl
    | true => exact absurd (hac.mp rfl) hn
  · rintro l Mf ⟨to, o2, o3, o4, o5, o6, o7, o8, o9, o10, o11, rfl⟩
    show C2 _ _
    subst hC2
    simp only [s_seq, s_ret, s_c]
    exact rt _
end D.k35
end

section
set_option Elab.async false
set_option linter.all false
set_option maxRecDepth 100000
set_option autoImplicit false
/-! k35: the defs that call themselves, depth by depth. -/
namespace D.k35
open PySem PySem.Spec PyProof.Rows L2 D D.P80
theorem p__law_same_0 : ∀ ds M Pd X, MemOk M → S__law_same 0 ds M Pd X → t__law_same S_none (dkOf M.length Pd X) (startD N__law_same ds) M :=
  p__law_same 0 S_none fun _ _ _ _ _ e => by cases e
theorem p__law_same_s (n : Nat) : ∀ ds M Pd X, MemOk M → S__law_same (n + 1) ds M Pd X → t__law_same (S__law_same n) (dkOf M.length Pd X) (startD N__law_same ds) M :=
  p__law_same (n + 1) (S__law_same n) fun m a M P Y e hp h => by cases e; exact ⟨a, a, rfl, .inr ⟨rfl, hp, h⟩⟩
theorem p__law_spoilt_0 : ∀ ds M Pd X, MemOk M → S__law_spoilt 0 ds M Pd X → t__law_spoilt S__law_any S__law_of S_none (dkOf M.length Pd X) (startD N__law_spoilt ds) M :=
  p__law_spoilt 0 S_none fun _ _ _ _ _ e => by cases e
theorem p__law_spoilt_s (n : Nat) : ∀ ds M Pd X, MemOk M → S__law_spoilt (n + 1) ds M Pd X → t__law_spoilt S__law_any S__law_of (S__law_spoilt n) (dkOf M.length Pd X) (startD N__law_spoilt ds) M :=
  p__law_spoilt (n + 1) (S__law_spoilt n) fun m ds M P Y e h => by cases e; exact h
end D.k35
end

section
set_option Elab.async false
set_option linter.all false
set_option maxRecDepth 100000
set_option maxHeartbeats 0
/-! each def by name, the head; printed by chain.py. -/
namespace D.k35
open PySem PySem.Spec PyProof.Rows L2 D
def d__law_heard : He.DefD := ⟨("_law_heard", none), "_law_heard", "_law_heard", defArgs s__law_heard, defBody s__law_heard, defScope s__law_heard, [], []⟩
def d__law_tells : He.DefD := ⟨("_law_tells", none), "_law_tells", "_law_tells", defArgs s__law_tells, defBody s__law_tells, defScope s__law_tells, [], []⟩
def d_Frame___init__ : He.DefD := ⟨("Frame", some "__init__"), "__init__", "Frame.__init__", defArgs s_Frame___init__, defBody s_Frame___init__, defScope s_Frame___init__, [], []⟩
def d_is_integer : He.DefD := ⟨("is_integer", none), "is_integer", "is_integer", defArgs s_is_integer, defBody s_is_integer, defScope s_is_integer, [], []⟩
def d_is_number : He.DefD := ⟨("is_number", none), "is_number", "is_number", defArgs s_is_number, defBody s_is_number, defScope s_is_number, [], []⟩
def d_is_index : He.DefD := ⟨("is_index", none), "is_index", "is_index", defArgs s_is_index, defBody s_is_index, defScope s_is_index, [], []⟩
def d_is_sequence : He.DefD := ⟨("is_sequence", none), "is_sequence", "is_sequence", defArgs s_is_sequence, defBody s_is_sequence, defScope s_is_sequence, [], []⟩
def d_is_lot_of : He.DefD := ⟨("is_lot_of", none), "is_lot_of", "is_lot_of", defArgs s_is_lot_of, defBody s_is_lot_of, defScope s_is_lot_of, [], []⟩
def d_checked_keys : He.DefD := ⟨("checked_keys", none), "checked_keys", "checked_keys", defArgs s_checked_keys, defBody s_checked_keys, defScope s_checked_keys, [], []⟩
def d_common : He.DefD := ⟨("common", none), "common", "common", defArgs s_common, defBody s_common, defScope s_common, [], []⟩
def d_shared_with : He.DefD := ⟨("shared_with", none), "shared_with", "shared_with", defArgs s_shared_with, defBody s_shared_with, defScope s_shared_with, [], []⟩
def d_is_holder : He.DefD := ⟨("is_holder", none), "is_holder", "is_holder", defArgs s_is_holder, defBody s_is_holder, defScope s_is_holder, [], []⟩
def d_others_than : He.DefD := ⟨("others_than", none), "others_than", "others_than", defArgs s_others_than, defBody s_others_than, defScope s_others_than, [], []⟩
def d_first_holder : He.DefD := ⟨("first_holder", none), "first_holder", "first_holder", defArgs s_first_holder, defBody s_first_holder, defScope s_first_holder, [], []⟩
def d_ears_of : He.DefD := ⟨("ears_of", none), "ears_of", "ears_of", defArgs s_ears_of, defBody s_ears_of, defScope s_ears_of, [], []⟩
def d_ears : He.DefD := ⟨("ears", none), "ears", "ears", defArgs s_ears, defBody s_ears, defScope s_ears, [], []⟩
def d_folding : He.DefD := ⟨("folding", none), "folding", "folding", defArgs s_folding, defBody s_folding, defScope s_folding, [], []⟩
def d_is_one_of : He.DefD := ⟨("is_one_of", none), "is_one_of", "is_one_of", defArgs s_is_one_of, defBody s_is_one_of, defScope s_is_one_of, [], []⟩
def d_is_pair_of : He.DefD := ⟨("is_pair_of", none), "is_pair_of", "is_pair_of", defArgs s_is_pair_of, defBody s_is_pair_of, defScope s_is_pair_of, [], []⟩
def d_is_folding : He.DefD := ⟨("is_folding", none), "is_folding", "is_folding", defArgs s_is_folding, defBody s_is_folding, defScope s_is_folding, [], []⟩
def d__law_draw : He.DefD := ⟨("_law_draw", none), "_law_draw", "_law_draw", defArgs s__law_draw, defBody s__law_draw, defScope s__law_draw, [], []⟩
def d__law_any : He.DefD := ⟨("_law_any", none), "_law_any", "_law_any", defArgs s__law_any, defBody s__law_any, defScope s__law_any, [], []⟩
def d__law_of : He.DefD := ⟨("_law_of", none), "_law_of", "_law_of", defArgs s__law_of, defBody s__law_of, defScope s__law_of, [], []⟩
def d__law_mixed : He.DefD := ⟨("_law_mixed", none), "_law_mixed", "_law_mixed", defArgs s__law_mixed, defBody s__law_mixed, defScope s__law_mixed, [], []⟩
def d__law_given_lots : He.DefD := ⟨("_law_given_lots", none), "_law_given_lots", "_law_given_lots", defArgs s__law_given_lots, defBody s__law_given_lots, defScope s__law_given_lots, [], []⟩
def d__law_same : He.DefD := ⟨("_law_same", none), "_law_same", "_law_same", defArgs s__law_same, defBody s__law_same, defScope s__law_same, [], []⟩
def d__law_numbers : He.DefD := ⟨("_law_numbers", none), "_law_numbers", "_law_numbers", defArgs s__law_numbers, defBody s__law_numbers, defScope s__law_numbers, [], []⟩
def d__law_once : He.DefD := ⟨("_law_once", none), "_law_once", "_law_once", defArgs s__law_once, defBody s__law_once, defScope s__law_once, [], []⟩
def d__law_grown : He.DefD := ⟨("_law_grown", none), "_law_grown", "_law_grown", defArgs s__law_grown, defBody s__law_grown, defScope s__law_grown, [], []⟩
def d__law_round : He.DefD := ⟨("_law_round", none), "_law_round", "_law_round", defArgs s__law_round, defBody s__law_round, defScope s__law_round, [], []⟩
def d__law_spotted : He.DefD := ⟨("_law_spotted", none), "_law_spotted", "_law_spotted", defArgs s__law_spotted, defBody s__law_spotted, defScope s__law_spotted, [], []⟩
def d__law_frame : He.DefD := ⟨("_law_frame", none), "_law_frame", "_law_frame", defArgs s__law_frame, defBody s__law_frame, defScope s__law_frame, [], []⟩
def d__law_any_way : He.DefD := ⟨("_law_any_way", none), "_law_any_way", "_law_any_way", defArgs s__law_any_way, defBody s__law_any_way, defScope s__law_any_way, [], []⟩
def d__law_folds : He.DefD := ⟨("_law_folds", none), "_law_folds", "_law_folds", defArgs s__law_folds, defBody s__law_folds, defScope s__law_folds, [], []⟩
def d__law_shares : He.DefD := ⟨("_law_shares", none), "_law_shares", "_law_shares", defArgs s__law_shares, defBody s__law_shares, defScope s__law_shares, [], []⟩
def d__law_holders : He.DefD := ⟨("_law_holders", none), "_law_holders", "_law_holders", defArgs s__law_holders, defBody s__law_holders, defScope s__law_holders, [], []⟩
def d__law_taken_off : He.DefD := ⟨("_law_taken_off", none), "_law_taken_off", "_law_taken_off", defArgs s__law_taken_off, defBody s__law_taken_off, defScope s__law_taken_off, [], []⟩
def d__law_is_folding : He.DefD := ⟨("_law_is_folding", none), "_law_is_folding", "_law_is_folding", defArgs s__law_is_folding, defBody s__law_is_folding, defScope s__law_is_folding, [], []⟩
def d__law_spoilt : He.DefD := ⟨("_law_spoilt", none), "_law_spoilt", "_law_spoilt", defArgs s__law_spoilt, defBody s__law_spoilt, defScope s__law_spoilt, [], []⟩
def d__law_turned : He.DefD := ⟨("_law_turned", none), "_law_turned", "_law_turned", defArgs s__law_turned, defBody s__law_turned, defScope s__law_turned, [], []⟩
def d_law : He.DefD := ⟨("law", none), "law", "law", defArgs s_law, defBody s_law, defScope s_law, [], []⟩
def fn : List He.DefD := [d__law_heard, d__law_tells, d_Frame___init__, d_is_integer, d_is_number, d_is_index, d_is_sequence, d_is_lot_of, d_checked_keys, d_common, d_shared_with, d_is_holder, d_others_than, d_first_holder, d_ears_of, d_ears, d_folding, d_is_one_of, d_is_pair_of, d_is_folding, d__law_draw, d__law_any, d__law_of, d__law_mixed, d__law_given_lots, d__law_same, d__law_numbers, d__law_once, d__law_grown, d__law_round, d__law_spotted, d__law_frame, d__law_any_way, d__law_folds, d__law_shares, d__law_holders, d__law_taken_off, d__law_is_folding, d__law_spoilt, d__law_turned, d_law]
def fa : List He.Fa := [.glo "_law_heard", .glo "_law_tells", .glo "is_integer", .glo "is_number", .glo "is_index", .glo "is_sequence", .glo "is_lot_of", .glo "checked_keys", .glo "common", .glo "shared_with", .glo "is_holder", .glo "others_than", .glo "first_holder", .glo "ears_of", .glo "ears", .glo "folding", .glo "is_one_of", .glo "is_pair_of", .glo "is_folding", .glo "_law_draw", .glo "_law_any", .glo "_law_of", .glo "_law_mixed", .glo "_law_given_lots", .glo "_law_same", .glo "_law_numbers", .glo "_law_once", .glo "_law_grown", .glo "_law_round", .glo "_law_spotted", .glo "_law_frame", .glo "_law_any_way", .glo "_law_folds", .glo "_law_shares", .glo "_law_holders", .glo "_law_taken_off", .glo "_law_is_folding", .glo "_law_spoilt", .glo "_law_turned", .glo "law", .free "tuple", .free "sorted", .free "set", .free "len", .free "enumerate", .free "isinstance", .free "bool", .free "int", .free "list", .free "all", .free "any", .free "abs", .free "str", .free "range", .free "min", .glo "Frame", .cls "Frame", .mkr "Frame", .noat "Frame" "key_count", .noat "Frame" "lots"]
def tf : List He.Defn := [(("law" : Str), none)]
def ex : PySem.W.Frag → Bool := fun _ => true
abbrev lq : Str := (("law" : Str) ++ ".<locals>.") ++ "<lambda>"
section
variable [TBL]
variable {P : Program} {w : World} {K : PySem.W.Frag} {mg : Str → Option Value} {base : Heap}
theorem fx_never {n : Nat} {x : Str} {st : Stmt} {ps : List Str} {f : Addr} {fd : FuncData} (D : FnP K x st f fd) (m : mg x = some (.ref f)) : Fx P w K mg base n x st ps S_none :=
  ⟨f, fd, ⟨fun ds M Pd X q => q.elim, fun A outer s H args us vs Q E hr hgu e0 hb rv ⟨f, M, ds, Pd, Y, m, r, q, k, kx⟩ => q.elim⟩, m, D⟩
end
theorem facts {P : Program} {w : World} {K : PySem.W.Frag} {h : Heap} {mg : Str → Option Value} {f : Addr} (X : K.In h) (G : h.Ns mainGlobals mg) (hfa : mg ("law" : Str) = some (.ref f)) (c0 : He.SaysX fa fn [] tf ex w h K) :
    LawT P w mg h 10 63 f "script" := by
  have c := c0.t.d
  obtain ⟨fd__law_heard, D__law_heard⟩ := c.def_ 0 (d := d__law_heard) rfl
  have m__law_heard := He.glo_ok X G (c.fact 0 (f := .glo "_law_heard") rfl)
  obtain ⟨fd__law_tells, D__law_tells⟩ := c.def_ 1 (d := d__law_tells) rfl
  have m__law_tells := He.glo_ok X G (c.fact 1 (f := .glo "_law_tells") rfl)
  obtain ⟨fd_Frame___init__, D_Frame___init__⟩ := c.def_ 2 (d := d_Frame___init__) rfl
  obtain ⟨fd_is_integer, D_is_integer⟩ := c.def_ 3 (d := d_is_integer) rfl
  have m_is_integer := He.glo_ok X G (c.fact 2 (f := .glo "is_integer") rfl)
  obtain ⟨fd_is_number, D_is_number⟩ := c.def_ 4 (d := d_is_number) rfl
  have m_is_number := He.glo_ok X G (c.fact 3 (f := .glo "is_number") rfl)
  obtain ⟨fd_is_index, D_is_index⟩ := c.def_ 5 (d := d_is_index) rfl
  have m_is_index := He.glo_ok X G (c.fact 4 (f := .glo "is_index") rfl)
  obtain ⟨fd_is_sequence, D_is_sequence⟩ := c.def_ 6 (d := d_is_sequence) rfl
  have m_is_sequence := He.glo_ok X G (c.fact 5 (f := .glo "is_sequence") rfl)
  obtain ⟨fd_is_lot_of, D_is_lot_of⟩ := c.def_ 7 (d := d_is_lot_of) rfl
  have m_is_lot_of := He.glo_ok X G (c.fact 6 (f := .glo "is_lot_of") rfl)
  obtain ⟨fd_checked_keys, D_checked_keys⟩ := c.def_ 8 (d := d_checked_keys) rfl
  have m_checked_keys := He.glo_ok X G (c.fact 7 (f := .glo "checked_keys") rfl)
  obtain ⟨fd_common, D_common⟩ := c.def_ 9 (d := d_common) rfl
  have m_common := He.glo_ok X G (c.fact 8 (f := .glo "common") rfl)
  obtain ⟨fd_shared_with, D_shared_with⟩ := c.def_ 10 (d := d_shared_with) rfl
  have m_shared_with := He.glo_ok X G (c.fact 9 (f := .glo "shared_with") rfl)
  obtain ⟨fd_is_holder, D_is_holder⟩ := c.def_ 11 (d := d_is_holder) rfl
  have m_is_holder := He.glo_ok X G (c.fact 10 (f := .glo "is_holder") rfl)
  obtain ⟨fd_others_than, D_others_than⟩ := c.def_ 12 (d := d_others_than) rfl
  have m_others_than := He.glo_ok X G (c.fact 11 (f := .glo "others_than") rfl)
  obtain ⟨fd_first_holder, D_first_holder⟩ := c.def_ 13 (d := d_first_holder) rfl
  have m_first_holder := He.glo_ok X G (c.fact 12 (f := .glo "first_holder") rfl)
  obtain ⟨fd_ears_of, D_ears_of⟩ := c.def_ 14 (d := d_ears_of) rfl
  have m_ears_of := He.glo_ok X G (c.fact 13 (f := .glo "ears_of") rfl)
  obtain ⟨fd_ears, D_ears⟩ := c.def_ 15 (d := d_ears) rfl
  have m_ears := He.glo_ok X G (c.fact 14 (f := .glo "ears") rfl)
  obtain ⟨fd_folding, D_folding⟩ := c.def_ 16 (d := d_folding) rfl
  have m_folding := He.glo_ok X G (c.fact 15 (f := .glo "folding") rfl)
  obtain ⟨fd_is_one_of, D_is_one_of⟩ := c.def_ 17 (d := d_is_one_of) rfl
  have m_is_one_of := He.glo_ok X G (c.fact 16 (f := .glo "is_one_of") rfl)
  obtain ⟨fd_is_pair_of, D_is_pair_of⟩ := c.def_ 18 (d := d_is_pair_of) rfl
  have m_is_pair_of := He.glo_ok X G (c.fact 17 (f := .glo "is_pair_of") rfl)
  obtain ⟨fd_is_folding, D_is_folding⟩ := c.def_ 19 (d := d_is_folding) rfl
  have m_is_folding := He.glo_ok X G (c.fact 18 (f := .glo "is_folding") rfl)
  obtain ⟨fd__law_draw, D__law_draw⟩ := c.def_ 20 (d := d__law_draw) rfl
  have m__law_draw := He.glo_ok X G (c.fact 19 (f := .glo "_law_draw") rfl)
  obtain ⟨fd__law_any, D__law_any⟩ := c.def_ 21 (d := d__law_any) rfl
  have m__law_any := He.glo_ok X G (c.fact 20 (f := .glo "_law_any") rfl)
  obtain ⟨fd__law_of, D__law_of⟩ := c.def_ 22 (d := d__law_of) rfl
  have m__law_of := He.glo_ok X G (c.fact 21 (f := .glo "_law_of") rfl)
  obtain ⟨fd__law_mixed, D__law_mixed⟩ := c.def_ 23 (d := d__law_mixed) rfl
  have m__law_mixed := He.glo_ok X G (c.fact 22 (f := .glo "_law_mixed") rfl)
  obtain ⟨fd__law_given_lots, D__law_given_lots⟩ := c.def_ 24 (d := d__law_given_lots) rfl
  have m__law_given_lots := He.glo_ok X G (c.fact 23 (f := .glo "_law_given_lots") rfl)
  obtain ⟨fd__law_same, D__law_same⟩ := c.def_ 25 (d := d__law_same) rfl
  have m__law_same := He.glo_ok X G (c.fact 24 (f := .glo "_law_same") rfl)
  obtain ⟨fd__law_numbers, D__law_numbers⟩ := c.def_ 26 (d := d__law_numbers) rfl
  have m__law_numbers := He.glo_ok X G (c.fact 25 (f := .glo "_law_numbers") rfl)
  obtain ⟨fd__law_once, D__law_once⟩ := c.def_ 27 (d := d__law_once) rfl
  have m__law_once := He.glo_ok X G (c.fact 26 (f := .glo "_law_once") rfl)
  obtain ⟨fd__law_grown, D__law_grown⟩ := c.def_ 28 (d := d__law_grown) rfl
  have m__law_grown := He.glo_ok X G (c.fact 27 (f := .glo "_law_grown") rfl)
  obtain ⟨fd__law_round, D__law_round⟩ := c.def_ 29 (d := d__law_round) rfl
  have m__law_round := He.glo_ok X G (c.fact 28 (f := .glo "_law_round") rfl)
  obtain ⟨fd__law_spotted, D__law_spotted⟩ := c.def_ 30 (d := d__law_spotted) rfl
  have m__law_spotted := He.glo_ok X G (c.fact 29 (f := .glo "_law_spotted") rfl)
  obtain ⟨fd__law_frame, D__law_frame⟩ := c.def_ 31 (d := d__law_frame) rfl
  have m__law_frame := He.glo_ok X G (c.fact 30 (f := .glo "_law_frame") rfl)
  obtain ⟨fd__law_any_way, D__law_any_way⟩ := c.def_ 32 (d := d__law_any_way) rfl
  have m__law_any_way := He.glo_ok X G (c.fact 31 (f := .glo "_law_any_way") rfl)
  obtain ⟨fd__law_folds, D__law_folds⟩ := c.def_ 33 (d := d__law_folds) rfl
  have m__law_folds := He.glo_ok X G (c.fact 32 (f := .glo "_law_folds") rfl)
  obtain ⟨fd__law_shares, D__law_shares⟩ := c.def_ 34 (d := d__law_shares) rfl
  have m__law_shares := He.glo_ok X G (c.fact 33 (f := .glo "_law_shares") rfl)
  obtain ⟨fd__law_holders, D__law_holders⟩ := c.def_ 35 (d := d__law_holders) rfl
  have m__law_holders := He.glo_ok X G (c.fact 34 (f := .glo "_law_holders") rfl)
  obtain ⟨fd__law_taken_off, D__law_taken_off⟩ := c.def_ 36 (d := d__law_taken_off) rfl
  have m__law_taken_off := He.glo_ok X G (c.fact 35 (f := .glo "_law_taken_off") rfl)
  obtain ⟨fd__law_is_folding, D__law_is_folding⟩ := c.def_ 37 (d := d__law_is_folding) rfl
  have m__law_is_folding := He.glo_ok X G (c.fact 36 (f := .glo "_law_is_folding") rfl)
  obtain ⟨fd__law_spoilt, D__law_spoilt⟩ := c.def_ 38 (d := d__law_spoilt) rfl
  have m__law_spoilt := He.glo_ok X G (c.fact 37 (f := .glo "_law_spoilt") rfl)
  obtain ⟨fd__law_turned, D__law_turned⟩ := c.def_ 39 (d := d__law_turned) rfl
  have m__law_turned := He.glo_ok X G (c.fact 38 (f := .glo "_law_turned") rfl)
  obtain ⟨fd_law, D_law⟩ := c.def_ 40 (d := d_law) rfl
  have m_law := He.glo_ok X G (c.fact 39 (f := .glo "law") rfl)
  have n_tuple := He.free_ok X G (c.fact 40 (f := .free "tuple") rfl)
  have n_sorted := He.free_ok X G (c.fact 41 (f := .free "sorted") rfl)
  have n_set := He.free_ok X G (c.fact 42 (f := .free "set") rfl)
  have n_len := He.free_ok X G (c.fact 43 (f := .free "len") rfl)
  have n_enumerate := He.free_ok X G (c.fact 44 (f := .free "enumerate") rfl)
  have n_isinstance := He.free_ok X G (c.fact 45 (f := .free "isinstance") rfl)
  have n_bool := He.free_ok X G (c.fact 46 (f := .free "bool") rfl)
  have n_int := He.free_ok X G (c.fact 47 (f := .free "int") rfl)
  have n_list := He.free_ok X G (c.fact 48 (f := .free "list") rfl)
  have n_all := He.free_ok X G (c.fact 49 (f := .free "all") rfl)
  have n_any := He.free_ok X G (c.fact 50 (f := .free "any") rfl)
  have n_abs := He.free_ok X G (c.fact 51 (f := .free "abs") rfl)
  have n_str := He.free_ok X G (c.fact 52 (f := .free "str") rfl)
  have n_range := He.free_ok X G (c.fact 53 (f := .free "range") rfl)
  have n_min := He.free_ok X G (c.fact 54 (f := .free "min") rfl)
  have m_Frame := He.glo_ok X G (c.fact 55 (f := .glo "Frame") rfl)
  have c_Frame := He.cls_ok (c.fact 56 (f := .cls "Frame") rfl)
  have k_Frame := He.mkr_ok (c.fact 57 (f := .mkr "Frame") rfl)
  have a_Frame_key_count := He.noat_ok (c.fact 58 (f := .noat "Frame" "key_count") rfl)
  have a_Frame_lots := He.noat_ok (c.fact 59 (f := .noat "Frame" "lots") rfl)
  have fv : FV K (He.ga K "Frame") := ⟨⟨c_Frame, a_Frame_key_count⟩, ⟨c_Frame, a_Frame_lots⟩⟩
  have e := hfa.symm.trans m_law
  cases e
  have one : ((("law" : Str), none) : He.Defn) ∈ tf := List.mem_singleton.mpr rfl
  refine ⟨K, fd_law, [He.cT K ("law", none)], [((He.cT K ("law", none)).2, lq)], X, fun s v => FunD.bindsA (ps := ["script"]) D_law (fun _ _ _ _ _ _ us hl => match us, hl with | [_], _ => rfl) s [v] rfl,
    fun p hp => by rw [List.mem_singleton.mp hp]; exact c0.empty _ one, fun p hp => by rw [List.mem_singleton.mp hp]; exact c0.out _ one, fun p hp => by rw [List.mem_singleton.mp hp]; exact PySem.W.codeHd_of_K X (c0.hd _ one),
    fun p hp => by rw [List.mem_singleton.mp hp]; exact List.mem_singleton.mpr rfl, fun base _ _ TB => ?_⟩
  letI : TBL := ⟨[((He.cT K ("law", none)).2, lq)]⟩
  have TB0 := TB _ (List.mem_singleton.mpr rfl)
  have F__law_heard : Heard P w K mg base "_law_heard" s__law_heard "work" := ok__law_heard D__law_heard m__law_heard
  have F_is_integer : Fx P w K mg base 1 "is_integer" s_is_integer ps_is_integer S_is_integer := ok_is_integer D_is_integer m_is_integer n_isinstance n_bool n_int (by rintro _ _ _ _ ⟨_, rfl, _⟩; rfl) p_is_integer
  have F_is_number : Fx P w K mg base 2 "is_number" s_is_number ps_is_number S_is_number := ok_is_number D_is_number m_is_number (F_is_integer.mono (by decide)) (by rintro _ _ _ _ ⟨_, rfl, _⟩; rfl) p_is_number
  have F_is_index : Fx P w K mg base 3 "is_index" s_is_index ps_is_index S_is_index := ok_is_index D_is_index m_is_index (F_is_number.mono (by decide)) (by rintro _ _ _ _ ⟨_, _, rfl, _⟩; rfl) p_is_index
  have F_is_sequence : Fx P w K mg base 1 "is_sequence" s_is_sequence ps_is_sequence S_is_sequence := ok_is_sequence D_is_sequence m_is_sequence n_isinstance n_tuple n_list (by rintro _ _ _ _ ⟨_, rfl, _⟩; rfl) p_is_sequence
  have F_is_lot_of : Fx P w K mg base 4 "is_lot_of" s_is_lot_of ps_is_lot_of S_is_lot_of := ok_is_lot_of D_is_lot_of m_is_lot_of (F_is_index.mono (by decide)) (F_is_sequence.mono (by decide)) n_len n_set n_all (by rintro _ _ _ _ ⟨_, _, rfl, _⟩; rfl) p_is_lot_of
  have F_checked_keys : Fx P w K mg base 3 "checked_keys" s_checked_keys ps_checked_keys S_checked_keys := ok_checked_keys D_checked_keys m_checked_keys (F_is_number.mono (by decide)) (by rintro _ _ _ _ ⟨_, rfl, _⟩; rfl) p_checked_keys
  have M_Frame : Mx P w K mg base 6 "Frame" "Frame.__init__" (He.ga K "Frame") s_Frame___init__ ps_Frame___init__ (S_Frame___init__ K (He.ga K "Frame")) := ok_Frame___init__ D_Frame___init__ m_Frame k_Frame (F_is_lot_of.mono (by decide)) (F_is_sequence.mono (by decide)) (F_checked_keys.mono (by decide)) n_tuple n_sorted n_set n_len n_enumerate (by rintro _ _ _ _ ⟨_, _, _, rfl, _⟩; rfl) (p_Frame___init__ K _)
  have F_common : Fx P w K mg base 1 "common" s_common ps_common S_common := ok_common D_common m_common n_tuple (by rintro _ _ _ _ ⟨_, _, rfl, _⟩; rfl) p_common
  have F_shared_with : Fx P w K mg base 1 "shared_with" s_shared_with ps_shared_with S_shared_with := ok_shared_with D_shared_with m_shared_with n_tuple n_any (by rintro _ _ _ _ ⟨_, _, _, rfl, _⟩; rfl) p_shared_with
  have F_is_holder : Fx P w K mg base 2 "is_holder" s_is_holder ps_is_holder S_is_holder := ok_is_holder D_is_holder m_is_holder (F_common.mono (by decide)) (F_shared_with.mono (by decide)) (by rintro _ _ _ _ ⟨_, _, _, _, rfl, _⟩; rfl) p_is_holder
  have F_others_than : Fx P w K mg base 1 "others_than" s_others_than ps_others_than S_others_than := ok_others_than D_others_than m_others_than  (by rintro _ _ _ _ ⟨_, _, _, rfl, _⟩; rfl) p_others_than
  have F_first_holder : Fx P w K mg base 3 "first_holder" s_first_holder ps_first_holder S_first_holder := ok_first_holder D_first_holder m_first_holder (F_is_holder.mono (by decide)) n_len (by rintro _ _ _ _ ⟨_, _, _, rfl, _⟩; rfl) p_first_holder
  have F_ears_of : Fx P w K mg base 4 "ears_of" s_ears_of ps_ears_of S_ears_of := ok_ears_of D_ears_of m_ears_of (F_first_holder.mono (by decide)) (F_others_than.mono (by decide)) (by rintro _ _ _ _ ⟨_, _, rfl, _⟩; rfl) p_ears_of
  have F_ears : Fx P w K mg base 5 "ears" s_ears ps_ears (S_ears K (He.ga K "Frame")) := ok_ears D_ears m_ears (F_ears_of.mono (by decide)) n_tuple (by rintro _ _ _ _ ⟨_, _, rfl, _⟩; rfl) (p_ears K _)
  have F_folding : Fx P w K mg base 5 "folding" s_folding ps_folding (S_folding K (He.ga K "Frame")) := ok_folding D_folding m_folding (F_first_holder.mono (by decide)) (F_others_than.mono (by decide)) (F_ears_of.mono (by decide)) n_tuple n_len n_list (by rintro _ _ _ _ ⟨_, _, rfl, _⟩; rfl) (p_folding K _)
  have F_is_one_of : Fx P w K mg base 2 "is_one_of" s_is_one_of ps_is_one_of S_is_one_of := ok_is_one_of D_is_one_of m_is_one_of (F_is_integer.mono (by decide)) n_all n_isinstance n_tuple (by rintro _ _ _ _ ⟨_, _, rfl, _⟩; rfl) p_is_one_of
  have F_is_pair_of : Fx P w K mg base 3 "is_pair_of" s_is_pair_of ps_is_pair_of S_is_pair_of := ok_is_pair_of D_is_pair_of m_is_pair_of (F_is_one_of.mono (by decide)) n_all n_len n_isinstance n_tuple (by rintro _ _ _ _ ⟨_, _, rfl, _⟩; rfl) p_is_pair_of
  have F_is_folding : Fx P w K mg base 4 "is_folding" s_is_folding ps_is_folding (S_is_folding K (He.ga K "Frame")) := ok_is_folding D_is_folding m_is_folding (F_is_holder.mono (by decide)) (F_others_than.mono (by decide)) (F_is_pair_of.mono (by decide)) n_list n_len n_isinstance n_tuple (by rintro _ _ _ _ ⟨_, _, _, rfl, _⟩; rfl) (p_is_folding K _)
  have F__law_draw : Fx P w K mg base 1 "_law_draw" s__law_draw ps__law_draw (S__law_draw K) := ok__law_draw D__law_draw m__law_draw n_int n_abs (by rintro _ _ _ _ ⟨_, _, _, rfl, _⟩; rfl) (p__law_draw K)
  have F__law_any : Fx P w K mg base 1 "_law_any" s__law_any ps__law_any S__law_any := ok__law_any D__law_any m__law_any n_int (by rintro _ _ _ _ ⟨_, _, _, rfl, _⟩; rfl) p__law_any
  have F__law_of : Fx P w K mg base 2 "_law_of" s__law_of ps__law_of S__law_of := ok__law_of D__law_of m__law_of (F__law_any.mono (by decide)) n_len (by rintro _ _ _ _ ⟨_, _, _, _, rfl, _⟩; rfl) p__law_of
  have F__law_mixed : Fx P w K mg base 2 "_law_mixed" s__law_mixed ps__law_mixed S__law_mixed := ok__law_mixed D__law_mixed m__law_mixed (F__law_any.mono (by decide)) n_len n_list (by rintro _ _ _ _ ⟨_, _, _, _, rfl, _⟩; rfl) p__law_mixed
  have F__law_given_lots : Fx P w K mg base 3 "_law_given_lots" s__law_given_lots ps__law_given_lots S__law_given_lots := ok__law_given_lots D__law_given_lots m__law_given_lots (F__law_of.mono (by decide)) (F__law_mixed.mono (by decide)) n_tuple n_list (by rintro _ _ _ _ ⟨_, _, _, rfl, _⟩; rfl) p__law_given_lots
  have F__law_same_0 : Fx P w K mg base 1 "_law_same" s__law_same ps__law_same (S__law_same 0) := ok__law_same D__law_same m__law_same (fx_never D__law_same m__law_same) n_isinstance n_bool n_int n_str n_tuple n_range n_len (by rintro _ _ _ _ ⟨_, _, rfl, _⟩; rfl) p__law_same_0
  have F__law_same_1 : Fx P w K mg base 2 "_law_same" s__law_same ps__law_same (S__law_same 1) := ok__law_same D__law_same m__law_same (F__law_same_0.mono (by decide)) n_isinstance n_bool n_int n_str n_tuple n_range n_len (by rintro _ _ _ _ ⟨_, _, rfl, _⟩; rfl) (p__law_same_s 0)
  have F__law_same_2 : Fx P w K mg base 3 "_law_same" s__law_same ps__law_same (S__law_same 2) := ok__law_same D__law_same m__law_same (F__law_same_1.mono (by decide)) n_isinstance n_bool n_int n_str n_tuple n_range n_len (by rintro _ _ _ _ ⟨_, _, rfl, _⟩; rfl) (p__law_same_s 1)
  have F__law_same_3 : Fx P w K mg base 4 "_law_same" s__law_same ps__law_same (S__law_same 3) := ok__law_same D__law_same m__law_same (F__law_same_2.mono (by decide)) n_isinstance n_bool n_int n_str n_tuple n_range n_len (by rintro _ _ _ _ ⟨_, _, rfl, _⟩; rfl) (p__law_same_s 2)
  have F__law_same := F__law_same_3
  have F__law_tells : Tells P w K mg base (6 + 1) "_law_tells" s__law_tells "work" "due" (S__law_same 3) := ok__law_tells D__law_tells m__law_tells F__law_heard (F__law_same.mono (by decide))
  have F__law_numbers : Fx P w K mg base 1 "_law_numbers" s__law_numbers ps__law_numbers S__law_numbers := ok__law_numbers D__law_numbers m__law_numbers n_isinstance n_bool n_int n_tuple (by rintro _ _ _ _ ⟨_, rfl, _⟩; rfl) p__law_numbers
  have F__law_once : Fx P w K mg base 1 "_law_once" s__law_once ps__law_once S__law_once := ok__law_once D__law_once m__law_once n_sorted n_tuple n_set (by rintro _ _ _ _ ⟨_, _, rfl, _⟩; rfl) p__law_once
  have F__law_grown : Fx P w K mg base 3 "_law_grown" s__law_grown ps__law_grown S__law_grown := ok__law_grown D__law_grown m__law_grown (F__law_once.mono (by decide)) (F__law_any.mono (by decide)) (F__law_of.mono (by decide)) (F__law_mixed.mono (by decide)) n_range n_list (by rintro _ _ _ _ ⟨_, _, _, _, rfl, _⟩; rfl) p__law_grown
  have F__law_round : Fx P w K mg base 3 "_law_round" s__law_round ps__law_round S__law_round := ok__law_round D__law_round m__law_round (F__law_once.mono (by decide)) (F__law_any.mono (by decide)) (F__law_mixed.mono (by decide)) n_sorted n_set n_len n_range n_min n_list (by rintro _ _ _ _ ⟨_, _, _, _, rfl, _⟩; rfl) p__law_round
  have F__law_spotted : Fx P w K mg base 3 "_law_spotted" s__law_spotted ps__law_spotted S__law_spotted := ok__law_spotted D__law_spotted m__law_spotted (F__law_once.mono (by decide)) (F__law_any.mono (by decide)) (F__law_of.mono (by decide)) n_sorted n_set n_range (by rintro _ _ _ _ ⟨_, _, _, _, rfl, _⟩; rfl) p__law_spotted
  have F__law_frame : Fx P w K mg base 4 "_law_frame" s__law_frame ps__law_frame S__law_frame := ok__law_frame D__law_frame m__law_frame (F__law_spotted.mono (by decide)) (F__law_once.mono (by decide)) (F__law_any.mono (by decide)) (F__law_grown.mono (by decide)) (F__law_round.mono (by decide)) (by rintro _ _ _ _ ⟨_, _, _, _, rfl, _⟩; rfl) p__law_frame
  have F__law_any_way : Fx P w K mg base 4 "_law_any_way" s__law_any_way ps__law_any_way S__law_any_way := ok__law_any_way D__law_any_way m__law_any_way (F__law_mixed.mono (by decide)) (F__law_given_lots.mono (by decide)) (F__law_of.mono (by decide)) (F__law_any.mono (by decide)) n_list (by rintro _ _ _ _ ⟨_, _, _, rfl, _⟩; rfl) p__law_any_way
  have F__law_folds : Fx P w K mg base 1 "_law_folds" s__law_folds ps__law_folds S__law_folds := ok__law_folds D__law_folds m__law_folds n_len n_range n_enumerate n_list (by rintro _ _ _ _ ⟨_, rfl, _⟩; rfl) p__law_folds
  have F__law_shares : Fx P w K mg base 1 "_law_shares" s__law_shares ps__law_shares S__law_shares := ok__law_shares D__law_shares m__law_shares  (by rintro _ _ _ _ ⟨_, _, rfl, _⟩; rfl) p__law_shares
  have F__law_holders : Fx P w K mg base 2 "_law_holders" s__law_holders ps__law_holders S__law_holders := ok__law_holders D__law_holders m__law_holders (F__law_shares.mono (by decide)) (by rintro _ _ _ _ ⟨_, _, rfl, _⟩; rfl) p__law_holders
  have F__law_taken_off : Fx P w K mg base 3 "_law_taken_off" s__law_taken_off ps__law_taken_off S__law_taken_off := ok__law_taken_off D__law_taken_off m__law_taken_off (F__law_of.mono (by decide)) (F__law_holders.mono (by decide)) n_tuple n_range n_len n_list (by rintro _ _ _ _ ⟨_, _, _, rfl, _⟩; rfl) p__law_taken_off
  have F__law_is_folding : Fx P w K mg base 3 "_law_is_folding" s__law_is_folding ps__law_is_folding S__law_is_folding := ok__law_is_folding D__law_is_folding m__law_is_folding (F__law_holders.mono (by decide)) (F__law_numbers.mono (by decide)) n_len n_isinstance n_tuple n_list (by rintro _ _ _ _ ⟨_, _, rfl, _⟩; rfl) p__law_is_folding
  have F__law_spoilt_0 : Fx P w K mg base 3 "_law_spoilt" s__law_spoilt ps__law_spoilt (S__law_spoilt 0) := ok__law_spoilt D__law_spoilt m__law_spoilt (F__law_any.mono (by decide)) (F__law_of.mono (by decide)) (fx_never D__law_spoilt m__law_spoilt) n_isinstance n_tuple n_list n_len (by rintro _ _ _ _ ⟨_, _, _, _, rfl, _⟩; rfl) p__law_spoilt_0
  have F__law_spoilt_1 : Fx P w K mg base 4 "_law_spoilt" s__law_spoilt ps__law_spoilt (S__law_spoilt 1) := ok__law_spoilt D__law_spoilt m__law_spoilt (F__law_any.mono (by decide)) (F__law_of.mono (by decide)) (F__law_spoilt_0.mono (by decide)) n_isinstance n_tuple n_list n_len (by rintro _ _ _ _ ⟨_, _, _, _, rfl, _⟩; rfl) (p__law_spoilt_s 0)
  have F__law_spoilt_2 : Fx P w K mg base 5 "_law_spoilt" s__law_spoilt ps__law_spoilt (S__law_spoilt 2) := ok__law_spoilt D__law_spoilt m__law_spoilt (F__law_any.mono (by decide)) (F__law_of.mono (by decide)) (F__law_spoilt_1.mono (by decide)) n_isinstance n_tuple n_list n_len (by rintro _ _ _ _ ⟨_, _, _, _, rfl, _⟩; rfl) (p__law_spoilt_s 1)
  have F__law_spoilt := F__law_spoilt_2
  have F__law_turned : Fx P w K mg base 6 "_law_turned" s__law_turned ps__law_turned S__law_turned := ok__law_turned D__law_turned m__law_turned (F__law_spoilt.mono (by decide)) (F__law_of.mono (by decide)) (F__law_any.mono (by decide)) n_list n_tuple n_len (by rintro _ _ _ _ ⟨_, _, _, _, rfl, _⟩; rfl) (p__law_turned (S__law_spoilt 2) fun _ _ _ _ h => h)
  exact fn_dC (k := 9) (He5.fun_of D_law) sc_law _ (by rintro _ _ _ _ ⟨_, _, rfl, _⟩; rfl) (fun cdv _ _ _ _ _ _ ca hr hgu tk => by obtain rfl := code_eq (p := ("law", none)) ca; exact b_law (k := 6) (cdv := Value.none) (F__law_is_folding.mono (by decide)) (F_folding.mono (by decide)) (F__law_same.mono (by decide)) (F_is_folding.mono (by decide)) (F__law_turned.mono (by decide)) (F__law_taken_off.mono (by decide)) (F__law_grown.mono (by decide)) (F_ears.mono (by decide)) (F__law_holders.mono (by decide)) (F__law_folds.mono (by decide)) (F__law_any_way.mono (by decide)) (F__law_frame.mono (by decide)) (F__law_any.mono (by decide)) (F__law_draw.mono (by decide)) (M_Frame.mono (by decide)) n_range n_tuple F__law_tells TB0 rfl hr hgu tk) (p_law K (He.ga K "Frame") fv)
abbrev R : PySem.W.OpenRow := PySem.W.OpenLaw.row PySem.Challenge.rw_commonkeys_k35_whole_foldings
abbrev hk : PySem.W.Hook := He.hookX 4 fa fn [] tf ex
def ob (s : PySem.W.SharedT) : He.AlX := He.obsX 4 fa fn [] tf ex (HandSHeadRun.getT s)
theorem ob_eq (s : PySem.W.SharedT) : ob s = hk.obs s.abs := He.obsX_eq (HandSHeadRun.getT_eq s)
def loose : List Str := [("PlanError" : Str), ("InvalidStore" : Str), ("InvalidState" : Str), ("InvalidLot" : Str), ("InvalidQuestion" : Str), ("Refused" : Str), ("is_integer" : Str), ("is_number" : Str), ("is_index" : Str), ("is_sequence" : Str), ("is_lot_of" : Str), ("checked_keys" : Str), ("Frame" : Str), ("common" : Str), ("shared_with" : Str), ("is_holder" : Str), ("others_than" : Str), ("first_holder" : Str), ("ears_of" : Str), ("ears" : Str), ("folding" : Str), ("is_one_of" : Str), ("is_pair_of" : Str), ("is_folding" : Str), ("_law_draw" : Str), ("_law_any" : Str), ("_law_of" : Str), ("_law_mixed" : Str), ("_law_given_lots" : Str), ("_law_same" : Str), ("_law_heard" : Str), ("_law_tells" : Str), ("_law_numbers" : Str), ("_law_once" : Str), ("_law_grown" : Str), ("_law_round" : Str), ("_law_spotted" : Str), ("_law_frame" : Str), ("_law_any_way" : Str), ("_law_folds" : Str), ("_law_shares" : Str), ("_law_holders" : Str), ("_law_taken_off" : Str), ("_law_is_folding" : Str), ("_law_spoilt" : Str), ("_law_turned" : Str)]
theorem run (w : World) : HandSHeadRun.RunEq R (PySem.W.view R.prog [52]) hk ob 3000 loose w := by
  intro os
  kernel_rfl
end D.k35
open PySem PySem.W PySem.Calls PyProof.Rows
theorem PySem.Challenge.cw_commonkeys_k35_whole_foldings_holds : PySem.Challenge.rw_commonkeys_k35_whole_foldings.Holds := by
  w_on; o_law
  refine HandSHeadRun.head_any (r := OpenLaw.row PySem.Challenge.rw_commonkeys_k35_whole_foldings) (q := view (OpenLaw.row PySem.Challenge.rw_commonkeys_k35_whole_foldings).prog [52]) (H := D.k35.hk) (ob := D.k35.ob) (M := 3000) (loose := D.k35.loose) (d := HandSHeadRun.topDef (OpenLaw.row PySem.Challenge.rw_commonkeys_k35_whole_foldings).prog 52) (kwd := []) D.k35.ob_eq
    (by kernel_rfl) (fun s => by kernel_rfl) D.k35.run (by kernel_rfl) (by kernel_rfl) (by kernel_rfl) (by rfl) (by first | assumption | decide +kernel) (by decide +kernel) ⟨rfl, rfl, rfl, rfl, rfl, by decide +kernel⟩ ?hw ?hc
  case hw => w_witness2
  case hc =>
    refine D.walk_GT (l := PySem.Challenge.rw_commonkeys_k35_whole_foldings) (n := 63) (k := 10) (x := "script") rfl (by decide) (by kernel_rfl) ⟨rfl, by decide, by decide⟩ ?F
    intro w mg fa h Y G hmg0
    obtain ⟨K, KX, c⟩ := Y
    have hmg : mg ("law" : PySem.Str) = some (.ref fa) := by
      have e : (HandSHeadRun.topDef (OpenLaw.row PySem.Challenge.rw_commonkeys_k35_whole_foldings).prog 52).name = ("law" : PySem.Str) := by kernel_rfl
      rw [← e]
      exact hmg0
    exact D.k35.facts (P := (PySem.Challenge.rw_commonkeys_k35_whole_foldings).prog) (w := w) KX G hmg c
end
