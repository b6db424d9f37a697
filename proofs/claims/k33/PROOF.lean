import PyProof.Rows.All
import Wide.All
import OpenK.AllK
import Wide.FinOn
import HandS.ForMost
import HandS.Exc
import HandS.ExcOwn
import HandS.WordsExc
import HandS.TupAny
import HandS.Flow
import HandS.Style
import HandS.Deep
import HandS.NoneIn
import KE.GoesNew
import KE.GoesMore
import KE.GoesEnum
import HandS.Wide
import HandS.IsInst
import HandS.SortInts
import HandS.TupLe
import PyProof.IsRules
import HandS.Defaults
import HandS.Ends
import HandS.HeadEnd
import PyProof.ReprRoads
import HandS.SortRule
import HandS.Dict
import HandS.HeadNt
import PySem.Challenge.RW_commonkeys_k33_whole_weighted_sums
import HandS.Head0
import HandS.Head1
import HandS.Head2
import HandS.HeadHook1
import HandS.HeadHook2
import Lean
section
set_option Elab.async false
set_option linter.all false
set_option maxRecDepth 100000
set_option maxHeartbeats 1000000
set_option autoImplicit false
/-! The deep layer, part 0: values without addresses, memory, what they mean over the abstract heap. -/
namespace D
open PySem PySem.Spec PyProof.Rows L2

/-- a value; tuples, lists that nobody changes any more and instances that nobody changes are told by what they hold; ref: a thing that may change, by its place in the memory -/
inductive Dv where
  | non | bl (b : Bool) | int (i : Int) | str (x : Str) | tup (l : List Dv) | lst (l : List Dv)
  | obj (C : Addr) (ks : List Str) (l : List Dv) | ref (i : Nat) | adr (a : Addr)
  | frz (l : List Dv) | ty (n : String) | dic
/-- what may change -/
inductive MO where
  | lst (l : List Dv)
  | ins (C : Addr) (ks : List Str) (l : List Dv)
abbrev Mem := List MO
abbrev Loc := List (Option Dv)
/-- where the memory's things lie; what is hidden for now (a list that a comprehension makes) -/
structure Fr where
  ad : Nat → Addr
  hid : Addr → Prop
instance : CoeFun Fr (fun _ => Nat → Addr) := ⟨Fr.ad⟩
/-- beside the memory -/
def Bes (n : Nat) (f : Fr) (a : Addr) : Prop := (∀ i, i < n → f i ≠ a) ∧ ¬ f.hid a

mutual
def RD (n : Nat) (f : Fr) (H : Hp) : Dv → V → Prop
  | .non, v => v = .non
  | .bl b, v => v = .bl b
  | .int i, v => v = .int i
  | .str x, v => v = .str x
  | .tup l, v => l.length ≤ sizeLine ∧ ∃ a xs, v = .ref a ∧ H a = some (.tup xs) ∧ Bes n f a ∧ RDs n f H l xs
  | .lst l, v => l.length ≤ sizeLine ∧ ∃ a xs, v = .ref a ∧ H a = some (.lst xs) ∧ Bes n f a ∧ RDs n f H l xs
  | .frz l, v => l.length ≤ sizeLine ∧ ∃ a o xs, v = .ref a ∧ H a = some (.frz o (.lst xs)) ∧ Bes n f a ∧ RDs n f H l xs
  | .obj C ks l, v => ∃ a dx fs, v = .ref a ∧ H a = some (.ins C dx fs) ∧ Bes n f a ∧ fs.map (·.1) = ks ∧ RDs n f H l (fs.map (·.2))
  | .ref i, v => i < n ∧ v = .ref (f i)
  | .adr a, v => v = .ref a
  | .ty n, v => v = .ty n
  | .dic, v => ∃ a, v = .ref a ∧ H a = some (.dK []) ∧ Bes n f a
def RDs (n : Nat) (f : Fr) (H : Hp) : List Dv → List V → Prop
  | [], xs => xs = []
  | d :: l, xs => ∃ v r, xs = v :: r ∧ RD n f H d v ∧ RDs n f H l r
end
/-- later: more memory, what stood beside it stands -/
structure Lt (n : Nat) (f : Fr) (H : Hp) (n' : Nat) (f' : Fr) (H' : Hp) : Prop where
  le : n ≤ n'
  ag : ∀ i, i < n → f' i = f i
  kp : ∀ a o, H a = some o → (∀ i, i < n → f i ≠ a) → (∀ ps, o ≠ .tbl ps) → H' a = some o
  fr : ∀ i, n ≤ i → i < n' → H (f' i) = none
  dm : ∀ a, H' a = none → H a = none
  hd : f'.hid = f.hid
section
variable {n n1 n2 : Nat} {f f1 f2 : Fr} {H H1 H2 : Hp}
theorem Lt.refl : Lt n f H n f H := ⟨Nat.le_refl _, fun _ _ => rfl, fun _ _ e _ _ => e, fun _ h1 h2 => absurd h1 (Nat.not_le.mpr h2), fun _ e => e, rfl⟩
theorem Lt.same (s : Same H H1) : Lt n f H n f H1 := ⟨Nat.le_refl _, fun _ _ => rfl, fun a o e _ _ => s a o e, fun _ h1 h2 => absurd h1 (Nat.not_le.mpr h2), fun _ e => s.free e, rfl⟩
theorem Lt.trans (a : Lt n f H n1 f1 H1) (b : Lt n1 f1 H1 n2 f2 H2) : Lt n f H n2 f2 H2 where
  le := Nat.le_trans a.le b.le
  ag := fun i h => (b.ag i (Nat.lt_of_lt_of_le h a.le)).trans (a.ag i h)
  kp := fun x o e h z => b.kp x o (a.kp x o e h z) (fun i hi => by
    by_cases q : i < n
    · rw [a.ag i q]; exact h i q
    · intro w
      have := a.fr i (Nat.le_of_not_lt q) hi
      rw [w, e] at this; cases this) z
  fr := fun i h1 h2 => by
    by_cases q : i < n1
    · rw [b.ag i q]; exact a.fr i h1 q
    · exact a.dm _ (b.fr i (Nat.le_of_not_lt q) h2)
  dm := fun x e => a.dm x (b.dm x e)
  hd := b.hd.trans a.hd
/-- an address beside the memory, later -/
theorem Lt.beside (a : Lt n f H n1 f1 H1) {x : Addr} {o : HO} (e : H x = some o) (h : Bes n f x) : Bes n1 f1 x := ⟨fun i hi w => (by
  by_cases q : i < n
  · rw [a.ag i q] at w; exact h.1 i q w
  · have := a.fr i (Nat.le_of_not_lt q) hi
    rw [w, e] at this; cases this), fun w => h.2 (by rw [← a.hd]; exact w)⟩
/-- what a value leans on -/
structure Rm (n : Nat) (f : Fr) (H : Hp) (n' : Nat) (f' : Fr) (H' : Hp) : Prop where
  ix : ∀ i, i < n → i < n' ∧ f' i = f i
  kp : ∀ a o, H a = some o → Bes n f a → (∀ ps, o ≠ .tbl ps) → H' a = some o ∧ Bes n' f' a
theorem Lt.rm (a : Lt n f H n1 f1 H1) : Rm n f H n1 f1 H1 := ⟨fun i h => ⟨Nat.lt_of_lt_of_le h a.le, a.ag i h⟩, fun x o e h z => ⟨a.kp x o e h.1 z, a.beside e h⟩⟩
mutual
theorem RD.rm (a : Rm n f H n1 f1 H1) : ∀ {d : Dv} {v : V}, RD n f H d v → RD n1 f1 H1 d v
  | .non, _, h => h
  | .bl _, _, h => h
  | .int _, _, h => h
  | .str _, _, h => h
  | .adr _, _, h => h
  | .ty _, _, h => h
  | .dic, v, h => by
    obtain ⟨x, e, hx, hb⟩ : ∃ x, v = .ref x ∧ H x = some (.dK []) ∧ Bes n f x := h
    obtain ⟨q1, q2⟩ := a.kp x _ hx hb (fun _ w => by cases w)
    exact ⟨x, e, q1, q2⟩
  | .ref i, v, h => by
    obtain ⟨h1, h2⟩ : i < n ∧ v = .ref (f i) := h
    exact ⟨(a.ix i h1).1, by rw [(a.ix i h1).2]; exact h2⟩
  | .tup l, v, h => by
    obtain ⟨z, x, xs, e, hx, hb, r⟩ : l.length ≤ sizeLine ∧ ∃ x xs, v = .ref x ∧ H x = some (.tup xs) ∧ Bes n f x ∧ RDs n f H l xs := h
    obtain ⟨q1, q2⟩ := a.kp x _ hx hb (fun _ w => by cases w)
    exact ⟨z, x, xs, e, q1, q2, RDs.rm a r⟩
  | .lst l, v, h => by
    obtain ⟨z, x, xs, e, hx, hb, r⟩ : l.length ≤ sizeLine ∧ ∃ x xs, v = .ref x ∧ H x = some (.lst xs) ∧ Bes n f x ∧ RDs n f H l xs := h
    obtain ⟨q1, q2⟩ := a.kp x _ hx hb (fun _ w => by cases w)
    exact ⟨z, x, xs, e, q1, q2, RDs.rm a r⟩
  | .frz l, v, h => by
    obtain ⟨z, x, o, xs, e, hx, hb, r⟩ : l.length ≤ sizeLine ∧ ∃ x o xs, v = .ref x ∧ H x = some (.frz o (.lst xs)) ∧ Bes n f x ∧ RDs n f H l xs := h
    obtain ⟨q1, q2⟩ := a.kp x _ hx hb (fun _ w => by cases w)
    exact ⟨z, x, o, xs, e, q1, q2, RDs.rm a r⟩
  | .obj C ks l, v, h => by
    obtain ⟨x, dx, fs, e, hx, hb, hk, r⟩ : ∃ (x dx : Addr) (fs : List (Str × V)), v = .ref x ∧ H x = some (.ins C dx fs) ∧ Bes n f x ∧ fs.map (fun q => q.1) = ks ∧ RDs n f H l (fs.map (fun q : Str × V => q.2)) := h
    obtain ⟨q1, q2⟩ := a.kp x _ hx hb (fun _ w => by cases w)
    exact ⟨x, dx, fs, e, q1, q2, hk, RDs.rm a r⟩
theorem RDs.rm (a : Rm n f H n1 f1 H1) : ∀ {l : List Dv} {xs : List V}, RDs n f H l xs → RDs n1 f1 H1 l xs
  | [], _, h => h
  | d :: l, xs, h => by
    obtain ⟨v, r, e, h1, h2⟩ : ∃ v r, xs = v :: r ∧ RD n f H d v ∧ RDs n f H l r := h
    exact ⟨v, r, e, RD.rm a h1, RDs.rm a h2⟩
end
theorem RD.mono (a : Lt n f H n1 f1 H1) {d : Dv} {v : V} (h : RD n f H d v) : RD n1 f1 H1 d v := h.rm a.rm
theorem RDs.mono (a : Lt n f H n1 f1 H1) {l : List Dv} {xs : List V} (h : RDs n f H l xs) : RDs n1 f1 H1 l xs := h.rm a.rm
end
section
variable {n : Nat} {f : Fr} {H : Hp}
theorem RDs.nil : RDs n f H [] [] := rfl
theorem RDs.cons {d : Dv} {v : V} {l : List Dv} {xs : List V} (h : RD n f H d v) (t : RDs n f H l xs) : RDs n f H (d :: l) (v :: xs) := ⟨v, xs, rfl, h, t⟩
theorem RDs.length : ∀ {l : List Dv} {xs : List V}, RDs n f H l xs → xs.length = l.length
  | [], xs, h => by rw [show xs = [] from h]; rfl
  | d :: l, xs, h => by
    obtain ⟨v, r, rfl, _, h2⟩ : ∃ v r, xs = v :: r ∧ RD n f H d v ∧ RDs n f H l r := h
    simp [RDs.length h2]
theorem RDs.get : ∀ {l : List Dv} {xs : List V} {i : Nat} {d : Dv}, RDs n f H l xs → l[i]? = some d → ∃ v, xs[i]? = some v ∧ RD n f H d v
  | [], _, _, _, _, e => by simp at e
  | d :: l, xs, 0, x, h, e => by
    obtain ⟨v, r, rfl, h1, _⟩ : ∃ v r, xs = v :: r ∧ RD n f H d v ∧ RDs n f H l r := h
    simp at e; subst e
    exact ⟨v, rfl, h1⟩
  | d :: l, xs, i + 1, x, h, e => by
    obtain ⟨v, r, rfl, _, h2⟩ : ∃ v r, xs = v :: r ∧ RD n f H d v ∧ RDs n f H l r := h
    obtain ⟨w, e1, e2⟩ := RDs.get (i := i) (d := x) h2 (by simpa using e)
    exact ⟨w, by simpa using e1, e2⟩
theorem RDs.at_ {l : List Dv} {xs : List V} {i : Nat} {v : V} (h : RDs n f H l xs) (e : xs[i]? = some v) : ∃ d, l[i]? = some d ∧ RD n f H d v := by
  have hl := h.length
  have hi : i < l.length := by rw [← hl]; exact (List.getElem?_eq_some_iff.mp e).1
  obtain ⟨w, e1, e2⟩ := h.get (List.getElem?_eq_getElem hi)
  rw [e] at e1; cases e1
  exact ⟨_, List.getElem?_eq_getElem hi, e2⟩
theorem RDs.of : ∀ {l : List Dv} {xs : List V}, xs.length = l.length → (∀ (i : Nat) (d : Dv) (v : V), l[i]? = some d → xs[i]? = some v → RD n f H d v) → RDs n f H l xs
  | [], xs, h, _ => List.length_eq_zero_iff.mp h
  | d :: l, [], h, _ => by simp at h
  | d :: l, v :: xs, h, k => ⟨v, xs, rfl, k 0 d v rfl rfl, RDs.of (by simpa using h) fun i x y e1 e2 => k (i + 1) x y (by simpa using e1) (by simpa using e2)⟩
theorem RDs.app : ∀ {l l2 : List Dv} {xs ys : List V}, RDs n f H l xs → RDs n f H l2 ys → RDs n f H (l ++ l2) (xs ++ ys)
  | [], _, xs, _, h, g => by rw [show xs = [] from h]; exact g
  | d :: l, _, xs, _, h, g => by
    obtain ⟨v, r, rfl, h1, h2⟩ : ∃ v r, xs = v :: r ∧ RD n f H d v ∧ RDs n f H l r := h
    exact ⟨v, _, rfl, h1, RDs.app h2 g⟩
theorem RDs.set {l : List Dv} {xs : List V} {i : Nat} {d : Dv} {v : V} (h : RDs n f H l xs) (r : RD n f H d v) : RDs n f H (l.set i d) (xs.set i v) := by
  refine RDs.of (by simp [h.length]) fun j x y e1 e2 => ?_
  by_cases q : j = i
  · subst q
    rw [List.getElem?_set] at e1 e2
    simp at e1 e2
    rw [← e1.2, ← e2.2]; exact r
  · rw [List.getElem?_set_ne (Ne.symm q)] at e1 e2
    obtain ⟨w, g1, g2⟩ := h.get e1
    rw [e2] at g1; cases g1
    exact g2
theorem RDs.take {l : List Dv} {xs : List V} (k : Nat) (h : RDs n f H l xs) : RDs n f H (l.take k) (xs.take k) := by
  refine RDs.of (by simp [h.length]) fun j x y e1 e2 => ?_
  by_cases q : j < k
  · rw [List.getElem?_take_of_lt q] at e1 e2
    obtain ⟨w, g1, g2⟩ := h.get e1
    rw [e2] at g1; cases g1
    exact g2
  · rw [List.getElem?_take_eq_none (Nat.le_of_not_lt q)] at e1; cases e1
theorem RDs.drop {l : List Dv} {xs : List V} (k : Nat) (h : RDs n f H l xs) : RDs n f H (l.drop k) (xs.drop k) := by
  refine RDs.of (by simp [h.length]) fun j x y e1 e2 => ?_
  rw [List.getElem?_drop] at e1 e2
  obtain ⟨w, g1, g2⟩ := h.get e1
  rw [e2] at g1; cases g1
  exact g2
theorem RDs.rev {l : List Dv} {xs : List V} (h : RDs n f H l xs) : RDs n f H l.reverse xs.reverse := by
  refine RDs.of (by simp [h.length]) fun j x y e1 e2 => ?_
  have hj : j < l.length := by have := (List.getElem?_eq_some_iff.mp e1).1; simpa using this
  rw [List.getElem?_reverse hj] at e1
  rw [List.getElem?_reverse (by rw [h.length]; exact hj), h.length] at e2
  obtain ⟨w, g1, g2⟩ := h.get e1
  rw [e2] at g1; cases g1
  exact g2
end
/-- the memory's things stand -/
def RO (n : Nat) (f : Fr) (H : Hp) (a : Addr) : MO → Prop
  | .lst l => l.length ≤ sizeLine ∧ ∃ xs, H a = some (.lst xs) ∧ RDs n f H l xs
  | .ins C ks l => ∃ dx fs, H a = some (.ins C dx fs) ∧ fs.map (·.1) = ks ∧ RDs n f H l (fs.map (·.2))
structure RM (f : Fr) (H : Hp) (M : Mem) : Prop where
  ob : ∀ (i : Nat) (o : MO), M[i]? = some o → RO M.length f H (f i) o
  inj : ∀ i j, i < M.length → j < M.length → f i = f j → i = j
  hi : ∀ a, f.hid a → H a ≠ none ∧ ∀ i, i < M.length → f i ≠ a
/-- the locals stand -/
structure RL (n : Nat) (f : Fr) (H : Hp) (l : Loc) (s : L2.St) : Prop where
  len : s.length = l.length
  at_ : ∀ (i : Nat) (d : Dv), l[i]? = some (some d) → ∃ v, s[i]? = some (some v) ∧ RD n f H d v
section
variable {n n1 : Nat} {f f1 : Fr} {H H1 : Hp} {M M1 : Mem} {l : Loc} {s : L2.St}
theorem RO.some {a : Addr} {o : MO} (h : RO n f H a o) : ∃ u, H a = some u ∧ Mut (some u) := by
  cases o with
  | lst l => obtain ⟨_, xs, e, _⟩ := h; exact ⟨_, e, trivial⟩
  | ins C ks l => obtain ⟨dx, fs, e, _⟩ := h; exact ⟨_, e, trivial⟩
theorem RM.some (m : RM f H M) {i : Nat} (h : i < M.length) : ∃ u, H (f i) = some u ∧ Mut (some u) := (m.ob i _ (List.getElem?_eq_getElem h)).some
theorem RM.ne0 (m : RM f H M) {p : Addr} (h : H p = none) : ∀ i, i < M.length → f i ≠ p := fun i hi e => by
  obtain ⟨u, q, _⟩ := m.some hi
  rw [e, h] at q; cases q
theorem RM.ne (m : RM f H M) {p : Addr} (h : H p = none) : Bes M.length f p := ⟨m.ne0 h, fun z => (m.hi p z).1 h⟩
theorem RO.mono {a : Addr} {o : MO} (x : Lt n f H n1 f1 H1) (e : H1 a = H a) (h : RO n f H a o) : RO n1 f1 H1 a o := by
  cases o with
  | lst l => obtain ⟨z, xs, q, r⟩ := h; exact ⟨z, xs, e.trans q, r.mono x⟩
  | ins C ks l => obtain ⟨dx, fs, q, k, r⟩ := h; exact ⟨dx, fs, e.trans q, k, r.mono x⟩
theorem RM.same (m : RM f H M) (s : Same H H1) : RM f H1 M := ⟨fun i o e => by
  have h := m.ob i o e
  obtain ⟨u, q, _⟩ := h.some
  exact h.mono (Lt.same s) ((s _ _ q).trans q.symm), m.inj, fun a z => ⟨fun e => (m.hi a z).1 (s.free e), (m.hi a z).2⟩⟩
theorem RL.mono (r : RL n f H l s) (x : Lt n f H n1 f1 H1) : RL n1 f1 H1 l s := ⟨r.len, fun i d e => by
  obtain ⟨v, e1, e2⟩ := r.at_ i d e
  exact ⟨v, e1, e2.mono x⟩⟩
theorem RL.set (r : RL n f H l s) {i : Nat} {d : Dv} {v : V} (h : RD n f H d v) : RL n f H (l.set i (some d)) (s.set i (some v)) := ⟨by simp [r.len], fun j x e => by
  by_cases q : j = i
  · subst q
    rw [List.getElem?_set] at e
    simp at e
    refine ⟨v, ?_, e.2 ▸ h⟩
    rw [List.getElem?_set]; simp [r.len, e.1]
  · rw [List.getElem?_set_ne (Ne.symm q)] at e
    rw [List.getElem?_set_ne (Ne.symm q)]
    exact r.at_ j x e⟩
theorem RL.unset (r : RL n f H l s) (i : Nat) (o : Option V) : RL n f H (l.set i none) (s.set i o) := ⟨by simp [r.len], fun j x e => by
  by_cases q : j = i
  · subst q
    rw [List.getElem?_set] at e
    simp at e
  · rw [List.getElem?_set_ne (Ne.symm q)] at e
    rw [List.getElem?_set_ne (Ne.symm q)]
    exact r.at_ j x e⟩
/-- a new thing beside the memory -/
theorem same_new {p : Addr} {o : HO} (h : H p = none) : Same H (upd H p o) := fun b x e => by
  rw [upd_ne (ne_of_none e h)]; exact e
theorem rd_tup (m : RM f H M) {p : Addr} {ds : List Dv} {xs : List V} (h : H p = none) (r : RDs M.length f H ds xs) (z : ds.length ≤ sizeLine) : RD M.length f (upd H p (.tup xs)) (.tup ds) (.ref p) :=
  ⟨z, p, xs, rfl, upd_same, m.ne h, r.mono (Lt.same (same_new h))⟩
theorem rd_lst (m : RM f H M) {p : Addr} {ds : List Dv} {xs : List V} (h : H p = none) (r : RDs M.length f H ds xs) (z : ds.length ≤ sizeLine) : RD M.length f (upd H p (.lst xs)) (.lst ds) (.ref p) :=
  ⟨z, p, xs, rfl, upd_same, m.ne h, r.mono (Lt.same (same_new h))⟩
/-- a new thing, to the memory's end -/
def ext (f : Fr) (n : Nat) (p : Addr) : Fr := ⟨fun i => if i = n then p else f i, f.hid⟩
theorem ext_self {p : Addr} : ext f n p n = p := if_pos rfl
theorem ext_lt {p : Addr} {i : Nat} (h : i < n) : ext f n p i = f i := if_neg (Nat.ne_of_lt h)
theorem lt_new {p : Addr} {o : HO} (h : H p = none) : Lt n f H (n + 1) (ext f n p) (upd H p o) where
  le := Nat.le_succ _
  ag := fun i hi => ext_lt hi
  kp := fun a u e _ _ => same_new h a u e
  fr := fun i h1 h2 => by
    have : i = n := by omega
    subst this
    rw [ext_self]; exact h
  dm := fun a e => (same_new h).free e
  hd := rfl
theorem RM.new (m : RM f H M) {p : Addr} {o : MO} {u : HO} (h : H p = none) (r : RO (M.length + 1) (ext f M.length p) (upd H p u) p o) : RM (ext f M.length p) (upd H p u) (M ++ [o]) where
  ob := fun i x e => by
    rw [List.length_append, List.length_singleton]
    by_cases q : i < M.length
    · rw [List.getElem?_append_left q] at e
      rw [ext_lt q]
      obtain ⟨w, hw, _⟩ := m.some q
      exact (m.ob i x e).mono (lt_new h) (upd_ne (ne_of_none hw h))
    · have hi : i < (M ++ [o]).length := (List.getElem?_eq_some_iff.mp e).1
      rw [List.length_append, List.length_singleton] at hi
      have : i = M.length := by omega
      subst this
      rw [List.getElem?_append_right (Nat.le_refl _)] at e
      simp at e
      subst e
      rw [ext_self]; exact r
  inj := fun i j hi hj e => by
    rw [List.length_append, List.length_singleton] at hi hj
    by_cases qi : i < M.length
    · by_cases qj : j < M.length
      · rw [ext_lt qi, ext_lt qj] at e; exact m.inj i j qi qj e
      · have : j = M.length := by omega
        subst this
        rw [ext_lt qi, ext_self] at e
        exact absurd e (m.ne0 h i qi)
    · have : i = M.length := by omega
      subst this
      by_cases qj : j < M.length
      · rw [ext_lt qj, ext_self] at e
        exact absurd e.symm (m.ne0 h j qj)
      · omega
  hi := fun a z => ⟨fun e => (m.hi a z).1 ((same_new h).free e), fun i hi e => by
    rw [List.length_append, List.length_singleton] at hi
    by_cases q : i < M.length
    · rw [ext_lt q] at e; exact (m.hi a z).2 i q e
    · have : i = M.length := by omega
      subst this
      rw [ext_self] at e
      subst e
      exact (m.hi p z).1 h⟩
/-- a thing of the memory is changed -/
theorem lt_set {i : Nat} {o : HO} (hi : i < n) (there : H (f i) ≠ none) : Lt n f H n f (upd H (f i) o) where
  le := Nat.le_refl _
  ag := fun _ _ => rfl
  kp := fun a u e hb _ => by rw [upd_ne (Ne.symm (hb i hi))]; exact e
  fr := fun _ h1 h2 => absurd h1 (Nat.not_le.mpr h2)
  dm := fun a e => by
    by_cases q : a = f i
    · rw [q, upd_same] at e; cases e
    · rw [upd_ne q] at e; exact e
  hd := rfl
theorem RM.set (m : RM f H M) {i : Nat} {o : MO} {u : HO} (hi : i < M.length) (r : RO M.length f (upd H (f i) u) (f i) o) : RM f (upd H (f i) u) (M.set i o) where
  ob := fun j x e => by
    rw [List.length_set]
    by_cases q : j = i
    · subst q
      rw [List.getElem?_set] at e
      simp at e
      rw [← e.2]; exact r
    · rw [List.getElem?_set_ne (Ne.symm q)] at e
      have hj : j < M.length := (List.getElem?_eq_some_iff.mp e).1
      obtain ⟨w, hw, _⟩ := m.some hi
      exact (m.ob j x e).mono (lt_set hi (by rw [hw]; exact fun z => by cases z)) (upd_ne fun z => q (m.inj j i hj hi z))
  inj := fun a b ha hb e => by
    rw [List.length_set] at ha hb
    exact m.inj a b ha hb e
  hi := fun a z => ⟨fun e => by
    by_cases q : a = f i
    · rw [q, upd_same] at e; cases e
    · rw [upd_ne q] at e; exact (m.hi a z).1 e, fun j hj => (m.hi a z).2 j (by rw [List.length_set] at hj; exact hj)⟩
end
/-! ### hidden for a while -/
def Fr.hide (f : Fr) (p : Addr) : Fr := ⟨f.ad, fun a => f.hid a ∨ a = p⟩
/-- f's places, the hidden ones as in g -/
def Fr.as (f g : Fr) : Fr := ⟨f.ad, g.hid⟩
section
variable {n : Nat} {f : Fr} {H : Hp} {p : Addr} {M : Mem} {l : Loc} {s : L2.St} {o : HO}
theorem rm_hide (hp : H p = none) : Rm n f H n (f.hide p) (upd H p o) := ⟨fun i h => ⟨h, rfl⟩, fun a u e b _ => ⟨by rw [upd_ne (ne_of_none e hp)]; exact e, b.1, fun w => w.elim b.2 (ne_of_none e hp)⟩⟩
theorem rm_show {g : Fr} (h : ∀ a, g.hid a → f.hid a) : Rm n f H n (f.as g) H := ⟨fun i h => ⟨h, rfl⟩, fun a u e b _ => ⟨e, b.1, fun w => b.2 (h a w)⟩⟩
theorem rm_chg (hh : f.hid p) : Rm n f H n f (upd H p o) := ⟨fun i h => ⟨h, rfl⟩, fun a u e b _ => ⟨by rw [upd_ne fun z => b.2 (by rw [z]; exact hh)]; exact e, b⟩⟩
theorem RO.rm {n1 : Nat} {f1 : Fr} {H1 : Hp} {a : Addr} {b : MO} (x : Rm n f H n1 f1 H1) (e : H1 a = H a) (h : RO n f H a b) : RO n1 f1 H1 a b := by
  cases b with
  | lst l => obtain ⟨z, xs, q, r⟩ := h; exact ⟨z, xs, e.trans q, r.rm x⟩
  | ins C ks l => obtain ⟨dx, fs, q, k, r⟩ := h; exact ⟨dx, fs, e.trans q, k, r.rm x⟩
theorem RL.rm {n1 : Nat} {f1 : Fr} {H1 : Hp} (r : RL n f H l s) (x : Rm n f H n1 f1 H1) : RL n1 f1 H1 l s := ⟨r.len, fun i d e => by
  obtain ⟨v, e1, e2⟩ := r.at_ i d e
  exact ⟨v, e1, e2.rm x⟩⟩
theorem Rm.trans {n1 n2 : Nat} {f1 f2 : Fr} {H1 H2 : Hp} (a : Rm n f H n1 f1 H1) (b : Rm n1 f1 H1 n2 f2 H2) : Rm n f H n2 f2 H2 := ⟨fun i h => ⟨(b.ix i (a.ix i h).1).1, ((b.ix i (a.ix i h).1).2).trans (a.ix i h).2⟩, fun x o e h z => let ⟨e1, h1⟩ := a.kp x o e h z; b.kp x o e1 h1 z⟩
theorem RM.hide (m : RM f H M) (hp : H p = none) : RM (f.hide p) (upd H p o) M := ⟨fun i b e => by
    obtain ⟨u, q, _⟩ := (m.ob i b e).some
    exact (m.ob i b e).rm (rm_hide hp) (upd_ne (ne_of_none q hp)), m.inj, fun a z => by
    rcases z with z | z
    · exact ⟨fun e => (m.hi a z).1 ((same_new hp).free e), (m.hi a z).2⟩
    · subst z; exact ⟨fun e => (by rw [upd_same] at e; cases e), m.ne0 hp⟩⟩
theorem RM.show (m : RM f H M) {g : Fr} (h : ∀ a, g.hid a → f.hid a) : RM (f.as g) H M := ⟨fun i b e => (m.ob i b e).rm (rm_show h) rfl, m.inj, fun a z => m.hi a (h a z)⟩
theorem RM.chg (m : RM f H M) (hh : f.hid p) : RM f (upd H p o) M := ⟨fun i b e => (m.ob i b e).rm (rm_chg hh) (upd_ne ((m.hi p hh).2 i (List.getElem?_eq_some_iff.mp e).1)), m.inj, fun a z => ⟨fun e => (by
    by_cases q : a = p
    · rw [q, upd_same] at e; cases e
    · rw [upd_ne q] at e; exact (m.hi a z).1 e), (m.hi a z).2⟩⟩
end
end D
end

section
set_option Elab.async false
set_option linter.all false
set_option maxRecDepth 100000
set_option maxHeartbeats 1000000
set_option autoImplicit false
/-! The deep layer, part 1: judgements, expressions. -/
namespace D
open PySem PySem.Spec PyProof.Rows L2
abbrev PD := Dv → Mem → Prop
abbrev PX := Addr → Option Dv → Mem → Prop
abbrev DE := Loc → Mem → PD → PX → Prop
abbrev DT := Loc → Mem → (Bool → Mem → Prop) → PX → Prop
abbrev DA := Loc → Mem → (List Dv → Mem → Prop) → PX → Prop
/-- an exception's one field -/
def RX (n : Nat) (f : Fr) (H : Hp) : Option Dv → Option Addr → Prop
  | some d, some a => ∃ v, H a = some (.xd [(("at" : Str), v)]) ∧ RD n f H d v
  | none, none => True
  | _, _ => False
def KX (W : WX) (s : L2.St) (n : Nat) (f : Fr) (H : Hp) (X : PX) : Prop :=
  ∀ (f' : Fr) (H' : Hp) (M' : Mem) (C : Addr) (d : Option Dv) (a : Option Addr), Lt n f H M'.length f' H' → RM f' H' M' → RX M'.length f' H' d a → X C d M' → W (.ref C) a s H'
def KE (n : Nat) (f : Fr) (H : Hp) (P : PD) (Q : VK) : Prop :=
  ∀ (f' : Fr) (H' : Hp) (M' : Mem) (d : Dv) (v : V), Lt n f H M'.length f' H' → RM f' H' M' → RD M'.length f' H' d v → P d M' → Q v H'
def KT (n : Nat) (f : Fr) (H : Hp) (P : Bool → Mem → Prop) (Q : Bool → Hp → Prop) : Prop :=
  ∀ (f' : Fr) (H' : Hp) (M' : Mem) (b : Bool), Lt n f H M'.length f' H' → RM f' H' M' → P b M' → Q b H'
def KA (n : Nat) (f : Fr) (H : Hp) (P : List Dv → Mem → Prop) (Q : List V → Hp → Prop) : Prop :=
  ∀ (f' : Fr) (H' : Hp) (M' : Mem) (ds : List Dv) (vs : List V), Lt n f H M'.length f' H' → RM f' H' M' → RDs M'.length f' H' ds vs → P ds M' → Q vs H'
section
variable {W : WX} {s : L2.St} {n n1 : Nat} {f f1 : Fr} {H H1 : Hp} {X : PX}
theorem KX.mono (k : KX W s n f H X) (x : Lt n f H n1 f1 H1) : KX W s n1 f1 H1 X := fun f' H' M' C d a y m r h => k f' H' M' C d a (x.trans y) m r h
theorem KE.mono {P : PD} {Q : VK} (k : KE n f H P Q) (x : Lt n f H n1 f1 H1) : KE n1 f1 H1 P Q := fun f' H' M' d v y m r h => k f' H' M' d v (x.trans y) m r h
theorem KT.mono {P : Bool → Mem → Prop} {Q : Bool → Hp → Prop} (k : KT n f H P Q) (x : Lt n f H n1 f1 H1) : KT n1 f1 H1 P Q := fun f' H' M' b y m h => k f' H' M' b (x.trans y) m h
theorem KA.mono {P : List Dv → Mem → Prop} {Q : List V → Hp → Prop} (k : KA n f H P Q) (x : Lt n f H n1 f1 H1) : KA n1 f1 H1 P Q := fun f' H' M' d v y m r h => k f' H' M' d v (x.trans y) m r h
end
def lE (W : WX) (t : DE) : TE := fun s H Q => ∃ (f : Fr) (l : Loc) (M : Mem) (P : PD) (X : PX), RM f H M ∧ RL M.length f H l s ∧ t l M P X ∧ KE M.length f H P Q ∧ KX W s M.length f H X
def lT (W : WX) (t : DT) : TT := fun s H Q => ∃ (f : Fr) (l : Loc) (M : Mem) (P : Bool → Mem → Prop) (X : PX), RM f H M ∧ RL M.length f H l s ∧ t l M P X ∧ KT M.length f H P Q ∧ KX W s M.length f H X
def lA (W : WX) (t : DA) : TA := fun s H Q => ∃ (f : Fr) (l : Loc) (M : Mem) (P : List Dv → Mem → Prop) (X : PX), RM f H M ∧ RL M.length f H l s ∧ t l M P X ∧ KA M.length f H P Q ∧ KX W s M.length f H X
abbrev JE (X : Cx) (W : WX) (e : Expr) (t : DE) : Prop := PE X e (lE W t)
abbrev JT (X : Cx) (W : WX) (e : Expr) (t : DT) : Prop := PT X e (lT W t)
abbrev JW (X : Cx) (W : WX) (e : Expr) (t : DT) : Prop := PW X e (lT W t)
abbrev JA (X : Cx) (W : WX) (es : List Expr) (t : DA) : Prop := PA X es (lA W t)
section
variable {X : Cx} {e : Expr}
theorem pe_imp {t t' : TE} (h : PE X e t') (g : ∀ s H Q, t s H Q → t' s H Q) : PE X e t := ⟨fun pins s σ H Q I hw => h.run pins s σ H Q I (g _ _ _ hw)⟩
theorem pt_imp {t t' : TT} (h : PT X e t') (g : ∀ s H Q, t s H Q → t' s H Q) : PT X e t := ⟨fun pins s σ H Q I hw => h.run pins s σ H Q I (g _ _ _ hw)⟩
theorem pw_imp {t t' : TT} (h : PW X e t') (g : ∀ s H Q, t s H Q → t' s H Q) : PW X e t := ⟨fun wh pins s σ H Q I hw => h.run wh pins s σ H Q I (g _ _ _ hw)⟩
theorem pa_imp {es : List Expr} {t t' : TA} (h : PA X es t') (g : ∀ s H Q, t s H Q → t' s H Q) : PA X es t := ⟨fun pos pins s σ H Q I hw => h.run pos pins s σ H Q I (g _ _ _ hw)⟩
end
/-! ### what values hold -/
def lstD (M : Mem) : Dv → Option (List Dv)
  | .lst l => some l
  | .frz l => some l
  | .ref i => match M[i]? with
    | some (.lst l) => some l
    | _ => none
  | _ => none
def seqD (M : Mem) : Dv → Option (List Dv)
  | .tup l => some l
  | .lst l => some l
  | .frz l => some l
  | .ref i => match M[i]? with
    | some (.lst l) => some l
    | _ => none
  | _ => none
/-- a list that + takes -/
def lstW (M : Mem) : Dv → Option (List Dv)
  | .lst l => some l
  | .ref i => match M[i]? with
    | some (.lst l) => some l
    | _ => none
  | _ => none
section
variable {f : Fr} {H : Hp} {M : Mem} {d : Dv} {v : V} {l : List Dv}
theorem rd_lstM {K : PySem.W.Frag} (m : RM f H M) (r : RD M.length f H d v) (e : lstD M d = some l) : ∃ a xs, v = .ref a ∧ SqL K H a xs ∧ RDs M.length f H l xs ∧ l.length ≤ sizeLine := by
  cases d with
  | lst l' =>
    obtain ⟨z, a, xs, rfl, hx, _, h⟩ : l'.length ≤ sizeLine ∧ ∃ a xs, v = .ref a ∧ H a = some (.lst xs) ∧ Bes M.length f a ∧ RDs M.length f H l' xs := r
    cases (show some l' = some l from e)
    exact ⟨a, xs, rfl, .inl (.inl hx), h, z⟩
  | frz l' =>
    obtain ⟨z, a, o, xs, rfl, hx, _, h⟩ : l'.length ≤ sizeLine ∧ ∃ a o xs, v = .ref a ∧ H a = some (.frz o (.lst xs)) ∧ Bes M.length f a ∧ RDs M.length f H l' xs := r
    cases (show some l' = some l from e)
    exact ⟨a, xs, rfl, .inl (.inr ⟨o, hx⟩), h, z⟩
  | ref i =>
    obtain ⟨h1, rfl⟩ : i < M.length ∧ v = .ref (f i) := r
    have e' : (match M[i]? with | some (.lst l) => some l | _ => none) = some l := e
    cases q : M[i]? with
    | none => rw [q] at e'; cases e'
    | some o =>
      rw [q] at e'
      cases o with
      | lst l2 =>
        cases e'
        obtain ⟨z, xs, hx, h⟩ : l.length ≤ sizeLine ∧ ∃ xs, H (f i) = some (.lst xs) ∧ RDs M.length f H l xs := m.ob i _ q
        exact ⟨f i, xs, rfl, .inl (.inl hx), h, z⟩
      | ins _ _ _ => cases e'
  | _ => cases (show none = some l from e)
theorem rd_lstW (m : RM f H M) (r : RD M.length f H d v) (e : lstW M d = some l) : ∃ a xs, v = .ref a ∧ H a = some (.lst xs) ∧ RDs M.length f H l xs ∧ l.length ≤ sizeLine := by
  cases d with
  | lst l' =>
    obtain ⟨z, a, xs, rfl, hx, _, h⟩ : l'.length ≤ sizeLine ∧ ∃ a xs, v = .ref a ∧ H a = some (.lst xs) ∧ Bes M.length f a ∧ RDs M.length f H l' xs := r
    cases (show some l' = some l from e)
    exact ⟨a, xs, rfl, hx, h, z⟩
  | ref i =>
    obtain ⟨h1, rfl⟩ : i < M.length ∧ v = .ref (f i) := r
    have e' : (match M[i]? with | some (.lst l) => some l | _ => none) = some l := e
    cases q : M[i]? with
    | none => rw [q] at e'; cases e'
    | some o =>
      rw [q] at e'
      cases o with
      | lst l2 =>
        cases e'
        obtain ⟨z, xs, hx, h⟩ : l.length ≤ sizeLine ∧ ∃ xs, H (f i) = some (.lst xs) ∧ RDs M.length f H l xs := m.ob i _ q
        exact ⟨f i, xs, rfl, hx, h, z⟩
      | ins _ _ _ => cases e'
  | _ => cases (show none = some l from e)
theorem rd_tupM {K : PySem.W.Frag} (r : RD M.length f H (.tup l) v) : ∃ a xs, v = .ref a ∧ SqT K H a xs ∧ RDs M.length f H l xs ∧ l.length ≤ sizeLine := by
  obtain ⟨z, a, xs, rfl, hx, _, h⟩ : l.length ≤ sizeLine ∧ ∃ a xs, v = .ref a ∧ H a = some (.tup xs) ∧ Bes M.length f a ∧ RDs M.length f H l xs := r
  exact ⟨a, xs, rfl, .inl (.inl hx), h, z⟩
theorem seq_cases (e : seqD M d = some l) : d = .tup l ∨ lstD M d = some l := by
  cases d with
  | tup l' => cases (show some l' = some l from e); exact .inl rfl
  | lst l' => exact .inr e
  | frz l' => exact .inr e
  | ref i => exact .inr e
  | _ => cases (show none = some l from e)
theorem rd_seqM {K : PySem.W.Frag} (m : RM f H M) (r : RD M.length f H d v) (e : seqD M d = some l) : ∃ a xs, v = .ref a ∧ (SqL K H a xs ∨ SqT K H a xs) ∧ RDs M.length f H l xs ∧ l.length ≤ sizeLine := by
  rcases seq_cases e with rfl | e
  · obtain ⟨a, xs, h1, h2, h3⟩ := rd_tupM (K := K) r
    exact ⟨a, xs, h1, .inr h2, h3⟩
  · obtain ⟨a, xs, h1, h2, h3⟩ := rd_lstM (K := K) m r e
    exact ⟨a, xs, h1, .inl h2, h3⟩
end
/-- truth -/
def truD (M : Mem) : Dv → Option Bool
  | .non => some false
  | .bl b => some b
  | .int i => some (i != 0)
  | .tup l => some (!l.isEmpty)
  | .lst l => some (!l.isEmpty)
  | .frz l => some (!l.isEmpty)
  | .ref i => match M[i]? with
    | some (.lst l) => some (!l.isEmpty)
    | _ => none
  | _ => none
theorem isEmpty_rds {n : Nat} {f : Fr} {H : Hp} {l : List Dv} {xs : List V} (h : RDs n f H l xs) : xs.isEmpty = l.isEmpty := by
  have := h.length
  cases l with
  | nil => rw [show xs = [] from h]; rfl
  | cons d r =>
    cases xs with
    | nil => simp at this
    | cons _ _ => rfl
theorem tru_rd {K : PySem.W.Frag} {f : Fr} {H : Hp} {M : Mem} {d : Dv} {v : V} {b : Bool} (m : RM f H M) (r : RD M.length f H d v) (e : truD M d = some b) : TruV K v H b := by
  cases d with
  | non => rw [show v = .non from r]; cases (show some false = some b from e); exact rfl
  | bl c => rw [show v = .bl c from r]; cases (show some c = some b from e); exact rfl
  | int i => rw [show v = .int i from r]; cases (show some (i != 0) = some b from e); exact rfl
  | tup l =>
    cases (show some (!l.isEmpty) = some b from e)
    obtain ⟨a, xs, rfl, h1, h2, _⟩ := rd_tupM (K := K) r
    exact .inr (.inl ⟨xs, h1, by rw [isEmpty_rds h2]⟩)
  | lst l =>
    cases (show some (!l.isEmpty) = some b from e)
    obtain ⟨a, xs, rfl, h1, h2, _⟩ := rd_lstM (K := K) (l := l) m r rfl
    exact .inl ⟨xs, h1, by rw [isEmpty_rds h2]⟩
  | frz l =>
    cases (show some (!l.isEmpty) = some b from e)
    obtain ⟨a, xs, rfl, h1, h2, _⟩ := rd_lstM (K := K) (l := l) m r rfl
    exact .inl ⟨xs, h1, by rw [isEmpty_rds h2]⟩
  | ref i =>
    have e' : (match M[i]? with | some (.lst l) => some (!l.isEmpty) | _ => none) = some b := e
    cases q : M[i]? with
    | none => rw [q] at e'; cases e'
    | some o =>
      rw [q] at e'
      cases o with
      | lst l =>
        cases e'
        obtain ⟨a, xs, rfl, h1, h2, _⟩ := rd_lstM (K := K) (l := l) m r (by show (match M[i]? with | some (.lst l) => some l | _ => none) = some l; rw [q])
        exact .inl ⟨xs, h1, by rw [isEmpty_rds h2]⟩
      | ins _ _ _ => cases e'
  | _ => cases (show none = some b from e)
/-! ### names, constants -/
def dVar (i : Nat) : DE := fun l M P _ => ∃ d, l[i]? = some (some d) ∧ P d M
def dC (d : Dv) : DE := fun _ M P _ => P d M
section
variable {X : Cx} {W : WX} {pos : Pos}
theorem je_var {i : Nat} {x : Str} (hN : X.N[i]? = some x) (hv : Vis X.env.scope x) (hd : (x == ("__debug__" : Str)) = false := by decide) (hcd : (x == ("__classdict__" : Str)) = false := by decide) : JE X W (.Name x pos) (dVar i) :=
  pe_imp (pe_var hN hv hd hcd) fun s H Q ⟨f, l, M, P, Y, m, rl, ⟨d, e, p⟩, k, _⟩ => by
    obtain ⟨v, e1, e2⟩ := rl.at_ i d e
    exact ⟨v, e1, k f H M d v Lt.refl m e2 p⟩
theorem jv (i : Nat) {x : Str} (hN : X.N[i]? = some x := by rfl) (hv : Vis X.env.scope x := by first | exact Or.inl rfl | exact Or.inr (Or.inl rfl) | exact Or.inr (Or.inr rfl)) (hd : (x == ("__debug__" : Str)) = false := by decide)
    (hcd : (x == ("__classdict__" : Str)) = false := by decide) : JE X W (.Name x pos) (dVar i) := je_var hN hv hd hcd
theorem je_con {e : Expr} {v : V} {d : Dv} (h : PE X e (tC v)) (r : ∀ n f H, RD n f H d v) : JE X W e (dC d) :=
  pe_imp h fun s H Q ⟨f, l, M, P, Y, m, rl, p, k, _⟩ => k f H M d v Lt.refl m (r _ _ _) p
theorem je_int {i j} : JE X W (.Constant (.int i) j pos) (dC (.int i)) := je_con pe_int fun _ _ _ => rfl
theorem je_bl {b j} : JE X W (.Constant (.bool b) j pos) (dC (.bl b)) := je_con pe_bl fun _ _ _ => rfl
theorem je_non {j} : JE X W (.Constant .none j pos) (dC .non) := je_con pe_non fun _ _ _ => rfl
theorem je_str {x j} : JE X W (.Constant (.str x) j pos) (dC (.str x)) := je_con pe_str fun _ _ _ => rfl
/-- a def, a class of the module, as a value -/
theorem je_glob {x : Str} {a : Addr} (hg : Gl X x) (hm : X.mg x = some (.ref a)) (hd : (x == ("__debug__" : Str)) = false := by decide) : JE X W (.Name x pos) (dC (.adr a)) :=
  je_con (pe_glob (v := .ref a) hg hm rfl hd) fun _ _ _ => rfl
end
/-! ### operations on values that leave the memory as it is -/
def Op2 (r : R2) (g : Dv → Dv → Mem → (Dv → Prop) → Prop) : Prop :=
  ∀ (f : Fr) (H : Hp) (M : Mem) (x y : Dv) (v u : V) (P : Dv → Prop) (Q : VK), RM f H M → RD M.length f H x v → RD M.length f H y u → g x y M P →
    (∀ w H' d, Same H H' → RD M.length f H' d w → P d → Q w H') → r v u H Q
def Op1 (r : V → Hp → VK → Prop) (g : Dv → Mem → (Dv → Prop) → Prop) : Prop :=
  ∀ (f : Fr) (H : Hp) (M : Mem) (x : Dv) (v : V) (P : Dv → Prop) (Q : VK), RM f H M → RD M.length f H x v → g x M P →
    (∀ w H' d, Same H H' → RD M.length f H' d w → P d → Q w H') → r v H Q
def Opn (r : List V → Hp → VK → Prop) (g : List Dv → Mem → (Dv → Prop) → Prop) : Prop :=
  ∀ (f : Fr) (H : Hp) (M : Mem) (xs : List Dv) (vs : List V) (P : Dv → Prop) (Q : VK), RM f H M → RDs M.length f H xs vs → g xs M P →
    (∀ w H' d, Same H H' → RD M.length f H' d w → P d → Q w H') → r vs H Q
def dOp (g : Dv → Dv → Mem → (Dv → Prop) → Prop) (ta tb : DE) : DE := fun l M P X => ta l M (fun x M1 => tb l M1 (fun y M2 => g x y M2 fun d => P d M2) X) X
def dUn (g : Dv → Mem → (Dv → Prop) → Prop) (ta : DE) : DE := fun l M P X => ta l M (fun x M1 => g x M1 fun d => P d M1) X
def dCB (g : List Dv → Mem → (Dv → Prop) → Prop) (t : DA) : DE := fun l M P X => t l M (fun xs M1 => g xs M1 fun d => P d M1) X
section
variable {X : Cx} {W : WX} {pos : Pos} {a b : Expr} {ta tb : DE}
theorem op2_T {r : R2} {g : Dv → Dv → Mem → (Dv → Prop) → Prop} (hg : Op2 r g) (s : L2.St) (H : Hp) (Q : VK) (h : lE W (dOp g ta tb) s H Q) : tOp r (lE W ta) (lE W tb) s H Q := by
  obtain ⟨f, l, M, P, Y, m, rl, h, k, kx⟩ := h
  refine ⟨f, l, M, _, Y, m, rl, h, fun f1 H1 M1 x v L1 m1 r1 h1 => ?_, kx⟩
  refine ⟨f1, l, M1, _, Y, m1, rl.mono L1, h1, fun f2 H2 M2 y u L2 m2 r2 h2 => ?_, kx.mono L1⟩
  exact hg f2 H2 M2 x y v u _ Q m2 (r1.mono L2) r2 h2 fun w H3 d sm rd p => k f2 H3 M2 d w ((L1.trans L2).trans (Lt.same sm)) (m2.same sm) rd p
theorem je_op {op : Operator} {r : R2} {g : Dv → Dv → Mem → (Dv → Prop) → Prop} (ho : OpR X (binaryOp op) r) (hg : Op2 r g) (ha : JE X W a ta) (hb : JE X W b tb) : JE X W (.BinOp a op b pos) (dOp g ta tb) :=
  pe_imp (pe_op ho ha hb) (op2_T hg)
theorem je_cmp {op : CmpOp} {r : R2} {g : Dv → Dv → Mem → (Dv → Prop) → Prop} (ho : OpR X (compareOp op) r) (hg : Op2 r g) (ha : JE X W a ta) (hb : JE X W b tb) (hm : behindInMarks op b = false) : JE X W (.Compare a [op] [b] pos) (dOp g ta tb) :=
  pe_imp (pe_cmpR ho ha hb hm) (op2_T hg)
theorem je_ix {r : R2} {g : Dv → Dv → Mem → (Dv → Prop) → Prop} (hr : IxR X r) (hg : Op2 r g) (ha : JE X W a ta) (hb : JE X W b tb) (hs : PlainIx b) : JE X W (.Subscript a b pos) (dOp g ta tb) :=
  pe_imp (pe_ix hr ha hb hs) (op2_T hg)
theorem je_un {op : UnaryOp} {r : V → Hp → VK → Prop} {g : Dv → Mem → (Dv → Prop) → Prop} (ho : UnR X (unaryOp op) r) (hg : Op1 r g) (ha : JE X W a ta) : JE X W (.UnaryOp op a pos) (dUn g ta) :=
  pe_imp (pe_un ho ha) fun s H Q ⟨f, l, M, P, Y, m, rl, h, k, kx⟩ => ⟨f, l, M, _, Y, m, rl, h, fun f1 H1 M1 x v L1 m1 r1 h1 =>
    hg f1 H1 M1 x v _ Q m1 r1 h1 fun w H3 d sm rd p => k f1 H3 M1 d w (L1.trans (Lt.same sm)) (m1.same sm) rd p, kx⟩
/-- a value that is True or False, as a test -/
def dTest (t : DE) : DT := fun l M P X => t l M (fun d M1 => ∃ k, d = .bl k ∧ P k M1) X
theorem test_T (t : DE) (s : L2.St) (H : Hp) (Q : Bool → Hp → Prop) (h : lT W (dTest t) s H Q) : tTest (lE W t) s H Q := by
  obtain ⟨f, l, M, P, Y, m, rl, h, k, kx⟩ := h
  refine ⟨f, l, M, _, Y, m, rl, h, fun f1 H1 M1 x v L1 m1 r1 h1 => ?_, kx⟩
  obtain ⟨c, rfl, p⟩ := h1
  exact ⟨c, r1, k f1 H1 M1 c L1 m1 p⟩
theorem jt_cmp {op : CmpOp} {r : R2} {g : Dv → Dv → Mem → (Dv → Prop) → Prop} (ho : OpR X (compareOp op) r) (hg : Op2 r g) (ha : JE X W a ta) (hb : JE X W b tb) (hm : behindInMarks op b = false) : JT X W (.Compare a [op] [b] pos) (dTest (dOp g ta tb)) :=
  pt_imp (pt_cmpR ho ha hb hm) fun s H Q h => by
    obtain ⟨f, l, M, P, Y, m, rl, h, k, kx⟩ := h
    refine op2_T hg s H _ ⟨f, l, M, _, Y, m, rl, h, fun f1 H1 M1 x v L1 m1 r1 h1 => ?_, kx⟩
    obtain ⟨c, rfl, p⟩ := h1
    exact ⟨c, r1, k f1 H1 M1 c L1 m1 p⟩
/-- any value, as a test -/
def dTru (t : DE) : DT := fun l M P X => t l M (fun d M1 => ∃ k, truD M1 d = some k ∧ P k M1) X
theorem jt_tru {e : Expr} {t : DE} (h : JE X W e t) (he : ∀ whole, isTrue e X.env whole = (do let v ← whole; standAt e.pos; holding [v] (truthy v)) := by intro _; rfl) : JT X W e (dTru t) :=
  pt_imp (pt_truth h he) fun s H Q ⟨f, l, M, P, Y, m, rl, h, k, kx⟩ => ⟨f, l, M, _, Y, m, rl, h, fun f1 H1 M1 x v L1 m1 r1 ⟨c, e1, p⟩ => ⟨c, tru_rd m1 r1 e1, k f1 H1 M1 c L1 m1 p⟩, kx⟩
/-! ### and, or, not, if -/
def dAnd (t u : DT) : DT := fun l M P X => t l M (fun c M1 => if c = true then u l M1 P X else P false M1) X
def dOr (t u : DT) : DT := fun l M P X => t l M (fun c M1 => if c = true then P true M1 else u l M1 P X) X
def dNot (t : DT) : DT := fun l M P X => t l M (fun c M1 => P (!c) M1) X
variable {rest : List Expr} {tA tB : DT}
theorem jw_and1 (h : JT X W a tA) : JW X W (.BoolOp .And [a] pos) tA := pw_and1 h
theorem jw_or1 (h : JT X W a tA) : JW X W (.BoolOp .Or [a] pos) tA := pw_or1 h
theorem jw_and (ha : JT X W a tA) (hb : JW X W (.BoolOp .And (b :: rest) pos) tB) : JW X W (.BoolOp .And (a :: b :: rest) pos) (dAnd tA tB) :=
  pw_imp (pw_and ha hb) fun s H Q ⟨f, l, M, P, Y, m, rl, h, k, kx⟩ => ⟨f, l, M, _, Y, m, rl, h, fun f1 H1 M1 c L1 m1 h1 => by
    cases c with
    | true => rw [if_pos rfl] at h1 ⊢; exact ⟨f1, l, M1, P, Y, m1, rl.mono L1, h1, k.mono L1, kx.mono L1⟩
    | false => rw [if_neg Bool.false_ne_true] at h1 ⊢; exact k f1 H1 M1 false L1 m1 h1, kx⟩
theorem jw_or (ha : JT X W a tA) (hb : JW X W (.BoolOp .Or (b :: rest) pos) tB) : JW X W (.BoolOp .Or (a :: b :: rest) pos) (dOr tA tB) :=
  pw_imp (pw_or ha hb) fun s H Q ⟨f, l, M, P, Y, m, rl, h, k, kx⟩ => ⟨f, l, M, _, Y, m, rl, h, fun f1 H1 M1 c L1 m1 h1 => by
    cases c with
    | true => rw [if_pos rfl] at h1 ⊢; exact k f1 H1 M1 true L1 m1 h1
    | false => rw [if_neg Bool.false_ne_true] at h1 ⊢; exact ⟨f1, l, M1, P, Y, m1, rl.mono L1, h1, k.mono L1, kx.mono L1⟩, kx⟩
theorem jt_not (ha : JT X W a tA) : JT X W (.UnaryOp .Not a pos) (dNot tA) :=
  pt_imp (pt_not ha) fun s H Q ⟨f, l, M, P, Y, m, rl, h, k, kx⟩ => ⟨f, l, M, _, Y, m, rl, h, fun f1 H1 M1 c L1 m1 h1 => k f1 H1 M1 (!c) L1 m1 h1, kx⟩
/-- as values, by truth -/
def dAndV (t u : DE) : DE := fun l M P X => t l M (fun d M1 => ∃ c, truD M1 d = some c ∧ if c = true then u l M1 P X else P d M1) X
def dOrV (t u : DE) : DE := fun l M P X => t l M (fun d M1 => ∃ c, truD M1 d = some c ∧ if c = true then P d M1 else u l M1 P X) X
def dNotV (t : DE) : DE := fun l M P X => t l M (fun d M1 => ∃ c, truD M1 d = some c ∧ P (.bl (!c)) M1) X
theorem je_one {op} {t : DE} (h : JE X W a t) : JE X W (.BoolOp op [a] pos) t := pe_one h
theorem je_and (ha : JE X W a ta) (hb : JE X W (.BoolOp .And (b :: rest) pos) tb) : JE X W (.BoolOp .And (a :: b :: rest) pos) (dAndV ta tb) :=
  pe_imp (pe_andT ha hb) fun s H Q ⟨f, l, M, P, Y, m, rl, h, k, kx⟩ => ⟨f, l, M, _, Y, m, rl, h, fun f1 H1 M1 d v L1 m1 r1 ⟨c, e1, h1⟩ => ⟨c, tru_rd m1 r1 e1, by
    cases c with
    | true => rw [if_pos rfl] at h1 ⊢; exact ⟨f1, l, M1, P, Y, m1, rl.mono L1, h1, k.mono L1, kx.mono L1⟩
    | false => rw [if_neg Bool.false_ne_true] at h1 ⊢; exact k f1 H1 M1 d v L1 m1 r1 h1⟩, kx⟩
theorem je_or (ha : JE X W a ta) (hb : JE X W (.BoolOp .Or (b :: rest) pos) tb) : JE X W (.BoolOp .Or (a :: b :: rest) pos) (dOrV ta tb) :=
  pe_imp (pe_orT ha hb) fun s H Q ⟨f, l, M, P, Y, m, rl, h, k, kx⟩ => ⟨f, l, M, _, Y, m, rl, h, fun f1 H1 M1 d v L1 m1 r1 ⟨c, e1, h1⟩ => ⟨c, tru_rd m1 r1 e1, by
    cases c with
    | true => rw [if_pos rfl] at h1 ⊢; exact k f1 H1 M1 d v L1 m1 r1 h1
    | false => rw [if_neg Bool.false_ne_true] at h1 ⊢; exact ⟨f1, l, M1, P, Y, m1, rl.mono L1, h1, k.mono L1, kx.mono L1⟩⟩, kx⟩
theorem je_not (ha : JE X W a ta) : JE X W (.UnaryOp .Not a pos) (dNotV ta) :=
  pe_imp (pe_notT ha) fun s H Q ⟨f, l, M, P, Y, m, rl, h, k, kx⟩ => ⟨f, l, M, _, Y, m, rl, h, fun f1 H1 M1 d v L1 m1 r1 ⟨c, e1, h1⟩ => ⟨c, tru_rd m1 r1 e1, k f1 H1 M1 (.bl (!c)) (.bl (!c)) L1 m1 rfl h1⟩, kx⟩
def dIf (c : DT) (t u : DE) : DE := fun l M P X => c l M (fun b M1 => if b = true then t l M1 P X else u l M1 P X) X
theorem je_if {c : Expr} (hc : JT X W c tA) (ha : JE X W a ta) (hb : JE X W b tb) : JE X W (.IfExp c a b pos) (dIf tA ta tb) :=
  pe_imp (pe_ifExp hc ha hb) fun s H Q ⟨f, l, M, P, Y, m, rl, h, k, kx⟩ => ⟨f, l, M, _, Y, m, rl, h, fun f1 H1 M1 c L1 m1 h1 => by
    cases c with
    | true => rw [if_pos rfl] at h1 ⊢; exact ⟨f1, l, M1, P, Y, m1, rl.mono L1, h1, k.mono L1, kx.mono L1⟩
    | false => rw [if_neg Bool.false_ne_true] at h1 ⊢; exact ⟨f1, l, M1, P, Y, m1, rl.mono L1, h1, k.mono L1, kx.mono L1⟩, kx⟩
/-! ### argument lists, displays -/
def dNil : DA := fun _ M P _ => P [] M
def dCons (t : DE) (u : DA) : DA := fun l M P X => t l M (fun d M1 => u l M1 (fun ds M2 => P (d :: ds) M2) X) X
variable {e : Expr} {es : List Expr} {t : DE} {u : DA}
theorem ja_nil : JA X W [] dNil := pa_imp pa_nil fun s H Q ⟨f, l, M, P, Y, m, rl, h, k, kx⟩ => k f H M [] [] Lt.refl m rfl h
theorem ja_cons (ha : JE X W e t) (hr : JA X W es u) (hs : starEach (e :: es) X.env = (false, eval e X.env) :: starEach es X.env := by rfl) : JA X W (e :: es) (dCons t u) :=
  pa_imp (pa_cons ha hr hs) fun s H Q ⟨f, l, M, P, Y, m, rl, h, k, kx⟩ => ⟨f, l, M, _, Y, m, rl, h, fun f1 H1 M1 d v L1 m1 r1 h1 =>
    ⟨f1, l, M1, _, Y, m1, rl.mono L1, h1, fun f2 H2 M2 ds vs L2 m2 r2 h2 => k f2 H2 M2 (d :: ds) (v :: vs) (L1.trans L2) m2 (.cons (r1.mono L2) r2) h2, kx.mono L1⟩, kx⟩
def dTup (u : DA) : DE := fun l M P X => u l M (fun ds M1 => ds.length ≤ sizeLine ∧ P (.tup ds) M1) X
def dLst (u : DA) : DE := fun l M P X => u l M (fun ds M1 => ds.length ≤ sizeLine ∧ P (.lst ds) M1) X
/-- a new list that will be changed -/
def dLstM (u : DA) : DE := fun l M P X => u l M (fun ds M1 => ds.length ≤ sizeLine ∧ P (.ref M1.length) (M1 ++ [.lst ds])) X
theorem je_tup {x1} (h : JA X W es u) : JE X W (.Tuple es x1 pos) (dTup u) :=
  pe_imp (pe_tup h) fun s H Q ⟨f, l, M, P, Y, m, rl, h, k, kx⟩ => ⟨f, l, M, _, Y, m, rl, h, fun f1 H1 M1 ds vs L1 m1 r1 ⟨z, h1⟩ =>
    ⟨by rw [r1.length]; exact z, fun p hp => k f1 _ M1 (.tup ds) (.ref p) (L1.trans (Lt.same (same_new hp))) (m1.same (same_new hp)) (rd_tup m1 hp r1 z) h1⟩, kx⟩
theorem je_lst (h : JA X W es u) : JE X W (.List es pos) (dLst u) :=
  pe_imp (pe_lst h) fun s H Q ⟨f, l, M, P, Y, m, rl, h, k, kx⟩ => ⟨f, l, M, _, Y, m, rl, h, fun f1 H1 M1 ds vs L1 m1 r1 ⟨z, h1⟩ =>
    ⟨by rw [r1.length]; exact z, fun p hp => k f1 _ M1 (.lst ds) (.ref p) (L1.trans (Lt.same (same_new hp))) (m1.same (same_new hp)) (rd_lst m1 hp r1 z) h1⟩, kx⟩
theorem rm_newl {f : Fr} {H : Hp} {M : Mem} {p : Addr} {ds : List Dv} {vs : List V} (m : RM f H M) (hp : H p = none) (r : RDs M.length f H ds vs) (z : ds.length ≤ sizeLine) :
    RM (ext f M.length p) (upd H p (.lst vs)) (M ++ [.lst ds]) := m.new hp ⟨z, vs, upd_same, r.mono (lt_new hp)⟩
theorem rd_newl {f : Fr} {H : Hp} {M : Mem} {p : Addr} {o : MO} : RD (M ++ [o]).length (ext f M.length p) H (.ref M.length) (.ref p) := ⟨by simp, by rw [ext_self]⟩
theorem lt_newl {f : Fr} {H : Hp} {M : Mem} {p : Addr} {o : MO} {u : HO} (h : H p = none) : Lt M.length f H (M ++ [o]).length (ext f M.length p) (upd H p u) := by
  rw [List.length_append]; exact lt_new h
theorem je_lstM (h : JA X W es u) : JE X W (.List es pos) (dLstM u) :=
  pe_imp (pe_lst h) fun s H Q ⟨f, l, M, P, Y, m, rl, h, k, kx⟩ => ⟨f, l, M, _, Y, m, rl, h, fun f1 H1 M1 ds vs L1 m1 r1 ⟨z, h1⟩ =>
    ⟨by rw [r1.length]; exact z, fun p hp => k _ _ (M1 ++ [.lst ds]) (.ref M1.length) (.ref p) (L1.trans (lt_newl hp)) (rm_newl m1 hp r1 z) rd_newl h1⟩, kx⟩
/-! ### built-in functions and types, called -/
theorem je_callB {r : List V → Hp → VK → Prop} {g : List Dv → Mem → (Dv → Prop) → Prop} {id : String} {x : Str} {p : Pos} (hc : CallR X (.builtin id) r) (hr : Opn r g) (hg : Gl X x) (hm : X.mg x = none) (hv : bootBuiltins x = some (.builtin id)) (ha : JA X W (e :: es) u) (hn : x ≠ "__name__" := by decide)
    (hdb : (x == ("__debug__" : Str)) = false := by decide) (he : starEach (e :: es) X.env = (false, eval e X.env) :: starEach es X.env := by rfl) (hpl : (backTo pos (starEach es X.env)).any (·.1) = false := by rfl) : JE X W (.Call (.Name x p) (e :: es) [] pos) (dCB g u) :=
  pe_imp (pe_callB hc hg hm hv ha hn hdb he hpl) fun s H Q ⟨f, l, M, P, Y, m, rl, h, k, kx⟩ => ⟨f, l, M, _, Y, m, rl, h, fun f1 H1 M1 ds vs L1 m1 r1 h1 =>
    hr f1 H1 M1 ds vs _ Q m1 r1 h1 fun w H3 d sm rd p => k f1 H3 M1 d w (L1.trans (Lt.same sm)) (m1.same sm) rd p, kx⟩
theorem je_callTy {r : List V → Hp → VK → Prop} {g : List Dv → Mem → (Dv → Prop) → Prop} {T : String} {x : Str} {p : Pos} (hc : CallR X (.type T) r) (hr : Opn r g) (hg : Gl X x) (hm : X.mg x = none) (hv : bootBuiltins x = some (.type T)) (ha : JA X W (e :: es) u) (hn : x ≠ "__name__" := by decide)
    (hdb : (x == ("__debug__" : Str)) = false := by decide) (he : starEach (e :: es) X.env = (false, eval e X.env) :: starEach es X.env := by rfl) (hpl : (backTo pos (starEach es X.env)).any (·.1) = false := by rfl) : JE X W (.Call (.Name x p) (e :: es) [] pos) (dCB g u) :=
  pe_imp (pe_callTy hc hg hm hv ha hn hdb he hpl) fun s H Q ⟨f, l, M, P, Y, m, rl, h, k, kx⟩ => ⟨f, l, M, _, Y, m, rl, h, fun f1 H1 M1 ds vs L1 m1 r1 h1 =>
    hr f1 H1 M1 ds vs _ Q m1 r1 h1 fun w H3 d sm rd p => k f1 H3 M1 d w (L1.trans (Lt.same sm)) (m1.same sm) rd p, kx⟩
/-! ### own defs, called -/
abbrev DSp := List Dv → Mem → PD → PX → Prop
def spOf (S : DSp) : Sp := fun vs H Q E => ∃ (f : Fr) (M : Mem) (ds : List Dv) (P : PD) (X : PX), RM f H M ∧ RDs M.length f H ds vs ∧ S ds M P X ∧ KE M.length f H P Q ∧ KX (fun c d _ H => E c d H) [] M.length f H X
/-- a def keeps its promise, called where no repr is under way -/
structure FnG (P : Program) (w : World) (K : PySem.W.Frag) (mg : Str → Option Value) (base : Heap) (k : Nat) (f : Addr) (fd : FuncData) (ps : List Str) (S : DSp) : Prop where
  len : ∀ ds M Pd X, S ds M Pd X → ds.length = ps.length
  run : ∀ (A : Around) (outer : List Env) (s : Shared) (H : Hp) (args : Args) (us : List Value) (vs : List V) (Q : VK) (E : XK), Room k A → A.guards = some [] → Env0 P w K mg base A outer s H → BindsTo s fd args (ps.zip us) → Vals vs us → spOf S vs H Q E →
    codeAny (model P w) A (.call (.ref f) args) (CR (L2.CX P w) outer P w H s Q E) s
theorem FnG.mono {P : Program} {w : World} {K : PySem.W.Frag} {mg : Str → Option Value} {base : Heap} {j k : Nat} {f : Addr} {fd : FuncData} {ps : List Str} {S : DSp} (F : FnG P w K mg base j f fd ps S) (h : j ≤ k) : FnG P w K mg base k f fd ps S :=
  ⟨F.len, fun A outer s H args us vs Q E hr => F.run A outer s H args us vs Q E (hr.mono h)⟩
theorem FnG.imp {P : Program} {w : World} {K : PySem.W.Frag} {mg : Str → Option Value} {base : Heap} {k : Nat} {f : Addr} {fd : FuncData} {ps : List Str} {S S' : DSp} (F : FnG P w K mg base k f fd ps S) (h : ∀ ds M Pd X, S' ds M Pd X → S ds M Pd X) : FnG P w K mg base k f fd ps S' :=
  ⟨fun ds M Pd X q => F.len ds M Pd X (h _ _ _ _ q), fun A outer s H args us vs Q E hr hgu e0 hb rv ⟨f, M, ds, Pd, Y, m, r, q, k, kx⟩ => F.run A outer s H args us vs Q E hr hgu e0 hb rv ⟨f, M, ds, Pd, Y, m, r, h _ _ _ _ q, k, kx⟩⟩
theorem run_g {S : DSp} {k : Nat} {f : Addr} {fd : FuncData} {ps : List Str} (F : FnG X.prog X.w X.K X.mg X.base k f fd ps S) (hr : Room k X.A) (hgu : X.A.guards = some []) {E : L2.St → XK} {pins : List (Addr × Obj)} {σ : L2.St} {H : Hp} {s : Shared} {Q : VK} {args : Args} {us : List Value} {vs : List V}
    (hx : PassesAt (L2.CX X.prog X.w) X σ (E σ)) (I : Inv X pins σ H s) (b : BindsTo s fd args (ps.zip us)) (r : Vals vs us) (h : spOf S vs H Q (E σ)) :
    codeAny (model X.prog X.w) X.A (.call (.ref f) args) (fun r s' => match r with | .ok (.ret u) => EP X pins σ Q u s' | .ok _ => False | .error e => X.xe e s') s :=
  codeAny_mono (F.run X.A X.stack s H args us vs Q (E σ) hr hgu I.env0 b r h) fun res s' hq => by
    cases res with
    | error e => exact hx pins H s e s' I hq
    | ok fl =>
      cases fl with
      | ret u => exact I.after hq
      | next => exact hq
      | brk => exact hq
      | cont => exact hq
def dCall (S : DSp) (u : DA) : DE := fun l M P X => u l M (fun ds M1 => S ds M1 P X) X
theorem je_call {S : DSp} {k : Nat} {f : Addr} {fd : FuncData} {ps : List Str} {x : Str} {p : Pos} (F : FnG X.prog X.w X.K X.mg X.base k f fd ps S) (hr : Room k X.A) (hgu : X.A.guards = some []) (tk : Takes X W) (hg : Gl X x) (hm : X.mg x = some (.ref f)) (hk : PySem.W.keepIn X.K (.ref f) = true) (hb : Binds X.K fd ps [])
    (ha : JA X W (e :: es) u) (hdb : (x == ("__debug__" : Str)) = false := by decide) (he : starEach (e :: es) X.env = (false, eval e X.env) :: starEach es X.env := by rfl) (hpl : (backTo pos (starEach es X.env)).any (·.1) = false := by rfl) :
    JE X W (.Call (.Name x p) (e :: es) [] pos) (dCall S u) := by
  refine ⟨fun pins s σ H Q I ⟨f0, l, M, Pd, Y, m, rl, h, k, kx⟩ => ?_⟩
  refine wpAny_Call_Name_kw (ld_glob I hg hm ?_ hdb)
  refine PySem.W.callWith_K (h₀ := X.base) I.ok.mod.kin hk (thn (ha.run pos pins s σ H (fun vs H1 => spOf S vs H1 Q (WE W σ)) I ⟨f0, l, M, _, Y, m, rl, h, fun f1 H1 M1 ds vs L1 m1 r1 h1 =>
    ⟨f1, M1, ds, Pd, Y, m1, r1, h1, k.mono L1, fun f' H' M' C d a L2 m2 r2 h2 => kx f' H' M' C d a (L1.trans L2) m2 r2 h2⟩, kx⟩) fun us s1 ⟨vs, H1, I1, r, q⟩ => ⟨I1.kIn, ?_⟩) he hpl
  have hl : us.length = ps.length := by
    obtain ⟨f2, M2, ds, P2, Y2, _, r2, h2, _, _⟩ := q
    rw [← r.length, r2.length]; exact F.len _ _ _ _ h2
  have b := hb s1 us I1.kIn (by rw [List.append_nil]; exact hl)
  rw [List.append_nil] at b
  refine wpAny_call (codeAny_mono (run_g F hr hgu (E := WE W) (passAt tk σ) I1 b r q) fun res s' hq => ?_)
  cases res with
  | error e => exact hq
  | ok fl => cases fl <;> exact hq
end
end D
end

section
set_option Elab.async false
set_option linter.all false
set_option maxRecDepth 100000
set_option maxHeartbeats 1000000
set_option autoImplicit false
/-! The deep layer, part 2: statements, targets, loops, comprehensions, defs. -/
namespace D
open PySem PySem.Spec PyProof.Rows L2
structure DK where
  nx : Loc → Mem → Prop
  rt : PD
  bk : Loc → Mem → Prop
  ct : Loc → Mem → Prop
  xc : Addr → Option Dv → Loc → Mem → Prop
abbrev DS := DK → Loc → Mem → Prop
structure KS (W : WX) (n : Nat) (f : Fr) (H : Hp) (E : DK) (D : Ends) : Prop where
  nx : ∀ (f' : Fr) (H' : Hp) (s' : L2.St) (l' : Loc) (M' : Mem), Lt n f H M'.length f' H' → RM f' H' M' → RL M'.length f' H' l' s' → E.nx l' M' → D.nx s' H'
  rt : ∀ (f' : Fr) (H' : Hp) (M' : Mem) (d : Dv) (v : V), Lt n f H M'.length f' H' → RM f' H' M' → RD M'.length f' H' d v → E.rt d M' → D.rt v H'
  bk : ∀ (f' : Fr) (H' : Hp) (s' : L2.St) (l' : Loc) (M' : Mem), Lt n f H M'.length f' H' → RM f' H' M' → RL M'.length f' H' l' s' → E.bk l' M' → D.bk s' H'
  ct : ∀ (f' : Fr) (H' : Hp) (s' : L2.St) (l' : Loc) (M' : Mem), Lt n f H M'.length f' H' → RM f' H' M' → RL M'.length f' H' l' s' → E.ct l' M' → D.ct s' H'
  xc : ∀ (f' : Fr) (H' : Hp) (s' : L2.St) (l' : Loc) (M' : Mem) (C : Addr) (d : Option Dv) (a : Option Addr), Lt n f H M'.length f' H' → RM f' H' M' → RL M'.length f' H' l' s' → RX M'.length f' H' d a → E.xc C d l' M' → W (.ref C) a s' H'
def lS (W : WX) (t : DS) : TS := fun D s H => ∃ (f : Fr) (l : Loc) (M : Mem) (E : DK), RM f H M ∧ RL M.length f H l s ∧ t E l M ∧ KS W M.length f H E D
section
variable {W : WX} {n n1 : Nat} {f f1 : Fr} {H H1 : Hp} {E : DK} {D : Ends} {s : L2.St} {l : Loc}
theorem KS.mono (k : KS W n f H E D) (x : Lt n f H n1 f1 H1) : KS W n1 f1 H1 E D :=
  ⟨fun f' H' s' l' M' y => k.nx f' H' s' l' M' (x.trans y), fun f' H' M' d v y => k.rt f' H' M' d v (x.trans y), fun f' H' s' l' M' y => k.bk f' H' s' l' M' (x.trans y),
    fun f' H' s' l' M' y => k.ct f' H' s' l' M' (x.trans y), fun f' H' s' l' M' C d a y => k.xc f' H' s' l' M' C d a (x.trans y)⟩
theorem KS.kx (k : KS W n f H E D) (r : RL n f H l s) : KX W s n f H (fun C d M => E.xc C d l M) := fun f' H' M' C d a x m rx h => k.xc f' H' s l M' C d a x m (r.mono x) rx h
end
abbrev JS (X : Cx) (W : WX) (st : Stmt) (t : DS) : Prop := PS X st (lS W t)
abbrev JSs (X : Cx) (W : WX) (st : List Stmt) (t : DS) : Prop := PSs X st (lS W t)
section
variable {X : Cx} {W : WX} {st : Stmt} {rest : List Stmt} {t u : DS} {e : Expr} {te : DE} {pos : Pos}
theorem ps_imp {t t' : TS} (h : PS X st t') (g : ∀ D s H, t D s H → t' D s H) : PS X st t := ⟨fun pins s σ H D I hw => h.run pins s σ H D I (g _ _ _ hw)⟩
theorem pss_imp {t t' : TS} (h : PSs X rest t') (g : ∀ D s H, t D s H → t' D s H) : PSs X rest t := ⟨fun pins s σ H D I hw => h.run pins s σ H D I (g _ _ _ hw)⟩
def dNext : DS := fun E l M => E.nx l M
def dSeq (t u : DS) : DS := fun E l M => t { E with nx := u E } l M
theorem js_nil : JSs X W [] dNext := pss_imp pss_nil fun D s H ⟨f, l, M, E, m, r, h, k⟩ => k.nx f H s l M Lt.refl m r h
theorem js_cons (h1 : JS X W st t) (h2 : JSs X W rest u) : JSs X W (st :: rest) (dSeq t u) :=
  pss_imp (pss_cons h1 h2) fun D s H ⟨f, l, M, E, m, r, h, k⟩ => ⟨f, l, M, { E with nx := u E }, m, r, h,
    ⟨fun f' H' s' l' M' x m' r' h' => ⟨f', l', M', E, m', r', h', k.mono x⟩, k.rt, k.bk, k.ct, k.xc⟩⟩
theorem js_one (h1 : JS X W st t) : JSs X W [st] t := pss_one h1
theorem js_pass : JS X W (.Pass pos) dNext := ps_imp ps_pass fun D s H ⟨f, l, M, E, m, r, h, k⟩ => k.nx f H s l M Lt.refl m r h
def dBreak : DS := fun E l M => E.bk l M
def dCont : DS := fun E l M => E.ct l M
theorem js_break : JS X W (.Break pos) dBreak := ps_imp ps_break fun D s H ⟨f, l, M, E, m, r, h, k⟩ => k.bk f H s l M Lt.refl m r h
theorem js_continue : JS X W (.Continue pos) dCont := ps_imp ps_continue fun D s H ⟨f, l, M, E, m, r, h, k⟩ => k.ct f H s l M Lt.refl m r h
def dDrop (te : DE) : DS := fun E l M => te l M (fun _ M1 => E.nx l M1) (fun C d M1 => E.xc C d l M1)
theorem js_expr (he : JE X W e te) (hs : swapsWith e none pos.line X.env = pure false := by rfl) : JS X W (.Expr e pos) (dDrop te) :=
  ps_imp (ps_expr he hs) fun D s H ⟨f, l, M, E, m, r, h, k⟩ => ⟨f, l, M, _, _, m, r, h, fun f' H' M' d v x m' _ h' => k.nx f' H' s l M' x m' (r.mono x) h', k.kx r⟩
def dRet (te : DE) : DS := fun E l M => te l M E.rt (fun C d M1 => E.xc C d l M1)
theorem js_ret (he : JE X W e te) : JS X W (.Return (some e) pos) (dRet te) :=
  ps_imp (ps_ret he) fun D s H ⟨f, l, M, E, m, r, h, k⟩ => ⟨f, l, M, _, _, m, r, h, fun f' H' M' d v x m' r' h' => k.rt f' H' M' d v x m' r' h', k.kx r⟩
def dRetN : DS := fun E _ M => E.rt .non M
theorem js_retN : JS X W (.Return none pos) dRetN := ps_imp ps_retN fun D s H ⟨f, l, M, E, m, r, h, k⟩ => k.rt f H M .non .non Lt.refl m rfl h
def dIfS (c : DT) (t u : DS) : DS := fun E l M => c l M (fun b M1 => if b = true then t E l M1 else u E l M1) (fun C d M1 => E.xc C d l M1)
theorem js_if {c : Expr} {a b : List Stmt} {tc : DT} (hc : JT X W c tc) (ha : JSs X W a t) (hb : JSs X W b u) : JS X W (.If c a b pos) (dIfS tc t u) :=
  ps_imp (ps_if hc ha hb) fun D s H ⟨f, l, M, E, m, r, h, k⟩ => ⟨f, l, M, _, _, m, r, h, fun f' H' M' b x m' h' => by
    cases b with
    | true => rw [if_pos rfl] at h' ⊢; exact ⟨f', l, M', E, m', r.mono x, h', k.mono x⟩
    | false => rw [if_neg Bool.false_ne_true] at h' ⊢; exact ⟨f', l, M', E, m', r.mono x, h', k.mono x⟩, k.kx r⟩
/-! ### targets -/
/-- only the slots in ws changed -/
structure Ch (ws : List Nat) (s s' : L2.St) : Prop where
  len : s'.length = s.length
  out : ∀ j, j ∉ ws → s'[j]? = s[j]?
theorem Ch.refl (ws : List Nat) (s : L2.St) : Ch ws s s := ⟨rfl, fun _ _ => rfl⟩
theorem Ch.trans {ws : List Nat} {s s1 s2 : L2.St} (a : Ch ws s s1) (b : Ch ws s1 s2) : Ch ws s s2 := ⟨b.len.trans a.len, fun j h => (b.out j h).trans (a.out j h)⟩
abbrev DG := Dv → Loc → Mem → (Loc → Mem → Prop) → Prop
abbrev DGs := List Dv → Loc → Mem → (Loc → Mem → Prop) → Prop
def KG (ws : List Nat) (s : L2.St) (n : Nat) (f : Fr) (H : Hp) (P : Loc → Mem → Prop) (Q : L2.St → Hp → Prop) : Prop :=
  ∀ (f' : Fr) (H' : Hp) (s' : L2.St) (l' : Loc) (M' : Mem), Lt n f H M'.length f' H' → RM f' H' M' → RL M'.length f' H' l' s' → Ch ws s s' → P l' M' → Q s' H'
def lG (ws : List Nat) (g : DG) : TG := fun v s H Q => ∃ (f : Fr) (l : Loc) (M : Mem) (d : Dv) (P : Loc → Mem → Prop), RM f H M ∧ RL M.length f H l s ∧ RD M.length f H d v ∧ g d l M P ∧ KG ws s M.length f H P Q
def lGs (ws : List Nat) (g : DGs) : TGs := fun v s H Q => ∃ (f : Fr) (l : Loc) (M : Mem) (d : List Dv) (P : Loc → Mem → Prop), RM f H M ∧ RL M.length f H l s ∧ RDs M.length f H d v ∧ g d l M P ∧ KG ws s M.length f H P Q
abbrev JG (X : Cx) (ws : List Nat) (tg : Expr) (g : DG) : Prop := PG X tg (lG ws g)
abbrev JGs (X : Cx) (ws : List Nat) (tg : List Expr) (g : DGs) : Prop := PGs X tg (lGs ws g)
theorem pg_imp {tg : Expr} {t t' : TG} (h : PG X tg t') (g : ∀ v s H Q, t v s H Q → t' v s H Q) : PG X tg t := ⟨fun pins s σ H v u Q I r hw => h.run pins s σ H v u Q I r (g _ _ _ _ hw)⟩
theorem pgs_imp {tg : List Expr} {t t' : TGs} (h : PGs X tg t') (g : ∀ v s H Q, t v s H Q → t' v s H Q) : PGs X tg t := ⟨fun pins s σ H v u Q I r hw => h.run pins s σ H v u Q I r (g _ _ _ _ hw)⟩
theorem pg_or {tg : Expr} {t t' : TG} (h : PG X tg t) (h' : PG X tg t') : PG X tg (fun v s H Q => t v s H Q ∨ t' v s H Q) := ⟨fun pins s σ H v u Q I r hw => hw.elim (h.run pins s σ H v u Q I r) (h'.run pins s σ H v u Q I r)⟩
def gN (i : Nat) : DG := fun d l M P => P (l.set i (some d)) M
theorem jg_name {ws : List Nat} {i : Nat} {x : Str} (hw : i ∈ ws) (hN : X.N.Nodup) (hi : X.N[i]? = some x) (hx : L2.Loc X.env.scope x) (hf : X.fn x = true ∨ X.env.scope.names.lookup x = some .local := by first | exact .inl rfl | exact .inr rfl | assumption) : JG X ws (.Name x pos) (gN i) :=
  pg_imp (pg_name hN hi hx hf) fun v s H Q ⟨f, l, M, d, P, m, r, rd, h, k⟩ => k f H _ _ M Lt.refl m (r.set rd) ⟨by simp, fun j hj => by
    rw [List.getElem?_set_ne]
    intro e; subst e; exact hj hw⟩ h
def gsNil : DGs := fun ds l M P => ds = [] ∧ P l M
def gsCons (g : DG) (r : DGs) : DGs := fun ds l M P => ∃ d rs, ds = d :: rs ∧ g d l M fun l1 M1 => r rs l1 M1 P
theorem jgs_nil {ws : List Nat} : JGs X ws [] gsNil := pgs_imp pgs_nil fun v s H Q ⟨f, l, M, ds, P, m, r, rd, ⟨e, h⟩, k⟩ => by
  subst e
  exact ⟨rd, k f H s l M Lt.refl m r (Ch.refl ws s) h⟩
theorem jgs_cons {ws : List Nat} {es : List Expr} {g : DG} {gr : DGs} (h1 : JG X ws e g) (h2 : JGs X ws es gr) (hs : (assignEach (e :: es) X.env).map (·.2) = assign e X.env :: (assignEach es X.env).map (·.2) := by rfl) : JGs X ws (e :: es) (gsCons g gr) :=
  pgs_imp (pgs_cons h1 h2 hs) fun v s H Q ⟨f, l, M, ds, P, m, r, rd, ⟨d, rs, e, h⟩, k⟩ => by
    subst e
    obtain ⟨v1, vr, rfl, r1, r2⟩ : ∃ v1 vr, v = v1 :: vr ∧ RD M.length f H d v1 ∧ RDs M.length f H rs vr := rd
    refine ⟨v1, vr, rfl, f, l, M, d, _, m, r, r1, h, fun f' H' s' l' M' x m' r' c h' => ?_⟩
    exact ⟨f', l', M', rs, P, m', r', r2.mono x, h', fun f2 H2 s2 l2 M2 y m2 r2 c2 h2 => k f2 H2 s2 l2 M2 (x.trans y) m2 r2 (c.trans c2) h2⟩
/-- (a, b, ..) = a tuple or a list of that length -/
def gT (n : Nat) (g : DGs) : DG := fun d l M P => ∃ ds, seqD M d = some ds ∧ ds.length = n ∧ g ds l M P
theorem jg_tup {ws : List Nat} {es : List Expr} {k : Nat} {g : DGs} {n : Nat} (hc : X.calm = true) (h : JGs X ws es g) (hn : (assignEach es X.env).length = n := by rfl) (hst : (assignEach es X.env).findIdx? (·.1) = none := by rfl) : JG X ws (.Tuple es k pos) (gT n g) :=
  pg_imp (pg_or (pg_tup hc h hn hst) (pg_unl hc h hn hst)) fun v s H Q ⟨f, l, M, d, P, m, r, rd, ⟨ds, e, hl, h⟩, k⟩ => by
    obtain ⟨a, xs, rfl, hq, r2, _⟩ := rd_seqM (K := X.K) m rd e
    rcases hq with hq | hq
    · exact .inr ⟨a, xs, rfl, hq, by rw [r2.length, hl], f, l, M, ds, P, m, r, r2, h, k⟩
    · exact .inl ⟨a, xs, rfl, hq, by rw [r2.length, hl], f, l, M, ds, P, m, r, r2, h, k⟩
/-- xs[i] = .., xs a list that is changed -/
def noX : PX := fun _ _ _ => False
theorem kx_no {s : L2.St} {n : Nat} {f : Fr} {H : Hp} : KX (fun _ _ _ _ => False) s n f H noX := fun _ _ _ _ _ _ _ _ _ h => h
theorem kx_noW {W : WX} {s : L2.St} {n : Nat} {f : Fr} {H : Hp} : KX W s n f H noX := fun _ _ _ _ _ _ _ _ _ h => h.elim
def gSub (to ti : DE) : DG := fun d l M P => to l M (fun o M1 => ti l M1 (fun i M2 => ∃ r k xs j, o = .ref r ∧ i = .int k ∧ M2[r]? = some (.lst xs) ∧ ixN xs.length k = some j ∧ P l (M2.set r (.lst (xs.set j d)))) noX) noX
theorem jg_sub {ws : List Nat} {o i : Expr} {to ti : DE} (ho : JE X (fun _ _ _ _ => False) o to) (hi : JE X (fun _ _ _ _ => False) i ti) (ha : ∀ v, assign (.Subscript o i pos) X.env v = (do
      let ov ← holding [v] (eval o X.env)
      let iv ← holding [v, ov] (eval i X.env)
      standAt pos
      holding [v, ov, iv] (setItem ov iv v)
      release [v, ov, iv] []) := by intro _; rfl) : JG X ws (.Subscript o i pos) (gSub to ti) :=
  pg_imp (L2.pg_sub ho hi set_list ha) fun v s H Q ⟨f, l, M, d, P, m, r, rd, h, k⟩ => by
    refine ⟨f, l, M, _, _, m, r, h, fun f1 H1 M1 od ov x1 m1 r1 h1 => ?_, kx_no⟩
    refine ⟨f1, l, M1, _, _, m1, r.mono x1, h1, fun f2 H2 M2 id iv x2 m2 r2 h2 => ?_, kx_no⟩
    obtain ⟨rr, kk, xs, j, rfl, rfl, hM, hj, h3⟩ := h2
    obtain ⟨hlt, rfl⟩ : rr < M2.length ∧ ov = .ref (f2 rr) := r1.mono x2
    obtain ⟨z, vs, hH, hv⟩ : xs.length ≤ sizeLine ∧ ∃ vs, H2 (f2 rr) = some (.lst vs) ∧ RDs M2.length f2 H2 xs vs := m2.ob rr _ hM
    have L3 : Lt M2.length f2 H2 (M2.set rr (.lst (xs.set j d))).length f2 (upd H2 (f2 rr) (.lst (vs.set j v))) := by
      rw [List.length_set]; exact lt_set hlt (by rw [hH]; exact fun e => by cases e)
    have L3' : Lt M2.length f2 H2 M2.length f2 (upd H2 (f2 rr) (.lst (vs.set j v))) := lt_set hlt (by rw [hH]; exact fun e => by cases e)
    refine ⟨f2 rr, vs, kk, j, rfl, r2, hH, by rw [hv.length]; exact hj, k f2 _ s l _ ((x1.trans x2).trans L3) (m2.set hlt ⟨by rw [List.length_set]; exact z, _, upd_same, (hv.mono L3').set ((rd.mono (x1.trans x2)).mono L3')⟩) (r.mono ((x1.trans x2).trans L3)) (Ch.refl ws s) h3⟩
/-! ### assignments -/
def dAsg (te : DE) (g : DG) : DS := fun E l M => te l M (fun d M1 => g d l M1 E.nx) (fun C d M1 => E.xc C d l M1)
theorem asg_T {ws : List Nat} {g : DG} (D : Ends) (s : L2.St) (H : Hp) (h : lS W (dAsg te g) D s H) : tAsg (lE W te) (lG ws g) D s H := by
  obtain ⟨f, l, M, E, m, r, h, k⟩ := h
  exact ⟨f, l, M, _, _, m, r, h, fun f' H' M' d v x m' r' h' => ⟨f', l, M', d, _, m', r.mono x, r', h', fun f2 H2 s2 l2 M2 y m2 r2 _ h2 => k.nx f2 H2 s2 l2 M2 (x.trans y) m2 r2 h2⟩, k.kx r⟩
theorem js_asg {tg : Expr} {ws : List Nat} {g : DG} (he : JE X W e te) (hg : JG X ws tg g) (hs : swapsWithSole [tg] e pos.line X.env = pure false := by rfl) (hw : swappedStores [tg] e X.env = pure none := by rfl)
    (h1 : (assignEach [tg] X.env).map (·.2) = [assign tg X.env] := by rfl) : JS X W (.Assign [tg] e pos) (dAsg te g) := ps_imp (ps_asg he hg hs hw h1) asg_T
def dSet (i : Nat) (te : DE) : DS := fun E l M => te l M (fun d M1 => E.nx (l.set i (some d)) M1) (fun C d M1 => E.xc C d l M1)
theorem set_T {i : Nat} (D : Ends) (s : L2.St) (H : Hp) (h : lS W (dSet i te) D s H) : tAsg (lE W te) (gName i) D s H := by
  obtain ⟨f, l, M, E, m, r, h, k⟩ := h
  exact ⟨f, l, M, _, _, m, r, h, fun f' H' M' d v x m' r' h' => k.nx f' H' _ _ M' x m' ((r.mono x).set r') h', k.kx r⟩
theorem js_set {i : Nat} {x : Str} {pos' : Pos} (hN : X.N.Nodup) (hi : X.N[i]? = some x) (hx : L2.Loc X.env.scope x) (he : JE X W e te) (hs : swapsWith e (some (.Name x pos')) pos.line X.env = pure false := by rfl) (hf : X.fn x = true ∨ X.env.scope.names.lookup x = some .local := by first | exact .inl rfl | exact .inr rfl | assumption) :
    JS X W (.Assign [.Name x pos'] e pos) (dSet i te) := ps_imp (ps_set hN hi hx he hs hf) set_T
/-- a, b = x, y with plain local names -/
def dPar (i j : Nat) (u : DA) : DS := fun E l M => u l M (fun ds M1 => ∃ a b, ds = [a, b] ∧ E.nx ((l.set i (some a)).set j (some b)) M1) (fun C d M1 => E.xc C d l M1)
theorem js_par {i j : Nat} {x y : Str} {a b : Expr} {u : DA} {px py pt : Pos} {kt k2 pt2} (hc : X.calm = true) (hN : X.N.Nodup) (hi : X.N[i]? = some x) (hj : X.N[j]? = some y) (hij : i ≠ j)
    (hx : X.env.scope.names.lookup x = some .local) (hy : X.env.scope.names.lookup y = some .local) (ha : JA X W [a, b] u)
    (hw : swappedStores [.Tuple [.Name x px, .Name y py] kt pt] (.Tuple [a, b] k2 pt2) X.env = pure (some [x, y]))
    (hs : swapsWithSole [.Tuple [.Name x px, .Name y py] kt pt] (.Tuple [a, b] k2 pt2) pos.line X.env = pure false := by rfl) :
    JS X W (.Assign [.Tuple [.Name x px, .Name y py] kt pt] (.Tuple [a, b] k2 pt2) pos) (dPar i j u) :=
  ps_imp (ps_par hc hN hi hj hij hx hy ha hw hs) fun D s H ⟨f, l, M, E, m, r, h, k⟩ => ⟨f, l, M, _, _, m, r, h, fun f' H' M' ds vs x m' r' ⟨a, b, e, h'⟩ => by
    subst e
    obtain ⟨va, vr, rfl, r1, vb, vr2, rfl, r2, e3⟩ : ∃ va vr, vs = va :: vr ∧ RD M'.length f' H' a va ∧ ∃ vb vr2, vr = vb :: vr2 ∧ RD M'.length f' H' b vb ∧ vr2 = [] := r'
    subst e3
    exact ⟨va, vb, rfl, k.nx f' H' _ _ M' x m' (((r.mono x).set r1).set r2) h'⟩, k.kx r⟩
def dPar3 (i j q : Nat) (u : DA) : DS := fun E l M => u l M (fun ds M1 => ∃ a b c, ds = [a, b, c] ∧ E.nx (((l.set i (some a)).set j (some b)).set q (some c)) M1) (fun C d M1 => E.xc C d l M1)
theorem dpar3_T {i j q : Nat} {u : DA} (D : Ends) (s : L2.St) (H : Hp) (h : lS W (dPar3 i j q u) D s H) : tPar3 i j q (lA W u) D s H := by
  obtain ⟨f, l, M, E, m, r, h, k⟩ := h
  refine ⟨f, l, M, _, _, m, r, h, fun f' H' M' ds vs x m' r' ⟨a, b, c, e, h'⟩ => ?_, k.kx r⟩
  subst e
  obtain ⟨va, vr, rfl, r1, vb, vr2, rfl, r2, vc, vr3, rfl, r3, e3⟩ : ∃ va vr, vs = va :: vr ∧ RD M'.length f' H' a va ∧ ∃ vb vr2, vr = vb :: vr2 ∧ RD M'.length f' H' b vb ∧ ∃ vc vr3, vr2 = vc :: vr3 ∧ RD M'.length f' H' c vc ∧ vr3 = [] := r'
  subst e3
  exact ⟨va, vb, vc, rfl, k.nx f' H' _ _ M' x m' ((((r.mono x).set r1).set r2).set r3) h'⟩
end
/-! ### what is walked -/
abbrev DI := Loc → Mem → (List Dv → (Mem → Prop) → Mem → Prop) → PX → Prop
/-- the iterator J hands out xs, while chk is so -/
def JOk (J : It) (xs : List Dv) (chk : Mem → Prop) (n : Nat) (f : Fr) (H : Hp) : Prop :=
  ∀ (i : Nat) (f' : Fr) (H' : Hp) (M' : Mem), Rm n f H M'.length f' H' → RM f' H' M' → chk M' →
    (i < xs.length → J.go i H' ∧ ∀ v H'', J.yld i H' v H'' → Same H' H'' ∧ ∃ d, xs[i]? = some d ∧ RD M'.length f' H'' d v) ∧ (i = xs.length → J.stop i H')
theorem JOk.mono {J : It} {xs : List Dv} {chk : Mem → Prop} {n n1 : Nat} {f f1 : Fr} {H H1 : Hp} (j : JOk J xs chk n f H) (x : Lt n f H n1 f1 H1) : JOk J xs chk n1 f1 H1 := fun i f' H' M' y m c => j i f' H' M' (x.rm.trans y) m c
def lI (W : WX) (t : DI) : TI := fun s H R => ∃ (f : Fr) (l : Loc) (M : Mem) (P : List Dv → (Mem → Prop) → Mem → Prop) (X : PX), RM f H M ∧ RL M.length f H l s ∧ t l M P X ∧
  (∀ (f' : Fr) (H' : Hp) (M' : Mem) (xs : List Dv) (chk : Mem → Prop) (J : It), Lt M.length f H M'.length f' H' → RM f' H' M' → chk M' → JOk J xs chk M'.length f' H' → P xs chk M' → R J H') ∧ KX W s M.length f H X
abbrev JI (X : Cx) (W : WX) (tg iter : Expr) (t : DI) : Prop := PI X tg iter (lI W t)
section
variable {X : Cx} {W : WX} {tg iter : Expr} {pos : Pos}
theorem pi_imp {t t' : TI} (h : PI X tg iter t') (g : ∀ s H Q, t s H Q → t' s H Q) : PI X tg iter t := ⟨fun pins s σ H Q I hw => h.run pins s σ H Q I (g _ _ _ hw)⟩
/-- a tuple, a list as it stands at the beginning (one of the memory: while it is not changed) -/
def chkD (d : Dv) (xs : List Dv) : Mem → Prop := fun M => seqD M d = some xs
def iSeq (t : DE) : DI := fun l M P X => t l M (fun d M1 => ∃ xs, seqD M1 d = some xs ∧ P xs (chkD d xs) M1) X
theorem jok_l {K : PySem.W.Frag} {f : Fr} {H : Hp} {M : Mem} {d : Dv} {a : Addr} {xs : List Dv} (r : RD M.length f H d (.ref a)) (hd : ∀ l, d ≠ .tup l) : JOk (Itl K a) xs (chkD d xs) M.length f H := fun i f' H' M' x m c => by
  obtain ⟨b, vs, e, hq, hv, _⟩ := rd_lstM (K := K) m (r.rm x) (by
    rcases seq_cases c with rfl | e
    · exact absurd rfl (hd xs)
    · exact e)
  cases e
  refine ⟨fun hi => ?_, fun hi => ⟨vs, hq, by rw [hv.length, hi]; exact Nat.le_refl _⟩⟩
  obtain ⟨v, e1, e2⟩ := hv.get (List.getElem?_eq_getElem hi)
  refine ⟨⟨vs, v, hq, e1⟩, fun w H'' ⟨e3, hy⟩ => ?_⟩
  subst e3
  have := hy vs hq
  rw [e1] at this; cases this
  exact ⟨Same.refl _, _, List.getElem?_eq_getElem hi, e2⟩
theorem jok_t {K : PySem.W.Frag} {f : Fr} {H : Hp} {M : Mem} {a : Addr} {xs : List Dv} {c : Mem → Prop} (r : RD M.length f H (.tup xs) (.ref a)) : JOk (Itt K a) xs c M.length f H := fun i f' H' M' x m _ => by
  obtain ⟨b, vs, e, hq, hv, _⟩ := rd_tupM (K := K) (r.rm x)
  cases e
  refine ⟨fun hi => ?_, fun hi => ⟨vs, hq, by rw [hv.length, hi]; exact Nat.le_refl _⟩⟩
  obtain ⟨v, e1, e2⟩ := hv.get (List.getElem?_eq_getElem hi)
  refine ⟨⟨vs, v, hq, e1⟩, fun w H'' ⟨e3, hy⟩ => ?_⟩
  subst e3
  have := hy vs hq
  rw [e1] at this; cases this
  exact ⟨Same.refl _, _, List.getElem?_eq_getElem hi, e2⟩
theorem ji_seq {t : DE} (h : JE X W iter t) : JI X W tg iter (iSeq t) := by
  have h1 := pi_list (tg := tg) h
  have h2 := pi_tup (tg := tg) h
  refine ⟨fun pins s σ H R I hw => ?_⟩
  obtain ⟨f, l, M, P, Y, m, r, hw, k, kx⟩ := hw
  -- by cases on what the expression is worth: run it once, then walk
  refine thn (h.run pins s σ H (fun v H1 => ∃ f1 M1 d xs, Lt M.length f H M1.length f1 H1 ∧ RM f1 H1 M1 ∧ RD M1.length f1 H1 d v ∧ seqD M1 d = some xs ∧ P xs (chkD d xs) M1) I ⟨f, l, M, _, Y, m, r, hw, fun f1 H1 M1 d v x m1 r1 ⟨xs, e, p⟩ => ⟨f1, M1, d, xs, x, m1, r1, e, p⟩, kx⟩) fun u s1 ⟨v, H1, I1, rv, f1, M1, d, xs, x, m1, r1, e, p⟩ => ?_
  have fin : ∀ J, JOk J xs (chkD d xs) M1.length f1 H1 → R J H1 := fun J j => k f1 H1 M1 xs _ J x m1 e j p
  obtain ⟨a, vs, rfl, hq, hv, _⟩ := rd_seqM (K := X.K) m1 r1 e
  cases rv
  by_cases ht : ∃ l', d = .tup l'
  · obtain ⟨l', rfl⟩ := ht
    cases (show some l' = some xs from e)
    obtain ⟨b, ws, e2, hq2, hv2, hz⟩ := rd_tupM (K := X.K) r1
    cases e2
    obtain ⟨its, rvv, pp, _⟩ := I1.tuple hq2
    refine wpAny_pyIter_tuple (show s1.heap.IsTuple a its.toArray from pp) ?_
    refine ⟨s1.heap.objs.size, [s1.heap.objs.size], _, _, H1, rfl, I1.kept (t' := s1.toks) fun b o e => Heap.get?_push_of_some _ e, turn_tuple a _, ⟨_, Heap.get?_push_size _ rfl, rfl, rfl⟩, fun b hb => ?_, fin _ (jok_t r1)⟩
    have e : b = s1.heap.objs.size := by simpa using hb
    subst e
    exact I1.fpOk (Nat.le_refl _) (I1.hok.fresh (Nat.le_refl _))
  · have hd : ∀ l', d ≠ .tup l' := fun l' z => ht ⟨l', z⟩
    have e' : lstD M1 d = some xs := (seq_cases e).resolve_left (hd xs)
    obtain ⟨b, ws, e2, hq2, hv2, hz⟩ := rd_lstM (K := X.K) m1 r1 e'
    cases e2
    obtain ⟨its, rvv, pp, _⟩ := I1.list hq2
    refine wpAny_pyIter_list pp.isList ?_
    refine ⟨s1.heap.objs.size, [s1.heap.objs.size], _, _, H1, rfl, I1.kept (t' := s1.toks) fun b o e => Heap.get?_push_of_some _ e, turn_list a _, ⟨_, Heap.get?_push_size _ rfl, rfl, rfl⟩, fun b hb => ?_, fin _ (jok_l r1 hd)⟩
    have e : b = s1.heap.objs.size := by simpa using hb
    subst e
    exact I1.fpOk (Nat.le_refl _) (I1.hok.fresh (Nat.le_refl _))
/-- range(n), range(a, b) -/
def rngD (a b : Int) : List Dv := (List.range (b - a).toNat).map fun i => .int (a + (i : Nat))
theorem jok_r {f : Fr} {H : Hp} {n : Nat} {a b : Int} {c : Mem → Prop} : JOk (Itr a (b - a).toNat) (rngD a b) c n f H := fun i f' H' M' x m _ => by
  have hl : (rngD a b).length = (b - a).toNat := by simp [rngD]
  refine ⟨fun hi => ?_, fun hi => by rw [hl] at hi; exact Nat.le_of_eq hi.symm⟩
  have hi' := hi
  rw [hl] at hi'
  refine ⟨hi', fun v H'' ⟨e1, e2⟩ => ?_⟩
  subst e1 e2
  exact ⟨Same.refl _, .int (a + (i : Nat)), by simp [rngD, hi'], rfl⟩
def iRan1 (u : DA) : DI := fun l M P X => u l M (fun ds M1 => ∃ n, ds = [.int n] ∧ -(2 ^ 62) ≤ n ∧ n < 2 ^ 62 ∧ P (rngD 0 n) (fun _ => True) M1) X
def iRan2 (u : DA) : DI := fun l M P X => u l M (fun ds M1 => ∃ a b, ds = [.int a, .int b] ∧ (-(2 ^ 62) ≤ a ∧ a < 2 ^ 62 ∧ -(2 ^ 62) ≤ b ∧ b < 2 ^ 62) ∧ P (rngD a b) (fun _ => True) M1) X
theorem ji_range1 {a : Expr} {u : DA} {p : Pos} (hg : Gl X "range") (hm : X.mg "range" = none) (ha : JA X W [a] u) (hs : starEach [a] X.env = [(false, eval a X.env)] := by rfl) : JI X W tg (.Call (.Name "range" p) [a] [] pos) (iRan1 u) :=
  pi_imp (pi_range1 hg hm ha hs) fun s H R ⟨f, l, M, P, Y, m, r, h, k, kx⟩ => ⟨f, l, M, _, Y, m, r, h, fun f1 H1 M1 ds vs x m1 r1 ⟨n, e, h1, h2, p⟩ => by
    subst e
    obtain ⟨v, vr, rfl, e1, e2⟩ : ∃ v vr, vs = v :: vr ∧ v = .int n ∧ vr = [] := r1
    subst e1 e2
    have j : JOk (Itr 0 n.toNat) (rngD 0 n) (fun _ => True) M1.length f1 H1 := by
      have := jok_r (f := f1) (H := H1) (n := M1.length) (a := 0) (b := n) (c := fun _ => True)
      rw [Int.sub_zero] at this; exact this
    exact ⟨n, rfl, h1, h2, k f1 H1 M1 _ _ _ x m1 trivial j p⟩, kx⟩
theorem ji_range2 {a b : Expr} {u : DA} {p : Pos} (hg : Gl X "range") (hm : X.mg "range" = none) (ha : JA X W [a, b] u) (hs : starEach [a, b] X.env = [(false, eval a X.env), (false, eval b X.env)] := by rfl) (hs2 : starEach [b] X.env = [(false, eval b X.env)] := by rfl) :
    JI X W tg (.Call (.Name "range" p) [a, b] [] pos) (iRan2 u) :=
  pi_imp (pi_range2 hg hm ha hs hs2) fun s H R ⟨f, l, M, P, Y, m, r, h, k, kx⟩ => ⟨f, l, M, _, Y, m, r, h, fun f1 H1 M1 ds vs x m1 r1 ⟨a, b, e, hb, p⟩ => by
    subst e
    obtain ⟨v, vr, rfl, e1, v2, vr2, rfl, e2, e3⟩ : ∃ v vr, vs = v :: vr ∧ v = .int a ∧ ∃ v2 vr2, vr = v2 :: vr2 ∧ v2 = .int b ∧ vr2 = [] := r1
    subst e1 e2 e3
    exact ⟨a, b, rfl, hb, k f1 H1 M1 _ _ _ x m1 trivial jok_r p⟩, kx⟩
/-! ### for, while -/
def loopS (g : DG) (body : DS) (E : DK) (chk : Mem → Prop) : List Dv → Loc → Mem → Prop
  | [], l, M => chk M ∧ E.nx l M
  | x :: r, l, M => chk M ∧ g x l M fun l2 M2 => body { E with nx := loopS g body E chk r, ct := loopS g body E chk r, bk := E.nx } l2 M2
def dFor (src : DI) (g : DG) (body : DS) : DS := fun E l M => src l M (fun xs chk M1 => loopS g body E chk xs l M1) (fun C d M1 => E.xc C d l M1)
theorem js_for {ws : List Nat} {body : List Stmt} {src : DI} {g : DG} {t : DS} (hp : PassesOwn (model X.prog X.w) X.A X.env X.xe) (hc : X.calm = true) (hi : JI X W tg iter src) (hg : JG X ws tg g) (hb : JSs X W body t)
    (hs : ∀ x, foldedSetIterable iter X.env x = pure x := by intro _; rfl) : JS X W (.For tg iter body [] pos) (dFor src g t) :=
  ps_imp (ps_for hp hc hi hg hb hs) fun D s H ⟨f, l, M, E, m, r, h, k⟩ => by
    refine ⟨f, l, M, _, _, m, r, h, fun f1 H1 M1 xs chk J x1 m1 c1 j h1 => ?_, k.kx r⟩
    have k1 := k.mono x1
    refine ⟨fun i q s' H' => ∃ (f2 : Fr) (l2 : Loc) (M2 : Mem), i + q = xs.length ∧ Lt M1.length f1 H1 M2.length f2 H' ∧ RM f2 H' M2 ∧ RL M2.length f2 H' l2 s' ∧ loopS g t E chk (xs.drop i) l2 M2,
      ⟨xs.length, f1, l, M1, by simp, Lt.refl, m1, r.mono x1, by simpa using h1⟩, ?_⟩
    rintro i q s' H' ⟨f2, l2, M2, hi, x2, m2, r2, h2⟩
    by_cases hlt : i < xs.length
    · obtain ⟨d, hd⟩ : ∃ d, xs[i]? = some d := ⟨_, List.getElem?_eq_getElem hlt⟩
      have ed : xs.drop i = d :: xs.drop (i + 1) := by
        rw [List.drop_eq_getElem_cons hlt]
        congr 1
        rw [List.getElem?_eq_getElem hlt] at hd
        exact Option.some.inj hd
      rw [ed] at h2
      obtain ⟨c2, h2⟩ := h2
      have hj := (j i f2 H' M2 x2.rm m2 c2).1 hlt
      refine .inr ⟨hj.1, fun s3 H3 => ∃ (f3 : Fr) (l3 : Loc) (M3 : Mem), Lt M1.length f1 H1 M3.length f3 H3 ∧ RM f3 H3 M3 ∧ RL M3.length f3 H3 l3 s3 ∧ loopS g t E chk (xs.drop (i + 1)) l3 M3,
        fun s3 H3 ⟨f3, l3, M3, y1, y2, y3, y4⟩ => ⟨q - 1, by omega, f3, l3, M3, by omega, y1, y2, y3, y4⟩, fun v H3 hy => ?_⟩
      obtain ⟨sm, d', hd', rd⟩ := hj.2 v H3 hy
      rw [hd] at hd'; cases hd'
      refine ⟨f2, l2, M2, d, _, m2.same sm, r2.mono (Lt.same sm), rd, h2, fun f4 H4 s4 l4 M4 x4 m4 r4 _ h4 => ?_⟩
      have x5 : Lt M2.length f2 H' M4.length f4 H4 := (Lt.same sm).trans x4
      have k2 := k1.mono (x2.trans x5)
      exact ⟨f4, l4, M4, _, m4, r4, h4, ⟨fun f5 H5 s5 l5 M5 z mm rr hh => ⟨f5, l5, M5, (x2.trans x5).trans z, mm, rr, hh⟩, k2.rt, k2.nx, fun f5 H5 s5 l5 M5 z mm rr hh => ⟨f5, l5, M5, (x2.trans x5).trans z, mm, rr, hh⟩, k2.xc⟩⟩
    · have e : xs.drop i = [] := List.drop_eq_nil_of_le (by omega)
      rw [e] at h2
      exact .inl ⟨(j i f2 H' M2 x2.rm m2 h2.1).2 (by omega), k1.nx f2 H' s' l2 M2 x2 m2 r2 h2.2⟩
def dWhile (c : DT) (t : DS) : DS := fun E l M => ∃ Wh : Nat → Loc → Mem → Prop, (∃ q, Wh q l M) ∧ ∀ q l M, Wh q l M →
  c l M (fun b M1 => if b = true then ∃ N : Loc → Mem → Prop, (∀ l' M', N l' M' → ∃ q', q' < q ∧ Wh q' l' M') ∧ t { E with nx := N, ct := N, bk := E.nx } l M1 else E.nx l M1) (fun C d M1 => E.xc C d l M1)
theorem js_while {c : Expr} {body : List Stmt} {tc : DT} {t : DS} (hp : PassesOwn (model X.prog X.w) X.A X.env X.xe) (hc : JT X W c tc) (hb : JSs X W body t) : JS X W (.While c body [] pos) (dWhile tc t) :=
  ps_imp (ps_while hp hc hb) fun D s H ⟨f, l, M, E, m, r, ⟨Wh, ⟨q0, w0⟩, step⟩, k⟩ => by
    refine ⟨fun q s' H' => ∃ (f1 : Fr) (l1 : Loc) (M1 : Mem), Lt M.length f H M1.length f1 H' ∧ RM f1 H' M1 ∧ RL M1.length f1 H' l1 s' ∧ Wh q l1 M1, ⟨q0, f, l, M, Lt.refl, m, r, w0⟩, ?_⟩
    rintro q s' H' ⟨f1, l1, M1, x1, m1, r1, w1⟩
    refine ⟨f1, l1, M1, _, _, m1, r1, step q l1 M1 w1, fun f2 H2 M2 b x2 m2 h2 => ?_, (k.mono x1).kx r1⟩
    have k2 := k.mono (x1.trans x2)
    cases b with
    | true =>
      rw [if_pos rfl] at h2
      obtain ⟨N, hN, h2⟩ := h2
      refine iteT ⟨fun s3 H3 => ∃ (f3 : Fr) (l3 : Loc) (M3 : Mem), Lt M.length f H M3.length f3 H3 ∧ RM f3 H3 M3 ∧ RL M3.length f3 H3 l3 s3 ∧ N l3 M3, fun s3 H3 ⟨f3, l3, M3, y1, y2, y3, y4⟩ => ?_, f2, l1, M2, _, m2, r1.mono x2, h2,
        ⟨fun f5 H5 s5 l5 M5 z mm rr hh => ⟨f5, l5, M5, (x1.trans x2).trans z, mm, rr, hh⟩, k2.rt, k2.nx, fun f5 H5 s5 l5 M5 z mm rr hh => ⟨f5, l5, M5, (x1.trans x2).trans z, mm, rr, hh⟩, k2.xc⟩⟩
      obtain ⟨q', hq, w'⟩ := hN l3 M3 y4
      exact ⟨q', hq, f3, l3, M3, y1, y2, y3, w'⟩
    | false =>
      rw [if_neg Bool.false_ne_true] at h2
      exact iteF (k2.nx f2 H2 s' l1 M2 Lt.refl m2 (r1.mono x2) h2)
end
/-! ### comprehensions -/
def wipeD (l : Loc) : List Nat → Loc
  | [] => l
  | v :: vs => (wipeD l vs).set v none
theorem RL.wipe {n : Nat} {f : Fr} {H : Hp} {l : Loc} {s : L2.St} (r : RL n f H l s) : ∀ vs : List Nat, RL n f H (wipeD l vs) (wipe s vs)
  | [] => r
  | v :: vs => (r.wipe vs).unset v none
theorem wipe_at (s : L2.St) : ∀ (vs : List Nat) (j : Nat), j ∉ vs → (wipe s vs)[j]? = s[j]?
  | [], j, _ => rfl
  | v :: vs, j, h => by
    unfold wipe
    rw [List.getElem?_set_ne (fun e => h (by rw [e]; exact List.mem_cons_self)), wipe_at s vs j fun z => h (List.mem_cons_of_mem _ z)]
theorem wipe_in (s : L2.St) : ∀ (vs : List Nat) (j : Nat), j ∈ vs → j < s.length → (wipe s vs)[j]? = some none
  | v :: vs, j, h, hl => by
    unfold wipe
    by_cases e : j = v
    · subst e
      rw [List.getElem?_set_self (by rw [wipe_length]; exact hl)]
    · rw [List.getElem?_set_ne (Ne.symm e)]
      exact wipe_in s vs j ((List.mem_cons.mp h).resolve_left e) hl
theorem Ch.wiped {ws vs : List Nat} {s s' : L2.St} (c : Ch ws (wipe s vs) s') (h : ∀ j ∈ ws, j ∈ vs) : wipe s' vs = wipe s vs := by
  apply List.ext_getElem?
  intro j
  have hl : s'.length = s.length := by rw [c.len, wipe_length]
  by_cases e : j ∈ vs
  · by_cases hj : j < s.length
    · rw [wipe_in s' vs j e (by omega), wipe_in s vs j e hj]
    · rw [List.getElem?_eq_none (by rw [wipe_length]; omega), List.getElem?_eq_none (by rw [wipe_length]; omega)]
  · rw [wipe_at s' vs j e, wipe_at s vs j e]
    have := c.out j (fun z => e (h j z))
    rw [wipe_at s vs j e] at this
    exact this
def loopC (g : DG) (tt : DT) (te : DE) (vs : List Nat) (chk : Mem → Prop) : List Dv → List Dv → Loc → Mem → (List Dv → Mem → Prop) → Prop
  | [], acc, _, M, P => chk M ∧ P acc M
  | x :: r, acc, l, M, P => chk M ∧ g x (wipeD l vs) M fun l2 M2 => tt l2 M2 (fun b M3 => if b = true then te l2 M3 (fun y M4 => loopC g tt te vs chk r (acc ++ [y]) l M4 P) noX else loopC g tt te vs chk r acc l M3 P) noX
def dComp (src : DI) (g : DG) (tt : DT) (te : DE) (vs : List Nat) : DE := fun l M P X => src l M (fun xs chk M1 => xs.length ≤ sizeLine ∧ loopC g tt te vs chk xs [] l M1 (fun ys M2 => P (.lst ys) M2)) X
/-- .. a list that will be changed -/
def dCompM (src : DI) (g : DG) (tt : DT) (te : DE) (vs : List Nat) : DE := fun l M P X => src l M (fun xs chk M1 => xs.length ≤ sizeLine ∧ loopC g tt te vs chk xs [] l M1 (fun ys M2 => P (.ref M2.length) (M2 ++ [.lst ys]))) X
def dYes : DT := fun _ M P _ => P true M
abbrev JTs (X : Cx) (W : WX) (ifs : List Expr) (t : DT) : Prop := PTs X ifs (lT W t)
theorem pts_imp {X : Cx} {ifs : List Expr} {t t' : TT} (h : PTs X ifs t') (g : ∀ s H Q, t s H Q → t' s H Q) : PTs X ifs t := ⟨fun pins s σ H Q I hw => h.run pins s σ H Q I (g _ _ _ hw)⟩
theorem jts_nil {X : Cx} {W : WX} : JTs X W [] dYes := pts_imp pts_nil fun s H Q ⟨f, l, M, P, Y, m, rl, h, k, kx⟩ => k f H M true Lt.refl m h
theorem jts_one {X : Cx} {W : WX} {c : Expr} {t : DT} (h : JT X W c t) : JTs X W [c] t := pts_one h
/-- no exception leaves a comprehension -/
abbrev W0 : WX := fun _ _ _ _ => False
section
variable {X : Cx} {W : WX} {pos : Pos} {elt tg iter : Expr} {ifs : List Expr} {scope : Scope} {own : List (Str × Nat)} {src : DI} {g : DG} {tt : DT} {te : DE} {ws : List Nat}
theorem Lt.as_upd {n n1 : Nat} {f f1 : Fr} {H H1 : Hp} {p : Addr} {o : HO} (x : Lt n f H n1 (f1.as f) H1) (hp : H p = none) : Lt n f H n1 (f1.as f) (upd H1 p o) :=
  ⟨x.le, x.ag, fun a u e h z => by rw [upd_ne (ne_of_none e hp)]; exact x.kp a u e h z, x.fr, fun a e => by
    by_cases q : a = p
    · rw [q, upd_same] at e; cases e
    · rw [upd_ne q] at e; exact x.dm a e, rfl⟩
theorem comp_T (hw : ∀ j ∈ ws, j ∈ own.map (·.2)) {Q : VK} {s : L2.St} {H : Hp} {f : Fr} {l : Loc} {M : Mem} {Y : PX} {P : List Dv → Mem → Prop} (m : RM f H M) (r : RL M.length f H l s)
    (h : src l M (fun xs chk M1 => xs.length ≤ sizeLine ∧ loopC g tt te (own.map (·.2)) chk xs [] l M1 P) Y) (kx : KX W s M.length f H Y)
    (fin : ∀ (f1 : Fr) (H1 : Hp) (M1 : Mem) (p : Addr) (ys : List Dv) (vs : List V), Lt M.length f H M1.length (f1.as f) H1 → RM f1 H1 M1 → f1.hid p → (∀ a, f.hid a → f1.hid a ∧ a ≠ p) → H p = none → H1 p = some (.lst vs) → RDs M1.length f1 H1 ys vs → ys.length ≤ sizeLine → P ys M1 → Q (.ref p) H1) :
    tLc (lI W src) (lG ws g) (lT W0 tt) (lE W0 te) (own.map (·.2)) s H Q := by
  refine ⟨f, l, M, _, Y, m, r, h, fun f1 H1 M1 xs chk J x1 m1 c1 j ⟨hz, h1⟩ => ?_, kx⟩
  intro D hD
  have rl1 := r.mono x1
  have hHD : H D = none := x1.dm D hD
  let Wi : Nat → Nat → List Dv → Hp → Prop := fun i n rest H' => ∃ (f2 : Fr) (M2 : Mem) (acc : List Dv) (va : List V), Lt M1.length f1 H1 M2.length (f2.as f1) H' ∧ Rm M1.length f1 H1 M2.length f2 H' ∧ f2.hid = (f1.hide D).hid ∧ RM f2 H' M2 ∧ H' D = some (.lst va) ∧
    RDs M2.length f2 H' acc va ∧ acc.length ≤ i ∧ loopC g tt te (own.map (·.2)) chk rest acc l M2 P
  refine ⟨fun i q H' => i + q = xs.length ∧ Wi i q (xs.drop i) H', ⟨xs.length, by simp, f1.hide D, M1, [], [], Lt.as_upd (f1 := f1.hide D) Lt.refl hD, rm_hide hD, rfl, m1.hide hD, upd_same, rfl, Nat.le_refl _, by simpa using h1⟩, ?_⟩
  rintro i q H' ⟨hi, f2, M2, acc, va, x2, y2, hh2, m2, hDD, ra, hacc, h2⟩
  have hhD : f2.hid D := by rw [hh2]; exact .inr rfl
  have hsub : ∀ a, f1.hid a → f2.hid a := fun a z => by rw [hh2]; exact .inl z
  by_cases hlt : i < xs.length
  · obtain ⟨d, hd⟩ : ∃ d, xs[i]? = some d := ⟨_, List.getElem?_eq_getElem hlt⟩
    have ed : xs.drop i = d :: xs.drop (i + 1) := by
      rw [List.drop_eq_getElem_cons hlt]
      congr 1
      rw [List.getElem?_eq_getElem hlt] at hd
      exact Option.some.inj hd
    rw [ed] at h2
    obtain ⟨c2, h2⟩ := h2
    have hj := (j i f2 H' M2 y2 m2 c2).1 hlt
    refine .inr ⟨hj.1, fun H3 => Wi (i + 1) 0 (xs.drop (i + 1)) H3, fun H3 y => ⟨q - 1, by omega, by omega, y⟩, fun v H3 hy => ?_⟩
    obtain ⟨sm, d', hd', rd⟩ := hj.2 v H3 hy
    rw [hd] at hd'; cases hd'
    have rl2 : RL M2.length f2 H3 l s := (rl1.rm y2).mono (Lt.same sm)
    refine ⟨f2, wipeD l (own.map (·.2)), M2, d, _, m2.same sm, rl2.wipe _, rd, h2, fun f4 H4 s4 l4 M4 x4 m4 r4 ch h4 => ⟨ch.wiped hw, f4, l4, M4, _, _, m4, r4, h4, fun f5 H5 M5 b x5 m5 h5 => ?_, kx_no⟩⟩
    -- up to here
    have upto : ∀ {f6 : Fr} {H6 : Hp} {M6 : Mem}, Lt M2.length f2 H' M6.length f6 H6 → RM f6 H6 M6 → H6 D = some (.lst va) ∧ Lt M1.length f1 H1 M6.length (f6.as f1) H6 ∧ Rm M1.length f1 H1 M6.length f6 H6 ∧ f6.hid = (f1.hide D).hid ∧ RDs M6.length f6 H6 acc va := fun {f6 H6 M6} z m6 => by
      have z' : Lt M2.length (f2.as f1) H' M6.length (f6.as f1) H6 := ⟨z.le, z.ag, z.kp, z.fr, z.dm, rfl⟩
      exact ⟨z.kp D _ hDD (m2.hi D hhD).2 (fun _ w => by cases w), x2.trans z', y2.trans z.rm, z.hd.trans hh2, ra.mono z⟩
    cases b with
    | false =>
      rw [if_neg Bool.false_ne_true] at h5
      obtain ⟨e1, e2, e3, e4, e5⟩ := upto (((Lt.same sm).trans x4).trans x5) m5
      exact iteF ⟨f5, M5, acc, va, e2, e3, e4, m5, e1, e5, Nat.le_succ_of_le hacc, h5⟩
    | true =>
      rw [if_pos rfl] at h5
      refine iteT ⟨f5, l4, M5, _, _, m5, r4.mono x5, h5, fun f6 H6 M6 y vy x6 m6 ry h6 => ?_, kx_no⟩
      obtain ⟨e1, e2, e3, e4, e5⟩ := upto ((((Lt.same sm).trans x4).trans x5).trans x6) m6
      have hh6 : f6.hid D := by rw [e4]; exact .inr rfl
      refine ⟨va, e1, by rw [e5.length]; omega, f6, M6, acc ++ [y], va ++ [vy], e2.as_upd hD, e3.trans (rm_chg hh6), e4, m6.chg hh6, upd_same, (e5.app (.cons ry .nil)).rm (rm_chg hh6), by simp; omega, h6⟩
  · have e : xs.drop i = [] := List.drop_eq_nil_of_le (by omega)
    rw [e] at h2
    refine .inl ⟨(j i f2 H' M2 y2 m2 h2.1).2 (by omega), fin f2 H' M2 D acc va ?_ m2 hhD (fun a z => ⟨hsub a (by rw [x1.hd]; exact z), fun w => (m.hi a z).1 (by rw [w]; exact hHD)⟩) hHD hDD ra (by omega) h2.2⟩
    have x2' : Lt M1.length f1 H1 M2.length (f2.as f) H' := ⟨x2.le, x2.ag, x2.kp, x2.fr, x2.dm, x1.hd.symm⟩
    exact x1.trans x2'
theorem rm_adopt {n : Nat} {f f1 : Fr} {H : Hp} {p : Addr} (hh : f1.hid p) (hs : ∀ a, f.hid a → f1.hid a) : Rm n f1 H (n + 1) (ext (f1.as f) n p) H :=
  ⟨fun i h => ⟨Nat.lt_succ_of_lt h, ext_lt h⟩, fun a u e b _ => ⟨e, fun i hi w => by
    by_cases q : i < n
    · rw [ext_lt q] at w; exact b.1 i q w
    · have : i = n := by omega
      subst this
      rw [ext_self] at w
      exact b.2 (by rw [← w]; exact hh), fun w => b.2 (hs a w)⟩⟩
theorem RM.adopt {f f1 : Fr} {H : Hp} {M : Mem} {p : Addr} {ys : List Dv} {vs : List V} (m : RM f1 H M) (hh : f1.hid p) (hs : ∀ a, f.hid a → f1.hid a ∧ a ≠ p) (hv : H p = Option.some (HO.lst vs)) (r : RDs M.length f1 H ys vs) (hz : ys.length ≤ sizeLine) :
    RM (ext (f1.as f) M.length p) H (M ++ [.lst ys]) where
  ob := fun i b e => by
    rw [List.length_append, List.length_singleton]
    by_cases q : i < M.length
    · rw [List.getElem?_append_left q] at e
      rw [ext_lt q]
      exact (m.ob i b e).rm (rm_adopt hh fun a z => (hs a z).1) rfl
    · have hi : i < (M ++ [MO.lst ys]).length := (List.getElem?_eq_some_iff.mp e).1
      rw [List.length_append, List.length_singleton] at hi
      have : i = M.length := by omega
      subst this
      rw [List.getElem?_append_right (Nat.le_refl _)] at e
      simp at e
      subst e
      rw [ext_self]
      exact ⟨hz, vs, hv, r.rm (rm_adopt hh fun a z => (hs a z).1)⟩
  inj := fun i j hi hj e => by
    rw [List.length_append, List.length_singleton] at hi hj
    by_cases qi : i < M.length
    · by_cases qj : j < M.length
      · rw [ext_lt qi, ext_lt qj] at e; exact m.inj i j qi qj e
      · have : j = M.length := by omega
        subst this
        rw [ext_lt qi, ext_self] at e
        exact absurd e ((m.hi p hh).2 i qi)
    · have : i = M.length := by omega
      subst this
      by_cases qj : j < M.length
      · rw [ext_lt qj, ext_self] at e
        exact absurd e.symm ((m.hi p hh).2 j qj)
      · omega
  hi := fun a z => ⟨(m.hi a (hs a z).1).1, fun i hi e => by
    rw [List.length_append, List.length_singleton] at hi
    by_cases q : i < M.length
    · rw [ext_lt q] at e; exact (m.hi a (hs a z).1).2 i q e
    · have : i = M.length := by omega
      subst this
      rw [ext_self] at e
      exact (hs a z).2 e.symm⟩
theorem Lt.adopt {n n1 : Nat} {f f1 : Fr} {H H1 : Hp} {p : Addr} (x : Lt n f H n1 (f1.as f) H1) (hp : H p = none) : Lt n f H (n1 + 1) (ext (f1.as f) n1 p) H1 :=
  ⟨Nat.le_succ_of_le x.le, fun i h => (ext_lt (Nat.lt_of_lt_of_le h x.le)).trans (x.ag i h), x.kp, fun i h1 h2 => by
    by_cases q : i < n1
    · rw [ext_lt q]; exact x.fr i h1 q
    · have : i = n1 := by omega
      subst this
      rw [ext_self]; exact hp, x.dm, rfl⟩
section
variable {i : Nat} {y : Str} {py spos : Pos}
variable (hc : X.calm = true) (hN : X.N.Nodup) (hw : ∀ j ∈ ws, j ∈ own.map (·.2)) (hi : JI X W tg iter src) (ok : BlkOk X.N X.env.scope scope own)
    (hg : ∀ (s : Shared) (H : Hp) (C : Addr) (cl : List (Str × Addr)) (fp : List Addr), JG (X.blk s H scope (compEnvC scope cl C X.env) fp) ws tg g) (ht : ∀ (s : Shared) (H : Hp) (C : Addr) (cl : List (Str × Addr)) (fp : List Addr), JTs (X.blk s H scope (compEnvC scope cl C X.env) fp) W0 ifs tt)
    (he : ∀ (s : Shared) (H : Hp) (C : Addr) (cl : List (Str × Addr)) (fp : List Addr), JE (X.blk s H scope (compEnvC scope cl C X.env) fp) W0 elt te)
include hc hN hw hi ok hg ht he
theorem je_comp (hs : ∀ x, foldedSetIterable iter X.env x = pure x := by intro _; rfl) :
    JE X W (.ListComp elt [⟨tg, iter, ifs, 0⟩] scope pos) (dComp src g tt te (own.map (·.2))) :=
  pe_imp (pe_lc hc hN hi ok hg ht he hs) fun s H Q ⟨f, l, M, P, Y, m, r, h, k, kx⟩ => comp_T hw m r h kx fun f1 H1 M1 p ys vs x m1 hh hs hp hv ra hz h1 =>
    k _ H1 M1 (.lst ys) _ x (m1.show fun a z => (hs a z).1) ⟨hz, p, vs, rfl, hv, ⟨(m1.hi p hh).2, fun z => (hs p z).2 rfl⟩, ra.rm (rm_show fun a z => (hs a z).1)⟩ h1
theorem je_compM (hs : ∀ x, foldedSetIterable iter X.env x = pure x := by intro _; rfl) :
    JE X W (.ListComp elt [⟨tg, iter, ifs, 0⟩] scope pos) (dCompM src g tt te (own.map (·.2))) :=
  pe_imp (pe_lc hc hN hi ok hg ht he hs) fun s H Q ⟨f, l, M, P, Y, m, r, h, k, kx⟩ => comp_T hw m r h kx fun f1 H1 M1 p ys vs x m1 hh hs hp hv ra hz h1 =>
    k (ext (f1.as f) M1.length p) H1 (M1 ++ [.lst ys]) (.ref M1.length) _ (by rw [List.length_append]; exact x.adopt hp) (m1.adopt hh hs hv ra hz) rd_newl h1
theorem js_comp (hy : X.N[i]? = some y) (hyl : X.env.scope.names.lookup y = some .local) (hsw : swapsWith (.ListComp elt [⟨tg, iter, ifs, 0⟩] scope pos) (some (.Name y py)) spos.line X.env = pure true)
    (hs : ∀ x, foldedSetIterable iter X.env x = pure x := by intro _; rfl) : JS X W (.Assign [.Name y py] (.ListComp elt [⟨tg, iter, ifs, 0⟩] scope pos) spos) (dSet i (dComp src g tt te (own.map (·.2)))) :=
  ps_imp (ps_setLc hc hN hy hyl hsw hi ok hg ht he hs) fun D s H ⟨f, l, M, E, m, r, h, k⟩ => comp_T hw m r h (k.kx r) fun f1 H1 M1 p ys vs x m1 hh hs hp hv ra hz h1 =>
    k.nx _ H1 _ _ M1 x (m1.show fun a z => (hs a z).1) ((r.mono x).set (d := .lst ys) ⟨hz, p, vs, rfl, hv, ⟨(m1.hi p hh).2, fun z => (hs p z).2 rfl⟩, ra.rm (rm_show fun a z => (hs a z).1)⟩) h1
theorem js_compM (hy : X.N[i]? = some y) (hyl : X.env.scope.names.lookup y = some .local) (hsw : swapsWith (.ListComp elt [⟨tg, iter, ifs, 0⟩] scope pos) (some (.Name y py)) spos.line X.env = pure true)
    (hs : ∀ x, foldedSetIterable iter X.env x = pure x := by intro _; rfl) : JS X W (.Assign [.Name y py] (.ListComp elt [⟨tg, iter, ifs, 0⟩] scope pos) spos) (dSet i (dCompM src g tt te (own.map (·.2)))) :=
  ps_imp (ps_setLc hc hN hy hyl hsw hi ok hg ht he hs) fun D s H ⟨f, l, M, E, m, r, h, k⟩ => comp_T hw m r h (k.kx r) fun f1 H1 M1 p ys vs x m1 hh hs hp hv ra hz h1 => by
    have x' : Lt M.length f H (M1 ++ [MO.lst ys]).length (ext (f1.as f) M1.length p) H1 := by rw [List.length_append]; exact x.adopt hp
    exact k.nx _ H1 _ _ (M1 ++ [.lst ys]) x' (m1.adopt hh hs hv ra hz) ((r.mono x').set rd_newl) h1
end
end
end D
end

section
set_option Elab.async false
set_option linter.all false
set_option maxRecDepth 100000
set_option maxHeartbeats 1000000
set_option autoImplicit false
/-! The deep layer, part 3: a def by its body. -/
namespace D
open PySem PySem.Spec PyProof.Rows L2
mutual
def cl (n : Nat) : Dv → Bool
  | .ref i => decide (i < n)
  | .tup l => cls n l
  | .lst l => cls n l
  | .frz l => cls n l
  | .obj _ _ l => cls n l
  | _ => true
def cls (n : Nat) : List Dv → Bool
  | [] => true
  | d :: l => cl n d && cls n l
end
def clO (n : Nat) : MO → Bool
  | .lst l => cls n l
  | .ins _ _ l => cls n l
def MemOk (M : Mem) : Prop := ∀ o ∈ M, clO M.length o = true
section
variable {n n1 : Nat} {f : Fr} {H : Hp}
mutual
theorem RD.cl_of : ∀ {d : Dv} {v : V}, RD n f H d v → cl n d = true
  | .non, _, _ => rfl
  | .bl _, _, _ => rfl
  | .int _, _, _ => rfl
  | .str _, _, _ => rfl
  | .adr _, _, _ => rfl
  | .ty _, _, _ => rfl
  | .dic, _, _ => rfl
  | .ref i, v, h => decide_eq_true (show i < n ∧ v = .ref (f i) from h).1
  | .tup l, v, h => by
    obtain ⟨_, x, xs, _, _, _, r⟩ : l.length ≤ sizeLine ∧ ∃ x xs, v = .ref x ∧ H x = some (.tup xs) ∧ Bes n f x ∧ RDs n f H l xs := h
    exact RDs.cl_of r
  | .lst l, v, h => by
    obtain ⟨_, x, xs, _, _, _, r⟩ : l.length ≤ sizeLine ∧ ∃ x xs, v = .ref x ∧ H x = some (.lst xs) ∧ Bes n f x ∧ RDs n f H l xs := h
    exact RDs.cl_of r
  | .frz l, v, h => by
    obtain ⟨_, x, o, xs, _, _, _, r⟩ : l.length ≤ sizeLine ∧ ∃ x o xs, v = .ref x ∧ H x = some (.frz o (.lst xs)) ∧ Bes n f x ∧ RDs n f H l xs := h
    exact RDs.cl_of r
  | .obj C ks l, v, h => by
    obtain ⟨x, dx, fs, _, _, _, _, r⟩ : ∃ (x dx : Addr) (fs : List (Str × V)), v = .ref x ∧ H x = some (.ins C dx fs) ∧ Bes n f x ∧ fs.map (fun q => q.1) = ks ∧ RDs n f H l (fs.map (fun q : Str × V => q.2)) := h
    exact RDs.cl_of r
theorem RDs.cl_of : ∀ {l : List Dv} {xs : List V}, RDs n f H l xs → cls n l = true
  | [], _, _ => rfl
  | d :: l, xs, h => by
    obtain ⟨v, r, e, h1, h2⟩ : ∃ v r, xs = v :: r ∧ RD n f H d v ∧ RDs n f H l r := h
    exact Bool.and_eq_true_iff.mpr ⟨RD.cl_of h1, RDs.cl_of h2⟩
end
mutual
theorem RD.less (hn : n1 ≤ n) : ∀ {d : Dv} {v : V}, RD n f H d v → cl n1 d = true → RD n1 f H d v
  | .non, _, h, _ => h
  | .bl _, _, h, _ => h
  | .int _, _, h, _ => h
  | .str _, _, h, _ => h
  | .adr _, _, h, _ => h
  | .ty _, _, h, _ => h
  | .dic, v, h, _ => by
    obtain ⟨x, e, hx, hb⟩ : ∃ x, v = .ref x ∧ H x = some (.dK []) ∧ Bes n f x := h
    exact ⟨x, e, hx, ⟨fun i hi => hb.1 i (Nat.lt_of_lt_of_le hi hn), hb.2⟩⟩
  | .ref i, v, h, c => ⟨of_decide_eq_true c, (show i < n ∧ v = .ref (f i) from h).2⟩
  | .tup l, v, h, c => by
    obtain ⟨z, x, xs, e, hx, hb, r⟩ : l.length ≤ sizeLine ∧ ∃ x xs, v = .ref x ∧ H x = some (.tup xs) ∧ Bes n f x ∧ RDs n f H l xs := h
    exact ⟨z, x, xs, e, hx, ⟨fun i hi => hb.1 i (Nat.lt_of_lt_of_le hi hn), hb.2⟩, RDs.less hn r c⟩
  | .lst l, v, h, c => by
    obtain ⟨z, x, xs, e, hx, hb, r⟩ : l.length ≤ sizeLine ∧ ∃ x xs, v = .ref x ∧ H x = some (.lst xs) ∧ Bes n f x ∧ RDs n f H l xs := h
    exact ⟨z, x, xs, e, hx, ⟨fun i hi => hb.1 i (Nat.lt_of_lt_of_le hi hn), hb.2⟩, RDs.less hn r c⟩
  | .frz l, v, h, c => by
    obtain ⟨z, x, o, xs, e, hx, hb, r⟩ : l.length ≤ sizeLine ∧ ∃ x o xs, v = .ref x ∧ H x = some (.frz o (.lst xs)) ∧ Bes n f x ∧ RDs n f H l xs := h
    exact ⟨z, x, o, xs, e, hx, ⟨fun i hi => hb.1 i (Nat.lt_of_lt_of_le hi hn), hb.2⟩, RDs.less hn r c⟩
  | .obj C ks l, v, h, c => by
    obtain ⟨x, dx, fs, e, hx, hb, hk, r⟩ : ∃ (x dx : Addr) (fs : List (Str × V)), v = .ref x ∧ H x = some (.ins C dx fs) ∧ Bes n f x ∧ fs.map (fun q => q.1) = ks ∧ RDs n f H l (fs.map (fun q : Str × V => q.2)) := h
    exact ⟨x, dx, fs, e, hx, ⟨fun i hi => hb.1 i (Nat.lt_of_lt_of_le hi hn), hb.2⟩, hk, RDs.less hn r c⟩
theorem RDs.less (hn : n1 ≤ n) : ∀ {l : List Dv} {xs : List V}, RDs n f H l xs → cls n1 l = true → RDs n1 f H l xs
  | [], _, h, _ => h
  | d :: l, xs, h, c => by
    obtain ⟨v, r, e, h1, h2⟩ : ∃ v r, xs = v :: r ∧ RD n f H d v ∧ RDs n f H l r := h
    obtain ⟨c1, c2⟩ := Bool.and_eq_true_iff.mp c
    exact ⟨v, r, e, RD.less hn h1 c1, RDs.less hn h2 c2⟩
end
theorem RO.cl_of {a : Addr} {o : MO} (h : RO n f H a o) : clO n o = true := by
  cases o with
  | lst l => obtain ⟨_, xs, _, r⟩ := h; exact r.cl_of
  | ins C ks l => obtain ⟨dx, fs, _, _, r⟩ := h; exact r.cl_of
theorem RM.ok {M : Mem} (m : RM f H M) : MemOk M := fun o ho => by
  obtain ⟨i, hi⟩ := List.mem_iff_getElem?.mp ho
  exact (m.ob i o hi).cl_of
theorem RO.less (hn : n1 ≤ n) {a : Addr} {o : MO} (h : RO n f H a o) (c : clO n1 o = true) : RO n1 f H a o := by
  cases o with
  | lst l => obtain ⟨z, xs, e, r⟩ := h; exact ⟨z, xs, e, r.less hn c⟩
  | ins C ks l => obtain ⟨dx, fs, e, k, r⟩ := h; exact ⟨dx, fs, e, k, r.less hn c⟩
theorem RM.take {M : Mem} (m : RM f H M) (hn : n ≤ M.length) (c : ∀ o ∈ M.take n, clO n o = true) : RM f H (M.take n) := by
  have hl : (M.take n).length = n := by simp; omega
  refine ⟨fun i o e => ?_, fun i j hi hj e => m.inj i j (by omega) (by omega) e, fun a z => ⟨(m.hi a z).1, fun i hi => (m.hi a z).2 i (by omega)⟩⟩
  have hi : i < n := by have := (List.getElem?_eq_some_iff.mp e).1; omega
  rw [hl]
  have hm : o ∈ M.take n := List.mem_of_getElem? e
  rw [List.getElem?_take_of_lt hi] at e
  exact (m.ob i o e).less hn (c o hm)
theorem Lt.less {f0 : Fr} {H0 : Hp} (x : Lt n f0 H0 n1 f H) : Lt n f0 H0 n f H := ⟨Nat.le_refl _, x.ag, x.kp, fun i h1 h2 => absurd h1 (Nat.not_le.mpr h2), x.dm, x.hd⟩
end
/-- what a def hands back, what it left behind that nobody has any more let go -/
def Ret (n : Nat) (P : PD) (d : Dv) (M : Mem) : Prop :=
  P d M ∨ (n ≤ M.length ∧ (∀ o ∈ M.take n, clO n o = true) ∧
    ((cl n d = true ∧ P d (M.take n)) ∨ (∃ i l, d = .ref i ∧ M[i]? = some (.lst l) ∧ n ≤ i ∧ cls n l = true ∧ P (.lst l) (M.take n)) ∨
      (∃ i C ks l, d = .ref i ∧ M[i]? = some (.ins C ks l) ∧ n ≤ i ∧ cls n l = true ∧ P (.obj C ks l) (M.take n))))
def RetX (n : Nat) (X : PX) (C : Addr) (d : Option Dv) (M : Mem) : Prop :=
  X C d M ∨ (n ≤ M.length ∧ (∀ o ∈ M.take n, clO n o = true) ∧ (∀ e, d = some e → cl n e = true) ∧ X C d (M.take n))
def startD (N : List Str) (ds : List Dv) : Loc := ds.map some ++ List.replicate (N.length - ds.length) none
theorem rl_start {n : Nat} {f : Fr} {H : Hp} {N : List Str} {ds : List Dv} {vs : List V} (r : RDs n f H ds vs) : RL n f H (startD N ds) (start N vs) := by
  have hl := r.length
  refine ⟨by simp [L2.start, startD, hl], fun i d e => ?_⟩
  unfold startD at e
  by_cases h : i < ds.length
  · rw [List.getElem?_append_left (by simpa using h), List.getElem?_map] at e
    cases q : ds[i]? with
    | none => rw [q] at e; cases e
    | some x =>
      rw [q] at e; cases e
      obtain ⟨v, e1, e2⟩ := r.get q
      refine ⟨v, ?_, e2⟩
      unfold L2.start
      rw [List.getElem?_append_left (by simp; omega), List.getElem?_map, e1]
      rfl
  · rw [List.getElem?_append_right (by simpa using Nat.le_of_not_lt h), List.getElem?_replicate] at e
    split at e <;> cases e
section
variable {P : Program} {w : World} {K : PySem.W.Frag} {mg : Str → Option Value} {base : Heap}
theorem ret_ok {n : Nat} {f f1 : Fr} {H H1 : Hp} {M1 : Mem} {d : Dv} {v : V} {Pd : PD} {Q : VK} (k : KE n f H Pd Q) (x : Lt n f H M1.length f1 H1) (m : RM f1 H1 M1) (r : RD M1.length f1 H1 d v) (h : Ret n Pd d M1) : Q v H1 := by
  rcases h with h | ⟨hn, hc, h⟩
  · exact k f1 H1 M1 d v x m r h
  · have hl : (M1.take n).length = n := by simp; omega
    have m' := m.take hn hc
    have x' : Lt n f H (M1.take n).length f1 H1 := by rw [hl]; exact x.less
    rcases h with ⟨c, h⟩ | ⟨i, l, rfl, e, hi, c, h⟩ | ⟨i, C, ks, l, rfl, e, hi, c, h⟩
    · exact k f1 H1 _ d v x' m' (by rw [hl]; exact r.less hn c) h
    · obtain ⟨hlt, rfl⟩ : i < M1.length ∧ v = .ref (f1 i) := r
      obtain ⟨z, xs, hH, hr⟩ : l.length ≤ sizeLine ∧ ∃ xs, H1 (f1 i) = some (.lst xs) ∧ RDs M1.length f1 H1 l xs := m.ob i _ e
      refine k f1 H1 _ (.lst l) _ x' m' ⟨z, f1 i, xs, rfl, hH, ⟨fun j hj w => ?_, fun z => (m.hi _ z).2 i hlt rfl⟩, by rw [hl]; exact hr.less hn c⟩ h
      have := m.inj j i (by omega) hlt w
      omega
    · obtain ⟨hlt, rfl⟩ : i < M1.length ∧ v = .ref (f1 i) := r
      obtain ⟨dx, fs, hH, hk, hr⟩ : ∃ (dx : Addr) (fs : List (Str × V)), H1 (f1 i) = some (.ins C dx fs) ∧ fs.map (fun q => q.1) = ks ∧ RDs M1.length f1 H1 l (fs.map (fun q : Str × V => q.2)) := m.ob i _ e
      refine k f1 H1 _ (.obj C ks l) _ x' m' ⟨f1 i, dx, fs, rfl, hH, ⟨fun j hj w => ?_, fun z => (m.hi _ z).2 i hlt rfl⟩, hk, by rw [hl]; exact hr.less hn c⟩ h
      have := m.inj j i (by omega) hlt w
      omega
/-- what is wanted behind a def's body -/
def dkOf (n : Nat) (Pd : PD) (X : PX) : DK := ⟨fun _ M' => Ret n Pd .non M', fun d M' => Ret n Pd d M', fun _ _ => False, fun _ _ => False, fun C d _ M' => RetX n X C d M'⟩
abbrev CF (P : Program) (w : World) (K : PySem.W.Frag) (mg : Str → Option Value) (base : Heap) (N : List Str) (qual : Str) (st : Stmt) (f : Addr) (cdv : Value) (A : Around) (outer : List Env) (s : Shared) (H : Hp) (E : XK) : Cx :=
  cxOf (L2.CX P w) P w K mg base N qual (defScope st) f cdv A outer s H E
theorem body_d {t : DS} {N ps : List Str} {ds : List Dv} {vs : List V} {S : DSp} {f : Fr} {H : Hp} {M : Mem} {Pd : PD} {X : PX} {Q : VK} {E : XK} (hp : t (dkOf M.length Pd X) (startD N ds) M)
    (m : RM f H M) (r : RDs M.length f H ds vs) (k : KE M.length f H Pd Q) (kx : KX (fun c d _ H => E c d H) [] M.length f H X) : lS (fun cls d _ H => E cls d H) t { nx := fun _ H' => Q .non H', rt := Q } (L2.start N vs) H := by
  refine ⟨f, startD N ds, M, _, m, rl_start r, hp, ⟨fun f' H' s' l' M' x m' _ h' => ret_ok (d := .non) (v := .non) k x m' rfl h', fun f' H' M' d v x m' r' h' => ret_ok k x m' r' h', fun _ _ _ _ _ _ _ _ h => h.elim, fun _ _ _ _ _ _ _ _ h => h.elim, fun f' H' s' l' M' C d a x m' _ rx h' => ?_⟩⟩
  rcases h' with h' | ⟨hn, hc, hd, h'⟩
  · exact kx f' H' M' C d a x m' rx h'
  · have hl : (M'.take M.length).length = M.length := by simp; omega
    refine kx f' H' _ C d a (by rw [hl]; exact x.less) (m'.take hn hc) ?_ h'
    rw [hl]
    cases d with
    | none =>
      cases a with
      | none => exact trivial
      | some b => exact (show False from rx).elim
    | some e =>
      cases a with
      | none => exact (show False from rx).elim
      | some b =>
        obtain ⟨v, e1, e2⟩ : ∃ v, H' b = some (.xd [(("at" : Str), v)]) ∧ RD M'.length f' H' e v := rx
        exact ⟨v, e1, e2.less hn (hd e rfl)⟩
theorem fn_d {S : DSp} {x qual : Str} {st : Stmt} {f : Addr} {fd : FuncData} {N ps : List Str} {k : Nat} (F : Fun K x qual st f fd) (Sc : FnScope N ps (defScope st)) (t : DS) (len : ∀ ds M Pd X, S ds M Pd X → ds.length = ps.length)
    (hb : ∀ (cdv : Value) (A : Around) (outer : List Env) (s : Shared) (H : Hp) (E : XK) (W : WX), Room k (A.deeper (envOfC qual (defScope st) s.heap.objs.size f cdv)) → (A.deeper (envOfC qual (defScope st) s.heap.objs.size f cdv)).guards = some [] →
      Takes (CF P w K mg base N qual st f cdv A outer s H E) W → JSs (CF P w K mg base N qual st f cdv A outer s H E) W (defBody st) t)
    (hp : ∀ ds M Pd X, MemOk M → S ds M Pd X → t (dkOf M.length Pd X) (startD N ds) M) : FnG P w K mg base (k + 1) f fd ps S := by
  obtain ⟨oc, od, kV, doc, pm, an, cdv, ct, osl, rfl, lk, hcd⟩ := F.ex
  refine ⟨len, fun A outer s H args us vs Q E hr hgu e0 hbi rv hsp => ?_⟩
  obtain ⟨f0, M, ds, Pd, X, m, r, h, k0, kx⟩ := hsp
  have inK : K.In s.heap := e0.mod.kin.keeps fun b o e => (e0.bs b o e).1
  have lim : s.heap.NoLimit := e0.mod.nolimit.keeps fun b o e => (e0.bs b o e).1
  have hl : vs.length = ps.length := by rw [r.length]; exact len _ _ _ _ h
  refine codeAny_call_function hr.depth (inK _ _ lk) rfl Sc.co Sc.gen rfl (PySem.W.codeRec_of inK hcd) (hbi _ _ _ _ ?_)
  refine wpAny_newFunctionEnv_cells Sc.kind (fun ⟨n, v⟩ hy => (Sc.par n (List.of_mem_zip hy).1).elim .inl fun q => .inr ⟨q, PySem.W.cellsFrom_some _ _ _ (.inl q)⟩) fun env he s1 x => ?_
  subst he
  refine ⟨lim.keeps x.toInCall.keep, codeAny_func ?_⟩
  have I : Inv (CF P w K mg base N qual st f cdv A outer s H E) [] (L2.start N vs) H s1 := inv_start Sc hr.hd e0 hl rv x
  refine wpAny_mono ((hb cdv A outer s H E _ (hr.deeper _) hgu (takes_of rfl rfl rfl rfl)).run [] s1 _ H _ I (body_d (S := S) (ps := ps) (hp ds M Pd X m.ok h) m r k0 kx)) (fun fl s' hs => ?_) fun e s' hs => hs
  have fin : ∀ {σ' : L2.St} {H' : Hp} {v : V} {u : Value}, Inv (CF P w K mg base N qual st f cdv A outer s H E) [] σ' H' s' → RelV v u → Q v H' → CE outer P w H s Q u s' := fun J rv q => ⟨_, _, J.os, J.bare, J.base, J.hok, rv, q⟩
  cases fl with
  | ret u => exact let ⟨v, σ', H', J, rv, q⟩ := hs; fin J rv q
  | next => exact let ⟨σ', H', J, q⟩ := hs; fin (v := V.non) (u := Value.none) J rfl q
  | brk => exact let ⟨_, _, _, q⟩ := hs; q.elim
  | cont => exact let ⟨_, _, _, q⟩ := hs; q.elim
end
end D
end

section
set_option Elab.async false
set_option linter.all false
set_option maxRecDepth 100000
set_option maxHeartbeats 1000000
set_option autoImplicit false
/-! The deep layer, part 4: zip and enumerate over lists and tuples, in any mix. -/
namespace D
open PySem PySem.Spec PyProof.Rows L2
/-- a list, a tuple that is walked -/
inductive Cmp where
  | l (a : Addr) | t (a : Addr)
namespace Cmp
def ad : Cmp → Addr
  | .l a => a
  | .t a => a
def Sq (K : PySem.W.Frag) (H : Hp) (c : Cmp) (xs : List V) : Prop := match c with
  | .l a => SqL K H a xs
  | .t a => SqT K H a xs
def At (c : Cmp) (h : Heap) (it : Addr) (i : Nat) : Prop := match c with
  | .l a => h.IsListIter it a i
  | .t a => h.IsTupleIter it a i
def Con (c : Cmp) (h : Heap) (its : Array Value) : Prop := match c with
  | .l a => h.IsList a its
  | .t a => h.IsTuple a its
def itO (c : Cmp) : Obj := match c with
  | .l a => { cls := .type "list_iterator", data := .fields #[.ref a, .int 0 0] }
  | .t a => { cls := .type "tuple_iterator", data := .fields #[.ref a, .int 0 0] }
theorem con {X : Cx} {pins : List (Addr × Obj)} {σ : L2.St} {H : Hp} {s : Shared} (I : Inv X pins σ H s) {c : Cmp} {xs : List V} (h : c.Sq X.K H xs) : ∃ its : List Value, Vals xs its ∧ c.Con s.heap its.toArray ∧ c.ad < s.heap.objs.size := by
  cases c with
  | l a => obtain ⟨its, r, p, _⟩ := I.list h; exact ⟨its, r, p.isList, p.lt⟩
  | t a => obtain ⟨its, r, p, _⟩ := I.tuple h; exact ⟨its, r, p, p.lt⟩
theorem inj {X : Cx} {pins : List (Addr × Obj)} {σ : L2.St} {H : Hp} {s : Shared} (I : Inv X pins σ H s) {c : Cmp} {xs ys : List V} (h : c.Sq X.K H xs) (h' : c.Sq X.K H ys) : xs = ys := by
  cases c with
  | l a => exact I.list_inj h h'
  | t a => exact I.tuple_inj h h'
theorem draws {prog : Program} {w : World} {A : Around} (hh : A.handled = none) (c : Cmp) (it : Addr) (hne : c.ad ≠ it) (its : Array Value) :
    Draws prog w A it [it, c.ad] its.size (fun i v => its[i]? = some v) (fun i h => c.At h it i ∧ c.Con h its) := by
  cases c with
  | l a => exact Draws.list hh it a hne its
  | t a => exact Draws.tuple hh it a hne its
theorem begins (c : Cmp) (v : Value) (hv : v = .ref c.ad) (its : Array Value) : Begins v c.itO fun h => c.Con h its := by
  subst hv
  cases c with
  | l a => exact begins_list a its
  | t a => exact begins_tuple a its
theorem at0 {c : Cmp} {h : Heap} {it : Addr} (e : h.get? it = some c.itO) : c.At h it 0 := by
  cases c with
  | l a => exact ⟨_, e, rfl, rfl⟩
  | t a => exact ⟨_, e, rfl, rfl⟩
theorem atK {c : Cmp} {h h' : Heap} {it : Addr} {i : Nat} (x : c.At h it i) (k : ∀ o, h.get? it = some o → h'.get? it = some o) : c.At h' it i := by
  cases c with
  | l a => obtain ⟨o, e, r⟩ := x; exact ⟨o, k o e, r⟩
  | t a => obtain ⟨o, e, r⟩ := x; exact ⟨o, k o e, r⟩
theorem atO {c : Cmp} {h : Heap} {it : Addr} {i : Nat} (x : c.At h it i) : ∃ o, h.get? it = some o ∧ ∀ v, o.data ≠ .cell v := by
  cases c with
  | l a => obtain ⟨o, e, _, d⟩ := x; exact ⟨o, e, fun v q => by rw [d] at q; cases q⟩
  | t a => obtain ⟨o, e, _, d⟩ := x; exact ⟨o, e, fun v q => by rw [d] at q; cases q⟩
end Cmp
/-! ### enumerate -/
def ItE (K : PySem.W.Frag) (c : Cmp) : It :=
  ⟨fun i H => ∃ (xs : List V) (x : V), c.Sq K H xs ∧ xs[i]? = some x, fun i H v H' => ∃ T x, v = .ref T ∧ H T = none ∧ H' = upd H T (.tup [.int (i : Nat), x]) ∧ ∀ xs, c.Sq K H xs → xs[i]? = some x, fun i H => ∃ xs : List V, c.Sq K H xs ∧ i = xs.length⟩
theorem turn_enumG {P : Program} {w : World} {K : PySem.W.Frag} {elts : List Expr} {kk : Nat} {tpos : Pos} (c : Cmp) (e it : Addr) :
    Turn P w K (.Tuple elts kk tpos) (ItE K c) [e, it] e (fun i h => (∃ old, IsEnum h e it ((0 : Int) + (i : Nat)) old) ∧ c.At h it i ∧ e ≠ it ∧ c.ad ≠ it ∧ c.ad ≠ e) where
  mem := by simp
  obj := fun i h st b hb => by
    obtain ⟨⟨old, he⟩, hi, _⟩ := st
    have e' : b = e ∨ b = it := by simpa using hb
    rcases e' with z | z
    · rw [z]; exact ⟨_, he, fun v q => nomatch q⟩
    · rw [z]; exact Cmp.atO hi
  keep := fun i h h' st k => let ⟨⟨old, he⟩, hi, hne⟩ := st; ⟨⟨old, k e (by simp) _ he⟩, Cmp.atK hi fun o q => k it (by simp) o q, hne⟩
  item := by
    intro X hP hw hK hc i pins s σ H E I hf st hg
    subst hP hw hK
    obtain ⟨he, hit, hne, n1, n2⟩ := st
    obtain ⟨xs, x, hq, hx⟩ := hg
    obtain ⟨its, rv, con, hlt⟩ := Cmp.con I hq
    obtain ⟨u, hu, ru⟩ := rv.get hx
    have hi : i < its.toArray.size := by rw [List.size_toArray]; exact (List.getElem?_eq_some_iff.mp hu).1
    refine (GoesN.enumFrom 0 (c.draws (A := X.A.in1) (I.ok.hd hc) it n1 its.toArray) e hne (by simp [hne, Ne.symm n2]) (by simp)).goes i s _ E hi ⟨he, hit, con⟩ fun v h' tk hY st' hk _ => ?_
    obtain ⟨T, t, y, rfl, hT, hy, hTT⟩ := hY
    have ey : y = u := by rw [List.getElem?_toArray] at hy; rw [hy] at hu; exact Option.some.inj hu
    subst ey
    have new : ObjOk X.prog X.w (upd H T (.tup [.int (i : Nat), x])) h' T (.tup [.int (i : Nat), x]) := by
      refine ⟨by show 2 ≤ sizeLine; decide, [.int ((0 : Int) + (i : Nat)) t, y], .cons ⟨t, by rw [Int.zero_add]⟩ (.cons ru .nil), hTT⟩
    have I1 := I.turnedNew (t' := tk) (ch := [e, it]) (fun b ob hb q => hk b ob hb q) hf hT new
    refine ⟨.ref T, _, I1, rfl, ⟨T, x, rfl, I.hok.fresh hT, rfl, fun ys hy => by rw [Cmp.inj I hy hq]; exact hx⟩, ⟨?_, st'.2.1, hne, n1, n2⟩, fun b hb => ?_⟩
    · exact st'.1
    · have hbT : b ≠ T := fun z => by
        obtain ⟨old, h2⟩ := he
        have hb' : b < s.heap.objs.size := by
          have e' : b = e ∨ b = it := by simpa using hb
          rcases e' with w | w
          · rw [w]; exact Heap.lt_size h2
          · rw [w]; obtain ⟨o, q, _⟩ := Cmp.atO hit; exact Heap.lt_size q
        rw [z] at hb'
        exact absurd hb' (Nat.not_lt.mpr hT)
      rw [upd_ne hbT]
      exact (hf b hb).1
  done := by
    intro X hP hw hK hc i pins s σ H E I hf st hg
    subst hP hw hK
    obtain ⟨he, hit, hne, n1, n2⟩ := st
    obtain ⟨xs, hq, hx⟩ := hg
    obtain ⟨its, rv, con, hlt⟩ := Cmp.con I hq
    have hl : its.toArray.size = i := by rw [List.size_toArray, ← rv.length, hx]
    refine (GoesN.enumFrom (elts := elts) (x1 := kk) (pos := tpos) 0 (c.draws (A := X.A.in1) (I.ok.hd hc) it n1 its.toArray) e hne (by simp [hne, Ne.symm n2]) (by simp)).stops s _ E (by rw [hl]; exact ⟨he, hit, con⟩) fun h' tk hk _ => ?_
    exact I.turnedL (t' := tk) (ch := [e, it]) (fun b o hb q => hk b o hb q) hf
  self := fun A i s Q E st h => let ⟨⟨_, he⟩, _⟩ := st; wpAny_pyIter_enum he h
/-! ### zip -/
def ItZ (K : PySem.W.Frag) (c1 c2 : Cmp) : It :=
  ⟨fun i H => ∃ (xs ys : List V) (x y : V), c1.Sq K H xs ∧ c2.Sq K H ys ∧ xs[i]? = some x ∧ ys[i]? = some y,
    fun i H v H' => ∃ T x y, v = .ref T ∧ H T = none ∧ H' = upd H T (.tup [x, y]) ∧ (∀ xs, c1.Sq K H xs → xs[i]? = some x) ∧ ∀ ys, c2.Sq K H ys → ys[i]? = some y,
    fun i H => ∃ xs ys : List V, c1.Sq K H xs ∧ c2.Sq K H ys ∧ i = min xs.length ys.length⟩
structure Far (c1 c2 : Cmp) (z TI TO i1 i2 : Addr) : Prop where
  S : ZipSep2 z TI TO i1 i2 [i1, c1.ad] [i2, c2.ad]
  a1 : c1.ad ≠ i1
  a2 : c2.ad ≠ i2
theorem turn_zipG {P : Program} {w : World} {K : PySem.W.Frag} {elts : List Expr} {kk : Nat} {tpos : Pos} {c1 c2 : Cmp} {z TI TO i1 i2 : Addr} (F : Far c1 c2 z TI TO i1 i2) :
    Turn P w K (.Tuple elts kk tpos) (ItZ K c1 c2) [z, TI, TO, i1, i2] z (fun i h => IsZip h z TI TO .none ∧ IsTupOf2 h TI (.ref i1) (.ref i2) ∧ (∃ x y, IsTupOf2 h TO x y) ∧ c1.At h i1 i ∧ c2.At h i2 i) where
  mem := by simp
  obj := fun i h st c hc => by
    obtain ⟨hz, hTI, ⟨x, y, hTO⟩, h1, h2⟩ := st
    have e' : c = z ∨ c = TI ∨ c = TO ∨ c = i1 ∨ c = i2 := by simpa using hc
    rcases e' with q | q | q | q | q
    · rw [q]; exact ⟨_, hz, fun v q => nomatch q⟩
    · rw [q]; exact ⟨_, hTI, fun v q => nomatch q⟩
    · rw [q]; exact ⟨_, hTO, fun v q => nomatch q⟩
    · rw [q]; exact Cmp.atO h1
    · rw [q]; exact Cmp.atO h2
  keep := fun i h h' st k => by
    obtain ⟨hz, hTI, ⟨x, y, hTO⟩, h1, h2⟩ := st
    exact ⟨k z (by simp) _ hz, k TI (by simp) _ hTI, ⟨x, y, k TO (by simp) _ hTO⟩, Cmp.atK h1 fun o q => k i1 (by simp) o q, Cmp.atK h2 fun o q => k i2 (by simp) o q⟩
  item := by
    intro X hP hw hK hc i pins s σ H E I hf st hg
    subst hP hw hK
    obtain ⟨hz, hTI, hTO, h1, h2⟩ := st
    obtain ⟨xs, ys, x, y, hqx, hqy, hx, hy⟩ := hg
    obtain ⟨its, rv, con, _⟩ := Cmp.con I hqx
    obtain ⟨its2, rv2, con2, _⟩ := Cmp.con I hqy
    obtain ⟨u, hu, ru⟩ := rv.get hx
    obtain ⟨u2, hu2, ru2⟩ := rv2.get hy
    have hi : i < min its.toArray.size its2.toArray.size := by
      have := (List.getElem?_eq_some_iff.mp hu).1
      have := (List.getElem?_eq_some_iff.mp hu2).1
      simp only [List.size_toArray]; omega
    refine (GoesN.zip2 F.S (c1.draws (A := X.A.in1) (I.ok.hd hc) i1 F.a1 its.toArray) (c2.draws (A := X.A.in1) (I.ok.hd hc) i2 F.a2 its2.toArray)).goes i s _ E hi ⟨hz, hTI, hTO, ⟨h1, con⟩, ⟨h2, con2⟩⟩ fun v h' tk hY st' hk _ => ?_
    obtain ⟨T, a, b, rfl, hT, ha, hb, hTT⟩ := hY
    have ea : a = u := by rw [List.getElem?_toArray] at ha; rw [ha] at hu; exact Option.some.inj hu
    have eb : b = u2 := by rw [List.getElem?_toArray] at hb; rw [hb] at hu2; exact Option.some.inj hu2
    subst ea eb
    have new : ObjOk X.prog X.w (upd H T (.tup [x, y])) h' T (.tup [x, y]) := ⟨by show 2 ≤ sizeLine; decide, [a, b], .cons ru (.cons ru2 .nil), hTT⟩
    have I1 := I.turnedNew (t' := tk) (ch := [z, TI, TO, i1, i2]) (fun c ob hb q => hk c ob (fun q' => hb (by
      have e' : c = z ∨ c = TO ∨ c = i1 ∨ c = i2 := by simpa using q'
      rcases e' with q | q | q | q <;> simp [q])) q) hf hT new
    refine ⟨.ref T, _, I1, rfl, ⟨T, x, y, rfl, I.hok.fresh hT, rfl, fun l hl => by rw [Cmp.inj I hl hqx]; exact hx, fun l hl => by rw [Cmp.inj I hl hqy]; exact hy⟩, ⟨st'.1, st'.2.1, st'.2.2.1, st'.2.2.2.1.1, st'.2.2.2.2.1⟩, fun c hcm => ?_⟩
    have hcT : c ≠ T := fun zz => by
      have hc' : c < s.heap.objs.size := by
        have e' : c = z ∨ c = TI ∨ c = TO ∨ c = i1 ∨ c = i2 := by simpa using hcm
        obtain ⟨x0, y0, hTO⟩ := hTO
        rcases e' with q | q | q | q | q
        · rw [q]; exact Heap.lt_size hz
        · rw [q]; exact Heap.lt_size hTI
        · rw [q]; exact Heap.lt_size hTO
        · rw [q]; obtain ⟨o, e1, _⟩ := Cmp.atO h1; exact Heap.lt_size e1
        · rw [q]; obtain ⟨o, e1, _⟩ := Cmp.atO h2; exact Heap.lt_size e1
      rw [zz] at hc'
      exact absurd hc' (Nat.not_lt.mpr hT)
    rw [upd_ne hcT]
    exact (hf c hcm).1
  done := by
    intro X hP hw hK hc i pins s σ H E I hf st hg
    subst hP hw hK
    obtain ⟨hz, hTI, hTO, h1, h2⟩ := st
    obtain ⟨xs, ys, hqx, hqy, hend⟩ := hg
    obtain ⟨its, rv, con, _⟩ := Cmp.con I hqx
    obtain ⟨its2, rv2, con2, _⟩ := Cmp.con I hqy
    have hl : min its.toArray.size its2.toArray.size = i := by simp only [List.size_toArray]; rw [← rv.length, ← rv2.length, hend]
    refine (GoesN.zip2 (elts := elts) (x1 := kk) (pos := tpos) F.S (c1.draws (A := X.A.in1) (I.ok.hd hc) i1 F.a1 its.toArray) (c2.draws (A := X.A.in1) (I.ok.hd hc) i2 F.a2 its2.toArray)).stops s _ E (by rw [hl]; exact ⟨hz, hTI, hTO, ⟨h1, con⟩, ⟨h2, con2⟩⟩) fun h' tk hk _ => ?_
    exact I.turnedL (t' := tk) (ch := [z, TI, TO, i1, i2]) (fun c o hb q => hk c o (fun q' => hb (by
      have e' : c = z ∨ c = TO ∨ c = i1 ∨ c = i2 := by simpa using q'
      rcases e' with q | q | q | q <;> simp [q])) q) hf
  self := fun A i s Q E st h => wpAny_pyIter_zip st.1 h
/-! ### over deep values -/
def enumF : Int → List Dv → List Dv
  | _, [] => []
  | k, x :: r => .tup [.int k, x] :: enumF (k + 1) r
theorem enumF_get : ∀ (l : List Dv) (k : Int) (i : Nat), (enumF k l)[i]? = (l[i]?).map fun x => .tup [.int (k + (i : Nat)), x]
  | [], k, i => by simp [enumF]
  | x :: r, k, 0 => by simp [enumF]
  | x :: r, k, i + 1 => by
    show (enumF (k + 1) r)[i]? = _
    rw [enumF_get r (k + 1) i]
    simp only [List.getElem?_cons_succ]
    congr 1
    funext x
    rw [show k + 1 + (i : Int) = k + ((i + 1 : Nat) : Int) by omega]
theorem enumF_length (l : List Dv) (k : Int) : (enumF k l).length = l.length := by
  induction l generalizing k with
  | nil => rfl
  | cons x r ih => simp [enumF, ih]
abbrev enumD (l : List Dv) : List Dv := enumF 0 l
def zipD (a b : List Dv) : List Dv := List.zipWith (fun x y => .tup [x, y]) a b
/-- the component that a value is -/
def cmpOf (d : Dv) (a : Addr) : Cmp := match d with
  | .tup _ => .t a
  | _ => .l a
theorem cmp_ad (d : Dv) (a : Addr) : (cmpOf d a).ad = a := by cases d <;> rfl
theorem cmp_sq {K : PySem.W.Frag} {f : Fr} {H : Hp} {M : Mem} {d : Dv} {v : V} {xs : List Dv} (m : RM f H M) (r : RD M.length f H d v) (e : seqD M d = some xs) : ∃ a vs, v = .ref a ∧ (cmpOf d a).Sq K H vs ∧ RDs M.length f H xs vs ∧ xs.length ≤ sizeLine := by
  rcases seq_cases e with rfl | e'
  · obtain ⟨a, vs, h1, h2, h3⟩ := rd_tupM (K := K) r
    exact ⟨a, vs, h1, h2, h3⟩
  · obtain ⟨a, vs, h1, h2, h3⟩ := rd_lstM (K := K) m r e'
    refine ⟨a, vs, h1, ?_, h3⟩
    cases d with
    | tup l => cases (show none = some xs from e')
    | _ => exact h2
theorem rd_pair {f : Fr} {H : Hp} {M : Mem} {T : Addr} {x y : Dv} {v u : V} (m : RM f H M) (hT : H T = none) (r1 : RD M.length f H x v) (r2 : RD M.length f H y u) : RD M.length f (upd H T (.tup [v, u])) (.tup [x, y]) (.ref T) :=
  rd_tup m hT (.cons r1 (.cons r2 .nil)) (by show 2 ≤ sizeLine; decide)
theorem jok_e {K : PySem.W.Frag} {f : Fr} {H : Hp} {M : Mem} {d : Dv} {a : Addr} {xs : List Dv} (r : RD M.length f H d (.ref a)) : JOk (ItE K (cmpOf d a)) (enumD xs) (chkD d xs) M.length f H := fun i f' H' M' x m c => by
  obtain ⟨b, vs, e, hq, hv, _⟩ := cmp_sq (K := K) m (r.rm x) c
  cases e
  rw [enumF_length]
  refine ⟨fun hi => ?_, fun hi => ⟨vs, hq, by rw [hv.length, hi]⟩⟩
  obtain ⟨v, e1, e2⟩ := hv.get (List.getElem?_eq_getElem hi)
  refine ⟨⟨vs, v, hq, e1⟩, fun w H'' ⟨T, y, ew, hT, eH, hy⟩ => ?_⟩
  subst ew eH
  have := hy vs hq
  rw [e1] at this; cases this
  refine ⟨same_new hT, .tup [.int ((i : Nat) : Int), xs[i]], by rw [enumF_get, List.getElem?_eq_getElem hi]; simp, rd_pair m hT rfl e2⟩
theorem zip_get (a b : List Dv) (i : Nat) (h1 : i < a.length) (h2 : i < b.length) : (zipD a b)[i]? = some (.tup [a[i], b[i]]) := by
  simp [zipD, List.getElem?_zipWith, List.getElem?_eq_getElem h1, List.getElem?_eq_getElem h2]
theorem jok_z {K : PySem.W.Frag} {f : Fr} {H : Hp} {M : Mem} {d e : Dv} {a b : Addr} {xs ys : List Dv} (r : RD M.length f H d (.ref a)) (r' : RD M.length f H e (.ref b)) :
    JOk (ItZ K (cmpOf d a) (cmpOf e b)) (zipD xs ys) (fun M => chkD d xs M ∧ chkD e ys M) M.length f H := fun i f' H' M' x m c => by
  obtain ⟨a', vs, e1, hq, hv, _⟩ := cmp_sq (K := K) m (r.rm x) c.1
  obtain ⟨b', us, e2, hq2, hv2, _⟩ := cmp_sq (K := K) m (r'.rm x) c.2
  cases e1
  cases e2
  have hl : (zipD xs ys).length = min xs.length ys.length := by simp [zipD]
  rw [hl]
  refine ⟨fun hi => ?_, fun hi => ⟨vs, us, hq, hq2, by rw [hv.length, hv2.length, hi]⟩⟩
  have h1 : i < xs.length := by omega
  have h2 : i < ys.length := by omega
  obtain ⟨v, g1, k1⟩ := hv.get (List.getElem?_eq_getElem h1)
  obtain ⟨u, g2, k2⟩ := hv2.get (List.getElem?_eq_getElem h2)
  refine ⟨⟨vs, us, v, u, hq, hq2, g1, g2⟩, fun w H'' ⟨T, y1, y2, ew, hT, eH, hy, hy2⟩ => ?_⟩
  subst ew eH
  have w1 := hy vs hq
  rw [g1] at w1; cases w1
  have w2 := hy2 us hq2
  rw [g2] at w2; cases w2
  exact ⟨same_new hT, _, zip_get xs ys i h1 h2, rd_pair m hT k1 k2⟩
def iEnum (u : DA) : DI := fun l M P X => u l M (fun ds M1 => ∃ d xs, ds = [d] ∧ seqD M1 d = some xs ∧ P (enumD xs) (chkD d xs) M1) X
def iZip (u : DA) : DI := fun l M P X => u l M (fun ds M1 => ∃ d e xs ys, ds = [d, e] ∧ seqD M1 d = some xs ∧ seqD M1 e = some ys ∧ P (zipD xs ys) (fun M => chkD d xs M ∧ chkD e ys M) M1) X
set_option maxHeartbeats 2000000 in
theorem meets_enum1 {v : Value} {o : Obj} {G : Heap → Prop} (B : Begins v o G) :
    Meets (Builtin.«enumerate.__new__» ⟨[.type "enumerate", v], []⟩) (fun _ R s => G s.heap ∧
      R (.ok (.ret (.ref (s.heap.push o).objs.size))) { s with heap := (s.heap.push o).push { cls := .type "enumerate", data := .fields #[.none, .bool false, .ref s.heap.objs.size, rawInt 0, .none, .none] } }) :=
  .of_wp fun prog w A R s h => by
    obtain ⟨hp, g, d, tk, os⟩ := s
    obtain ⟨h1, h⟩ := h
    have hsub := sub_enumerate
    have q1 : ∀ {A' : Around} {E : Value → Shared → Prop} {Q : Value → Shared → Prop}, Q (.ref hp.objs.size) ⟨hp.push o, g, d, tk, os⟩ → wpAny (model prog w) A' (pyIter v) Q E ⟨hp, g, d, tk, os⟩ :=
      fun q => B.iter prog w _ _ ⟨hp, g, d, tk, os⟩ _ h1 q
    wp_walk using q1
    refine wpAny_stack_any fun st => wpAny_pure ?_
    split
    · rename_i c _ _ _ _ _
      cases (c == Value.type "enumerate") <;> (wp_walk using q1; exact ⟨_, rfl, h⟩)
    · wp_walk using q1
      exact ⟨_, rfl, h⟩
theorem enum_begins1 {prog : Program} {w : World} {A : Around} {E : Value → Shared → Prop} {s : Shared} {v : Value} {o : Obj} {G : Heap → Prop} {Q : Value → Shared → Prop} (B : Begins v o G) (h1 : G s.heap)
    (h : ∀ h', IsEnum h' (s.heap.objs.size + 1) s.heap.objs.size 0 .none → h'.get? s.heap.objs.size = some o → (∀ b o, s.heap.get? b = some o → h'.get? b = some o) → Q (.ref (s.heap.objs.size + 1)) { s with heap := h' }) :
    wpAny (model prog w) A (call (.type "enumerate") [v]) Q E s := by
  refine callType_new F.called_enumerate (by decide) (F.typeCall_enumerate_1 _) (F.newCall_enumerate_1 _) (fun obj => F.args_object_init_2 obj _) F.entry_enumerate_new (meets_enum1 B) ⟨h1, ?_⟩
  have hz : (s.heap.push o).objs.size = s.heap.objs.size + 1 := Heap.size_push ..
  show _ ∧ _
  rw [hz]
  have he : IsEnum ((s.heap.push o).push { cls := .type "enumerate", data := .fields #[.none, .bool false, .ref s.heap.objs.size, rawInt 0, .none, .none] }) (s.heap.objs.size + 1) s.heap.objs.size 0 .none := by
    have := Heap.get?_push_size (s.heap.push o) (o := { cls := .type "enumerate", data := .fields #[.none, .bool false, .ref s.heap.objs.size, rawInt 0, .none, .none] }) rfl
    rw [hz] at this
    exact this
  exact ⟨⟨_, he, rfl⟩, h _ he (Heap.get?_push_of_some _ (Heap.get?_push_size _ B.free)) fun b o x => Heap.get?_push_of_some _ (Heap.get?_push_of_some _ x)⟩
section
variable {X : Cx} {W : WX} {pos tpos p : Pos} {elts : List Expr} {kk : Nat}
theorem ji_enum {e : Expr} {u : DA} (hg : Gl X "enumerate") (hm : X.mg "enumerate" = none) (ha : JA X W [e] u) (hs : starEach [e] X.env = [(false, eval e X.env)] := by rfl) : JI X W (.Tuple elts kk tpos) (.Call (.Name "enumerate" p) [e] [] pos) (iEnum u) := by
  refine ⟨fun pins s σ H R I ⟨f, l, M, P, Y, m, r, h, k, kx⟩ => ?_⟩
  refine Call_ (ld_blt I hg hm boot_enumerate (PyProof.Rows.callWith_type1 (thn (ha.run pos pins s σ H (fun vs H1 => ∃ (f1 : Fr) (M1 : Mem) (d : Dv) (xs : List Dv) (v : V), vs = [v] ∧ Lt M.length f H M1.length f1 H1 ∧ RM f1 H1 M1 ∧ RD M1.length f1 H1 d v ∧ seqD M1 d = some xs ∧ P (enumD xs) (chkD d xs) M1) I
    ⟨f, l, M, _, Y, m, r, h, fun f1 H1 M1 ds vs x m1 r1 ⟨d, xs, e1, e2, p⟩ => (by
      subst e1
      obtain ⟨v, vr, rfl, rd, e3⟩ : ∃ v vr, vs = v :: vr ∧ RD M1.length f1 H1 d v ∧ vr = [] := r1
      subst e3
      exact ⟨f1, M1, d, xs, v, rfl, x, m1, rd, e2, p⟩), kx⟩) fun us s1 ⟨vs, H1, I1, rv, f1, M1, d, xs, v, e1, x, m1, rd, e2, p⟩ => ?_) hs rfl))
  subst e1
  cases rv with
  | cons rv rr =>
    cases rr
    obtain ⟨a, vs, rfl, hq, hv, _⟩ := cmp_sq (K := X.K) m1 rd e2
    cases rv
    obtain ⟨its, rvv, con, hlt⟩ := Cmp.con I1 hq
    have had : (cmpOf d a).ad = a := cmp_ad d a
    refine enum_begins1 ((cmpOf d a).begins (.ref a) (by rw [had]) its.toArray) con fun h' he hit hk => wpAny_pyIter_enum he ?_
    have I2 : Inv X pins σ H1 { s1 with heap := h' } := I1.kept (t' := s1.toks) hk
    have n1 : (cmpOf d a).ad ≠ s1.heap.objs.size := Nat.ne_of_lt hlt
    have n2 : (cmpOf d a).ad ≠ s1.heap.objs.size + 1 := Nat.ne_of_lt (Nat.lt_succ_of_lt hlt)
    refine ⟨s1.heap.objs.size + 1, [s1.heap.objs.size + 1, s1.heap.objs.size], _, _, H1, rfl, I2, turn_enumG (cmpOf d a) (s1.heap.objs.size + 1) s1.heap.objs.size, ⟨⟨.none, he⟩, Cmp.at0 hit, Nat.succ_ne_self _, n1, n2⟩, fun b hb => ?_, k f1 H1 M1 _ _ _ x m1 e2 (jok_e rd) p⟩
    have hle : s1.heap.objs.size ≤ b := by
      have e' : b = s1.heap.objs.size + 1 ∨ b = s1.heap.objs.size := by simpa using hb
      rcases e' with z | z
      · rw [z]; exact Nat.le_add_right _ _
      · rw [z]; exact Nat.le_refl _
    exact I1.fpOk hle (I1.hok.fresh hle)
theorem ji_zip {e e2 : Expr} {u : DA} (hg : Gl X "zip") (hm : X.mg "zip" = none) (ha : JA X W [e, e2] u) (hs : starEach [e, e2] X.env = (false, eval e X.env) :: starEach [e2] X.env := by rfl) (hpl : (backTo pos (starEach [e2] X.env)).any (·.1) = false := by rfl) :
    JI X W (.Tuple elts kk tpos) (.Call (.Name "zip" p) [e, e2] [] pos) (iZip u) := by
  refine ⟨fun pins s σ H R I ⟨f, l, M, P, Y, m, r, h, k, kx⟩ => ?_⟩
  refine Call_ (ld_blt I hg hm PyProof.Rows.boot_zip (PyProof.Rows.callWith_type1 (thn (ha.run pos pins s σ H (fun vs H1 => ∃ (f1 : Fr) (M1 : Mem) (d e : Dv) (xs ys : List Dv) (v w : V), vs = [v, w] ∧ Lt M.length f H M1.length f1 H1 ∧ RM f1 H1 M1 ∧ RD M1.length f1 H1 d v ∧ RD M1.length f1 H1 e w ∧ seqD M1 d = some xs ∧ seqD M1 e = some ys ∧
    P (zipD xs ys) (fun M => chkD d xs M ∧ chkD e ys M) M1) I
    ⟨f, l, M, _, Y, m, r, h, fun f1 H1 M1 ds vs x m1 r1 ⟨d, e, xs, ys, e1, e2, e3, p⟩ => (by
      subst e1
      obtain ⟨v, vr, rfl, rd, w, vr2, rfl, rd2, e4⟩ : ∃ v vr, vs = v :: vr ∧ RD M1.length f1 H1 d v ∧ ∃ w vr2, vr = w :: vr2 ∧ RD M1.length f1 H1 e w ∧ vr2 = [] := r1
      subst e4
      exact ⟨f1, M1, d, e, xs, ys, v, w, rfl, x, m1, rd, rd2, e2, e3, p⟩), kx⟩) fun us s1 ⟨vs, H1, I1, rv, f1, M1, d, e, xs, ys, v, w, e1, x, m1, rd, rd2, e2, e3, p⟩ => ?_) hs hpl))
  subst e1
  cases rv with
  | cons rv rr =>
    cases rr with
    | cons rv2 rr =>
      cases rr
      obtain ⟨a, vs, rfl, hq, hv, _⟩ := cmp_sq (K := X.K) m1 rd e2
      obtain ⟨b, us, rfl, hq2, hv2, _⟩ := cmp_sq (K := X.K) m1 rd2 e3
      cases rv
      cases rv2
      obtain ⟨its, _, con, hlt⟩ := Cmp.con I1 hq
      obtain ⟨its2, _, con2, hlt2⟩ := Cmp.con I1 hq2
      refine zip_begins2 ((cmpOf d a).begins (.ref a) (by rw [cmp_ad]) its.toArray) ((cmpOf e b).begins (.ref b) (by rw [cmp_ad]) its2.toArray) con con2 fun h' hz hTI hTO h1 h2 hsz hk => wpAny_pyIter_zip hz ?_
      have I2 : Inv X pins σ H1 { s1 with heap := h' } := I1.kept (t' := s1.toks) hk
      refine ⟨s1.heap.objs.size + 4, [s1.heap.objs.size + 4, s1.heap.objs.size + 2, s1.heap.objs.size + 3, s1.heap.objs.size, s1.heap.objs.size + 1], _, _, H1, rfl, I2,
        turn_zipG (c1 := cmpOf d a) (c2 := cmpOf e b) ⟨zip_sep2 (N := s1.heap.objs.size) (fp1 := [(cmpOf d a).ad]) (fp2 := [(cmpOf e b).ad]) (fun c hc => by rw [List.mem_singleton.mp hc]; exact hlt) (fun c hc => by rw [List.mem_singleton.mp hc]; exact hlt2), Nat.ne_of_lt hlt, Nat.ne_of_lt (Nat.lt_succ_of_lt hlt2)⟩,
        ⟨hz, hTI, ⟨_, _, hTO⟩, Cmp.at0 h1, Cmp.at0 h2⟩, fun c hcm => ?_, k f1 H1 M1 _ _ _ x m1 ⟨e2, e3⟩ (jok_z rd rd2) p⟩
      have hle : s1.heap.objs.size ≤ c := by
        have e' : c = s1.heap.objs.size + 4 ∨ c = s1.heap.objs.size + 2 ∨ c = s1.heap.objs.size + 3 ∨ c = s1.heap.objs.size ∨ c = s1.heap.objs.size + 1 := by simpa using hcm
        rcases e' with z | z | z | z | z
        · rw [z]; exact Nat.le_add_right _ _
        · rw [z]; exact Nat.le_add_right _ _
        · rw [z]; exact Nat.le_add_right _ _
        · rw [z]; exact Nat.le_refl _
        · rw [z]; exact Nat.le_add_right _ _
      exact I1.fpOk hle (I1.hok.fresh hle)
end
end D
end

section
set_option Elab.async false
set_option linter.all false
set_option maxRecDepth 100000
set_option maxHeartbeats 1000000
set_option autoImplicit false
/-! The deep layer, part 5: operations on values. -/
namespace D
open PySem PySem.Spec PyProof.Rows L2
/-! ### arithmetic -/
def g2I (C : Int → Int → Prop) (h : Int → Int → Dv) : Dv → Dv → Mem → (Dv → Prop) → Prop := fun x y _ P => match x, y with
  | .int i, .int j => C i j ∧ P (h i j)
  | _, _ => False
theorem o2I {C : Int → Int → Prop} {h : Int → Int → Int} : Op2 (rI C fun i j => .int (h i j)) (g2I C fun i j => .int (h i j)) := fun f H M x y v u P Q m rx ry hg k => by
  cases x <;> try exact hg.elim
  rename_i i
  cases y <;> try exact hg.elim
  rename_i j
  cases (show v = .int i from rx)
  cases (show u = .int j from ry)
  exact ⟨i, j, rfl, rfl, hg.1, k _ H (.int (h i j)) (Same.refl H) rfl hg.2⟩
def g2I0 (h : Int → Int → Dv) : Dv → Dv → Mem → (Dv → Prop) → Prop := fun x y _ P => match x, y with
  | .int i, .int j => P (h i j)
  | _, _ => False
theorem o2I0 {h : Int → Int → Int} : Op2 (rI0 fun i j => .int (h i j)) (g2I0 fun i j => .int (h i j)) := fun f H M x y v u P Q m rx ry hg k => by
  cases x <;> try exact hg.elim
  rename_i i
  cases y <;> try exact hg.elim
  rename_i j
  cases (show v = .int i from rx)
  cases (show u = .int j from ry)
  exact ⟨i, j, rfl, rfl, k _ H (.int (h i j)) (Same.refl H) rfl hg⟩
theorem o2B0 {h : Int → Int → Bool} : Op2 (rI0 fun i j => .bl (h i j)) (g2I0 fun i j => .bl (h i j)) := fun f H M x y v u P Q m rx ry hg k => by
  cases x <;> try exact hg.elim
  rename_i i
  cases y <;> try exact hg.elim
  rename_i j
  cases (show v = .int i from rx)
  cases (show u = .int j from ry)
  exact ⟨i, j, rfl, rfl, k _ H (.bl (h i j)) (Same.refl H) rfl hg⟩
/-- + : numbers, texts, tuples, lists -/
def gAdd : Dv → Dv → Mem → (Dv → Prop) → Prop := fun x y M P => match x, y with
  | .int i, .int j => P (.int (i + j))
  | .str i, .str j => i.length + j.length ≤ sizeLine ∧ P (.str (i ++ j))
  | .tup a, .tup b => a.length + b.length ≤ sizeLine ∧ P (.tup (a ++ b))
  | x, y => ∃ a b, lstW M x = some a ∧ lstW M y = some b ∧ a.length + b.length ≤ sizeLine ∧ P (.lst (a ++ b))
def rAddA (K : PySem.W.Frag) : R2 := fun x y H Q => rI0 (fun i j => .int (i + j)) x y H Q ∨ (∃ i j, x = .str i ∧ y = .str j ∧ i.length + j.length ≤ sizeLine ∧ Q (.str (i ++ j)) H) ∨ rCatA K x y H Q ∨ rCat x y H Q
theorem op_addA {X : Cx} : OpR X (binaryOp .Add) (rAddA X.K) := op_add.or (op_add_str.or (op_catA.or op_cat))
theorem o_add {K : PySem.W.Frag} : Op2 (rAddA K) gAdd := fun f H M x y v u P Q m rx ry hg k => by
  have lists : (∃ a b, lstW M x = some a ∧ lstW M y = some b ∧ a.length + b.length ≤ sizeLine ∧ P (.lst (a ++ b))) → rAddA K v u H Q := fun ⟨a, b, e1, e2, hz, p⟩ => by
    obtain ⟨pa, xs, rfl, h1, r1, _⟩ := rd_lstW m rx e1
    obtain ⟨pb, ys, rfl, h2, r2, _⟩ := rd_lstW m ry e2
    exact .inr (.inr (.inr ⟨pa, pb, xs, ys, rfl, rfl, h1, h2, by rw [r1.length, r2.length]; exact hz, fun q hq => k _ _ (.lst (a ++ b)) (same_new hq) (rd_lst m hq (r1.app r2) (by rw [List.length_append]; exact hz)) p⟩))
  unfold gAdd at hg
  split at hg
  · rename_i i j
    cases (show v = .int i from rx)
    cases (show u = .int j from ry)
    exact .inl ⟨i, j, rfl, rfl, k _ H (.int (i + j)) (Same.refl H) rfl hg⟩
  · rename_i i j
    cases (show v = .str i from rx)
    cases (show u = .str j from ry)
    exact .inr (.inl ⟨i, j, rfl, rfl, hg.1, k _ H (.str (i ++ j)) (Same.refl H) rfl hg.2⟩)
  · rename_i a b
    obtain ⟨pa, xs, rfl, h1, r1, _⟩ := rd_tupM (K := K) rx
    obtain ⟨pb, ys, rfl, h2, r2, _⟩ := rd_tupM (K := K) ry
    refine .inr (.inr (.inl ⟨pa, pb, xs, ys, rfl, rfl, h1, h2, by rw [r1.length, r2.length]; exact hg.1, fun e => ?_, fun _ e => ?_, fun _ _ q hq => ?_⟩))
    · have : a = [] := List.length_eq_zero_iff.mp (by rw [← r1.length, e]; rfl)
      subst this
      exact k _ H _ (Same.refl H) ry hg.2
    · have : b = [] := List.length_eq_zero_iff.mp (by rw [← r2.length, e]; rfl)
      subst this
      rw [List.append_nil] at hg
      exact k _ H _ (Same.refl H) rx hg.2
    · exact k _ _ (.tup (a ++ b)) (same_new hq) (rd_tup m hq (r1.app r2) (by rw [List.length_append]; exact hg.1)) hg.2
  · exact lists hg
def gSub' := g2I0 fun i j => .int (i - j)
def gMul := g2I (fun i j => i.natAbs.log2 + j.natAbs.log2 < 1000000) fun i j => .int (i * j)
def gDiv := g2I (fun _ j => 0 < j ∧ j.natAbs.log2 < 9000) fun i j => .int (i / j)
def gMod := g2I (fun _ j => 0 < j) fun i j => .int (i % j)
def gPow := g2I (fun i j => 0 ≤ j ∧ j ≤ 1000000 ∧ i.natAbs < 2 ^ 64) fun i j => .int (i ^ j.toNat)
def gLt := g2I0 fun i j => .bl (decide (i < j))
def gLe := g2I0 fun i j => .bl (decide (i ≤ j))
def gGt := g2I0 fun i j => .bl (decide (j < i))
def gGe := g2I0 fun i j => .bl (decide (j ≤ i))
section
variable {X : Cx} {W : WX} {pos : Pos} {a b : Expr} {ta tb : DE}
theorem je_add (ha : JE X W a ta) (hb : JE X W b tb) : JE X W (.BinOp a .Add b pos) (dOp gAdd ta tb) := je_op op_addA o_add ha hb
theorem je_sub (ha : JE X W a ta) (hb : JE X W b tb) : JE X W (.BinOp a .Sub b pos) (dOp gSub' ta tb) := je_op op_sub o2I0 ha hb
theorem je_mul (ha : JE X W a ta) (hb : JE X W b tb) : JE X W (.BinOp a .Mult b pos) (dOp gMul ta tb) := je_op op_mulW o2I ha hb
theorem je_div (ha : JE X W a ta) (hb : JE X W b tb) : JE X W (.BinOp a .FloorDiv b pos) (dOp gDiv ta tb) := je_op op_fdivW o2I ha hb
theorem je_mod (ha : JE X W a ta) (hb : JE X W b tb) : JE X W (.BinOp a .Mod b pos) (dOp gMod ta tb) := je_op op_mod o2I ha hb
theorem je_pow (ha : JE X W a ta) (hb : JE X W b tb) : JE X W (.BinOp a .Pow b pos) (dOp gPow ta tb) := je_op op_pow o2I ha hb
def gNeg : Dv → Mem → (Dv → Prop) → Prop := fun x _ P => match x with
  | .int i => P (.int (-i))
  | _ => False
theorem o_neg : Op1 (rU fun i => .int (-i)) gNeg := fun f H M x v P Q m rx hg k => by
  cases x <;> try exact hg.elim
  rename_i i
  cases (show v = .int i from rx)
  exact ⟨i, rfl, k _ H (.int (-i)) (Same.refl H) rfl hg⟩
theorem je_neg (ha : JE X W a ta) : JE X W (.UnaryOp .USub a pos) (dUn gNeg ta) := je_un un_neg o_neg ha
end
/-! ### == over data -/
mutual
def pyEq : Dv → Dv → Bool
  | .non, y => match y with | .non => true | _ => false
  | .bl a, y => match y with | .bl b => a == b | .int j => (if a then 1 else 0) == j | _ => false
  | .int i, y => match y with | .int j => i == j | .bl b => i == (if b then 1 else 0) | _ => false
  | .str x, y => match y with | .str z => x == z | _ => false
  | .tup l, y => match y with | .tup l' => pyEqs l l' | _ => false
  | .lst l, y => match y with | .lst l' => pyEqs l l' | _ => false
  | _, _ => false
def pyEqs : List Dv → List Dv → Bool
  | [], l => l.isEmpty
  | x :: l, m => match m with | y :: m => pyEq x y && pyEqs l m | [] => false
end
mutual
/-- data, no deeper than k -/
def okD : Dv → Nat → Bool
  | .non, _ => true
  | .bl _, _ => true
  | .int _, _ => true
  | .str x, _ => PyData.canLay0 (.str x)
  | .tup l, k => match k with | 0 => false | k + 1 => okDs l k
  | .lst l, k => match k with | 0 => false | k + 1 => okDs l k
  | _, _ => false
def okDs : List Dv → Nat → Bool
  | [], _ => true
  | x :: l, k => okD x k && okDs l k
end
mutual
def toP : Dv → PyData
  | .non => .none
  | .bl b => .bool b
  | .int i => .int i
  | .str x => .str x
  | .tup l => .tuple (toPs l)
  | .lst l => .list (toPs l)
  | _ => .none
def toPs : List Dv → List PyData
  | [] => []
  | d :: l => toP d :: toPs l
end
mutual
theorem rd_dp {K : PySem.W.Frag} {n : Nat} {f : Fr} {H : Hp} : ∀ {d : Dv} {v : V} {k : Nat}, RD n f H d v → okD d k = true → Dp K H v (toP d)
  | .non, v, _, h, _ => by rw [show v = .non from h]; exact .non
  | .bl b, v, _, h, _ => by rw [show v = .bl b from h]; exact .bl b
  | .int b, v, _, h, _ => by rw [show v = .int b from h]; exact .int b
  | .str b, v, _, h, _ => by rw [show v = .str b from h]; exact .str b
  | .tup l, v, k + 1, h, o => by
    obtain ⟨_, x, xs, rfl, hx, _, r⟩ : l.length ≤ sizeLine ∧ ∃ x xs, v = .ref x ∧ H x = some (.tup xs) ∧ Bes n f x ∧ RDs n f H l xs := h
    exact .tup (.inl (.inl hx)) (rd_dps r (show okDs l k = true from o))
  | .lst l, v, k + 1, h, o => by
    obtain ⟨_, x, xs, rfl, hx, _, r⟩ : l.length ≤ sizeLine ∧ ∃ x xs, v = .ref x ∧ H x = some (.lst xs) ∧ Bes n f x ∧ RDs n f H l xs := h
    exact .lst (.inl (.inl hx)) (rd_dps r (show okDs l k = true from o))
  | .tup l, v, 0, h, o => by cases (show false = true from o)
  | .lst l, v, 0, h, o => by cases (show false = true from o)
  | .frz l, v, _, h, o => by cases (show false = true from o)
  | .obj _ _ _, v, _, h, o => by cases (show false = true from o)
  | .ref _, v, _, h, o => by cases (show false = true from o)
  | .adr _, v, _, h, o => by cases (show false = true from o)
  | .ty _, v, _, h, o => by cases (show false = true from o)
  | .dic, v, _, h, o => by cases (show false = true from o)
theorem rd_dps {K : PySem.W.Frag} {n : Nat} {f : Fr} {H : Hp} : ∀ {l : List Dv} {xs : List V} {k : Nat}, RDs n f H l xs → okDs l k = true → DpAll K H xs (toPs l)
  | [], xs, _, h, _ => by rw [show xs = [] from h]; exact .nil
  | d :: l, xs, k, h, o => by
    obtain ⟨v, r, rfl, h1, h2⟩ : ∃ v r, xs = v :: r ∧ RD n f H d v ∧ RDs n f H l r := h
    obtain ⟨o1, o2⟩ := Bool.and_eq_true_iff.mp o
    exact .cons (rd_dp h1 o1) (rd_dps h2 o2)
end
mutual
theorem lay_toP : ∀ {d : Dv} {k : Nat}, okD d k = true → (toP d).canLay0 = true ∧ (toP d).depth ≤ k
  | .non, _, _ => ⟨rfl, Nat.zero_le _⟩
  | .bl _, _, _ => ⟨rfl, Nat.zero_le _⟩
  | .int _, _, _ => ⟨rfl, Nat.zero_le _⟩
  | .str _, _, o => ⟨o, Nat.zero_le _⟩
  | .tup l, k + 1, o => by
    obtain ⟨h1, h2⟩ := lays_toP (show okDs l k = true from o)
    refine ⟨h1, ?_⟩
    show PyData.depth (.tuple (toPs l)) ≤ k + 1
    simp only [PyData.depth]; omega
  | .lst l, k + 1, o => by
    obtain ⟨h1, h2⟩ := lays_toP (show okDs l k = true from o)
    refine ⟨h1, ?_⟩
    show PyData.depth (.list (toPs l)) ≤ k + 1
    simp only [PyData.depth]; omega
  | .tup l, 0, o => by cases (show false = true from o)
  | .lst l, 0, o => by cases (show false = true from o)
  | .frz l, _, o => by cases (show false = true from o)
  | .obj _ _ _, _, o => by cases (show false = true from o)
  | .ref _, _, o => by cases (show false = true from o)
  | .adr _, _, o => by cases (show false = true from o)
  | .ty _, _, o => by cases (show false = true from o)
  | .dic, _, o => by cases (show false = true from o)
theorem lays_toP : ∀ {l : List Dv} {k : Nat}, okDs l k = true → PyData.canLayAll0 (toPs l) = true ∧ PyData.depthAll (toPs l) ≤ k
  | [], _, _ => ⟨rfl, Nat.zero_le _⟩
  | d :: l, k, o => by
    obtain ⟨o1, o2⟩ := Bool.and_eq_true_iff.mp o
    obtain ⟨a1, a2⟩ := lay_toP o1
    obtain ⟨b1, b2⟩ := lays_toP o2
    refine ⟨Bool.and_eq_true_iff.mpr ⟨a1, b1⟩, ?_⟩
    show PyData.depthAll (toP d :: toPs l) ≤ k
    simp only [PyData.depthAll]; omega
end
mutual
theorem eqv_toP : ∀ (a b : Dv) {k j : Nat}, okD a k = true → okD b j = true → PyData.eqv (toP a) (toP b) = pyEq a b
  | .tup l, b, k + 1, j, o, p => by
    cases b <;> first | rfl | (cases (show false = true from p)) | skip
    rename_i m
    cases j with
    | zero => cases (show false = true from p)
    | succ j => exact eqvs_toP l m (show okDs l k = true from o) (show okDs m j = true from p)
  | .lst l, b, k + 1, j, o, p => by
    cases b <;> first | rfl | (cases (show false = true from p)) | skip
    rename_i m
    cases j with
    | zero => cases (show false = true from p)
    | succ j => exact eqvs_toP l m (show okDs l k = true from o) (show okDs m j = true from p)
  | .tup l, b, 0, j, o, p => by cases (show false = true from o)
  | .lst l, b, 0, j, o, p => by cases (show false = true from o)
  | .non, b, _, _, _, p => by cases b <;> first | rfl | (cases (show false = true from p))
  | .bl _, b, _, _, _, p => by cases b <;> first | rfl | (cases (show false = true from p))
  | .int _, b, _, _, _, p => by cases b <;> first | rfl | (cases (show false = true from p))
  | .str _, b, _, _, _, p => by cases b <;> first | rfl | (cases (show false = true from p))
  | .frz l, _, _, _, o, _ => by cases (show false = true from o)
  | .obj _ _ _, _, _, _, o, _ => by cases (show false = true from o)
  | .ref _, _, _, _, o, _ => by cases (show false = true from o)
  | .adr _, _, _, _, o, _ => by cases (show false = true from o)
  | .ty _, _, _, _, o, _ => by cases (show false = true from o)
  | .dic, _, _, _, o, _ => by cases (show false = true from o)
theorem eqvs_toP : ∀ (a b : List Dv) {k j : Nat}, okDs a k = true → okDs b j = true → PyData.eqvAll (toPs a) (toPs b) = pyEqs a b
  | [], [], _, _, _, _ => rfl
  | [], _ :: _, _, _, _, _ => rfl
  | _ :: _, [], _, _, _, _ => rfl
  | x :: a, y :: b, k, j, o, p => by
    obtain ⟨o1, o2⟩ := Bool.and_eq_true_iff.mp o
    obtain ⟨p1, p2⟩ := Bool.and_eq_true_iff.mp p
    show (PyData.eqv (toP x) (toP y) && PyData.eqvAll (toPs a) (toPs b)) = (pyEq x y && pyEqs a b)
    rw [eqv_toP x y o1 p1, eqvs_toP a b o2 p2]
end
/-- a list of the memory, for what it holds -/
def res (M : Mem) : Dv → Dv
  | .ref i => match M[i]? with
    | some (.lst l) => .lst l
    | _ => .ref i
  | d => d
theorem rd_res {K : PySem.W.Frag} {f : Fr} {H : Hp} {M : Mem} {d : Dv} {v : V} (m : RM f H M) (r : RD M.length f H d v) {k : Nat} (o : okD (res M d) k = true) : Dp K H v (toP (res M d)) := by
  cases d with
  | ref i =>
    unfold res at o ⊢
    cases q : M[i]? with
    | none => simp only [q] at o; cases (show false = true from o)
    | some u =>
      cases u with
      | ins _ _ _ => simp only [q] at o; cases (show false = true from o)
      | lst l =>
        simp only [q] at o ⊢
        obtain ⟨_, rfl⟩ : i < M.length ∧ v = .ref (f i) := r
        obtain ⟨_, xs, hx, h⟩ : l.length ≤ sizeLine ∧ ∃ xs, H (f i) = some (.lst xs) ∧ RDs M.length f H l xs := m.ob i _ q
        cases k with
        | zero => cases (show false = true from o)
        | succ k => exact .lst (.inl (.inl hx)) (rd_dps h (show okDs l k = true from o))
  | _ => exact rd_dp (K := K) r o
def gEq : Dv → Dv → Mem → (Dv → Prop) → Prop := fun x y M P => okD (res M x) 60 = true ∧ okD (res M y) 60 = true ∧ P (.bl (pyEq (res M x) (res M y)))
def gNe : Dv → Dv → Mem → (Dv → Prop) → Prop := fun x y M P => okD (res M x) 60 = true ∧ okD (res M y) 60 = true ∧ P (.bl (!pyEq (res M x) (res M y)))
theorem shaped_res {d : Dv} (o : okD d 60 = true) : SeqAt.shaped (toP d) = true := by
  obtain ⟨h1, h2⟩ := lay_toP o
  unfold SeqAt.shaped
  rw [h1, decide_eq_true (show (toP d).depth ≤ 64 by omega)]; rfl
theorem o_eq {K : PySem.W.Frag} : Op2 (rEqD K) gEq := fun f H M x y v u P Q m rx ry ⟨o1, o2, p⟩ k =>
  ⟨_, _, rd_res m rx o1, rd_res m ry o2, shaped_res o1, shaped_res o2, by rw [eqv_toP _ _ o1 o2]; exact k _ H (.bl _) (Same.refl H) rfl p⟩
theorem o_ne {K : PySem.W.Frag} : Op2 (rNeD K) gNe := fun f H M x y v u P Q m rx ry ⟨o1, o2, p⟩ k =>
  ⟨_, _, rd_res m rx o1, rd_res m ry o2, shaped_res o1, shaped_res o2, by rw [eqv_toP _ _ o1 o2]; exact k _ H (.bl _) (Same.refl H) rfl p⟩
section
variable {X : Cx} {W : WX} {pos : Pos} {a b : Expr} {ta tb : DE} {k : Nat}
theorem je_eq (hr : Room k X.A) (ha : JE X W a ta) (hb : JE X W b tb) : JE X W (.Compare a [.Eq] [b] pos) (dOp gEq ta tb) := je_cmp (op_eqD hr.units) o_eq ha hb (nomark _)
theorem je_ne (hr : Room k X.A) (ha : JE X W a ta) (hb : JE X W b tb) : JE X W (.Compare a [.NotEq] [b] pos) (dOp gNe ta tb) := je_cmp (op_neD hr.units) o_ne ha hb (nomark _)
theorem jt_eq (hr : Room k X.A) (ha : JE X W a ta) (hb : JE X W b tb) : JT X W (.Compare a [.Eq] [b] pos) (dTest (dOp gEq ta tb)) := jt_cmp (op_eqD hr.units) o_eq ha hb (nomark _)
theorem jt_ne (hr : Room k X.A) (ha : JE X W a ta) (hb : JE X W b tb) : JT X W (.Compare a [.NotEq] [b] pos) (dTest (dOp gNe ta tb)) := jt_cmp (op_neD hr.units) o_ne ha hb (nomark _)
end
end D
end

section
set_option Elab.async false
set_option linter.all false
set_option maxRecDepth 100000
set_option maxHeartbeats 1000000
set_option autoImplicit false
/-! The deep layer, part 6: in, is, len, sum, all, any, isinstance, places, slices, methods. -/
namespace D
open PySem PySem.Spec PyProof.Rows L2
/-! ### in, not in -/
def pyIn (x : Dv) (l : List Dv) : Bool := l.any fun z => pyEq z x
theorem any_toP (x : Dv) {k : Nat} (o : okD x k = true) : ∀ (l : List Dv) {j : Nat}, okDs l j = true → (toPs l).any (fun z => PyData.eqv z (toP x)) = pyIn x l
  | [], _, _ => rfl
  | y :: l, j, p => by
    obtain ⟨p1, p2⟩ := Bool.and_eq_true_iff.mp p
    show (PyData.eqv (toP y) (toP x) || (toPs l).any (fun z => PyData.eqv z (toP x))) = (pyEq y x || pyIn x l)
    rw [eqv_toP y x p1 o, any_toP x o l p2]
def rInT (K : PySem.W.Frag) (neg : Bool) : R2 := fun x y H Q => ∃ d ds, Dp K H x d ∧ Dp K H y (.tuple ds) ∧ SeqAt.shaped d = true ∧ SeqAt.shaped (.tuple ds) = true ∧ Q (.bl (if neg then !(ds.any fun z => PyData.eqv z d) else ds.any fun z => PyData.eqv z d)) H
theorem op_inT {X : Cx} (hu : X.A.units + 65 < cLine) : OpR X (compareOp .In) (rInT X.K false) := by
  intro pins s σ H x y v u Q I rx ry h
  obtain ⟨d, ds, hd, he, sd, se, q⟩ := h
  obtain ⟨as, r1⟩ := Dp.reads I d x v hd rx
  obtain ⟨bs, r2⟩ := Dp.reads I (.tuple ds) y u he ry
  exact SeqAt.in_tuple_reads r2 r1 (SeqAt.canLay_of_shaped se) (SeqAt.canLay_of_shaped sd) (room_in_shaped sd hu) ⟨.bl _, H, I, rfl, q⟩
theorem op_notInT {X : Cx} (hu : X.A.units + 65 < cLine) : OpR X (compareOp .NotIn) (rInT X.K true) := by
  intro pins s σ H x y v u Q I rx ry h
  obtain ⟨d, ds, hd, he, sd, se, q⟩ := h
  obtain ⟨as, r1⟩ := Dp.reads I d x v hd rx
  obtain ⟨bs, r2⟩ := Dp.reads I (.tuple ds) y u he ry
  exact SeqAt.notIn_tuple_reads r2 r1 (SeqAt.canLay_of_shaped se) (SeqAt.canLay_of_shaped sd) (room_in_shaped sd hu) ⟨.bl _, H, I, rfl, q⟩
/-- the items of what stands on the right of in -/
def inD (M : Mem) (y : Dv) : Option (List Dv) := match res M y with
  | .lst l => some l
  | .tup l => some l
  | _ => none
def gIn (neg : Bool) : Dv → Dv → Mem → (Dv → Prop) → Prop := fun x y M P => ∃ l, okD (res M x) 60 = true ∧ inD M y = some l ∧ okDs l 59 = true ∧ P (.bl (if neg then !pyIn (res M x) l else pyIn (res M x) l))
theorem inD_cases {M : Mem} {y : Dv} {l : List Dv} (e : inD M y = some l) : res M y = .lst l ∨ res M y = .tup l := by
  unfold inD at e
  split at e
  · rename_i q; cases e; exact .inl q
  · rename_i q; cases e; exact .inr q
  · cases e
theorem o_in {K : PySem.W.Frag} : Op2 (fun x y H Q => rInD K x y H Q ∨ rInT K false x y H Q) (gIn false) := fun f H M x y v u P Q m rx ry ⟨l, o1, e, o2, p⟩ k => by
  rcases inD_cases e with e | e
  · have o3 : okD (res M y) 60 = true := by rw [e]; exact o2
    have h := rd_res (K := K) m ry o3
    have s := shaped_res o3
    rw [e] at h s
    exact .inl ⟨_, toPs l, rd_res m rx o1, h, shaped_res o1, s, by rw [any_toP _ o1 l o2]; exact k _ H (.bl _) (Same.refl H) rfl p⟩
  · have o3 : okD (res M y) 60 = true := by rw [e]; exact o2
    have h := rd_res (K := K) m ry o3
    have s := shaped_res o3
    rw [e] at h s
    exact .inr ⟨_, toPs l, rd_res m rx o1, h, shaped_res o1, s, by rw [any_toP _ o1 l o2]; exact k _ H (.bl _) (Same.refl H) rfl p⟩
theorem o_notIn {K : PySem.W.Frag} : Op2 (fun x y H Q => rNotInD K x y H Q ∨ rInT K true x y H Q) (gIn true) := fun f H M x y v u P Q m rx ry ⟨l, o1, e, o2, p⟩ k => by
  rcases inD_cases e with e | e
  · have o3 : okD (res M y) 60 = true := by rw [e]; exact o2
    have h := rd_res (K := K) m ry o3
    have s := shaped_res o3
    rw [e] at h s
    exact .inl ⟨_, toPs l, rd_res m rx o1, h, shaped_res o1, s, by rw [any_toP _ o1 l o2]; exact k _ H (.bl _) (Same.refl H) rfl p⟩
  · have o3 : okD (res M y) 60 = true := by rw [e]; exact o2
    have h := rd_res (K := K) m ry o3
    have s := shaped_res o3
    rw [e] at h s
    exact .inr ⟨_, toPs l, rd_res m rx o1, h, shaped_res o1, s, by rw [any_toP _ o1 l o2]; exact k _ H (.bl _) (Same.refl H) rfl p⟩
/-! ### is, is not: with None, True, False on the right -/
def isD : Dv → Dv → Option Bool
  | x, .non => some (match x with | .non => true | _ => false)
  | x, .bl b => some (match x with | .bl a => a == b | _ => false)
  | _, _ => none
def isV : V → V → Bool
  | .non, .non => true
  | .bl a, .bl c => a == c
  | _, _ => false
def plV : V → Prop
  | .non => True
  | .bl _ => True
  | .int _ => True
  | .str _ => True
  | .ref _ => True
  | .ty _ => True
  | _ => False
def rIsN (neg : Bool) : R2 := fun x y H Q => ∃ b, (y = .non ∨ ∃ c, y = .bl c) ∧ b = isV x y ∧ plV x ∧ Q (.bl (if neg then !b else b)) H
theorem is_shape {x y : V} {v u : Value} {b : Bool} (rx : RelV x v) (ry : RelV y u) (hy : y = .non ∨ ∃ c, y = .bl c) (hb : b = isV x y) (hx : plV x) : plainIs v u = true ∧ (v == u) = b := by
  have ev : ∃ v', v = v' ∧ (x = .non ∧ v' = .none ∨ (∃ c, x = .bl c ∧ v' = .bool c) ∨ (∃ i t, x = .int i ∧ v' = .int i t) ∨ (∃ i t, x = .str i ∧ v' = .str i t) ∨ (∃ i, x = .ref i ∧ v' = .ref i) ∨ ∃ i, x = .ty i ∧ v' = .type i) := by
    cases x with
    | non => exact ⟨_, rx, .inl ⟨rfl, rfl⟩⟩
    | bl c => exact ⟨_, rx, .inr (.inl ⟨c, rfl, rfl⟩)⟩
    | int i => obtain ⟨t, e⟩ := (show ∃ t, v = Value.int i t from rx); exact ⟨_, e, .inr (.inr (.inl ⟨i, t, rfl, rfl⟩))⟩
    | str i => obtain ⟨t, e⟩ := (show ∃ t, v = Value.str i t from rx); exact ⟨_, e, .inr (.inr (.inr (.inl ⟨i, t, rfl, rfl⟩)))⟩
    | ref i => exact ⟨_, rx, .inr (.inr (.inr (.inr (.inl ⟨i, rfl, rfl⟩))))⟩
    | ty i => exact ⟨_, rx, .inr (.inr (.inr (.inr (.inr ⟨i, rfl, rfl⟩))))⟩
    | _ => exact hx.elim
  obtain ⟨v', rfl, ev⟩ := ev
  rcases hy with rfl | ⟨c, rfl⟩
  · obtain rfl : u = Value.none := ry
    rcases ev with ⟨rfl, rfl⟩ | ⟨c, rfl, rfl⟩ | ⟨i, t, rfl, rfl⟩ | ⟨i, t, rfl, rfl⟩ | ⟨i, rfl, rfl⟩ | ⟨i, rfl, rfl⟩ <;> exact ⟨rfl, hb.symm⟩
  · obtain rfl : u = Value.bool c := ry
    rcases ev with ⟨rfl, rfl⟩ | ⟨c', rfl, rfl⟩ | ⟨i, t, rfl, rfl⟩ | ⟨i, t, rfl, rfl⟩ | ⟨i, rfl, rfl⟩ | ⟨i, rfl, rfl⟩
    · exact ⟨rfl, hb.symm⟩
    · refine ⟨rfl, ?_⟩
      subst hb
      show (Value.bool c' == Value.bool c) = (c' == c)
      cases c' <;> cases c <;> first | rfl | decide
    all_goals exact ⟨rfl, hb.symm⟩
theorem op_isN {X : Cx} : OpR X (compareOp .Is) (rIsN false) := by
  intro pins s σ H x y v u Q I rx ry ⟨b, hy, hb, hx, q⟩
  obtain ⟨h1, h2⟩ := is_shape rx ry hy hb hx
  exact wpAny_is_plain h1 ⟨.bl b, H, I, by rw [h2]; rfl, q⟩
theorem op_isNotN {X : Cx} : OpR X (compareOp .IsNot) (rIsN true) := by
  intro pins s σ H x y v u Q I rx ry ⟨b, hy, hb, hx, q⟩
  obtain ⟨h1, h2⟩ := is_shape rx ry hy hb hx
  exact wpAny_isNot_plain h1 ⟨.bl (!b), H, I, by rw [h2]; rfl, q⟩
def gIs (neg : Bool) : Dv → Dv → Mem → (Dv → Prop) → Prop := fun x y _ P => ∃ b, isD x y = some b ∧ P (.bl (if neg then !b else b))
theorem o_is {neg : Bool} : Op2 (rIsN neg) (gIs neg) := fun f H M x y v u P Q m rx ry ⟨b, e, p⟩ k => by
  have hx : ∃ w, v = w ∧ ((x = .non ∧ w = .non) ∨ (∃ c, x = .bl c ∧ w = .bl c) ∨ ((∀ c, x ≠ .bl c) ∧ x ≠ .non ∧ ((∃ i, w = .int i) ∨ (∃ i, w = .str i) ∨ (∃ i, w = .ref i) ∨ ∃ i, w = .ty i))) := by
    cases x with
    | non => exact ⟨_, rx, .inl ⟨rfl, rfl⟩⟩
    | bl c => exact ⟨_, rx, .inr (.inl ⟨c, rfl, rfl⟩)⟩
    | int i => exact ⟨_, rx, .inr (.inr ⟨fun _ e => (by cases e), fun e => (by cases e), .inl ⟨i, rfl⟩⟩)⟩
    | str i => exact ⟨_, rx, .inr (.inr ⟨fun _ e => (by cases e), fun e => (by cases e), .inr (.inl ⟨i, rfl⟩)⟩)⟩
    | tup l => obtain ⟨_, a, xs, e, _⟩ := rx; exact ⟨_, e, .inr (.inr ⟨fun _ e => (by cases e), fun e => (by cases e), .inr (.inr (.inl ⟨a, rfl⟩))⟩)⟩
    | lst l => obtain ⟨_, a, xs, e, _⟩ := rx; exact ⟨_, e, .inr (.inr ⟨fun _ e => (by cases e), fun e => (by cases e), .inr (.inr (.inl ⟨a, rfl⟩))⟩)⟩
    | frz l => obtain ⟨_, a, _, xs, e, _⟩ := rx; exact ⟨_, e, .inr (.inr ⟨fun _ e => (by cases e), fun e => (by cases e), .inr (.inr (.inl ⟨a, rfl⟩))⟩)⟩
    | obj C ks l => obtain ⟨a, _, xs, e, _⟩ := rx; exact ⟨_, e, .inr (.inr ⟨fun _ e => (by cases e), fun e => (by cases e), .inr (.inr (.inl ⟨a, rfl⟩))⟩)⟩
    | ref i => exact ⟨_, rx.2, .inr (.inr ⟨fun _ e => (by cases e), fun e => (by cases e), .inr (.inr (.inl ⟨_, rfl⟩))⟩)⟩
    | adr i => exact ⟨_, rx, .inr (.inr ⟨fun _ e => (by cases e), fun e => (by cases e), .inr (.inr (.inl ⟨_, rfl⟩))⟩)⟩
    | ty i => exact ⟨_, rx, .inr (.inr ⟨fun _ e => (by cases e), fun e => (by cases e), .inr (.inr (.inr ⟨_, rfl⟩))⟩)⟩
    | dic => obtain ⟨a, e, _⟩ := rx; exact ⟨_, e, .inr (.inr ⟨fun _ e => (by cases e), fun e => (by cases e), .inr (.inr (.inl ⟨a, rfl⟩))⟩)⟩
  obtain ⟨w, rfl, hx⟩ := hx
  have fin := k (.bl (if neg then !b else b)) H (.bl (if neg then !b else b)) (Same.refl H) rfl p
  cases y with
  | non =>
    cases (show u = .non from ry)
    refine ⟨b, .inl rfl, ?_, ?_, fin⟩
    · rcases hx with ⟨rfl, rfl⟩ | ⟨c, rfl, rfl⟩ | ⟨_, h2, h3⟩
      · exact (Option.some.inj e).symm
      · exact (Option.some.inj e).symm
      · have : b = false := by
          rw [← Option.some.inj e]
          cases x <;> first | rfl | exact absurd rfl h2
        rcases h3 with ⟨i, rfl⟩ | ⟨i, rfl⟩ | ⟨i, rfl⟩ | ⟨i, rfl⟩ <;> exact this
    · rcases hx with ⟨rfl, rfl⟩ | ⟨c, rfl, rfl⟩ | ⟨_, h2, ⟨i, rfl⟩ | ⟨i, rfl⟩ | ⟨i, rfl⟩ | ⟨i, rfl⟩⟩ <;> trivial
  | bl c' =>
    cases (show u = .bl c' from ry)
    refine ⟨b, .inr ⟨c', rfl⟩, ?_, ?_, fin⟩
    · rcases hx with ⟨rfl, rfl⟩ | ⟨c, rfl, rfl⟩ | ⟨h2, _, h3⟩
      · exact (Option.some.inj e).symm
      · exact (Option.some.inj e).symm
      · have : b = false := by
          rw [← Option.some.inj e]
          cases x <;> first | rfl | exact absurd rfl (h2 _)
        rcases h3 with ⟨i, rfl⟩ | ⟨i, rfl⟩ | ⟨i, rfl⟩ | ⟨i, rfl⟩ <;> exact this
    · rcases hx with ⟨rfl, rfl⟩ | ⟨c, rfl, rfl⟩ | ⟨_, h2, ⟨i, rfl⟩ | ⟨i, rfl⟩ | ⟨i, rfl⟩ | ⟨i, rfl⟩⟩ <;> trivial
  | _ => cases (show none = some b from e)
section
variable {X : Cx} {W : WX} {pos : Pos} {a b : Expr} {ta tb : DE} {k : Nat}
theorem je_in (hr : Room k X.A) (ha : JE X W a ta) (hb : JE X W b tb) (hm : behindInMarks .In b = false := by with_unfolding_all rfl) : JE X W (.Compare a [.In] [b] pos) (dOp (gIn false) ta tb) := je_cmp ((op_inD (by have := hr.un; omega)).or (op_inT (by have := hr.un; omega))) o_in ha hb hm
theorem jt_in (hr : Room k X.A) (ha : JE X W a ta) (hb : JE X W b tb) (hm : behindInMarks .In b = false := by with_unfolding_all rfl) : JT X W (.Compare a [.In] [b] pos) (dTest (dOp (gIn false) ta tb)) := jt_cmp ((op_inD (by have := hr.un; omega)).or (op_inT (by have := hr.un; omega))) o_in ha hb hm
theorem je_notIn (hr : Room k X.A) (ha : JE X W a ta) (hb : JE X W b tb) (hm : behindInMarks .NotIn b = false := by with_unfolding_all rfl) : JE X W (.Compare a [.NotIn] [b] pos) (dOp (gIn true) ta tb) := je_cmp ((op_notInD (by have := hr.un; omega)).or (op_notInT (by have := hr.un; omega))) o_notIn ha hb hm
theorem jt_notIn (hr : Room k X.A) (ha : JE X W a ta) (hb : JE X W b tb) (hm : behindInMarks .NotIn b = false := by with_unfolding_all rfl) : JT X W (.Compare a [.NotIn] [b] pos) (dTest (dOp (gIn true) ta tb)) := jt_cmp ((op_notInD (by have := hr.un; omega)).or (op_notInT (by have := hr.un; omega))) o_notIn ha hb hm
theorem je_is (ha : JE X W a ta) (hb : JE X W b tb) : JE X W (.Compare a [.Is] [b] pos) (dOp (gIs false) ta tb) := je_cmp op_isN o_is ha hb (nomark _)
theorem jt_is (ha : JE X W a ta) (hb : JE X W b tb) : JT X W (.Compare a [.Is] [b] pos) (dTest (dOp (gIs false) ta tb)) := jt_cmp op_isN o_is ha hb (nomark _)
theorem je_isNot (ha : JE X W a ta) (hb : JE X W b tb) : JE X W (.Compare a [.IsNot] [b] pos) (dOp (gIs true) ta tb) := je_cmp op_isNotN o_is ha hb (nomark _)
theorem jt_isNot (ha : JE X W a ta) (hb : JE X W b tb) : JT X W (.Compare a [.IsNot] [b] pos) (dTest (dOp (gIs true) ta tb)) := jt_cmp op_isNotN o_is ha hb (nomark _)
end
end D
end

section
set_option Elab.async false
set_option linter.all false
set_option maxRecDepth 100000
set_option maxHeartbeats 1000000
set_option autoImplicit false
/-! The deep layer, part 7: built-in calls, isinstance, places, slices. -/
namespace D
open PySem PySem.Spec PyProof.Rows L2
section
variable {n : Nat} {f : Fr} {H : Hp}
theorem rds1 {d : Dv} {vs : List V} (r : RDs n f H [d] vs) : ∃ v, vs = [v] ∧ RD n f H d v := by
  obtain ⟨v, vr, rfl, rd, e3⟩ : ∃ v vr, vs = v :: vr ∧ RD n f H d v ∧ vr = [] := r
  subst e3
  exact ⟨v, rfl, rd⟩
theorem rds2 {d e : Dv} {vs : List V} (r : RDs n f H [d, e] vs) : ∃ v u, vs = [v, u] ∧ RD n f H d v ∧ RD n f H e u := by
  obtain ⟨v, vr, rfl, rd, ur, ut, rfl, re, e3⟩ : ∃ v vr, vs = v :: vr ∧ RD n f H d v ∧ ∃ u ur, vr = u :: ur ∧ RD n f H e u ∧ ur = [] := r
  subst e3
  exact ⟨v, ur, rfl, rd, re⟩
theorem rds_ints : ∀ {ns : List Int} {vs : List V}, RDs n f H (ns.map Dv.int) vs → vs = ns.map V.int
  | [], vs, r => r
  | i :: ns, vs, r => by
    obtain ⟨v, vr, rfl, rd, rr⟩ : ∃ v vr, vs = v :: vr ∧ RD n f H (.int i) v ∧ RDs n f H (ns.map Dv.int) vr := r
    rw [rds_ints rr, show v = .int i from rd]; rfl
theorem rds_bls : ∀ {ns : List Bool} {vs : List V}, RDs n f H (ns.map Dv.bl) vs → vs = ns.map V.bl
  | [], vs, r => r
  | i :: ns, vs, r => by
    obtain ⟨v, vr, rfl, rd, rr⟩ : ∃ v vr, vs = v :: vr ∧ RD n f H (.bl i) v ∧ RDs n f H (ns.map Dv.bl) vr := r
    rw [rds_bls rr, show v = .bl i from rd]; rfl
theorem ints_rds : ∀ {ns : List Int}, RDs n f H (ns.map Dv.int) (ns.map V.int)
  | [] => rfl
  | i :: ns => ⟨_, _, rfl, rfl, ints_rds⟩
end
/-! ### len -/
def lenD (M : Mem) : Dv → Option Int
  | .str z => if z.length ≤ sizeLine then some z.length else none
  | d => (seqD M d).map fun l => (l.length : Int)
def gLen : List Dv → Mem → (Dv → Prop) → Prop := fun ds M P => ∃ d k, ds = [d] ∧ lenD M d = some k ∧ P (.int k)
theorem o_len {K : PySem.W.Frag} : Opn (fun xs H Q => (∃ p ys, xs = [.ref p] ∧ (SqL K H p ys ∨ SqT K H p ys) ∧ Q (.int ys.length) H) ∨ ∃ z, xs = [.str z] ∧ z.length ≤ sizeLine ∧ Q (.int z.length) H) gLen := fun f H M xs vs P Q m r ⟨d, k, e, hk, p⟩ fin => by
  subst e
  obtain ⟨v, rfl, rd⟩ := rds1 r
  have fin' := fin (.int k) H (.int k) (Same.refl H) rfl p
  have go : (∃ l, seqD M d = some l ∧ k = l.length) → (∃ p ys, [v] = [.ref p] ∧ (SqL K H p ys ∨ SqT K H p ys) ∧ Q (.int ys.length) H) := fun ⟨l, e, ek⟩ => by
    obtain ⟨a, ys, rfl, hq, hr, _⟩ := rd_seqM (K := K) m rd e
    exact ⟨a, ys, rfl, hq, by rw [hr.length, ← ek]; exact fin'⟩
  have go' : (seqD M d).map (fun l => (l.length : Int)) = some k → ∃ l, seqD M d = some l ∧ k = l.length := fun e => by
    cases q : seqD M d with
    | none => rw [q] at e; cases e
    | some l => rw [q] at e; exact ⟨l, rfl, (Option.some.inj e).symm⟩
  cases d with
  | str z =>
    have hk' : (if z.length ≤ sizeLine then some (z.length : Int) else none) = some k := hk
    by_cases hz : z.length ≤ sizeLine
    · rw [if_pos hz] at hk'
      cases hk'
      exact .inr ⟨z, by rw [show v = .str z from rd], hz, fin'⟩
    · rw [if_neg hz] at hk'; cases hk'
  | _ => exact .inl (go (go' hk))
/-! ### tuple(x), list(x), abs, int, max, min, sum, all, any -/
def gTuple : List Dv → Mem → (Dv → Prop) → Prop := fun ds M P => ∃ d l, ds = [d] ∧ seqD M d = some l ∧ P (.tup l)
theorem o_tuple {K : PySem.W.Frag} : Opn (fun xs H Q => ∃ p ys, xs = [.ref p] ∧ ((SqL K H p ys ∧ ∀ l, H l = none → Q (.ref l) (upd H l (.tup ys))) ∨ (SqT K H p ys ∧ Q (.ref p) H))) gTuple := fun f H M xs vs P Q m r ⟨d, l, e, hk, p⟩ fin => by
  subst e
  obtain ⟨v, rfl, rd⟩ := rds1 r
  rcases seq_cases hk with rfl | e
  · obtain ⟨a, ys, rfl, hq, hr, _⟩ := rd_tupM (K := K) rd
    exact ⟨a, ys, rfl, .inr ⟨hq, fin _ H (.tup l) (Same.refl H) rd p⟩⟩
  · obtain ⟨a, ys, rfl, hq, hr, hz⟩ := rd_lstM (K := K) m rd e
    exact ⟨a, ys, rfl, .inl ⟨hq, fun q hn => fin _ _ (.tup l) (same_new hn) (rd_tup m hn hr hz) p⟩⟩
def gList : List Dv → Mem → (Dv → Prop) → Prop := fun ds M P => ∃ d l, ds = [d] ∧ seqD M d = some l ∧ P (.lst l)
theorem o_list {K : PySem.W.Frag} : Opn (fun xs H Q => ∃ p ys, xs = [.ref p] ∧ (SqL K H p ys ∨ SqT K H p ys) ∧ ∀ l, H l = none → Q (.ref l) (upd H l (.lst ys))) gList := fun f H M xs vs P Q m r ⟨d, l, e, hk, p⟩ fin => by
  subst e
  obtain ⟨v, rfl, rd⟩ := rds1 r
  obtain ⟨a, ys, rfl, hq, hr, hz⟩ := rd_seqM (K := K) m rd hk
  exact ⟨a, ys, rfl, hq, fun q hn => fin _ _ (.lst l) (same_new hn) (rd_lst m hn hr hz) p⟩
def gAbs : List Dv → Mem → (Dv → Prop) → Prop := fun ds M P => ∃ i : Int, ds = [.int i] ∧ P (.int (i.natAbs : Nat))
theorem o_abs : Opn (fun xs H Q => ∃ i : Int, xs = [V.int i] ∧ Q (V.int (if i < 0 then -i else i)) H) gAbs := fun f H M xs vs P Q m r ⟨i, e, p⟩ fin => by
  subst e
  obtain ⟨v, rfl, rd⟩ := rds1 r
  cases (show v = .int i from rd)
  exact ⟨i, rfl, fin _ H (.int (i.natAbs : Nat)) (Same.refl H) (by
    show V.int _ = V.int _
    congr 1
    split <;> omega) p⟩
def intD : Dv → Option Int
  | .int i => some i
  | .bl b => some (if b then 1 else 0)
  | _ => none
def gInt : List Dv → Mem → (Dv → Prop) → Prop := fun ds M P => ∃ d i, ds = [d] ∧ intD d = some i ∧ P (.int i)
theorem o_int : Opn (fun xs H Q => (∃ i : Int, xs = [V.int i] ∧ Q (V.int i) H) ∨ ∃ k : Bool, xs = [V.bl k] ∧ Q (V.int (if k then 1 else 0)) H) gInt := fun f H M xs vs P Q m r ⟨d, i, e, hi, p⟩ fin => by
  subst e
  obtain ⟨v, rfl, rd⟩ := rds1 r
  cases d with
  | int j =>
    cases (show v = .int j from rd)
    cases (show some j = some i from hi)
    exact .inl ⟨i, rfl, fin _ H (.int i) (Same.refl H) rfl p⟩
  | bl b =>
    cases (show v = .bl b from rd)
    cases (show some (if b then 1 else 0) = some i from hi)
    exact .inr ⟨b, rfl, fin _ H (.int _) (Same.refl H) rfl p⟩
  | _ => cases (show none = some i from hi)
def gMax2 : List Dv → Mem → (Dv → Prop) → Prop := fun ds M P => ∃ i j : Int, ds = [.int i, .int j] ∧ P (.int (max i j))
def gMin2 : List Dv → Mem → (Dv → Prop) → Prop := fun ds M P => ∃ i j : Int, ds = [.int i, .int j] ∧ P (.int (min i j))
theorem o_max2 : Opn (fun xs H Q => ∃ i j : Int, xs = [V.int i, V.int j] ∧ Q (V.int (if j > i then j else i)) H) gMax2 := fun f H M xs vs P Q m r ⟨i, j, e, p⟩ fin => by
  subst e
  obtain ⟨v, u, rfl, r1, r2⟩ := rds2 r
  cases (show v = .int i from r1)
  cases (show u = .int j from r2)
  exact ⟨i, j, rfl, fin _ H (.int (max i j)) (Same.refl H) (by
    show V.int _ = V.int _
    congr 1
    split <;> omega) p⟩
theorem o_min2 : Opn (fun xs H Q => ∃ i j : Int, xs = [V.int i, V.int j] ∧ Q (V.int (if j < i then j else i)) H) gMin2 := fun f H M xs vs P Q m r ⟨i, j, e, p⟩ fin => by
  subst e
  obtain ⟨v, u, rfl, r1, r2⟩ := rds2 r
  cases (show v = .int i from r1)
  cases (show u = .int j from r2)
  exact ⟨i, j, rfl, fin _ H (.int (min i j)) (Same.refl H) (by
    show V.int _ = V.int _
    congr 1
    split <;> omega) p⟩
def gSum : List Dv → Mem → (Dv → Prop) → Prop := fun ds M P => ∃ (d : Dv) (ns : List Int), ds = [d] ∧ lstD M d = some (ns.map Dv.int) ∧ P (.int ns.sum)
theorem o_sum {K : PySem.W.Frag} : Opn (rSum K) gSum := fun f H M xs vs P Q m r ⟨d, ns, e, hk, p⟩ fin => by
  subst e
  obtain ⟨v, rfl, rd⟩ := rds1 r
  obtain ⟨a, ys, rfl, hq, hr, hz⟩ := rd_lstM (K := K) m rd hk
  rw [rds_ints hr] at hq
  exact ⟨a, ns, rfl, hq, fin _ H (.int _) (Same.refl H) rfl p⟩
def gMax : List Dv → Mem → (Dv → Prop) → Prop := fun ds M P => ∃ (d : Dv) (ns : List Int), ds = [d] ∧ lstD M d = some (ns.map Dv.int) ∧ 0 < ns.length ∧ ∀ m ∈ ns, (∀ y ∈ ns, y ≤ m) → P (.int m)
def gMin : List Dv → Mem → (Dv → Prop) → Prop := fun ds M P => ∃ (d : Dv) (ns : List Int), ds = [d] ∧ lstD M d = some (ns.map Dv.int) ∧ 0 < ns.length ∧ ∀ m ∈ ns, (∀ y ∈ ns, m ≤ y) → P (.int m)
theorem o_max {K : PySem.W.Frag} : Opn (rMax K) gMax := fun f H M xs vs P Q m r ⟨d, ns, e, hk, h0, p⟩ fin => by
  subst e
  obtain ⟨v, rfl, rd⟩ := rds1 r
  obtain ⟨a, ys, rfl, hq, hr, hz⟩ := rd_lstM (K := K) m rd hk
  rw [rds_ints hr] at hq
  exact ⟨a, ns, rfl, hq, h0, fun k hk' hy => fin _ H (.int k) (Same.refl H) rfl (p k hk' hy)⟩
theorem o_min {K : PySem.W.Frag} : Opn (rMin K) gMin := fun f H M xs vs P Q m r ⟨d, ns, e, hk, h0, p⟩ fin => by
  subst e
  obtain ⟨v, rfl, rd⟩ := rds1 r
  obtain ⟨a, ys, rfl, hq, hr, hz⟩ := rd_lstM (K := K) m rd hk
  rw [rds_ints hr] at hq
  exact ⟨a, ns, rfl, hq, h0, fun k hk' hy => fin _ H (.int k) (Same.refl H) rfl (p k hk' hy)⟩
def gAll : List Dv → Mem → (Dv → Prop) → Prop := fun ds M P => ∃ (d : Dv) (bs : List Bool), ds = [d] ∧ lstD M d = some (bs.map Dv.bl) ∧ P (.bl (bs.all id))
def gAny : List Dv → Mem → (Dv → Prop) → Prop := fun ds M P => ∃ (d : Dv) (bs : List Bool), ds = [d] ∧ lstD M d = some (bs.map Dv.bl) ∧ P (.bl (bs.any id))
theorem o_all {K : PySem.W.Frag} : Opn (rAll K) gAll := fun f H M xs vs P Q m r ⟨d, ns, e, hk, p⟩ fin => by
  subst e
  obtain ⟨v, rfl, rd⟩ := rds1 r
  obtain ⟨a, ys, rfl, hq, hr, hz⟩ := rd_lstM (K := K) m rd hk
  rw [rds_bls hr] at hq
  exact ⟨a, ns, rfl, hq, fin _ H (.bl _) (Same.refl H) rfl p⟩
theorem o_any {K : PySem.W.Frag} : Opn (rAny K) gAny := fun f H M xs vs P Q m r ⟨d, ns, e, hk, p⟩ fin => by
  subst e
  obtain ⟨v, rfl, rd⟩ := rds1 r
  obtain ⟨a, ys, rfl, hq, hr, hz⟩ := rd_lstM (K := K) m rd hk
  rw [rds_bls hr] at hq
  exact ⟨a, ns, rfl, hq, fin _ H (.bl _) (Same.refl H) rfl p⟩
/-- sorted(xs), ints -/
def gSortI : List Dv → Mem → (Dv → Prop) → Prop := fun ds M P => ∃ (d : Dv) (ns : List Int), ds = [d] ∧ lstD M d = some (ns.map Dv.int) ∧ ∀ ns' : List Int, ns'.Perm ns → ns'.Pairwise (· ≤ ·) → P (.lst (ns'.map Dv.int))
theorem o_sortI {K : PySem.W.Frag} : Opn (rSortedI K) gSortI := fun f H M xs vs P Q m r ⟨d, ns, e, hk, p⟩ fin => by
  subst e
  obtain ⟨v, rfl, rd⟩ := rds1 r
  obtain ⟨a, ys, rfl, hq, hr, hz⟩ := rd_lstM (K := K) m rd hk
  rw [rds_ints hr] at hq
  refine ⟨a, ns, rfl, hq, fun ns' q hp hs hn => fin _ _ (.lst (ns'.map Dv.int)) (same_new hn) (rd_lst m hn ints_rds ?_) (p ns' hp hs)⟩
  rw [List.length_map, hp.length_eq]
  rw [List.length_map] at hz
  exact hz
/-- repr of a number, of True, False, None -/
def reprD : Dv → Option Str
  | .int i => if i.natAbs.log2 < 1920 then some (toString i) else none
  | _ => none
/-! ### isinstance, built-in classes -/
def tyD (M : Mem) : Dv → Option String
  | .non => some "NoneType"
  | .bl _ => some "bool"
  | .int _ => some "int"
  | .str _ => some "str"
  | .tup _ => some "tuple"
  | .lst _ => some "list"
  | .frz _ => some "list"
  | .dic => some "dict"
  | .ref i => match M[i]? with
    | some (.lst _) => some "list"
    | _ => none
  | _ => none
def isiB (a b : String) : Bool := a == b || (a == "bool" && b == "int")
theorem kit_tab : ∀ a ∈ ["NoneType", "bool", "int", "str", "tuple", "list", "dict", "set"], ∀ b ∈ ["bool", "int", "str", "tuple", "list", "dict", "set"], kitB a b = some (isiB a b) := by decide +kernel
theorem tyD_mem {M : Mem} {d : Dv} {a : String} (e : tyD M d = some a) : a ∈ ["NoneType", "bool", "int", "str", "tuple", "list", "dict", "set"] := by
  cases d with
  | non => cases e; simp
  | bl _ => cases e; simp
  | int _ => cases e; simp
  | str _ => cases e; simp
  | tup _ => cases e; simp
  | lst _ => cases e; simp
  | frz _ => cases e; simp
  | dic => cases e; simp
  | ref i =>
    have e' : (match M[i]? with | some (.lst _) => some "list" | _ => none) = some a := e
    split at e'
    · cases e'; simp
    · cases e'
  | _ => cases e
theorem tyD_X {K : PySem.W.Frag} {f : Fr} {H : Hp} {M : Mem} {d : Dv} {v : V} {a : String} (m : RM f H M) (r : RD M.length f H d v) (e : tyD M d = some a) : TyX K H v (.type a) := by
  cases d with
  | non => cases e; cases (show v = .non from r); exact .base .non
  | bl b => cases e; cases (show v = .bl b from r); exact .base (.bl b)
  | int b => cases e; cases (show v = .int b from r); exact .base (.int b)
  | str b => cases e; cases (show v = .str b from r); exact .base (.str b)
  | tup l =>
    cases e
    obtain ⟨_, x, xs, rfl, hx, _, _⟩ : l.length ≤ sizeLine ∧ ∃ x xs, v = .ref x ∧ H x = some (.tup xs) ∧ Bes M.length f x ∧ RDs M.length f H l xs := r
    exact .base (.tup hx)
  | lst l =>
    cases e
    obtain ⟨_, x, xs, rfl, hx, _, _⟩ : l.length ≤ sizeLine ∧ ∃ x xs, v = .ref x ∧ H x = some (.lst xs) ∧ Bes M.length f x ∧ RDs M.length f H l xs := r
    exact .base (.lst hx)
  | frz l =>
    cases e
    obtain ⟨_, x, o, xs, rfl, hx, _, _⟩ : l.length ≤ sizeLine ∧ ∃ x o xs, v = .ref x ∧ H x = some (.frz o (.lst xs)) ∧ Bes M.length f x ∧ RDs M.length f H l xs := r
    exact .base (.frz hx)
  | dic =>
    cases e
    obtain ⟨x, rfl, hx, _⟩ : ∃ x, v = .ref x ∧ H x = some (.dK []) ∧ Bes M.length f x := r
    exact .base (.dK hx)
  | ref i =>
    have e' : (match M[i]? with | some (.lst _) => some "list" | _ => none) = some a := e
    obtain ⟨_, rfl⟩ : i < M.length ∧ v = .ref (f i) := r
    split at e'
    · rename_i l q
      cases e'
      obtain ⟨_, xs, hx, _⟩ : l.length ≤ sizeLine ∧ ∃ xs, H (f i) = some (.lst xs) ∧ RDs M.length f H l xs := m.ob i _ q
      exact .base (.lst hx)
    · cases e'
  | _ => cases e
def gIsi : List Dv → Mem → (Dv → Prop) → Prop := fun ds M P => ∃ d a b, ds = [d, .ty b] ∧ tyD M d = some a ∧ b ∈ ["bool", "int", "str", "tuple", "list", "dict", "set"] ∧ P (.bl (isiB a b))
theorem o_isi {K : PySem.W.Frag} : Opn (rIsi K) gIsi := fun f H M xs vs P Q m r ⟨d, a, b, e, ht, hb, p⟩ fin => by
  subst e
  obtain ⟨v, u, rfl, r1, r2⟩ := rds2 r
  cases (show u = .ty b from r2)
  exact ⟨v, .ty b, .type a, .type b, isiB a b, rfl, .ty b, tyD_X m r1 ht, kit_ty (kit_tab a (tyD_mem ht) b hb), fin _ H (.bl _) (Same.refl H) rfl p⟩
def gIsiT : List Dv → Mem → (Dv → Prop) → Prop := fun ds M P => ∃ d a b c, ds = [d, .tup [.ty b, .ty c]] ∧ tyD M d = some a ∧ b ∈ ["bool", "int", "str", "tuple", "list", "dict", "set"] ∧ c ∈ ["bool", "int", "str", "tuple", "list", "dict", "set"] ∧ P (.bl (isiB a b || isiB a c))
theorem o_isiT {K : PySem.W.Frag} : Opn (rIsiT K) gIsiT := fun f H M xs vs P Q m r ⟨d, a, b, c, e, ht, hb, hc, p⟩ fin => by
  subst e
  obtain ⟨v, u, rfl, r1, r2⟩ := rds2 r
  obtain ⟨_, x, ys, rfl, hx, _, hy⟩ : [Dv.ty b, Dv.ty c].length ≤ sizeLine ∧ ∃ x xs, u = .ref x ∧ H x = some (.tup xs) ∧ Bes M.length f x ∧ RDs M.length f H [Dv.ty b, Dv.ty c] xs := r2
  obtain ⟨v1, v2, rfl, q1, q2⟩ := rds2 hy
  cases (show v1 = .ty b from q1)
  cases (show v2 = .ty c from q2)
  refine ⟨v, x, _, .type a, [.type b, .type c], isiB a b || isiB a c, rfl, hx, .cons (.ty b) (.cons (.ty c) .nil), tyD_X m r1 ht, ?_, fin _ H (.bl _) (Same.refl H) rfl p⟩
  refine kitAny_cons (kit_ty (kit_tab a (tyD_mem ht) b hb)) (fun h => ?_) (fun h => by rw [h]; rfl)
  rw [h, Bool.false_or]
  refine kitAny_cons (kit_ty (kit_tab a (tyD_mem ht) c hc)) (fun h' => ?_) (fun h' => h')
  rw [h']; rfl
section
variable {X : Cx} {W : WX} {pos p : Pos} {e : Expr} {es : List Expr} {u : DA} {k : Nat}
theorem je_bty {x : Str} {T : String} (hg : Gl X x) (hm : X.mg x = none) (hv : bootBuiltins x = some (.type T)) (hn : x ≠ "__name__" := by decide) (hd : (x == ("__debug__" : Str)) = false := by decide) : JE X W (.Name x pos) (dC (.ty T)) :=
  je_con (v := .ty T) ⟨fun pins s σ H Q I h => ld_blt I hg hm hv ⟨.ty T, H, I, rfl, h⟩ hn hd⟩ fun _ _ _ => rfl
end
/-! ### places -/
def gIx : Dv → Dv → Mem → (Dv → Prop) → Prop := fun x y M P => ∃ i, y = .int i ∧ ((∃ l d, seqD M x = some l ∧ atI l i = some d ∧ P d) ∨ ∃ z c, x = .str z ∧ z.length ≤ sizeLine ∧ atI z.cps.toList i = some c ∧ P (.str ⟨#[c]⟩))
theorem at_rds {n : Nat} {f : Fr} {H : Hp} {l : List Dv} {vs : List V} {i : Int} {d : Dv} (r : RDs n f H l vs) (e : atI l i = some d) : ∃ v, atI vs i = some v ∧ RD n f H d v := by
  unfold atI at e ⊢
  rw [r.length]
  cases q : ixN l.length i with
  | none => rw [q] at e; cases e
  | some j =>
    rw [q] at e
    exact r.get e
theorem o_ix {K : PySem.W.Frag} : Op2 (rIx K) gIx := fun f H M x y v u P Q m rx ry ⟨i, ey, h⟩ k => by
  subst ey
  cases (show u = .int i from ry)
  rcases h with ⟨l, d, e, ha, p⟩ | ⟨z, c, rfl, hz, ha, p⟩
  · rcases seq_cases e with rfl | e
    · obtain ⟨a, ys, rfl, hq, hr, _⟩ := rd_tupM (K := K) rx
      obtain ⟨w, e1, e2⟩ := at_rds hr ha
      exact .inr (.inl ⟨a, ys, i, w, rfl, rfl, hq, e1, k w H d (Same.refl H) e2 p⟩)
    · obtain ⟨a, ys, rfl, hq, hr, _⟩ := rd_lstM (K := K) m rx e
      obtain ⟨w, e1, e2⟩ := at_rds hr ha
      exact .inl ⟨a, ys, i, w, rfl, rfl, hq, e1, k w H d (Same.refl H) e2 p⟩
  · cases (show v = .str z from rx)
    exact .inr (.inr ⟨z, i, c, rfl, rfl, hz, ha, k _ H (.str _) (Same.refl H) rfl p⟩)
theorem je_at {X : Cx} {W : WX} {pos : Pos} {a b : Expr} {ta tb : DE} (ha : JE X W a ta) (hb : JE X W b tb) (hs : PlainIx b := by intro _ _; rfl) : JE X W (.Subscript a b pos) (dOp gIx ta tb) := je_ix ix_seq o_ix ha hb hs
/-! ### slices -/
abbrev DO := Loc → Mem → (Option Int → Mem → Prop) → PX → Prop
def lO (W : WX) (t : DO) : TO := fun s H Q => ∃ (f : Fr) (l : Loc) (M : Mem) (P : Option Int → Mem → Prop) (X : PX), RM f H M ∧ RL M.length f H l s ∧ t l M P X ∧
  (∀ (f' : Fr) (H' : Hp) (M' : Mem) (o : Option Int), Lt M.length f H M'.length f' H' → RM f' H' M' → P o M' → Q o H') ∧ KX W s M.length f H X
abbrev JO (X : Cx) (W : WX) (e : Option Expr) (t : DO) : Prop := PO X e (lO W t)
def dNoP : DO := fun _ M P _ => P none M
def dPart (te : DE) : DO := fun l M P X => te l M (fun d M1 => ∃ i, d = .int i ∧ P (some i) M1) X
def cutD (l : List Dv) (lo hi : Option Int) : List Dv := (l.drop (HT.sIx l.length 0 lo)).take (HT.sIx l.length l.length hi - HT.sIx l.length 0 lo)
def gSl (x : Dv) (lo hi : Option Int) (M : Mem) (P : Dv → Prop) : Prop := match x with
  | .tup l => P (.tup (cutD l lo hi))
  | _ => ∃ l, lstD M x = some l ∧ P (.lst (cutD l lo hi))
def dSl (te : DE) (tl th : DO) : DE := fun l M P X => te l M (fun x M1 => tl l M1 (fun lo M2 => th l M2 (fun hi M3 => gSl x lo hi M3 fun d => P d M3) X) X) X
section
variable {X : Cx} {W : WX} {pos p2 : Pos} {e : Expr} {te : DE} {lo hi : Option Expr} {tl th : DO}
theorem jo_none : JO X W none dNoP := ⟨fun pins s σ H Q I ⟨f, l, M, P, Y, m, rl, h, k, kx⟩ => po_none.run pins s σ H Q I (k f H M none Lt.refl m h)⟩
theorem jo_some (h : JE X W e te) : JO X W (some e) (dPart te) := ⟨fun pins s σ H Q I ⟨f, l, M, P, Y, m, rl, hh, k, kx⟩ => (po_some h).run pins s σ H Q I ⟨f, l, M, _, Y, m, rl, hh, fun f' H' M' d v x m' r' ⟨i, e, p⟩ => by
  subst e
  exact ⟨i, r', k f' H' M' (some i) x m' p⟩, kx⟩⟩
theorem cut_rds {n : Nat} {f : Fr} {H : Hp} {l : List Dv} {vs : List V} {lo hi : Option Int} (r : RDs n f H l vs) : RDs n f H (cutD l lo hi) (cutV vs lo hi) := by
  unfold cutD cutV
  rw [r.length]
  exact (r.drop _).take _
theorem cut_len {l : List Dv} {lo hi : Option Int} (h : l.length ≤ sizeLine) : (cutD l lo hi).length ≤ sizeLine := by
  unfold cutD
  rw [List.length_take, List.length_drop]
  omega
theorem cut_all {l : List Dv} {lo hi : Option Int} (h : HT.sIx l.length 0 lo = 0 ∧ HT.sIx l.length l.length hi = l.length) : cutD l lo hi = l := by
  unfold cutD
  rw [h.1, h.2]
  simp
theorem je_slice (he : JE X W e te) (hl : JO X W lo tl) (hu : JO X W hi th) : JE X W (.Subscript e (.Slice lo hi none p2) pos) (dSl te tl th) :=
  pe_imp (pe_slice (sl_list.or sl_tupA) he hl hu) fun s H Q ⟨f, l, M, P, Y, m, rl, h, k, kx⟩ => ⟨f, l, M, _, Y, m, rl, h, fun f1 H1 M1 d v x1 m1 r1 h1 =>
    ⟨f1, l, M1, _, Y, m1, rl.mono x1, h1, fun f2 H2 M2 o x2 m2 h2 => ⟨f2, l, M2, _, Y, m2, rl.mono (x1.trans x2), h2, fun f3 H3 M3 o' x3 m3 h3 => by
      have r3 := (r1.mono x2).mono x3
      have lists : (∃ l, lstD M3 d = some l ∧ P (.lst (cutD l o o')) M3) → (∃ a xs, v = .ref a ∧ SqL X.K H3 a xs ∧ ∀ p, H3 p = none → Q (.ref p) (upd H3 p (.lst (cutV xs o o')))) := fun ⟨l, e, p⟩ => by
        obtain ⟨a, ys, rfl, hq, hr, hz⟩ := rd_lstM (K := X.K) m3 r3 e
        exact ⟨a, ys, rfl, hq, fun q hn => k _ _ M3 (.lst (cutD l o o')) _ (((x1.trans x2).trans x3).trans (Lt.same (same_new hn))) (m3.same (same_new hn)) (rd_lst m3 hn (cut_rds hr) (cut_len hz)) p⟩
      cases d with
      | tup l =>
        obtain ⟨a, ys, rfl, hq, hr, hz⟩ := rd_tupM (K := X.K) r3
        have hlen := hr.length
        refine .inr ⟨a, ys, rfl, hq, fun hw => ?_, fun _ q hn => k _ _ M3 (.tup (cutD l o o')) _ (((x1.trans x2).trans x3).trans (Lt.same (same_new hn))) (m3.same (same_new hn)) (rd_tup m3 hn (cut_rds hr) (cut_len hz)) h3⟩
        rw [hlen] at hw
        have h3' : P (.tup (cutD l o o')) M3 := h3
        rw [cut_all hw] at h3'
        exact k f3 H3 M3 (.tup l) _ ((x1.trans x2).trans x3) m3 r3 h3'
      | _ => exact .inl (lists h3), (kx.mono x1).mono x2⟩, kx.mono x1⟩, kx⟩
/-- xs[::-1] of a list -/
def dRev (te : DE) : DE := fun l M P X => te l M (fun d M1 => ∃ xs, lstD M1 d = some xs ∧ P (.lst xs.reverse) M1) X
def dRevM (te : DE) : DE := fun l M P X => te l M (fun d M1 => ∃ xs, lstD M1 d = some xs ∧ P (.ref M1.length) (M1 ++ [.lst xs.reverse])) X
theorem je_rev {k : Nat} {p1 p3 : Pos} (he : JE X W e te) : JE X W (.Subscript e (.Slice none none (some (.UnaryOp .USub (.Constant (.int 1) k p1) p2)) p3) pos) (dRev te) :=
  pe_imp (pe_revL he) fun s H Q ⟨f, l, M, P, Y, m, rl, h, k, kx⟩ => ⟨f, l, M, _, Y, m, rl, h, fun f1 H1 M1 d v x1 m1 r1 ⟨xs, e, p⟩ => by
    obtain ⟨a, ys, rfl, hq, hr, hz⟩ := rd_lstM (K := X.K) m1 r1 e
    exact ⟨a, ys, rfl, hq, fun q hn => k _ _ M1 (.lst xs.reverse) _ (x1.trans (Lt.same (same_new hn))) (m1.same (same_new hn)) (rd_lst m1 hn hr.rev (by rw [List.length_reverse]; exact hz)) p⟩, kx⟩
theorem je_revM {k : Nat} {p1 p3 : Pos} (he : JE X W e te) : JE X W (.Subscript e (.Slice none none (some (.UnaryOp .USub (.Constant (.int 1) k p1) p2)) p3) pos) (dRevM te) :=
  pe_imp (pe_revL he) fun s H Q ⟨f, l, M, P, Y, m, rl, h, k, kx⟩ => ⟨f, l, M, _, Y, m, rl, h, fun f1 H1 M1 d v x1 m1 r1 ⟨xs, e, p⟩ => by
    obtain ⟨a, ys, rfl, hq, hr, hz⟩ := rd_lstM (K := X.K) m1 r1 e
    exact ⟨a, ys, rfl, hq, fun q hn => k _ _ (M1 ++ [.lst xs.reverse]) (.ref M1.length) (.ref q) (x1.trans (lt_newl hn)) (rm_newl m1 hn hr.rev (by rw [List.length_reverse]; exact hz)) rd_newl p⟩, kx⟩
end
end D
end

section
set_option Elab.async false
set_option linter.all false
set_option maxRecDepth 100000
set_option maxHeartbeats 1000000
set_option autoImplicit false
/-! The deep layer, part 8: methods of lists that change, chained comparisons, calls with keywords, three at once. -/
namespace D
open PySem PySem.Spec PyProof.Rows L2
/-! ### methods -/
def dAppend (to : DE) (u : DA) : DE := fun l M P X => to l M (fun d M1 => ∃ i xs0, d = .ref i ∧ M1[i]? = some (.lst xs0) ∧
  u l M1 (fun ds M2 => ∃ y xs, ds = [y] ∧ M2[i]? = some (.lst xs) ∧ xs.length < sizeLine ∧ P .non (M2.set i (.lst (xs ++ [y])))) X) X
def dPop (to : DE) : DE := fun l M P X => to l M (fun d M1 => ∃ i xs y, d = .ref i ∧ M1[i]? = some (.lst xs) ∧ xs[xs.length - 1]? = some y ∧ P y (M1.set i (.lst xs.dropLast))) X
section
variable {X : Cx} {W : WX} {pos apos cpos : Pos} {o e : Expr} {to ta : DE}
theorem rm_lst {f : Fr} {H : Hp} {M : Mem} {i : Nat} {xs : List Dv} (m : RM f H M) (h : M[i]? = some (.lst xs)) : i < M.length ∧ xs.length ≤ sizeLine ∧ ∃ vs, H (f i) = some (.lst vs) ∧ RDs M.length f H xs vs :=
  have hr : xs.length ≤ sizeLine ∧ ∃ vs, H (f i) = some (.lst vs) ∧ RDs M.length f H xs vs := m.ob i _ h
  ⟨(List.getElem?_eq_some_iff.mp h).1, hr⟩
/-- a list of the memory gets other items -/
theorem rm_put {f : Fr} {H : Hp} {M : Mem} {i : Nat} {ys : List Dv} {vs us : List V} (m : RM f H M) (hi : i < M.length) (hH : H (f i) = some (.lst vs)) (hz : ys.length ≤ sizeLine) (r : RDs M.length f H ys us) :
    Lt M.length f H (M.set i (.lst ys)).length f (upd H (f i) (.lst us)) ∧ RM f (upd H (f i) (.lst us)) (M.set i (.lst ys)) := by
  have L' : Lt M.length f H M.length f (upd H (f i) (.lst us)) := lt_set hi (by rw [hH]; exact fun e => by cases e)
  exact ⟨by rw [List.length_set]; exact L', m.set hi ⟨hz, us, upd_same, r.mono L'⟩⟩
theorem je_append {u : DA} (ho : JE X W o to) (ha : JA X W [e] u)
    (hbase : attributeBase o "append" X.env (eval o X.env) = eval o X.env := by rfl)
    (hfew : ((backTo cpos (starEach [e] X.env)).all (fun x => !x.1) && (backToKw cpos (keywordEach [] X.env)).all (fun x => x.1.isSome)
      && decide ([e].length + ([] : List Keyword).length + (if ([] : List Keyword).isEmpty then 0 else 1) < 30)) = true := by rfl)
    (hline : (apos.endLine == cpos.line) = true := by rfl) (hs : starEach [e] X.env = (false, eval e X.env) :: starEach [] X.env := by rfl) (hplain : (backTo cpos (starEach [] X.env)).any (·.1) = false := by rfl) :
    JE X W (.Call (.Attribute o "append" apos) [e] [] cpos) (dAppend to u) :=
  pe_imp (pe_bm PySem.F.plainAttrs_list PySem.F.slot_list_append PySem.F.type_list_append mt_append ho ha hbase hfew hline hs hplain) fun s H Q ⟨f, l, M, P, Y, m, rl, h, k, kx⟩ =>
    ⟨f, l, M, _, Y, m, rl, h, fun f1 H1 M1 d v x1 m1 r1 ⟨i, xs0, ed, e0, h1⟩ => by
      subst ed
      obtain ⟨hi, rfl⟩ : i < M1.length ∧ v = .ref (f1 i) := r1
      obtain ⟨_, _, vs0, hH0, _⟩ := rm_lst m1 e0
      refine ⟨.inl ⟨rfl, vs0, .inl (.inl hH0)⟩, f1, l, M1, _, Y, m1, rl.mono x1, h1, fun f2 H2 M2 ds us x2 m2 r2 ⟨y, xs, ed, e2, hz, p⟩ => ?_, kx.mono x1⟩
      subst ed
      obtain ⟨w, rfl, rw_⟩ := rds1 r2
      obtain ⟨hi2, hz2, vs, hH, hv⟩ := rm_lst m2 e2
      have ea : f2 i = f1 i := x2.ag i hi
      obtain ⟨L3, m3⟩ := rm_put (ys := xs ++ [y]) (us := vs ++ [w]) m2 hi2 hH (by rw [List.length_append]; simp; omega) (hv.app (.cons rw_ .nil))
      refine ⟨f1 i, vs, w, rfl, rfl, by rw [← ea]; exact hH, by rw [hv.length]; exact hz, ?_⟩
      rw [← ea]
      exact k f2 _ _ .non .non ((x1.trans x2).trans L3) m3 rfl p, kx⟩
theorem je_pop (ho : JE X W o to) (hbase : attributeBase o "pop" X.env (eval o X.env) = eval o X.env := by rfl) (hline : (apos.endLine == cpos.line) = true := by rfl) : JE X W (.Call (.Attribute o "pop" apos) [] [] cpos) (dPop to) :=
  pe_imp (pe_bm0 PySem.F.plainAttrs_list PySem.F.slot_list_pop PySem.F.type_list_pop mt_pop ho hbase hline) fun s H Q ⟨f, l, M, P, Y, m, rl, h, k, kx⟩ =>
    ⟨f, l, M, _, Y, m, rl, h, fun f1 H1 M1 d v x1 m1 r1 ⟨i, xs, y, ed, e0, ey, h1⟩ => by
      subst ed
      obtain ⟨hi, rfl⟩ : i < M1.length ∧ v = .ref (f1 i) := r1
      obtain ⟨_, hz, vs, hH, hv⟩ := rm_lst m1 e0
      obtain ⟨w, ew, rw_⟩ := hv.get ey
      obtain ⟨L3, m3⟩ := rm_put (ys := xs.dropLast) (us := vs.dropLast) m1 hi hH (by rw [List.length_dropLast]; omega) (by
        rw [List.dropLast_eq_take, List.dropLast_eq_take, hv.length]; exact hv.take _)
      exact ⟨.inl ⟨rfl, vs, .inl (.inl hH)⟩, f1 i, vs, w, rfl, rfl, hH, by rw [hv.length]; exact ew, k f1 _ _ y w (x1.trans L3) m3 (rw_.mono L3) h1⟩, kx⟩
end
/-! ### a op b op c -/
def dChain (g g' : Dv → Dv → Mem → (Dv → Prop) → Prop) (ta tb tc : DE) : DE := fun l M P X => ta l M (fun x M1 => tb l M1 (fun y M2 => g x y M2 fun z => ∃ k, z = .bl k ∧
  if k = true then tc l M2 (fun w M3 => g' y w M3 fun d => P d M3) X else P (.bl false) M2) X) X
section
variable {X : Cx} {W : WX} {pos : Pos} {a b c : Expr} {ta tb tc : DE} {op op' : CmpOp} {r r' : R2} {g g' : Dv → Dv → Mem → (Dv → Prop) → Prop}
theorem chain_T (hg : Op2 r g) (hg' : Op2 r' g') (s : L2.St) (H : Hp) (Q : VK) (h : lE W (dChain g g' ta tb tc) s H Q) : tChain r r' (lE W ta) (lE W tb) (lE W tc) s H Q := by
  obtain ⟨f, l, M, P, Y, m, rl, h, k, kx⟩ := h
  refine ⟨f, l, M, _, Y, m, rl, h, fun f1 H1 M1 x v L1 m1 r1 h1 => ?_, kx⟩
  refine ⟨f1, l, M1, _, Y, m1, rl.mono L1, h1, fun f2 H2 M2 y u L2 m2 r2 h2 => ?_, kx.mono L1⟩
  refine hg f2 H2 M2 x y v u _ _ m2 (r1.mono L2) r2 h2 fun w H3 d sm rd ⟨kk, ed, h3⟩ => ?_
  subst ed
  have L3 := (L1.trans L2).trans (Lt.same sm)
  have m3 := m2.same sm
  refine ⟨kk, rd, ?_⟩
  cases kk with
  | false =>
    rw [if_neg Bool.false_ne_true] at h3 ⊢
    exact k f2 H3 M2 (.bl false) _ L3 m3 rfl h3
  | true =>
    rw [if_pos rfl] at h3 ⊢
    refine ⟨f2, l, M2, _, Y, m3, rl.mono L3, h3, fun f4 H4 M4 z w' L4 m4 r4 h4 => ?_, kx.mono L3⟩
    exact hg' f4 H4 M4 y z u w' _ Q m4 ((r2.mono (Lt.same sm)).mono L4) r4 h4 fun w5 H5 d sm5 rd5 p => k f4 H5 M4 d w5 ((L3.trans L4).trans (Lt.same sm5)) (m4.same sm5) rd5 p
theorem je_chain (ho : OpR X (compareOp op) r) (ho' : OpR X (compareOp op') r') (hg : Op2 r g) (hg' : Op2 r' g') (ha : JE X W a ta) (hb : JE X W b tb) (hc : JE X W c tc)
    (hm : lastMarks [op, op'] [b, c] = false := by with_unfolding_all rfl) : JE X W (.Compare a [op, op'] [b, c] pos) (dChain g g' ta tb tc) := pe_imp (pe_chain ho ho' ha hb hc hm) (chain_T hg hg')
theorem jt_chain (ho : OpR X (compareOp op) r) (ho' : OpR X (compareOp op') r') (hg : Op2 r g) (hg' : Op2 r' g') (ha : JE X W a ta) (hb : JE X W b tb) (hc : JE X W c tc)
    (hm : lastMarks [op, op'] [b, c] = false := by with_unfolding_all rfl) : JT X W (.Compare a [op, op'] [b, c] pos) (dTest (dChain g g' ta tb tc)) :=
  pt_imp (pt_chain ho ho' ha hb hc hm) fun s H Q h => by
    obtain ⟨f, l, M, P, Y, m, rl, h, k, kx⟩ := h
    refine chain_T hg hg' s H _ ⟨f, l, M, _, Y, m, rl, h, fun f1 H1 M1 x v L1 m1 r1 h1 => ?_, kx⟩
    obtain ⟨c, rfl, p⟩ := h1
    exact ⟨c, r1, k f1 H1 M1 c L1 m1 p⟩
end
/-! ### three names at once -/
section
variable {X : Cx} {W : WX} {pos : Pos} {a b c : Expr}
theorem js_par3 {i j q : Nat} {x y z : Str} {u : DA} {px py pz pt : Pos} {kt k2 pt2} (hc : X.calm = true) (hN : X.N.Nodup) (hi : X.N[i]? = some x) (hj : X.N[j]? = some y) (hl : X.N[q]? = some z) (hij : i ≠ j) (hil : i ≠ q) (hjl : j ≠ q)
    (hx : X.env.scope.names.lookup x = some .local) (hy : X.env.scope.names.lookup y = some .local) (hz : X.env.scope.names.lookup z = some .local) (ha : JA X W [a, b, c] u)
    (hw : swappedStores [.Tuple [.Name x px, .Name y py, .Name z pz] kt pt] (.Tuple [a, b, c] k2 pt2) X.env = pure (some [x, y, z]))
    (hs : swapsWithSole [.Tuple [.Name x px, .Name y py, .Name z pz] kt pt] (.Tuple [a, b, c] k2 pt2) pos.line X.env = pure false := by rfl) :
    JS X W (.Assign [.Tuple [.Name x px, .Name y py, .Name z pz] kt pt] (.Tuple [a, b, c] k2 pt2) pos) (dPar3 i j q u) :=
  ps_imp (ps_par3 hc hN hi hj hl hij hil hjl hx hy hz ha hw hs) dpar3_T
end
/-! ### calls with keywords -/
/-- of l the items at the places ix -/
def pick {α : Type} : List Nat → List α → List α
  | [], _ => []
  | i :: r, l => match l[i]? with
    | some x => x :: pick r l
    | none => pick r l
theorem pick_vals {vs : List V} {us : List Value} (h : Vals vs us) : ∀ ix : List Nat, Vals (pick ix vs) (pick ix us)
  | [] => .nil
  | i :: r => by
    have hl := h.length
    unfold pick
    cases e : vs[i]? with
    | some x =>
      obtain ⟨u, eu, ru⟩ := h.get e
      rw [eu]
      exact .cons ru (pick_vals h r)
    | none =>
      have hu : us[i]? = none := by
        rw [List.getElem?_eq_none_iff] at e ⊢
        omega
      rw [hu]
      exact pick_vals h r
theorem pick_rds {n : Nat} {f : Fr} {H : Hp} {ds : List Dv} {vs : List V} (h : RDs n f H ds vs) : ∀ ix : List Nat, RDs n f H (pick ix ds) (pick ix vs)
  | [] => rfl
  | i :: r => by
    have hl := h.length
    unfold pick
    cases e : ds[i]? with
    | some x =>
      obtain ⟨u, eu, ru⟩ := h.get e
      rw [eu]
      exact .cons ru (pick_rds h r)
    | none =>
      have hu : vs[i]? = none := by
        rw [List.getElem?_eq_none_iff] at e ⊢
        omega
      rw [hu]
      exact pick_rds h r
/-- n values and keywords named ks bind so -/
structure KwB (fd : FuncData) (ps : List Str) (n : Nat) (ks : List Str) (ix : List Nat) : Prop where
  to : ∀ us ws : List Value, us.length = n → ws.length = ks.length → bindArgs fd ⟨us, ks.zip ws⟩ = pure (ps.zip (pick ix (us ++ ws)))
abbrev JK (X : Cx) (W : WX) (kws : List Keyword) (t : DA) : Prop := PK X kws (lA W t)
def dCallK (S : DSp) (ix : List Nat) (n m : Nat) (u uk : DA) : DE := fun l M P X => u l M (fun ds M1 => uk l M1 (fun zs M2 => ds.length = n ∧ zs.length = m ∧ S (pick ix (ds ++ zs)) M2 P X) X) X
section
variable {X : Cx} {W : WX} {pos p kpos : Pos} {e : Expr} {es : List Expr} {kws : List Keyword} {u uk : DA} {te : DE} {nm : Option Str} {ps ks : List Str} {n : Nat} {ix : List Nat} {S : DSp} {k : Nat} {f : Addr} {fd : FuncData} {x : Str}
theorem jk_nil : JK X W [] dNil := ⟨fun _ pins s σ H Q I ⟨f, l, M, P, Y, m, rl, h, k, kx⟩ => wpAny_evalAll_nil ⟨[], H, I, .nil, k f H M [] [] Lt.refl m rfl h⟩⟩
theorem jk_cons (ha : JE X W e te) (hr : JK X W kws u) : JK X W (⟨nm, e, kpos⟩ :: kws) (dCons te u) := ⟨fun pos pins s σ H Q I ⟨f, l, M, P, Y, m, rl, h, k, kx⟩ => (pk_cons (nm := nm) (kpos := kpos) ha hr).run pos pins s σ H Q I
  ⟨f, l, M, _, Y, m, rl, h, fun f1 H1 M1 d v L1 m1 r1 h1 => ⟨f1, l, M1, _, Y, m1, rl.mono L1, h1, fun f2 H2 M2 ds vs L2 m2 r2 h2 => k f2 H2 M2 (d :: ds) (v :: vs) (L1.trans L2) m2 (.cons (r1.mono L2) r2) h2, kx.mono L1⟩, kx⟩⟩
theorem run_k (F : FnG X.prog X.w X.K X.mg X.base k f fd ps S) (hr : Room k X.A) (hgu : X.A.guards = some []) (tk : Takes X W) (hb : KwB fd ps n ks ix) {pins : List (Addr × Obj)} {σ : L2.St} {H : Hp} {s : Shared} {Q : VK} {us ws : List Value} {vs zs : List V} {ds es : List Dv} {f0 : Fr} {M : Mem} {Pd : PD} {Y : PX}
    (I : Inv X pins σ H s) (r : Vals vs us) (rz : Vals zs ws) (m : RM f0 H M) (rd : RDs M.length f0 H ds vs) (re : RDs M.length f0 H es zs) (l1 : ds.length = n) (l2 : es.length = ks.length) (h : S (pick ix (ds ++ es)) M Pd Y)
    (kk : KE M.length f0 H Pd Q) (kx : KX W σ M.length f0 H Y) : wpAny (model X.prog X.w) X.A (call (.ref f) us (ks.zip ws)) (EP X pins σ Q) X.xe s := by
  have rr := pick_vals (r.append rz) ix
  have b : BindsTo s fd ⟨us, ks.zip ws⟩ (ps.zip (pick ix (us ++ ws))) := .of_eq (hb.to us ws (by rw [← r.length, rd.length, l1]) (by rw [← rz.length, re.length, l2]))
  refine wpAny_call (codeAny_mono (run_g F hr hgu (E := WE W) (passAt tk σ) I b rr ⟨f0, M, _, Pd, Y, m, pick_rds (rd.app re) ix, h, kk, fun f' H' M' C d a L2 m2 r2 h2 => kx f' H' M' C d a L2 m2 r2 h2⟩) fun res s' hq => ?_)
  cases res with
  | error e => exact hq
  | ok fl => cases fl <;> exact hq
theorem je_callK0 (F : FnG X.prog X.w X.K X.mg X.base k f fd ps S) (hr : Room k X.A) (hgu : X.A.guards = some []) (tk : Takes X W) (hg : Gl X x) (hm : X.mg x = some (.ref f)) (hk : PySem.W.keepIn X.K (.ref f) = true) (hb : KwB fd ps 0 ks ix)
    (hkw : JK X W kws uk) (hall : (backToKw pos (keywordEach kws X.env)).all (·.1.isSome) = true := by rfl) (hks : (backToKw pos (keywordEach kws X.env)).filterMap (·.1) = ks := by rfl) (hdb : (x == ("__debug__" : Str)) = false := by decide)
    (hpl : ((backTo pos (starEach [] X.env)).any (·.1) || (backToKw pos (keywordEach kws X.env)).any (·.1.isNone)) = false := by rfl) :
    JE X W (.Call (.Name x p) [] kws pos) (dCallK S ix 0 ks.length dNil uk) := by
  refine ⟨fun pins s σ H Q I ⟨f0, l, M, Pd, Y, m, rl, h, kk, kx⟩ => ?_⟩
  refine wpAny_Call_Name_kw (ld_glob I hg hm ?_ hdb)
  refine PySem.W.callWith_KW0 (h₀ := X.base) I.ok.mod.kin hk hall ?_ hpl
  refine thn (hkw.run pos pins s σ H (fun zs H2 => ∃ (f2 : Fr) (M2 : Mem) (es : List Dv), Lt M.length f0 H M2.length f2 H2 ∧ RM f2 H2 M2 ∧ RDs M2.length f2 H2 es zs ∧ es.length = ks.length ∧ S (pick ix ([] ++ es)) M2 Pd Y) I
    ⟨f0, l, M, _, Y, m, rl, h, fun f1 H1 M1 zs vs L1 m1 r1 ⟨_, h1, h2⟩ => ⟨f1, M1, zs, L1, m1, r1, h1, h2⟩, kx⟩) fun ws s2 ⟨zs, H2, I2, rz, f2, M2, es, L2, m2, re, l2, q2⟩ => ⟨I2.kIn, ?_⟩
  rw [hks]
  exact run_k F hr hgu tk hb (us := []) (vs := []) (ds := []) I2 .nil rz m2 rfl re rfl l2 q2 (kk.mono L2) (kx.mono L2)
theorem je_callK (F : FnG X.prog X.w X.K X.mg X.base k f fd ps S) (hr : Room k X.A) (hgu : X.A.guards = some []) (tk : Takes X W) (hg : Gl X x) (hm : X.mg x = some (.ref f)) (hk : PySem.W.keepIn X.K (.ref f) = true) (hb : KwB fd ps n ks ix)
    (ha : JA X W (e :: es) u) (hkw : JK X W kws uk) (hall : (backToKw pos (keywordEach kws X.env)).all (·.1.isSome) = true := by rfl) (hks : (backToKw pos (keywordEach kws X.env)).filterMap (·.1) = ks := by rfl) (hdb : (x == ("__debug__" : Str)) = false := by decide)
    (he : starEach (e :: es) X.env = (false, eval e X.env) :: starEach es X.env := by rfl)
    (hpl : ((backTo pos (starEach (e :: es) X.env)).any (·.1) || (backToKw pos (keywordEach kws X.env)).any (·.1.isNone)) = false := by rfl) :
    JE X W (.Call (.Name x p) (e :: es) kws pos) (dCallK S ix n ks.length u uk) := by
  refine ⟨fun pins s σ H Q I ⟨f0, l, M, Pd, Y, m, rl, h, kk, kx⟩ => ?_⟩
  refine wpAny_Call_Name_kw (ld_glob I hg hm ?_ hdb)
  refine PySem.W.callWith_KW (h₀ := X.base) I.ok.mod.kin hk hall (thn (ha.run pos pins s σ H (fun vs H1 => ∃ (f1 : Fr) (M1 : Mem) (ds : List Dv), Lt M.length f0 H M1.length f1 H1 ∧ RM f1 H1 M1 ∧ RDs M1.length f1 H1 ds vs ∧
      uk l M1 (fun zs M2 => ds.length = n ∧ zs.length = ks.length ∧ S (pick ix (ds ++ zs)) M2 Pd Y) Y) I
    ⟨f0, l, M, _, Y, m, rl, h, fun f1 H1 M1 ds vs L1 m1 r1 h1 => ⟨f1, M1, ds, L1, m1, r1, h1⟩, kx⟩) fun us s1 ⟨vs, H1, I1, r, f1, M1, ds, L1, m1, rd, q⟩ => ?_) hpl he
  refine thn (hkw.run pos pins s1 σ H1 (fun zs H2 => ∃ (f2 : Fr) (M2 : Mem) (es : List Dv), Lt M1.length f1 H1 M2.length f2 H2 ∧ RM f2 H2 M2 ∧ RDs M2.length f2 H2 es zs ∧ ds.length = n ∧ es.length = ks.length ∧ S (pick ix (ds ++ es)) M2 Pd Y) I1
    ⟨f1, l, M1, _, Y, m1, rl.mono L1, q, fun f2 H2 M2 zs vs L2 m2 r2 ⟨h0, h1, h2⟩ => ⟨f2, M2, zs, L2, m2, r2, h0, h1, h2⟩, kx.mono L1⟩) fun ws s2 ⟨zs, H2, I2, rz, f2, M2, es, L2, m2, re, l1, l2, q2⟩ => ⟨I2.kIn, ?_⟩
  rw [hks]
  exact run_k F hr hgu tk hb I2 r rz m2 (rd.mono L2) re l1 l2 q2 (kk.mono (L1.trans L2)) (kx.mono (L1.trans L2))
end
end D
end

section
set_option Elab.async false
set_option linter.all false
set_option maxRecDepth 100000
set_option maxHeartbeats 1000000
set_option autoImplicit false
/-! The deep layer, part 9: the script, the law's end. -/
namespace D
open PySem PySem.Spec PyProof.Rows L2
/-- at a stands a list of these numbers, one of the written part -/
def KScr (K : PySem.W.Frag) (a : Addr) (ns : List Int) : Prop := ∀ H : Hp, SqL K H a (ns.map V.int)
/-- the script -/
def ScrD (K : PySem.W.Frag) (d : Dv) (ns : List Int) : Prop := d = .frz (ns.map Dv.int) ∨ ∃ a, d = .adr a ∧ KScr K a ns
/-- script[lo:hi] -/
def dSlS (K : PySem.W.Frag) (te : DE) (tl th : DO) : DE := fun l M P X => te l M (fun x M1 => tl l M1 (fun lo M2 => th l M2 (fun hi M3 => ∃ ns, ScrD K x ns ∧ ns.length ≤ sizeLine ∧ P (.lst (cutD (ns.map Dv.int) lo hi)) M3) X) X) X
section
variable {X : Cx} {W : WX} {pos p2 : Pos} {e : Expr} {te : DE} {lo hi : Option Expr} {tl th : DO}
theorem scr_sq {K : PySem.W.Frag} {f : Fr} {H : Hp} {M : Mem} {d : Dv} {v : V} {ns : List Int} (m : RM f H M) (r : RD M.length f H d v) (s : ScrD K d ns) : ∃ a, v = .ref a ∧ SqL K H a (ns.map V.int) := by
  rcases s with rfl | ⟨a, rfl, h⟩
  · obtain ⟨_, a, o, xs, rfl, hx, _, hr⟩ : (ns.map Dv.int).length ≤ sizeLine ∧ ∃ a o xs, v = .ref a ∧ H a = some (.frz o (.lst xs)) ∧ Bes M.length f a ∧ RDs M.length f H (ns.map Dv.int) xs := r
    rw [rds_ints hr] at hx
    exact ⟨a, rfl, .inl (.inr ⟨o, hx⟩)⟩
  · exact ⟨a, r, h H⟩
theorem cut_ints (ns : List Int) (lo hi : Option Int) : ∃ ms : List Int, cutD (ns.map Dv.int) lo hi = ms.map Dv.int ∧ cutV (ns.map V.int) lo hi = ms.map V.int ∧ ms.length ≤ ns.length := by
  refine ⟨(ns.drop (HT.sIx ns.length 0 lo)).take (HT.sIx ns.length ns.length hi - HT.sIx ns.length 0 lo), ?_, ?_, ?_⟩
  · unfold cutD; rw [List.length_map, List.map_take, List.map_drop]
  · unfold cutV; rw [List.length_map, List.map_take, List.map_drop]
  · rw [List.length_take, List.length_drop]; omega
theorem je_sliceS (he : JE X W e te) (hl : JO X W lo tl) (hu : JO X W hi th) : JE X W (.Subscript e (.Slice lo hi none p2) pos) (dSlS X.K te tl th) :=
  pe_imp (pe_slice sl_list he hl hu) fun s H Q ⟨f, l, M, P, Y, m, rl, h, k, kx⟩ => ⟨f, l, M, _, Y, m, rl, h, fun f1 H1 M1 d v x1 m1 r1 h1 =>
    ⟨f1, l, M1, _, Y, m1, rl.mono x1, h1, fun f2 H2 M2 o x2 m2 h2 => ⟨f2, l, M2, _, Y, m2, rl.mono (x1.trans x2), h2, fun f3 H3 M3 o' x3 m3 ⟨ns, hs, hz, p⟩ => by
      obtain ⟨a, rfl, hq⟩ := scr_sq m3 ((r1.mono x2).mono x3) hs
      obtain ⟨ms, e1, e2, e3⟩ := cut_ints ns o o'
      refine ⟨a, _, rfl, hq, fun q hn => ?_⟩
      rw [e2]
      rw [e1] at p
      exact k _ _ M3 (.lst (ms.map Dv.int)) _ (((x1.trans x2).trans x3).trans (Lt.same (same_new hn))) (m3.same (same_new hn)) (rd_lst m3 hn ints_rds (by rw [List.length_map]; omega)) p, (kx.mono x1).mono x2⟩, kx.mono x1⟩, kx⟩
end
/-! ### the law's end -/
section
variable {P : Program} {w : World} {K : PySem.W.Frag} {mg mb : Str → Option Value} {k : Nat} {fa a : Addr} {fd : FuncData} {x : Str} {S : DSp} {s : Shared}
/-- the law's def answers True for any such script -/
def SLaw (K : PySem.W.Frag) (n : Nat) : DSp := fun ds M Pd _ => ∃ d ns, ds = [d] ∧ ScrD K d ns ∧ ns.length ≤ n ∧ ∀ M', Pd (.bl true) M'
theorem law_run {H : Hp} {d : Dv} {ns : List Int} {n : Nat} (KX : K.In s.heap) (hns : s.heap.Ns mainGlobals mg) (hb : s.heap.Ns builtinsNs mb) (hbb : ∀ x : Str, x ≠ "__name__" → mb x = bootBuiltins x) (hlim : s.heap.NoLimit) (hg : s.gens = #[]) (hr : Room k callerA)
    (F : ∀ base : Heap, K.In base → base.Ns mainGlobals mg → FnG P w K mg base k fa fd [x] (SLaw K n)) (hbind : ∀ (s : Shared) (u : Value), BindsTo s fd ⟨[u], []⟩ [(x, u)])
    (hok : HOk P w H s.heap) (out : ∀ b o, K.lookup b = some o → H b = none) (outN : ∀ (b : Addr) (o : Obj) (es : Array DictEntry) (ep : Nat), s.heap.get? b = some o → o.data = .dict es ep → H b = none)
    (fz : ∀ b u, H b = some u → ∃ o v, u = .frz o v) (hd : ScrD K d ns) (hl : ns.length ≤ n) (rd : RD 0 ⟨fun _ => 0, fun _ => False⟩ H d (.ref a)) :
    codeAny (model P w) callerA (.call (.ref fa) ⟨[.ref a], []⟩) (fun r s' => r = .ok (.ret (.bool true)) ∧ OldK s.heap s'.heap ∧ s'.os = s.os ∧ AllBare s'.gens) s := by
  have nsK : ∀ {b : Addr} {m : Str → Option Value}, s.heap.Ns b m → (hidT s.heap H).Ns b m := fun {b m} ⟨o, es, ep, e, dd, r⟩ => ⟨o, es, ep, hidT_get e (outN b o es ep e dd), dd, r⟩
  have kin : K.In (hidT s.heap H) := fun b o e => hidT_get (KX b o e) (out b o e)
  have md : Mod K mg (hidT s.heap H) := ⟨kin, nsK hns, ⟨mb, nsK hb, hbb⟩, let ⟨mc, h1, h2⟩ := hlim; ⟨mc, nsK h1, h2⟩⟩
  have e0 : Env0 P w K mg (hidT s.heap H) callerA [] s H := ⟨rfl, md, fun b o e => of_hidT e, Nat.le_of_eq (hidT_size _ _), trivial, fun b hb => absurd (show b ∈ ([] : List Addr) from hb) (by simp), hok, .of_eq hg⟩
  have call := (F _ kin (nsK hns)).run callerA [] s H ⟨[.ref a], []⟩ [.ref a] [.ref a] (fun v _ => v = .bl true) (fun _ _ _ => False) hr rfl e0 (hbind s (.ref a)) (.cons rfl .nil)
    ⟨⟨fun _ => 0, fun _ => False⟩, [], [d], fun d' _ => d' = .bl true, noX, ⟨fun i o e => by simp at e, fun i j h => absurd h (Nat.not_lt_zero _), fun a z => z.elim⟩, .cons rd .nil, ⟨d, ns, rfl, hd, hl, fun _ => rfl⟩,
      fun f' H' M' d' v _ _ r e => by subst e; exact r, fun _ _ _ _ _ _ _ _ _ z => z⟩
  refine codeAny_mono call fun r s' h => ?_
  cases r with
  | error e => obtain ⟨_, _, _, _, _, _, _, _, _, _, _, _, z⟩ := (show L2.CX P w [] H s (fun _ _ _ => False) e s' from h); exact z.elim
  | ok fl =>
    cases fl with
    | next => exact (show False from h).elim
    | brk => exact (show False from h).elim
    | cont => exact (show False from h).elim
    | ret u =>
      obtain ⟨v, H', os, bare, un, hok', rv, q⟩ := h
      have q' : v = .bl true := q
      subst q'
      obtain rfl : u = Value.bool true := rv
      refine ⟨rfl, OldK.of_keep fun b o e => ?_, os, bare⟩
      cases z : H b with
      | none => exact un.keep b o e z (by intro w; exact absurd (show b ∈ ([] : List Addr) from w) (by simp)) (by simp)
      | some u =>
        obtain ⟨oo, vv, rfl⟩ := fz b u z
        have g1 := (hok b _ z).1
        rw [e] at g1
        cases g1
        exact (hok' b _ (un.frzs b _ vv z)).1
end
open PySem.W in
theorem walk_G {l : PySem.W.OpenLaw} {n k : Nat} {q : Program} {loose : List Str} {XP : (Str → Option Value) → Heap → Prop} {YP : World → Heap → Prop} {d : DefRec} {x : Str}
    (hn : l.most = some n) (hn2 : n ≤ sizeLine) (hdf : d.params.defaults = []) (hr : Room k callerA)
    (F : ∀ (w : World) (mg : Str → Option Value) (fa : Addr) (h : Heap), YP w h → h.Ns mainGlobals mg → mg d.name = some (.ref fa) →
      ∃ (K : PySem.W.Frag) (fd : FuncData), K.In h ∧ (∀ (s : Shared) (u : Value), BindsTo s fd ⟨[u], []⟩ [(x, u)]) ∧
        ∀ base : Heap, K.In base → base.Ns mainGlobals mg → FnG l.prog w K mg base k fa fd [x] (SLaw K n)) :
    PySem.W.WalkO q loose XP YP l.row.toRowW d [] (fun f vs => PySem.call f vs) := by
  refine Att.attach_call hn hdf fun w s₀ s₁ mg mb fa o pm cd doc a vs ns G Y ho hd hcd hmg hobj hints hlen hg => ?_
  obtain ⟨K, fd, KX, hb, hF⟩ := F w mg fa _ Y G.T.g hmg
  have rv := vals_ints hints
  have hz : ns.length ≤ sizeLine := Nat.le_trans hlen hn2
  have lenV := hints.length
  cases hk : K.lookup a with
  | some o' =>
    have e := KX a o' hk
    rw [hobj] at e
    cases e
    have ks : KScr K a ns := fun H => .inr ⟨_, vs.toArray, _, hk, rfl, rfl, rfl, by rw [List.size_toArray, lenV]; exact hz, by simpa using rv⟩
    exact law_run (H := fun _ => none) (d := .adr a) KX G.T.g G.T.b G.T.builtins G.T.nolimit hg hr hF hb (fun b u z => by cases (show (none : Option HO) = some u from z)) (fun _ _ _ => rfl) (fun _ _ _ _ _ _ => rfl)
      (fun b u z => by cases (show (none : Option HO) = some u from z)) (.inr ⟨a, rfl, ks⟩) hlen rfl
  | none =>
    let H0 : Hp := fun b => if b = a then some (.frz { cls := .type "list", data := .seq vs.toArray } (.lst (ns.map V.int))) else none
    have at_a : H0 a = some (.frz { cls := .type "list", data := .seq vs.toArray } (.lst (ns.map V.int))) := if_pos rfl
    have at_n : ∀ {b : Addr}, b ≠ a → H0 b = none := fun h => if_neg h
    have un_a : ∀ {b : Addr} {u : HO}, H0 b = some u → b = a ∧ u = .frz { cls := .type "list", data := .seq vs.toArray } (.lst (ns.map V.int)) := fun {b u} z => by
      by_cases h : b = a
      · subst h; rw [at_a] at z; exact ⟨rfl, (Option.some.inj z).symm⟩
      · rw [at_n h] at z; cases z
    refine law_run (H := H0) (d := .frz (ns.map Dv.int)) KX G.T.g G.T.b G.T.builtins G.T.nolimit hg hr hF hb (fun b u z => ?_) (fun b o' e => ?_) (fun b o' es ep e dd => ?_) (fun b u z => ?_) (.inl rfl) hlen ?_
    · obtain ⟨rfl, rfl⟩ := un_a z
      exact ⟨hobj, by rw [List.length_map]; exact hz, vs, _, rv, hobj⟩
    · exact at_n fun z => by rw [z, hk] at e; cases e
    · exact at_n fun z => by
        subst z
        rw [hobj] at e
        cases e
        have d' : Data.seq vs.toArray _ = Data.dict es ep := dd
        cases d'
    · obtain ⟨_, rfl⟩ := un_a z
      exact ⟨_, _, rfl⟩
    · exact ⟨by rw [List.length_map]; exact hz, a, _, _, rfl, at_a, ⟨fun i hi => absurd hi (Nat.not_lt_zero _), fun z => z⟩, ints_rds⟩
end D
end

section
set_option Elab.async false
set_option linter.all false
set_option maxRecDepth 100000
set_option maxHeartbeats 1000000
set_option autoImplicit false
/-! The deep layer, part 10: repr; the built-in calls by name. -/
namespace D
open PySem PySem.Spec PyProof.Rows L2
def rRepr (K : PySem.W.Frag) : List V → Hp → VK → Prop := fun xs H Q => ∃ v d, xs = [v] ∧ Dp K H v d ∧ d.showable = true ∧ d.canLay0 = true ∧ d.depth ≤ 60 ∧ d.shown.length ≤ sizeLine ∧ Q (.str d.shown) H
theorem cr_repr {X : Cx} {k : Nat} (hr : Room k X.A) (hgu : X.A.guards = some []) : CallR X (.builtin "repr") (rRepr X.K) := by
  intro pins s σ H xs us Q I r h
  obtain ⟨v, d, rfl, hd, hs, hl, hdp, hz, q⟩ := h
  obtain ⟨u, rfl, rx⟩ := vals1 r
  obtain ⟨as, rr⟩ := Dp.reads I d v u hd rx
  have hun := hr.un
  have cont : ∀ {a : Addr}, u = .ref a → wpAny (model X.prog X.w) X.A (call (.builtin "repr") [u]) (EP X pins σ Q) X.xe s := fun {a} e => by
    subst e
    exact repr_of_reads' rr hs (PyData.noDict_hsm (PyData.hasDict_of_canLay d hl)) hgu (by omega) (fun _ _ e => e) (fun h' t tk k => ⟨.str d.shown, H, I.kept k, ⟨_, rfl⟩, q⟩) hz
  cases rr with
  | none => exact P.repr_of_none ⟨.str _, H, I.tok _, ⟨_, rfl⟩, q⟩
  | bool b => exact P.repr_of_bool ⟨.str _, H, I.tok _, ⟨_, rfl⟩, q⟩
  | int i t => exact P.repr_of_int (of_decide_eq_true hs) ⟨.str _, H, I.tok _, ⟨_, rfl⟩, q⟩
  | str x t => exact P.repr_of_str ⟨.str _, H, I.tok _, ⟨_, rfl⟩, q⟩ hz
  | list _ _ _ _ => exact cont rfl
  | tuple _ _ _ _ => exact cont rfl
  | dict _ _ _ _ _ => exact cont rfl
/-- repr of data -/
def gRepr : List Dv → Mem → (Dv → Prop) → Prop := fun ds M P => ∃ d, ds = [d] ∧ okD (res M d) 60 = true ∧ (toP (res M d)).showable = true ∧ (toP (res M d)).shown.length ≤ sizeLine ∧ P (.str (toP (res M d)).shown)
theorem o_repr {K : PySem.W.Frag} : Opn (rRepr K) gRepr := fun f H M xs vs P Q m r ⟨d, e, o, hs, hz, p⟩ fin => by
  subst e
  obtain ⟨v, rfl, rd⟩ := rds1 r
  obtain ⟨h1, h2⟩ := lay_toP o
  exact ⟨v, _, rfl, rd_res m rd o, hs, h1, h2, hz, fin _ H (.str _) (Same.refl H) rfl p⟩
section
variable {X : Cx} {W : WX} {pos p : Pos} {e : Expr} {es : List Expr} {u : DA} {k : Nat}
theorem je_len (hg : Gl X "len") (hm : X.mg "len" = none) (ha : JA X W (e :: es) u) (he : starEach (e :: es) X.env = (false, eval e X.env) :: starEach es X.env := by rfl) (hpl : (backTo pos (starEach es X.env)).any (·.1) = false := by rfl) :
    JE X W (.Call (.Name "len" p) (e :: es) [] pos) (dCB gLen u) := je_callB (call_len_seq.or call_len_str) o_len hg hm boot_len ha (by decide) (by decide) he hpl
theorem je_tupleOf (hg : Gl X "tuple") (hm : X.mg "tuple" = none) (ha : JA X W (e :: es) u) (he : starEach (e :: es) X.env = (false, eval e X.env) :: starEach es X.env := by rfl) (hpl : (backTo pos (starEach es X.env)).any (·.1) = false := by rfl) :
    JE X W (.Call (.Name "tuple" p) (e :: es) [] pos) (dCB gTuple u) := je_callTy call_tuple_of o_tuple hg hm PyProof.Rows.boot_tuple ha (by decide) (by decide) he hpl
theorem je_listOf (hg : Gl X "list") (hm : X.mg "list" = none) (ha : JA X W (e :: es) u) (he : starEach (e :: es) X.env = (false, eval e X.env) :: starEach es X.env := by rfl) (hpl : (backTo pos (starEach es X.env)).any (·.1) = false := by rfl) :
    JE X W (.Call (.Name "list" p) (e :: es) [] pos) (dCB gList u) := je_callTy call_list_of o_list hg hm PyProof.Rows.boot_list ha (by decide) (by decide) he hpl
theorem je_abs (hg : Gl X "abs") (hm : X.mg "abs" = none) (ha : JA X W (e :: es) u) (he : starEach (e :: es) X.env = (false, eval e X.env) :: starEach es X.env := by rfl) (hpl : (backTo pos (starEach es X.env)).any (·.1) = false := by rfl) :
    JE X W (.Call (.Name "abs" p) (e :: es) [] pos) (dCB gAbs u) := je_callB call_abs o_abs hg hm PyProof.Rows.Boot.«abs» ha (by decide) (by decide) he hpl
theorem je_int1 (hg : Gl X "int") (hm : X.mg "int" = none) (ha : JA X W (e :: es) u) (he : starEach (e :: es) X.env = (false, eval e X.env) :: starEach es X.env := by rfl) (hpl : (backTo pos (starEach es X.env)).any (·.1) = false := by rfl) :
    JE X W (.Call (.Name "int" p) (e :: es) [] pos) (dCB gInt u) := je_callTy call_int1 o_int hg hm PyProof.Rows.boot_int ha (by decide) (by decide) he hpl
theorem je_max2 (hc : X.calm = true) (hg : Gl X "max") (hm : X.mg "max" = none) (ha : JA X W (e :: es) u) (he : starEach (e :: es) X.env = (false, eval e X.env) :: starEach es X.env := by rfl) (hpl : (backTo pos (starEach es X.env)).any (·.1) = false := by rfl) :
    JE X W (.Call (.Name "max" p) (e :: es) [] pos) (dCB gMax2 u) := je_callB (call_max2 hc) o_max2 hg hm PyProof.Rows.boot_max ha (by decide) (by decide) he hpl
theorem je_min2 (hc : X.calm = true) (hg : Gl X "min") (hm : X.mg "min" = none) (ha : JA X W (e :: es) u) (he : starEach (e :: es) X.env = (false, eval e X.env) :: starEach es X.env := by rfl) (hpl : (backTo pos (starEach es X.env)).any (·.1) = false := by rfl) :
    JE X W (.Call (.Name "min" p) (e :: es) [] pos) (dCB gMin2 u) := je_callB (call_min2 hc) o_min2 hg hm PyProof.Rows.boot_min ha (by decide) (by decide) he hpl
theorem je_max1 (hc : X.calm = true) (hg : Gl X "max") (hm : X.mg "max" = none) (ha : JA X W (e :: es) u) (he : starEach (e :: es) X.env = (false, eval e X.env) :: starEach es X.env := by rfl) (hpl : (backTo pos (starEach es X.env)).any (·.1) = false := by rfl) :
    JE X W (.Call (.Name "max" p) (e :: es) [] pos) (dCB gMax u) := je_callB (cr_max hc) o_max hg hm PyProof.Rows.boot_max ha (by decide) (by decide) he hpl
theorem je_min1 (hc : X.calm = true) (hg : Gl X "min") (hm : X.mg "min" = none) (ha : JA X W (e :: es) u) (he : starEach (e :: es) X.env = (false, eval e X.env) :: starEach es X.env := by rfl) (hpl : (backTo pos (starEach es X.env)).any (·.1) = false := by rfl) :
    JE X W (.Call (.Name "min" p) (e :: es) [] pos) (dCB gMin u) := je_callB (cr_min hc) o_min hg hm PyProof.Rows.boot_min ha (by decide) (by decide) he hpl
theorem je_sum (hc : X.calm = true) (hg : Gl X "sum") (hm : X.mg "sum" = none) (ha : JA X W (e :: es) u) (he : starEach (e :: es) X.env = (false, eval e X.env) :: starEach es X.env := by rfl) (hpl : (backTo pos (starEach es X.env)).any (·.1) = false := by rfl) :
    JE X W (.Call (.Name "sum" p) (e :: es) [] pos) (dCB gSum u) := je_callB (cr_sum hc) o_sum hg hm PyProof.Rows.boot_sum ha (by decide) (by decide) he hpl
theorem je_all (hc : X.calm = true) (hg : Gl X "all") (hm : X.mg "all" = none) (ha : JA X W (e :: es) u) (he : starEach (e :: es) X.env = (false, eval e X.env) :: starEach es X.env := by rfl) (hpl : (backTo pos (starEach es X.env)).any (·.1) = false := by rfl) :
    JE X W (.Call (.Name "all" p) (e :: es) [] pos) (dCB gAll u) := je_callB (cr_all hc) o_all hg hm PyProof.Rows.boot_all ha (by decide) (by decide) he hpl
theorem je_any (hc : X.calm = true) (hg : Gl X "any") (hm : X.mg "any" = none) (ha : JA X W (e :: es) u) (he : starEach (e :: es) X.env = (false, eval e X.env) :: starEach es X.env := by rfl) (hpl : (backTo pos (starEach es X.env)).any (·.1) = false := by rfl) :
    JE X W (.Call (.Name "any" p) (e :: es) [] pos) (dCB gAny u) := je_callB (cr_any hc) o_any hg hm PyProof.Rows.boot_any ha (by decide) (by decide) he hpl
theorem je_sortI (hg : Gl X "sorted") (hm : X.mg "sorted" = none) (ha : JA X W (e :: es) u) (he : starEach (e :: es) X.env = (false, eval e X.env) :: starEach es X.env := by rfl) (hpl : (backTo pos (starEach es X.env)).any (·.1) = false := by rfl) :
    JE X W (.Call (.Name "sorted" p) (e :: es) [] pos) (dCB gSortI u) := je_callB cr_sortedI o_sortI hg hm PyProof.Rows.boot_sorted ha (by decide) (by decide) he hpl
theorem je_isi (hg : Gl X "isinstance") (hm : X.mg "isinstance" = none) (ha : JA X W (e :: es) u) (he : starEach (e :: es) X.env = (false, eval e X.env) :: starEach es X.env := by rfl) (hpl : (backTo pos (starEach es X.env)).any (·.1) = false := by rfl) :
    JE X W (.Call (.Name "isinstance" p) (e :: es) [] pos) (dCB gIsi u) := je_callB call_isi o_isi hg hm PyProof.Rows.Boot.«isinstance» ha (by decide) (by decide) he hpl
theorem je_isiT (hg : Gl X "isinstance") (hm : X.mg "isinstance" = none) (ha : JA X W (e :: es) u) (he : starEach (e :: es) X.env = (false, eval e X.env) :: starEach es X.env := by rfl) (hpl : (backTo pos (starEach es X.env)).any (·.1) = false := by rfl) :
    JE X W (.Call (.Name "isinstance" p) (e :: es) [] pos) (dCB gIsiT u) := je_callB call_isiT o_isiT hg hm PyProof.Rows.Boot.«isinstance» ha (by decide) (by decide) he hpl
theorem je_repr (hr : Room k X.A) (hgu : X.A.guards = some []) (hg : Gl X "repr") (hm : X.mg "repr" = none) (ha : JA X W (e :: es) u) (he : starEach (e :: es) X.env = (false, eval e X.env) :: starEach es X.env := by rfl) (hpl : (backTo pos (starEach es X.env)).any (·.1) = false := by rfl) :
    JE X W (.Call (.Name "repr" p) (e :: es) [] pos) (dCB gRepr u) := je_callB (cr_repr hr hgu) o_repr hg hm PyProof.Rows.Boot.«repr» ha (by decide) (by decide) he hpl
theorem je_lt {a b : Expr} {ta tb : DE} (ha : JE X W a ta) (hb : JE X W b tb) : JE X W (.Compare a [.Lt] [b] pos) (dOp gLt ta tb) := je_cmp op_lt o2B0 ha hb (nomark _)
theorem je_le {a b : Expr} {ta tb : DE} (ha : JE X W a ta) (hb : JE X W b tb) : JE X W (.Compare a [.LtE] [b] pos) (dOp gLe ta tb) := je_cmp op_le o2B0 ha hb (nomark _)
theorem je_gt {a b : Expr} {ta tb : DE} (ha : JE X W a ta) (hb : JE X W b tb) : JE X W (.Compare a [.Gt] [b] pos) (dOp gGt ta tb) := je_cmp op_gt o2B0 ha hb (nomark _)
theorem je_ge {a b : Expr} {ta tb : DE} (ha : JE X W a ta) (hb : JE X W b tb) : JE X W (.Compare a [.GtE] [b] pos) (dOp gGe ta tb) := je_cmp op_ge o2B0 ha hb (nomark _)
theorem jt_lt {a b : Expr} {ta tb : DE} (ha : JE X W a ta) (hb : JE X W b tb) : JT X W (.Compare a [.Lt] [b] pos) (dTest (dOp gLt ta tb)) := jt_cmp op_lt o2B0 ha hb (nomark _)
theorem jt_le {a b : Expr} {ta tb : DE} (ha : JE X W a ta) (hb : JE X W b tb) : JT X W (.Compare a [.LtE] [b] pos) (dTest (dOp gLe ta tb)) := jt_cmp op_le o2B0 ha hb (nomark _)
theorem jt_gt {a b : Expr} {ta tb : DE} (ha : JE X W a ta) (hb : JE X W b tb) : JT X W (.Compare a [.Gt] [b] pos) (dTest (dOp gGt ta tb)) := jt_cmp op_gt o2B0 ha hb (nomark _)
theorem jt_ge {a b : Expr} {ta tb : DE} (ha : JE X W a ta) (hb : JE X W b tb) : JT X W (.Compare a [.GtE] [b] pos) (dTest (dOp gGe ta tb)) := jt_cmp op_ge o2B0 ha hb (nomark _)
end
end D
end

section
set_option Elab.async false
set_option linter.all false
set_option maxRecDepth 100000
set_option maxHeartbeats 1000000
set_option autoImplicit false
/-! The deep layer, part 11: sorted over pairs of numbers; the empty dict. -/
namespace D
open PySem PySem.Spec PyProof.Rows L2
def pr (p : Int × Int) : Dv := .tup [.int p.1, .int p.2]
def leP (p q : Int × Int) : Prop := ¬ (q.1 < p.1 ∨ (q.1 = p.1 ∧ q.2 < p.2))
def prK (H : Hp) (v : V) : Int × Int := match v with
  | .ref t => match H t with
    | some (.tup [.int i, .int j]) => (i, j)
    | _ => (0, 0)
  | _ => (0, 0)
theorem rd_pr {n : Nat} {f : Fr} {H : Hp} {p : Int × Int} {v : V} (r : RD n f H (pr p) v) : ∃ t, v = .ref t ∧ H t = some (.tup [.int p.1, .int p.2]) ∧ prK H v = p := by
  obtain ⟨_, t, xs, rfl, ht, _, h⟩ : [Dv.int p.1, Dv.int p.2].length ≤ sizeLine ∧ ∃ a xs, v = .ref a ∧ H a = some (.tup xs) ∧ Bes n f a ∧ RDs n f H [Dv.int p.1, Dv.int p.2] xs := r
  obtain ⟨u, w, rfl, r1, r2⟩ := rds2 h
  cases (show u = .int p.1 from r1)
  cases (show w = .int p.2 from r2)
  refine ⟨t, rfl, ht, ?_⟩
  unfold prK
  simp only [ht]
theorem rds_prs {n : Nat} {f : Fr} {H : Hp} : ∀ {ps : List (Int × Int)} {vs : List V}, RDs n f H (ps.map pr) vs → vs.map (prK H) = ps ∧ ∀ v ∈ vs, RD n f H (pr (prK H v)) v
  | [], vs, r => by rw [show vs = [] from r]; exact ⟨rfl, fun v h => by cases h⟩
  | p :: ps, vs, r => by
    obtain ⟨v, vr, rfl, rd, rr⟩ : ∃ v vr, vs = v :: vr ∧ RD n f H (pr p) v ∧ RDs n f H (ps.map pr) vr := r
    obtain ⟨t, ev, ht, e⟩ := rd_pr rd
    obtain ⟨h1, h2⟩ := rds_prs rr
    refine ⟨by rw [List.map_cons, e, h1], fun u hu => ?_⟩
    rcases List.mem_cons.mp hu with rfl | hu
    · rw [e]; exact rd
    · exact h2 u hu
theorem prs_rds {n : Nat} {f : Fr} {H : Hp} : ∀ {vs : List V}, (∀ v ∈ vs, RD n f H (pr (prK H v)) v) → RDs n f H ((vs.map (prK H)).map pr) vs
  | [], _ => rfl
  | v :: vs, h => ⟨v, vs, rfl, h v List.mem_cons_self, prs_rds fun u hu => h u (List.mem_cons_of_mem _ hu)⟩
def gSortP : List Dv → Mem → (Dv → Prop) → Prop := fun ds M P => ∃ (d : Dv) (ps : List (Int × Int)), ds = [d] ∧ lstD M d = some (ps.map pr) ∧ ∀ qs : List (Int × Int), qs.Perm ps → qs.Pairwise leP → P (.lst (qs.map pr))
theorem o_sortP {K : PySem.W.Frag} : Opn (rSortedPO K) gSortP := fun f H M xs vs P Q m r ⟨d, ps, e, hk, p⟩ fin => by
  subst e
  obtain ⟨v, rfl, rd⟩ := rds1 r
  obtain ⟨a, ys, rfl, hq, hr, hz⟩ := rd_lstM (K := K) m rd hk
  obtain ⟨h1, h2⟩ := rds_prs hr
  refine ⟨a, ys, prK H, rfl, hq, fun x hx => ?_, fun zs q hs hb hn => ?_⟩
  · obtain ⟨t, e, ht, _⟩ := rd_pr (h2 x hx)
    exact ⟨t, e, ht⟩
  · have hp := hb.perm
    have hm : ∀ v ∈ zs, RD M.length f H (pr (prK H v)) v := fun v hv => h2 v (hp.mem_iff.mp hv)
    have hl : ((zs.map (prK H)).map pr).length ≤ sizeLine := by
      rw [List.length_map, List.length_map, hp.length_eq, hr.length]; exact hz
    refine fin _ _ (.lst ((zs.map (prK H)).map pr)) (same_new hn) (rd_lst m hn (prs_rds hm) hl) (p _ (by have := hp.map (prK H); rw [h1] at this; exact this) (List.pairwise_map.mpr (hs.imp fun {x y} h => ?_)))
    exact SrtO.lexB_no.mp h
section
variable {X : Cx} {W : WX} {pos p : Pos} {e : Expr} {es : List Expr} {u : DA}
theorem je_sortP (hg : Gl X "sorted") (hm : X.mg "sorted" = none) (ha : JA X W (e :: es) u) (he : starEach (e :: es) X.env = (false, eval e X.env) :: starEach es X.env := by rfl) (hpl : (backTo pos (starEach es X.env)).any (·.1) = false := by rfl) :
    JE X W (.Call (.Name "sorted" p) (e :: es) [] pos) (dCB gSortP u) := je_callB cr_sortedPO o_sortP hg hm PyProof.Rows.boot_sorted ha (by decide) (by decide) he hpl
/-- {} as a value -/
theorem je_dic : JE X W (.Dict [] [] pos) (dC .dic) := pe_imp pe_dnewK fun s H Q ⟨f, l, M, P, Y, m, rl, h, k, _⟩ q hn =>
  k f _ M .dic (.ref q) (Lt.same (same_new hn)) (m.same (same_new hn)) ⟨q, rfl, upd_same, m.ne hn⟩ h
end
end D
end

section
set_option Elab.async false
set_option linter.all false
set_option maxRecDepth 100000
set_option maxHeartbeats 1000000
set_option autoImplicit false
/-! The deep layer, part 12: defs of the module by name. -/
namespace D
open PySem PySem.Spec PyProof.Rows L2
abbrev FnP (K : PySem.W.Frag) (x : Str) (st : Stmt) (f : Addr) (fd : FuncData) : Prop := FunD K x x (defArgs st) (defBody st) (defScope st) [] [] f fd
/-- the module's def x keeps S -/
structure Fx (P : Program) (w : World) (K : PySem.W.Frag) (mg : Str → Option Value) (base : Heap) (k : Nat) (x : Str) (st : Stmt) (ps : List Str) (S : DSp) : Prop where
  ex : ∃ f fd, FnG P w K mg base k f fd ps S ∧ mg x = some (.ref f) ∧ FnP K x st f fd
section
variable {P : Program} {w : World} {K : PySem.W.Frag} {mg : Str → Option Value} {base : Heap} {k j n : Nat} {x : Str} {st : Stmt} {ps ks : List Str} {S : DSp}
theorem Fx.mono (F : Fx P w K mg base j x st ps S) (h : j ≤ k) : Fx P w K mg base k x st ps S := let ⟨f, fd, a, b, c⟩ := F.ex; ⟨f, fd, a.mono h, b, c⟩
def Bd (x : Str) (st : Stmt) (ps : List Str) : Prop := ∀ (kV doc pm : Value) (an : Option Addr) (cdv ct : Value) (us : List Value), us.length = ps.length → bindArgs (PySem.W.fnOf x x (defArgs st) (defBody st) (defScope st) .none kV doc pm an cdv ct) ⟨us, []⟩ = pure (ps.zip us)
def Bk (x : Str) (st : Stmt) (ps : List Str) (n : Nat) (ks : List Str) (ix : List Nat) : Prop := ∀ (kV doc pm : Value) (an : Option Addr) (cdv ct : Value) (us ws : List Value), us.length = n → ws.length = ks.length →
  bindArgs (PySem.W.fnOf x x (defArgs st) (defBody st) (defScope st) .none kV doc pm an cdv ct) ⟨us, ks.zip ws⟩ = pure (ps.zip (pick ix (us ++ ws)))
theorem kwb_of {f : Addr} {fd : FuncData} {ix : List Nat} (F : FnP K x st f fd) (h : Bk x st ps n ks ix) : KwB fd ps n ks ix := by
  obtain ⟨oc, od, dV, kV, doc, pm, an, cdv, ct, osl, rfl, lk, hcd, hD, hK⟩ := F.ex
  rcases hD with ⟨_, rfl⟩ | ⟨e, _⟩
  · exact ⟨fun us ws h1 h2 => h kV doc pm an cdv ct us ws h1 h2⟩
  · exact absurd rfl e
theorem fx_of {f : Addr} {fd : FuncData} {N : List Str} (F : FnP K x st f fd) (hm : mg x = some (.ref f)) (Sc : FnScope N ps (defScope st)) (t : DS) (len : ∀ ds M Pd X, S ds M Pd X → ds.length = ps.length)
    (hb : ∀ (cdv : Value) (A : Around) (outer : List Env) (s : Shared) (H : Hp) (E : XK) (W : WX), Room k (A.deeper (envOfC x (defScope st) s.heap.objs.size f cdv)) → (A.deeper (envOfC x (defScope st) s.heap.objs.size f cdv)).guards = some [] →
      Takes (CF P w K mg base N x st f cdv A outer s H E) W → JSs (CF P w K mg base N x st f cdv A outer s H E) W (defBody st) t)
    (hp : ∀ ds M Pd X, MemOk M → S ds M Pd X → t (dkOf M.length Pd X) (startD N ds) M) : Fx P w K mg base (k + 1) x st ps S :=
  ⟨f, fd, fn_d (He5.fun_of F) Sc t len hb hp, hm, F⟩
end
theorem takes0 {X : Cx} : Takes X W0 := fun _ _ ⟨_, _, _, _, _, _, _, _, _, _, _, _, _, _, _, _, w⟩ => w.elim
section
variable {X : Cx} {W : WX} {pos p : Pos} {e : Expr} {es : List Expr} {kws : List Keyword} {u uk : DA} {k n : Nat} {x : Str} {st : Stmt} {ps ks : List Str} {S : DSp} {ix : List Nat}
theorem je_cx (F : Fx X.prog X.w X.K X.mg X.base k x st ps S) (hr : Room k X.A) (hgu : X.A.guards = some []) (tk : Takes X W) (bd : Bd x st ps) (hg : Gl X x) (ha : JA X W (e :: es) u) (hdb : (x == ("__debug__" : Str)) = false := by decide)
    (he : starEach (e :: es) X.env = (false, eval e X.env) :: starEach es X.env := by rfl) (hpl : (backTo pos (starEach es X.env)).any (·.1) = false := by rfl) : JE X W (.Call (.Name x p) (e :: es) [] pos) (dCall S u) :=
  let ⟨_, _, a, b, c⟩ := F.ex
  je_call a hr hgu tk hg b c.kp (c.bindsN bd) ha hdb he hpl
theorem je_cxK0 (F : Fx X.prog X.w X.K X.mg X.base k x st ps S) (hr : Room k X.A) (hgu : X.A.guards = some []) (tk : Takes X W) (bk : Bk x st ps 0 ks ix) (hg : Gl X x) (hkw : JK X W kws uk)
    (hall : (backToKw pos (keywordEach kws X.env)).all (·.1.isSome) = true := by rfl) (hks : (backToKw pos (keywordEach kws X.env)).filterMap (·.1) = ks := by rfl) (hdb : (x == ("__debug__" : Str)) = false := by decide)
    (hpl : ((backTo pos (starEach [] X.env)).any (·.1) || (backToKw pos (keywordEach kws X.env)).any (·.1.isNone)) = false := by rfl) : JE X W (.Call (.Name x p) [] kws pos) (dCallK S ix 0 ks.length dNil uk) :=
  let ⟨_, _, a, b, c⟩ := F.ex
  je_callK0 a hr hgu tk hg b c.kp (kwb_of c bk) hkw hall hks hdb hpl
theorem je_cxK (F : Fx X.prog X.w X.K X.mg X.base k x st ps S) (hr : Room k X.A) (hgu : X.A.guards = some []) (tk : Takes X W) (bk : Bk x st ps n ks ix) (hg : Gl X x) (ha : JA X W (e :: es) u) (hkw : JK X W kws uk)
    (hall : (backToKw pos (keywordEach kws X.env)).all (·.1.isSome) = true := by rfl) (hks : (backToKw pos (keywordEach kws X.env)).filterMap (·.1) = ks := by rfl) (hdb : (x == ("__debug__" : Str)) = false := by decide)
    (he : starEach (e :: es) X.env = (false, eval e X.env) :: starEach es X.env := by rfl)
    (hpl : ((backTo pos (starEach (e :: es) X.env)).any (·.1) || (backToKw pos (keywordEach kws X.env)).any (·.1.isNone)) = false := by rfl) : JE X W (.Call (.Name x p) (e :: es) kws pos) (dCallK S ix n ks.length u uk) :=
  let ⟨_, _, a, b, c⟩ := F.ex
  je_callK a hr hgu tk hg b c.kp (kwb_of c bk) ha hkw hall hks hdb he hpl
end
end D
end

section
set_option Elab.async false
set_option linter.all false
set_option maxRecDepth 100000
set_option maxHeartbeats 1000000
set_option autoImplicit false
/-! The deep layer, part 13: the transformers by simp; loops. -/
namespace D
open PySem PySem.Spec PyProof.Rows L2
section
variable {l : Loc} {M : Mem} {P : PD} {X : PX} {E : DK} {Q : Bool → Mem → Prop} {R : List Dv → Mem → Prop} {ta tb tc : DE} {u uk : DA} {tA tB : DT} {t s : DS} {g : Dv → Dv → Mem → (Dv → Prop) → Prop} {g1 : Dv → Mem → (Dv → Prop) → Prop} {gn : List Dv → Mem → (Dv → Prop) → Prop} {gd : DG} {gs : DGs} {N : Loc → Mem → Prop} {d : Dv} {ds : List Dv} {i j q n m : Nat} {S : DSp} {ix : List Nat}
@[simp] theorem s_var : dVar i l M P X = ∃ d, l[i]? = some (some d) ∧ P d M := rfl
@[simp] theorem s_c : dC d l M P X = P d M := rfl
@[simp] theorem s_op : dOp g ta tb l M P X = ta l M (fun x M1 => tb l M1 (fun y M2 => g x y M2 fun d => P d M2) X) X := rfl
@[simp] theorem s_un : dUn g1 ta l M P X = ta l M (fun x M1 => g1 x M1 fun d => P d M1) X := rfl
@[simp] theorem s_cb : dCB gn u l M P X = u l M (fun xs M1 => gn xs M1 fun d => P d M1) X := rfl
@[simp] theorem s_test : dTest ta l M Q X = ta l M (fun d M1 => ∃ k, d = .bl k ∧ Q k M1) X := rfl
@[simp] theorem s_tru : dTru ta l M Q X = ta l M (fun d M1 => ∃ k, truD M1 d = some k ∧ Q k M1) X := rfl
@[simp] theorem s_and : dAnd tA tB l M Q X = tA l M (fun c M1 => if c = true then tB l M1 Q X else Q false M1) X := rfl
@[simp] theorem s_or : dOr tA tB l M Q X = tA l M (fun c M1 => if c = true then Q true M1 else tB l M1 Q X) X := rfl
@[simp] theorem s_not : dNot tA l M Q X = tA l M (fun c M1 => Q (!c) M1) X := rfl
@[simp] theorem s_yes : dYes l M Q X = Q true M := rfl
@[simp] theorem s_andV : dAndV ta tb l M P X = ta l M (fun d M1 => ∃ c, truD M1 d = some c ∧ if c = true then tb l M1 P X else P d M1) X := rfl
@[simp] theorem s_orV : dOrV ta tb l M P X = ta l M (fun d M1 => ∃ c, truD M1 d = some c ∧ if c = true then P d M1 else tb l M1 P X) X := rfl
@[simp] theorem s_notV : dNotV ta l M P X = ta l M (fun d M1 => ∃ c, truD M1 d = some c ∧ P (.bl (!c)) M1) X := rfl
@[simp] theorem s_if : dIf tA ta tb l M P X = tA l M (fun b M1 => if b = true then ta l M1 P X else tb l M1 P X) X := rfl
@[simp] theorem s_nil : dNil l M R X = R [] M := rfl
@[simp] theorem s_cons : dCons ta u l M R X = ta l M (fun d M1 => u l M1 (fun ds M2 => R (d :: ds) M2) X) X := rfl
@[simp] theorem s_tup : dTup u l M P X = u l M (fun ds M1 => ds.length ≤ sizeLine ∧ P (.tup ds) M1) X := rfl
@[simp] theorem s_lst : dLst u l M P X = u l M (fun ds M1 => ds.length ≤ sizeLine ∧ P (.lst ds) M1) X := rfl
@[simp] theorem s_lstM : dLstM u l M P X = u l M (fun ds M1 => ds.length ≤ sizeLine ∧ P (.ref M1.length) (M1 ++ [.lst ds])) X := rfl
@[simp] theorem s_call : dCall S u l M P X = u l M (fun ds M1 => S ds M1 P X) X := rfl
@[simp] theorem s_callK : dCallK S ix n m u uk l M P X = u l M (fun ds M1 => uk l M1 (fun zs M2 => ds.length = n ∧ zs.length = m ∧ S (pick ix (ds ++ zs)) M2 P X) X) X := rfl
@[simp] theorem s_next : dNext E l M = E.nx l M := rfl
@[simp] theorem s_seq : dSeq t s E l M = t { E with nx := s E } l M := rfl
@[simp] theorem s_drop : dDrop ta E l M = ta l M (fun _ M1 => E.nx l M1) (fun C d M1 => E.xc C d l M1) := rfl
@[simp] theorem s_ret : dRet ta E l M = ta l M E.rt (fun C d M1 => E.xc C d l M1) := rfl
@[simp] theorem s_retN : dRetN E l M = E.rt .non M := rfl
@[simp] theorem s_brk : dBreak E l M = E.bk l M := rfl
@[simp] theorem s_cnt : dCont E l M = E.ct l M := rfl
@[simp] theorem s_ifS : dIfS tA t s E l M = tA l M (fun b M1 => if b = true then t E l M1 else s E l M1) (fun C d M1 => E.xc C d l M1) := rfl
@[simp] theorem s_gN : gN i d l M N = N (l.set i (some d)) M := rfl
@[simp] theorem s_gsN : gsNil ds l M N = (ds = [] ∧ N l M) := rfl
@[simp] theorem s_gsC : gsCons gd gs ds l M N = ∃ d rs, ds = d :: rs ∧ gd d l M fun l1 M1 => gs rs l1 M1 N := rfl
@[simp] theorem s_gT : gT n gs d l M N = ∃ ds, seqD M d = some ds ∧ ds.length = n ∧ gs ds l M N := rfl
@[simp] theorem s_gSub : gSub ta tb d l M N = ta l M (fun o M1 => tb l M1 (fun i M2 => ∃ r k xs j, o = .ref r ∧ i = .int k ∧ M2[r]? = some (.lst xs) ∧ ixN xs.length k = some j ∧ N l (M2.set r (.lst (xs.set j d)))) noX) noX := rfl
@[simp] theorem s_asg : dAsg ta gd E l M = ta l M (fun d M1 => gd d l M1 E.nx) (fun C d M1 => E.xc C d l M1) := rfl
@[simp] theorem s_set : dSet i ta E l M = ta l M (fun d M1 => E.nx (l.set i (some d)) M1) (fun C d M1 => E.xc C d l M1) := rfl
@[simp] theorem s_par : dPar i j u E l M = u l M (fun ds M1 => ∃ a b, ds = [a, b] ∧ E.nx ((l.set i (some a)).set j (some b)) M1) (fun C d M1 => E.xc C d l M1) := rfl
@[simp] theorem s_par3 : dPar3 i j q u E l M = u l M (fun ds M1 => ∃ a b c, ds = [a, b, c] ∧ E.nx (((l.set i (some a)).set j (some b)).set q (some c)) M1) (fun C d M1 => E.xc C d l M1) := rfl
@[simp] theorem s_chain {g g' : Dv → Dv → Mem → (Dv → Prop) → Prop} : dChain g g' ta tb tc l M P X = ta l M (fun x M1 => tb l M1 (fun y M2 => g x y M2 fun z => ∃ k, z = .bl k ∧
  if k = true then tc l M2 (fun w M3 => g' y w M3 fun d => P d M3) X else P (.bl false) M2) X) X := rfl
@[simp] theorem s_append : dAppend ta u l M P X = ta l M (fun d M1 => ∃ i xs0, d = .ref i ∧ M1[i]? = some (.lst xs0) ∧ u l M1 (fun ds M2 => ∃ y xs, ds = [y] ∧ M2[i]? = some (.lst xs) ∧ xs.length < sizeLine ∧ P .non (M2.set i (.lst (xs ++ [y])))) X) X := rfl
@[simp] theorem s_pop : dPop ta l M P X = ta l M (fun d M1 => ∃ i xs y, d = .ref i ∧ M1[i]? = some (.lst xs) ∧ xs[xs.length - 1]? = some y ∧ P y (M1.set i (.lst xs.dropLast))) X := rfl
@[simp] theorem s_noP {O : Option Int → Mem → Prop} : dNoP l M O X = O none M := rfl
@[simp] theorem s_part {O : Option Int → Mem → Prop} : dPart ta l M O X = ta l M (fun d M1 => ∃ i, d = .int i ∧ O (some i) M1) X := rfl
@[simp] theorem s_sl {tl th : DO} : dSl ta tl th l M P X = ta l M (fun x M1 => tl l M1 (fun lo M2 => th l M2 (fun hi M3 => gSl x lo hi M3 fun d => P d M3) X) X) X := rfl
@[simp] theorem s_slS {K : PySem.W.Frag} {tl th : DO} : dSlS K ta tl th l M P X = ta l M (fun x M1 => tl l M1 (fun lo M2 => th l M2 (fun hi M3 => ∃ ns, ScrD K x ns ∧ ns.length ≤ sizeLine ∧ P (.lst (cutD (ns.map Dv.int) lo hi)) M3) X) X) X := rfl
@[simp] theorem s_rev : dRev ta l M P X = ta l M (fun d M1 => ∃ xs, lstD M1 d = some xs ∧ P (.lst xs.reverse) M1) X := rfl
@[simp] theorem s_revM : dRevM ta l M P X = ta l M (fun d M1 => ∃ xs, lstD M1 d = some xs ∧ P (.ref M1.length) (M1 ++ [.lst xs.reverse])) X := rfl
section
variable {src : DI} {vs : List Nat} {I : List Dv → (Mem → Prop) → Mem → Prop}
@[simp] theorem s_for : dFor src gd t E l M = src l M (fun xs chk M1 => loopS gd t E chk xs l M1) (fun C d M1 => E.xc C d l M1) := rfl
@[simp] theorem s_comp : dComp src gd tA ta vs l M P X = src l M (fun xs chk M1 => xs.length ≤ sizeLine ∧ loopC gd tA ta vs chk xs [] l M1 (fun ys M2 => P (.lst ys) M2)) X := rfl
@[simp] theorem s_compM : dCompM src gd tA ta vs l M P X = src l M (fun xs chk M1 => xs.length ≤ sizeLine ∧ loopC gd tA ta vs chk xs [] l M1 (fun ys M2 => P (.ref M2.length) (M2 ++ [.lst ys]))) X := rfl
@[simp] theorem s_iSeq : iSeq ta l M I X = ta l M (fun d M1 => ∃ xs, seqD M1 d = some xs ∧ I xs (chkD d xs) M1) X := rfl
@[simp] theorem s_iR1 : iRan1 u l M I X = u l M (fun ds M1 => ∃ n, ds = [.int n] ∧ -(2 ^ 62) ≤ n ∧ n < 2 ^ 62 ∧ I (rngD 0 n) (fun _ => True) M1) X := rfl
@[simp] theorem s_iR2 : iRan2 u l M I X = u l M (fun ds M1 => ∃ a b, ds = [.int a, .int b] ∧ (-(2 ^ 62) ≤ a ∧ a < 2 ^ 62 ∧ -(2 ^ 62) ≤ b ∧ b < 2 ^ 62) ∧ I (rngD a b) (fun _ => True) M1) X := rfl
@[simp] theorem s_iEnum : iEnum u l M I X = u l M (fun ds M1 => ∃ d xs, ds = [d] ∧ seqD M1 d = some xs ∧ I (enumD xs) (chkD d xs) M1) X := rfl
@[simp] theorem s_iZip : iZip u l M I X = u l M (fun ds M1 => ∃ d e, ds = [d, e] ∧ ∃ xs ys, seqD M1 d = some xs ∧ seqD M1 e = some ys ∧ I (zipD xs ys) (fun M => chkD d xs M ∧ chkD e ys M) M1) X := by
  unfold iZip
  congr 1
  funext ds M1
  exact propext ⟨fun ⟨d, e, xs, ys, h1, h2⟩ => ⟨d, e, h1, xs, ys, h2⟩, fun ⟨d, e, h1, xs, ys, h2⟩ => ⟨d, e, xs, ys, h1, h2⟩⟩
end
@[simp] theorem s_wipe0 : wipeD l [] = l := rfl
@[simp] theorem s_wipe1 {v : Nat} {vs : List Nat} : wipeD l (v :: vs) = (wipeD l vs).set v none := rfl
/-! operations on given values -/
variable {a b : Int} {G : Dv → Prop} {x y : List Dv} {z w : Str} {c k : Bool}
@[simp] theorem s_add_i : gAdd (.int a) (.int b) M G = G (.int (a + b)) := rfl
@[simp] theorem s_add_s : gAdd (.str z) (.str w) M G = (z.length + w.length ≤ sizeLine ∧ G (.str (z ++ w))) := rfl
@[simp] theorem s_add_t : gAdd (.tup x) (.tup y) M G = (x.length + y.length ≤ sizeLine ∧ G (.tup (x ++ y))) := rfl
theorem s_add_l : gAdd (.lst x) (.lst y) M G = (x.length + y.length ≤ sizeLine ∧ G (.lst (x ++ y))) := propext ⟨fun ⟨p, r, e1, e2, h⟩ => by
  cases (show some x = some p from e1)
  cases (show some y = some r from e2)
  exact h, fun h => ⟨x, y, rfl, rfl, h⟩⟩
@[simp] theorem s_sub : gSub' (.int a) (.int b) M G = G (.int (a - b)) := rfl
@[simp] theorem s_mul : gMul (.int a) (.int b) M G = (a.natAbs.log2 + b.natAbs.log2 < 1000000 ∧ G (.int (a * b))) := rfl
@[simp] theorem s_div : gDiv (.int a) (.int b) M G = ((0 < b ∧ b.natAbs.log2 < 9000) ∧ G (.int (a / b))) := rfl
@[simp] theorem s_mod : gMod (.int a) (.int b) M G = (0 < b ∧ G (.int (a % b))) := rfl
@[simp] theorem s_pow : gPow (.int a) (.int b) M G = ((0 ≤ b ∧ b ≤ 1000000 ∧ a.natAbs < 2 ^ 64) ∧ G (.int (a ^ b.toNat))) := rfl
@[simp] theorem s_neg : gNeg (.int a) M G = G (.int (-a)) := rfl
@[simp] theorem s_lt : gLt (.int a) (.int b) M G = G (.bl (decide (a < b))) := rfl
@[simp] theorem s_le : gLe (.int a) (.int b) M G = G (.bl (decide (a ≤ b))) := rfl
@[simp] theorem s_gt : gGt (.int a) (.int b) M G = G (.bl (decide (b < a))) := rfl
@[simp] theorem s_ge : gGe (.int a) (.int b) M G = G (.bl (decide (b ≤ a))) := rfl
@[simp] theorem tru_bl : truD M (.bl c) = some c := rfl
@[simp] theorem tru_int : truD M (.int a) = some (a != 0) := rfl
@[simp] theorem tru_non : truD M .non = some false := rfl
@[simp] theorem seq_tup : seqD M (.tup x) = some x := rfl
@[simp] theorem seq_lst : seqD M (.lst x) = some x := rfl
@[simp] theorem lst_lst : lstD M (.lst x) = some x := rfl
@[simp] theorem is_non {e : Dv} : isD e .non = some (match e with | .non => true | _ => false) := rfl
@[simp] theorem is_bl {e : Dv} : isD e (.bl c) = some (match e with | .bl a => a == c | _ => false) := rfl
@[simp] theorem s_is {e f : Dv} {neg : Bool} : gIs neg e f M G = ∃ b, isD e f = some b ∧ G (.bl (if neg then !b else b)) := rfl
@[simp] theorem res_int : res M (.int a) = .int a := rfl
@[simp] theorem res_bl : res M (.bl c) = .bl c := rfl
@[simp] theorem res_non : res M .non = .non := rfl
@[simp] theorem res_str : res M (.str z) = .str z := rfl
@[simp] theorem res_tup : res M (.tup x) = .tup x := rfl
@[simp] theorem res_lst : res M (.lst x) = .lst x := rfl
@[simp] theorem s_eq_i : gEq (.int a) (.int b) M G = G (.bl (decide (a = b))) := propext ⟨fun h => h.2.2, fun h => ⟨rfl, rfl, h⟩⟩
@[simp] theorem s_ne_i : gNe (.int a) (.int b) M G = G (.bl (!decide (a = b))) := propext ⟨fun h => h.2.2, fun h => ⟨rfl, rfl, h⟩⟩
@[simp] theorem s_len_t : gLen [.tup x] M G = G (.int x.length) := propext ⟨fun ⟨d, k, e, h, g⟩ => by
  cases e; cases (show some (x.length : Int) = some k from h); exact g, fun h => ⟨_, _, rfl, rfl, h⟩⟩
@[simp] theorem s_len_l : gLen [.lst x] M G = G (.int x.length) := propext ⟨fun ⟨d, k, e, h, g⟩ => by
  cases e; cases (show some (x.length : Int) = some k from h); exact g, fun h => ⟨_, _, rfl, rfl, h⟩⟩
theorem s_len {e : Dv} (h : seqD M e = some x) : gLen [e] M G = G (.int x.length) := by
  have : lenD M e = some (x.length : Int) := by
    cases e with
    | str z => cases (show none = some x from h)
    | _ => simp only [lenD]; rw [h]; rfl
  exact propext ⟨fun ⟨d, k, e, h, g⟩ => by cases e; rw [this] at h; cases h; exact g, fun h => ⟨_, _, rfl, this, h⟩⟩
@[simp] theorem s_abs : gAbs [.int a] M G = G (.int (a.natAbs : Nat)) := propext ⟨fun ⟨i, e, h⟩ => by cases e; exact h, fun h => ⟨a, rfl, h⟩⟩
@[simp] theorem s_int : gInt [.int a] M G = G (.int a) := propext ⟨fun ⟨d, i, e, h, g⟩ => by cases e; cases (show some a = some i from h); exact g, fun h => ⟨_, a, rfl, rfl, h⟩⟩
@[simp] theorem s_max2 : gMax2 [.int a, .int b] M G = G (.int (max a b)) := propext ⟨fun ⟨i, j, e, h⟩ => by cases e; exact h, fun h => ⟨a, b, rfl, h⟩⟩
@[simp] theorem s_min2 : gMin2 [.int a, .int b] M G = G (.int (min a b)) := propext ⟨fun ⟨i, j, e, h⟩ => by cases e; exact h, fun h => ⟨a, b, rfl, h⟩⟩
theorem s_sum {e : Dv} {ns : List Int} (h : lstD M e = some (ns.map Dv.int)) (g : G (.int ns.sum)) : gSum [e] M G := ⟨e, ns, rfl, h, g⟩
theorem s_tuple {e : Dv} (h : seqD M e = some x) : gTuple [e] M G = G (.tup x) := propext ⟨fun ⟨d, l, e, h2, g⟩ => by cases e; rw [h] at h2; cases h2; exact g, fun g => ⟨e, x, rfl, h, g⟩⟩
theorem s_list {e : Dv} (h : seqD M e = some x) : gList [e] M G = G (.lst x) := propext ⟨fun ⟨d, l, e, h2, g⟩ => by cases e; rw [h] at h2; cases h2; exact g, fun g => ⟨e, x, rfl, h, g⟩⟩
theorem s_ix {e v : Dv} (h : seqD M e = some x) (hv : atI x a = some v) (g : G v) : gIx e (.int a) M G := ⟨a, rfl, .inl ⟨x, v, h, hv, g⟩⟩
theorem s_ixn {e v : Dv} {n : Nat} (h : seqD M e = some x) (hv : x[n]? = some v) (g : G v) : gIx e (.int n) M G := s_ix h (atI_nat hv) g
end
@[simp] theorem ex2 {α β : Type} {a : α} {b : β} {p : α → β → Prop} : (∃ d e, (a = d ∧ b = e) ∧ p d e) ↔ p a b := ⟨fun ⟨d, e, ⟨h1, h2⟩, h⟩ => by subst h1 h2; exact h, fun h => ⟨a, b, ⟨rfl, rfl⟩, h⟩⟩
@[simp] theorem ex2b {α β : Type} {a : α} {b : β} {p : α → β → Prop} : (∃ d e, (a = d ∧ e = b) ∧ p d e) ↔ p a b := ⟨fun ⟨d, e, ⟨h1, h2⟩, h⟩ => by subst h1 h2; exact h, fun h => ⟨a, b, ⟨rfl, rfl⟩, h⟩⟩
@[simp] theorem ex3 {α β γ : Type} {a : α} {b : β} {c : γ} {p : α → β → γ → Prop} : (∃ d e f, (a = d ∧ b = e ∧ c = f) ∧ p d e f) ↔ p a b c := ⟨fun ⟨d, e, f, ⟨h1, h2, h3⟩, h⟩ => by subst h1 h2 h3; exact h, fun h => ⟨a, b, c, ⟨rfl, rfl, rfl⟩, h⟩⟩
/-- one statement at a time -/
theorem seq_step {t s : DS} {E : DK} {l : Loc} {M : Mem} (h : ∀ C, C = s E → t { E with nx := C } l M) : dSeq t s E l M := h _ rfl
/-! ### kinds -/
mutual
/-- a value with no places in it -/
def okV : Dv → Bool
  | .non => true
  | .bl _ => true
  | .int _ => true
  | .str _ => true
  | .dic => true
  | .tup l => okVs l
  | .lst l => okVs l
  | _ => false
def okVs : List Dv → Bool
  | [] => true
  | d :: l => okV d && okVs l
end
def kind : Dv → String
  | .non => "NoneType"
  | .bl _ => "bool"
  | .int _ => "int"
  | .str _ => "str"
  | .tup _ => "tuple"
  | .dic => "dict"
  | _ => "list"
theorem ty_ok {M : Mem} {d : Dv} (h : okV d = true) : tyD M d = some (kind d) := by
  cases d <;> first | rfl | (cases h)
theorem s_isi {M : Mem} {G : Dv → Prop} {d : Dv} {b : String} (h : okV d = true) (hb : b ∈ ["bool", "int", "str", "tuple", "list", "dict", "set"]) : gIsi [d, .ty b] M G = G (.bl (isiB (kind d) b)) :=
  propext ⟨fun ⟨d', a, b', e, ht, _, g⟩ => by cases e; rw [ty_ok h] at ht; cases ht; exact g, fun g => ⟨d, _, b, rfl, ty_ok h, hb, g⟩⟩
theorem okV_mem : ∀ {l : List Dv}, okVs l = true → ∀ d ∈ l, okV d = true
  | d :: l, h, e, he => by
    obtain ⟨h1, h2⟩ := Bool.and_eq_true_iff.mp h
    rcases List.mem_cons.mp he with rfl | he
    · exact h1
    · exact okV_mem h2 e he
theorem okVs_of : ∀ {l : List Dv}, (∀ d ∈ l, okV d = true) → okVs l = true
  | [], _ => rfl
  | d :: l, h => Bool.and_eq_true_iff.mpr ⟨h d List.mem_cons_self, okVs_of fun e he => h e (List.mem_cons_of_mem _ he)⟩
/-! ### loops -/
section
variable {g : DG} {tt : DT} {te : DE} {vs : List Nat} {chk : Mem → Prop} {xs acc : List Dv} {l : Loc} {M : Mem} {P : List Dv → Mem → Prop}
/-- a comprehension that changes nothing -/
theorem loopC_pure (p : Dv → Bool) (v : Dv → Dv) (hc : chk M) : ∀ {xs acc : List Dv}, (∀ x ∈ xs, ∀ (C1 : Dv → Mem → Prop) (C2 : Mem → Prop), (if p x = true then C1 (v x) M else C2 M) → g x (wipeD l vs) M fun l2 M2 => tt l2 M2 (fun b M3 => if b = true then te l2 M3 C1 noX else C2 M3) noX) →
    P (acc ++ (xs.filter p).map v) M → loopC g tt te vs chk xs acc l M P
  | [], acc, _, h => ⟨hc, by simpa using h⟩
  | x :: xs, acc, st, h => ⟨hc, st x List.mem_cons_self _ _ (by
    by_cases e : p x = true
    · rw [if_pos e]
      refine loopC_pure p v hc (fun y hy => st y (List.mem_cons_of_mem _ hy)) ?_
      rw [List.filter_cons_of_pos e] at h
      simpa using h
    · rw [if_neg e]
      refine loopC_pure p v hc (fun y hy => st y (List.mem_cons_of_mem _ hy)) ?_
      rw [List.filter_cons_of_neg e] at h
      exact h)⟩
theorem filter_tt {α : Type} : ∀ l : List α, l.filter (fun _ => true) = l
  | [] => rfl
  | x :: t => by rw [List.filter_cons_of_pos rfl, filter_tt t]
theorem loopC_map (v : Dv → Dv) (hc : chk M) (h : ∀ x ∈ xs, ∀ (C1 : Dv → Mem → Prop) (C2 : Mem → Prop), C1 (v x) M → g x (wipeD l vs) M fun l2 M2 => tt l2 M2 (fun b M3 => if b = true then te l2 M3 C1 noX else C2 M3) noX)
    (hp : P (acc ++ xs.map v) M) : loopC g tt te vs chk xs acc l M P := loopC_pure (fun _ => true) v hc (fun x hx C1 C2 hC => h x hx C1 C2 (by rw [if_pos rfl] at hC; exact hC)) (by rw [filter_tt]; exact hp)
/-- by an invariant: what was walked, what was made, the memory -/
theorem loopC_inv (I : List Dv → List Dv → Mem → Prop) (hc : ∀ pre acc M, I pre acc M → chk M) : ∀ {xs : List Dv} {pre acc : List Dv} {M : Mem}, I pre acc M →
    (∀ pre x acc M, x ∈ xs → I pre acc M → ∀ (C1 : Dv → Mem → Prop) (C2 : Mem → Prop), (∀ y M', I (pre ++ [x]) (acc ++ [y]) M' → C1 y M') → (∀ M', I (pre ++ [x]) acc M' → C2 M') → g x (wipeD l vs) M fun l2 M2 => tt l2 M2 (fun b M3 => if b = true then te l2 M3 C1 noX else C2 M3) noX) →
    (∀ acc M, I (pre ++ xs) acc M → P acc M) → loopC g tt te vs chk xs acc l M P
  | [], pre, acc, M, h, _, fin => ⟨hc _ _ _ h, fin acc M (by simpa using h)⟩
  | x :: xs, pre, acc, M, h, st, fin => ⟨hc _ _ _ h, st pre x acc M List.mem_cons_self h _ _
    (fun y M' h' => loopC_inv I hc (pre := pre ++ [x]) h' (fun p y a M hy => st p y a M (List.mem_cons_of_mem _ hy)) fun a M' h2 => fin a M' (by simpa using h2))
    (fun M' h' => loopC_inv I hc (pre := pre ++ [x]) h' (fun p y a M hy => st p y a M (List.mem_cons_of_mem _ hy)) fun a M' h2 => fin a M' (by simpa using h2))⟩
/-- a for loop by an invariant -/
theorem loopS_inv {body : DS} {E : DK} (I : List Dv → Loc → Mem → Prop) (hc : ∀ pre l M, I pre l M → chk M) : ∀ {xs : List Dv} {pre : List Dv} {l : Loc} {M : Mem}, I pre l M →
    (∀ pre x suf l M, xs = suf ++ x :: (xs.drop (suf.length + 1)) → I pre l M → ∀ (C : Loc → Mem → Prop), (∀ l' M', I (pre ++ [x]) l' M' → C l' M') → g x l M fun l2 M2 => body { E with nx := C, ct := C, bk := E.nx } l2 M2) →
    (∀ l M, I (pre ++ xs) l M → E.nx l M) → loopS g body E chk xs l M
  | [], pre, l, M, h, _, fin => ⟨hc _ _ _ h, fin l M (by simpa using h)⟩
  | x :: xs, pre, l, M, h, st, fin => ⟨hc _ _ _ h, st pre x [] l M (by simp) h _ fun l' M' h' =>
    loopS_inv I hc (pre := pre ++ [x]) h' (fun p y suf l M e hi C hC => st p y (x :: suf) l M (by simpa using e) hi C hC) fun l M h2 => fin l M (by simpa using h2)⟩
theorem loopS_ixg {body : DS} {E : DK} (I : Nat → Loc → Mem → Prop) (hc : ∀ k l M, I k l M → chk M) : ∀ {xs : List Dv} {n : Nat} {l : Loc} {M : Mem}, I n l M →
    (∀ k x l M, xs[k]? = some x → I (n + k) l M → ∀ (C : Loc → Mem → Prop), (∀ l' M', I (n + k + 1) l' M' → C l' M') → g x l M fun l2 M2 => body { E with nx := C, ct := C, bk := E.nx } l2 M2) →
    (∀ l M, I (n + xs.length) l M → E.nx l M) → loopS g body E chk xs l M
  | [], n, l, M, h, _, fin => ⟨hc _ _ _ h, fin l M h⟩
  | x :: xs, n, l, M, h, st, fin => ⟨hc _ _ _ h, st 0 x l M rfl h _ fun l' M' h' =>
    loopS_ixg I hc (n := n + 1) h' (fun k y l M e hi C hC => st (k + 1) y l M (by simpa using e) (by rw [show n + (k + 1) = n + 1 + k by omega]; exact hi) C fun l' M' h2 => hC l' M' (by rw [show n + 1 + k + 1 = n + (k + 1) + 1 by omega]; exact h2)) fun l M h2 => fin l M (by rw [List.length_cons, show n + (xs.length + 1) = n + 1 + xs.length by omega]; exact h2)⟩
/-- a for loop by an invariant that knows how many turns were done -/
theorem loopS_ix {body : DS} {E : DK} (I : Nat → Loc → Mem → Prop) (hc : ∀ k l M, I k l M → chk M) (h : I 0 l M)
    (st : ∀ k x l M, xs[k]? = some x → I k l M → ∀ (C : Loc → Mem → Prop), (∀ l' M', I (k + 1) l' M' → C l' M') → g x l M fun l2 M2 => body { E with nx := C, ct := C, bk := E.nx } l2 M2)
    (fin : ∀ l M, I xs.length l M → E.nx l M) : loopS g body E chk xs l M :=
  loopS_ixg I hc (n := 0) h (fun k x l M e hi C hC => st k x l M e (by simpa using hi) C fun l' M' h2 => hC l' M' (by simpa using h2)) fun l M h2 => fin l M (by simpa using h2)
end
end D
end

section
set_option Elab.async false
set_option linter.all false
set_option maxRecDepth 100000
set_option maxHeartbeats 4000000
set_option autoImplicit false
/-! commonkeys_k33_whole_weighted_sums: each def's transformer and its derivation; printed by gen.py. -/
namespace D.k33
open PySem PySem.Spec PyProof.Rows L2 D
def top (i : Nat) : Stmt := PySem.Challenge.pw_commonkeys_k33_whole_weighted_sums.main.body.getD i (.Pass ⟨0, 0, 0, 0⟩)
abbrev s_is_integer : Stmt := top 1
abbrev N_is_integer : List Str := ["value"]
abbrev ps_is_integer : List Str := ["value"]
theorem sc_is_integer : FnScope N_is_integer ps_is_integer (defScope s_is_integer) := ⟨rfl, rfl, rfl, by decide +kernel, rfl, by decide +kernel, by decide +kernel⟩
theorem bd_is_integer : Bd "is_integer" s_is_integer ps_is_integer := fun _ _ _ _ _ _ us hl => match us, hl with | [_], _ => rfl
abbrev s_is_number : Stmt := top 2
abbrev N_is_number : List Str := ["value"]
abbrev ps_is_number : List Str := ["value"]
theorem sc_is_number : FnScope N_is_number ps_is_number (defScope s_is_number) := ⟨rfl, rfl, rfl, by decide +kernel, rfl, by decide +kernel, by decide +kernel⟩
theorem bd_is_number : Bd "is_number" s_is_number ps_is_number := fun _ _ _ _ _ _ us hl => match us, hl with | [_], _ => rfl
abbrev s_is_index : Stmt := top 3
abbrev N_is_index : List Str := ["value", "many"]
abbrev ps_is_index : List Str := ["value", "many"]
theorem sc_is_index : FnScope N_is_index ps_is_index (defScope s_is_index) := ⟨rfl, rfl, rfl, by decide +kernel, rfl, by decide +kernel, by decide +kernel⟩
theorem bd_is_index : Bd "is_index" s_is_index ps_is_index := fun _ _ _ _ _ _ us hl => match us, hl with | [_, _], _ => rfl
abbrev s_is_sequence : Stmt := top 4
abbrev N_is_sequence : List Str := ["value"]
abbrev ps_is_sequence : List Str := ["value"]
theorem sc_is_sequence : FnScope N_is_sequence ps_is_sequence (defScope s_is_sequence) := ⟨rfl, rfl, rfl, by decide +kernel, rfl, by decide +kernel, by decide +kernel⟩
theorem bd_is_sequence : Bd "is_sequence" s_is_sequence ps_is_sequence := fun _ _ _ _ _ _ us hl => match us, hl with | [_], _ => rfl
abbrev s_is_row_below : Stmt := top 6
abbrev N_is_row_below : List Str := ["caps", "value", "one", "cap"]
abbrev ps_is_row_below : List Str := ["caps", "value"]
theorem sc_is_row_below : FnScope N_is_row_below ps_is_row_below (defScope s_is_row_below) := ⟨rfl, rfl, rfl, by decide +kernel, rfl, by decide +kernel, by decide +kernel⟩
theorem bd_is_row_below : Bd "is_row_below" s_is_row_below ps_is_row_below := fun _ _ _ _ _ _ us hl => match us, hl with | [_, _], _ => rfl
abbrev s_weighed : Stmt := top 8
abbrev N_weighed : List Str := ["weights", "row", "weight", "value"]
abbrev ps_weighed : List Str := ["weights", "row"]
theorem sc_weighed : FnScope N_weighed ps_weighed (defScope s_weighed) := ⟨rfl, rfl, rfl, by decide +kernel, rfl, by decide +kernel, by decide +kernel⟩
theorem bd_weighed : Bd "weighed" s_weighed ps_weighed := fun _ _ _ _ _ _ us hl => match us, hl with | [_, _], _ => rfl
abbrev s_is_cut : Stmt := top 9
abbrev N_is_cut : List Str := ["caps", "weights", "low", "high", "value", "row", "one", "other", "up", "down", "key"]
abbrev ps_is_cut : List Str := ["caps", "weights", "low", "high", "value"]
theorem sc_is_cut : FnScope N_is_cut ps_is_cut (defScope s_is_cut) := ⟨rfl, rfl, rfl, by decide +kernel, rfl, by decide +kernel, by decide +kernel⟩
theorem bd_is_cut : Bd "is_cut" s_is_cut ps_is_cut := fun _ _ _ _ _ _ us hl => match us, hl with | [_, _, _, _, _], _ => rfl
abbrev s_first_within : Stmt := top 10
abbrev N_first_within : List Str := ["step", "modulus", "low", "high", "many", "turns"]
abbrev ps_first_within : List Str := ["step", "modulus", "low", "high"]
theorem sc_first_within : FnScope N_first_within ps_first_within (defScope s_first_within) := ⟨rfl, rfl, rfl, by decide +kernel, rfl, by decide +kernel, by decide +kernel⟩
theorem bd_first_within : Bd "first_within" s_first_within ps_first_within := fun _ _ _ _ _ _ us hl => match us, hl with | [_, _, _, _], _ => rfl
abbrev s_first_row : Stmt := top 11
abbrev N_first_row : List Str := ["caps", "weights", "low", "high", "start", "first", "second", "begin", "rest", "wide", "turns", "value"]
abbrev ps_first_row : List Str := ["caps", "weights", "low", "high", "start"]
theorem sc_first_row : FnScope N_first_row ps_first_row (defScope s_first_row) := ⟨rfl, rfl, rfl, by decide +kernel, rfl, by decide +kernel, by decide +kernel⟩
theorem bd_first_row : Bd "first_row" s_first_row ps_first_row := fun _ _ _ _ _ _ us hl => match us, hl with | [_, _, _, _, _], _ => rfl
abbrev s_two_cut : Stmt := top 12
abbrev N_two_cut : List Str := ["caps", "weights", "low", "high", "other", "least", "most", "one"]
abbrev ps_two_cut : List Str := ["caps", "weights", "low", "high"]
theorem sc_two_cut : FnScope N_two_cut ps_two_cut (defScope s_two_cut) := ⟨rfl, rfl, rfl, by decide +kernel, rfl, by decide +kernel, by decide +kernel⟩
theorem bd_two_cut : Bd "two_cut" s_two_cut ps_two_cut := fun _ _ _ _ _ _ us hl => match us, hl with | [_, _, _, _], _ => rfl
abbrev s_heaviest : Stmt := top 13
abbrev N_heaviest : List Str := ["caps", "weights", "some", "key", "weight"]
abbrev ps_heaviest : List Str := ["caps", "weights"]
theorem sc_heaviest : FnScope N_heaviest ps_heaviest (defScope s_heaviest) := ⟨rfl, rfl, rfl, by decide +kernel, rfl, by decide +kernel, by decide +kernel⟩
theorem bd_heaviest : Bd "heaviest" s_heaviest ps_heaviest := fun _ _ _ _ _ _ us hl => match us, hl with | [_, _], _ => rfl
abbrev s_enough_slack : Stmt := top 14
abbrev N_enough_slack : List Str := ["caps", "weights", "keys"]
abbrev ps_enough_slack : List Str := ["caps", "weights"]
theorem sc_enough_slack : FnScope N_enough_slack ps_enough_slack (defScope s_enough_slack) := ⟨rfl, rfl, rfl, by decide +kernel, rfl, by decide +kernel, by decide +kernel⟩
theorem bd_enough_slack : Bd "enough_slack" s_enough_slack ps_enough_slack := fun _ _ _ _ _ _ us hl => match us, hl with | [_, _], _ => rfl
abbrev s_slack_cut : Stmt := top 15
abbrev N_slack_cut : List Str := ["caps", "weights", "keys", "units", "unit", "key"]
abbrev ps_slack_cut : List Str := ["caps", "weights"]
theorem sc_slack_cut : FnScope N_slack_cut ps_slack_cut (defScope s_slack_cut) := ⟨rfl, rfl, rfl, by decide +kernel, rfl, by decide +kernel, by decide +kernel⟩
theorem bd_slack_cut : Bd "slack_cut" s_slack_cut ps_slack_cut := fun _ _ _ _ _ _ us hl => match us, hl with | [_, _], _ => rfl
abbrev s__law_draw : Stmt := top 17
abbrev N__law_draw : List Str := ["script", "salt", "cells", "blend", "cell"]
abbrev ps__law_draw : List Str := ["script", "salt"]
theorem sc__law_draw : FnScope N__law_draw ps__law_draw (defScope s__law_draw) := ⟨rfl, rfl, rfl, by decide +kernel, rfl, by decide +kernel, by decide +kernel⟩
theorem bd__law_draw : Bd "_law_draw" s__law_draw ps__law_draw := fun _ _ _ _ _ _ us hl => match us, hl with | [_, _], _ => rfl
abbrev s__law_any : Stmt := top 18
abbrev N__law_any : List Str := ["deal", "bound", "rest"]
abbrev ps__law_any : List Str := ["deal", "bound"]
theorem sc__law_any : FnScope N__law_any ps__law_any (defScope s__law_any) := ⟨rfl, rfl, rfl, by decide +kernel, rfl, by decide +kernel, by decide +kernel⟩
theorem bd__law_any : Bd "_law_any" s__law_any ps__law_any := fun _ _ _ _ _ _ us hl => match us, hl with | [_, _], _ => rfl
abbrev s__law_of : Stmt := top 19
abbrev N__law_of : List Str := ["deal", "some"]
abbrev ps__law_of : List Str := ["deal", "some"]
theorem sc__law_of : FnScope N__law_of ps__law_of (defScope s__law_of) := ⟨rfl, rfl, rfl, by decide +kernel, rfl, by decide +kernel, by decide +kernel⟩
theorem bd__law_of : Bd "_law_of" s__law_of ps__law_of := fun _ _ _ _ _ _ us hl => match us, hl with | [_, _], _ => rfl
abbrev s__law_great : Stmt := top 20
abbrev N__law_great : List Str := ["deal", "bound", "number", "turn"]
abbrev ps__law_great : List Str := ["deal", "bound"]
theorem sc__law_great : FnScope N__law_great ps__law_great (defScope s__law_great) := ⟨rfl, rfl, rfl, by decide +kernel, rfl, by decide +kernel, by decide +kernel⟩
theorem bd__law_great : Bd "_law_great" s__law_great ps__law_great := fun _ _ _ _ _ _ us hl => match us, hl with | [_, _], _ => rfl
abbrev s__law_weighed : Stmt := top 21
abbrev N__law_weighed : List Str := ["weights", "row", "weight", "value"]
abbrev ps__law_weighed : List Str := ["weights", "row"]
theorem sc__law_weighed : FnScope N__law_weighed ps__law_weighed (defScope s__law_weighed) := ⟨rfl, rfl, rfl, by decide +kernel, rfl, by decide +kernel, by decide +kernel⟩
theorem bd__law_weighed : Bd "_law_weighed" s__law_weighed ps__law_weighed := fun _ _ _ _ _ _ us hl => match us, hl with | [_, _], _ => rfl
abbrev s__law_rows : Stmt := top 22
abbrev N__law_rows : List Str := ["caps", "weights", "low", "high", "found", "cap", "longer", "row", "value"]
abbrev ps__law_rows : List Str := ["caps", "weights", "low", "high"]
theorem sc__law_rows : FnScope N__law_rows ps__law_rows (defScope s__law_rows) := ⟨rfl, rfl, rfl, by decide +kernel, rfl, by decide +kernel, by decide +kernel⟩
theorem bd__law_rows : Bd "_law_rows" s__law_rows ps__law_rows := fun _ _ _ _ _ _ us hl => match us, hl with | [_, _, _, _], _ => rfl
abbrev s__law_allowed : Stmt := top 23
abbrev N__law_allowed : List Str := ["caps", "weights", "low", "high", "row", "value", "cap"]
abbrev ps__law_allowed : List Str := ["caps", "weights", "low", "high", "row"]
theorem sc__law_allowed : FnScope N__law_allowed ps__law_allowed (defScope s__law_allowed) := ⟨rfl, rfl, rfl, by decide +kernel, rfl, by decide +kernel, by decide +kernel⟩
theorem bd__law_allowed : Bd "_law_allowed" s__law_allowed ps__law_allowed := fun _ _ _ _ _ _ us hl => match us, hl with | [_, _, _, _, _], _ => rfl
abbrev s__law_cut : Stmt := top 24
abbrev N__law_cut : List Str := ["caps", "weights", "low", "high", "told", "one", "other", "up", "down", "total", "key"]
abbrev ps__law_cut : List Str := ["caps", "weights", "low", "high", "told"]
theorem sc__law_cut : FnScope N__law_cut ps__law_cut (defScope s__law_cut) := ⟨rfl, rfl, rfl, by decide +kernel, rfl, by decide +kernel, by decide +kernel⟩
theorem bd__law_cut : Bd "_law_cut" s__law_cut ps__law_cut := fun _ _ _ _ _ _ us hl => match us, hl with | [_, _, _, _, _], _ => rfl
abbrev s__law_reached : Stmt := top 25
abbrev N__law_reached : List Str := ["rows", "one", "found", "fresh", "left", "turn", "row", "near", "k"]
abbrev ps__law_reached : List Str := ["rows", "one"]
theorem sc__law_reached : FnScope N__law_reached ps__law_reached (defScope s__law_reached) := ⟨rfl, rfl, rfl, by decide +kernel, rfl, by decide +kernel, by decide +kernel⟩
theorem bd__law_reached : Bd "_law_reached" s__law_reached ps__law_reached := fun _ _ _ _ _ _ us hl => match us, hl with | [_, _], _ => rfl
abbrev s__law_two : Stmt := top 26
abbrev N__law_two : List Str := ["caps", "weights", "low", "high", "joined", "turn", "told"]
abbrev ps__law_two : List Str := ["caps", "weights", "low", "high", "joined"]
theorem sc__law_two : FnScope N__law_two ps__law_two (defScope s__law_two) := ⟨rfl, rfl, rfl, by decide +kernel, rfl, by decide +kernel, by decide +kernel⟩
theorem bd__law_two : Bd "_law_two" s__law_two ps__law_two := fun _ _ _ _ _ _ us hl => match us, hl with | [_, _, _, _, _], _ => rfl
abbrev s__law_small : Stmt := top 27
abbrev N__law_small : List Str := ["deal", "caps", "weights", "low", "high", "rows", "joined", "times", "least", "most", "weight"]
abbrev ps__law_small : List Str := ["deal"]
theorem sc__law_small : FnScope N__law_small ps__law_small (defScope s__law_small) := ⟨rfl, rfl, rfl, by decide +kernel, rfl, by decide +kernel, by decide +kernel⟩
theorem bd__law_small : Bd "_law_small" s__law_small ps__law_small := fun _ _ _ _ _ _ us hl => match us, hl with | [_], _ => rfl
abbrev s__law_wide : Stmt := top 28
abbrev N__law_wide : List Str := ["deal", "weights", "one", "caps", "total", "moved", "low", "high", "turn"]
abbrev ps__law_wide : List Str := ["deal"]
theorem sc__law_wide : FnScope N__law_wide ps__law_wide (defScope s__law_wide) := ⟨rfl, rfl, rfl, by decide +kernel, rfl, by decide +kernel, by decide +kernel⟩
theorem bd__law_wide : Bd "_law_wide" s__law_wide ps__law_wide := fun _ _ _ _ _ _ us hl => match us, hl with | [_], _ => rfl
abbrev s__law_near : Stmt := top 29
abbrev N__law_near : List Str := ["deal", "rows", "caps", "pair", "one", "other", "key", "bent", "some"]
abbrev ps__law_near : List Str := ["deal", "rows", "caps", "pair"]
theorem sc__law_near : FnScope N__law_near ps__law_near (defScope s__law_near) := ⟨rfl, rfl, rfl, by decide +kernel, rfl, by decide +kernel, by decide +kernel⟩
theorem bd__law_near : Bd "_law_near" s__law_near ps__law_near := fun _ _ _ _ _ _ us hl => match us, hl with | [_, _, _, _], _ => rfl
abbrev s__law_near_cuts : Stmt := top 30
abbrev N__law_near_cuts : List Str := ["deal", "caps", "weights", "low", "high", "rows", "turn", "one", "cuts", "other", "value", "due", "row", "key"]
abbrev ps__law_near_cuts : List Str := ["deal", "caps", "weights", "low", "high"]
theorem sc__law_near_cuts : FnScope N__law_near_cuts ps__law_near_cuts (defScope s__law_near_cuts) := ⟨rfl, rfl, rfl, by decide +kernel, rfl, by decide +kernel, by decide +kernel⟩
theorem bd__law_near_cuts : Bd "_law_near_cuts" s__law_near_cuts ps__law_near_cuts := fun _ _ _ _ _ _ us hl => match us, hl with | [_, _, _, _, _], _ => rfl
abbrev s__law_enough : Stmt := top 31
abbrev N__law_enough : List Str := ["caps", "weights", "some", "weight", "cap"]
abbrev ps__law_enough : List Str := ["caps", "weights"]
theorem sc__law_enough : FnScope N__law_enough ps__law_enough (defScope s__law_enough) := ⟨rfl, rfl, rfl, by decide +kernel, rfl, by decide +kernel, by decide +kernel⟩
theorem bd__law_enough : Bd "_law_enough" s__law_enough ps__law_enough := fun _ _ _ _ _ _ us hl => match us, hl with | [_, _], _ => rfl
abbrev s__law_slack : Stmt := top 32
abbrev N__law_slack : List Str := ["caps", "weights", "due", "told", "low", "one", "other"]
abbrev ps__law_slack : List Str := ["caps", "weights"]
theorem sc__law_slack : FnScope N__law_slack ps__law_slack (defScope s__law_slack) := ⟨rfl, rfl, rfl, by decide +kernel, rfl, by decide +kernel, by decide +kernel⟩
theorem bd__law_slack : Bd "_law_slack" s__law_slack ps__law_slack := fun _ _ _ _ _ _ us hl => match us, hl with | [_, _], _ => rfl
abbrev s_law : Stmt := top 33
abbrev N_law : List Str := ["script", "deal", "caps", "weights", "low", "rows", "one", "other", "agree", "great", "key", "cap", "row"]
abbrev ps_law : List Str := ["script"]
theorem sc_law : FnScope N_law ps_law (defScope s_law) := ⟨rfl, rfl, rfl, by decide +kernel, rfl, by decide +kernel, by decide +kernel⟩
theorem bd_law : Bd "law" s_law ps_law := fun _ _ _ _ _ _ us hl => match us, hl with | [_], _ => rfl
theorem bk_is_cut_0 : Bk "is_cut" s_is_cut ps_is_cut 0 ["value", "high", "low", "weights", "caps"] [4, 3, 2, 1, 0] := fun _ _ _ _ _ _ us ws h1 h2 => match us, ws, h1, h2 with | [], [_, _, _, _, _], _, _ => rfl
theorem bk_two_cut_1 : Bk "two_cut" s_two_cut ps_two_cut 0 ["high", "low", "weights", "caps"] [3, 2, 1, 0] := fun _ _ _ _ _ _ us ws h1 h2 => match us, ws, h1, h2 with | [], [_, _, _, _], _, _ => rfl
theorem bk_slack_cut_2 : Bk "slack_cut" s_slack_cut ps_slack_cut 0 ["weights", "caps"] [1, 0] := fun _ _ _ _ _ _ us ws h1 h2 => match us, ws, h1, h2 with | [], [_, _], _, _ => rfl
theorem bk_enough_slack_3 : Bk "enough_slack" s_enough_slack ps_enough_slack 0 ["weights", "caps"] [1, 0] := fun _ _ _ _ _ _ us ws h1 h2 => match us, ws, h1, h2 with | [], [_, _], _, _ => rfl
section
variable {P : Program} {w : World} {K : PySem.W.Frag} {mg : Str → Option Value} {base : Heap} {k : Nat} {f : Addr} {fd : FuncData}
def t_is_integer : DS := (dSeq (dRet (dAndV (dCB gIsi (dCons (dVar 0) (dCons (dC (.ty "int")) dNil))) (dNotV (dCB gIsi (dCons (dVar 0) (dCons (dC (.ty "bool")) dNil)))))) dNext)
theorem b_is_integer  {cdv : Value} {A : Around} {outer : List Env} {s : Shared} {H : Hp} {E : XK} {W : WX} (n_isinstance : mg "isinstance" = none) (n_bool : mg "bool" = none) (n_int : mg "int" = none)
    (hr : Room k (CF P w K mg base N_is_integer "is_integer" s_is_integer f cdv A outer s H E).A) (hgu : (CF P w K mg base N_is_integer "is_integer" s_is_integer f cdv A outer s H E).A.guards = some []) (tk : Takes (CF P w K mg base N_is_integer "is_integer" s_is_integer f cdv A outer s H E) W) : JSs (CF P w K mg base N_is_integer "is_integer" s_is_integer f cdv A outer s H E) W (defBody s_is_integer) (t_is_integer ) :=
  have nd : (CF P w K mg base N_is_integer "is_integer" s_is_integer f cdv A outer s H E).N.Nodup := sc_is_integer.nd
  (js_cons (js_ret (je_and (je_isi rfl n_isinstance (ja_cons (jv 0) (ja_cons (je_bty rfl n_int PyProof.Rows.boot_int) ja_nil))) (je_one (je_not (je_isi rfl n_isinstance (ja_cons (jv 0) (ja_cons (je_bty rfl n_bool PyProof.Rows.boot_bool) ja_nil))))))) js_nil)
theorem ok_is_integer  {S : DSp} (D : FnP K "is_integer" s_is_integer f fd) (m : mg "is_integer" = some (.ref f)) (n_isinstance : mg "isinstance" = none) (n_bool : mg "bool" = none) (n_int : mg "int" = none) (len : ∀ ds M Pd X, S ds M Pd X → ds.length = ps_is_integer.length)
    (hp : ∀ ds M Pd X, MemOk M → S ds M Pd X → t_is_integer  (dkOf M.length Pd X) (startD N_is_integer ds) M) : Fx P w K mg base (k + 1) "is_integer" s_is_integer ps_is_integer S :=
  fx_of D m sc_is_integer _ len (fun _ _ _ _ _ _ _ hr hgu tk => b_is_integer n_isinstance n_bool n_int hr hgu tk) hp
def t_is_number (S_is_integer : DSp) : DS := (dSeq (dRet (dAndV (dCall S_is_integer (dCons (dVar 0) dNil)) (dOp gGe (dVar 0) (dC (.int 0))))) dNext)
theorem b_is_number {S_is_integer : DSp} {cdv : Value} {A : Around} {outer : List Env} {s : Shared} {H : Hp} {E : XK} {W : WX} (F_is_integer : Fx P w K mg base k "is_integer" s_is_integer ps_is_integer S_is_integer)
    (hr : Room k (CF P w K mg base N_is_number "is_number" s_is_number f cdv A outer s H E).A) (hgu : (CF P w K mg base N_is_number "is_number" s_is_number f cdv A outer s H E).A.guards = some []) (tk : Takes (CF P w K mg base N_is_number "is_number" s_is_number f cdv A outer s H E) W) : JSs (CF P w K mg base N_is_number "is_number" s_is_number f cdv A outer s H E) W (defBody s_is_number) (t_is_number S_is_integer) :=
  have nd : (CF P w K mg base N_is_number "is_number" s_is_number f cdv A outer s H E).N.Nodup := sc_is_number.nd
  (js_cons (js_ret (je_and (je_cx F_is_integer hr hgu tk bd_is_integer rfl (ja_cons (jv 0) ja_nil)) (je_one (je_ge (jv 0) je_int)))) js_nil)
theorem ok_is_number {S_is_integer : DSp} {S : DSp} (D : FnP K "is_number" s_is_number f fd) (m : mg "is_number" = some (.ref f)) (F_is_integer : Fx P w K mg base k "is_integer" s_is_integer ps_is_integer S_is_integer) (len : ∀ ds M Pd X, S ds M Pd X → ds.length = ps_is_number.length)
    (hp : ∀ ds M Pd X, MemOk M → S ds M Pd X → t_is_number S_is_integer (dkOf M.length Pd X) (startD N_is_number ds) M) : Fx P w K mg base (k + 1) "is_number" s_is_number ps_is_number S :=
  fx_of D m sc_is_number _ len (fun _ _ _ _ _ _ _ hr hgu tk => b_is_number F_is_integer hr hgu tk) hp
def t_is_index (S_is_number : DSp) : DS := (dSeq (dRet (dAndV (dCall S_is_number (dCons (dVar 0) dNil)) (dOp gLt (dVar 0) (dVar 1)))) dNext)
theorem b_is_index {S_is_number : DSp} {cdv : Value} {A : Around} {outer : List Env} {s : Shared} {H : Hp} {E : XK} {W : WX} (F_is_number : Fx P w K mg base k "is_number" s_is_number ps_is_number S_is_number)
    (hr : Room k (CF P w K mg base N_is_index "is_index" s_is_index f cdv A outer s H E).A) (hgu : (CF P w K mg base N_is_index "is_index" s_is_index f cdv A outer s H E).A.guards = some []) (tk : Takes (CF P w K mg base N_is_index "is_index" s_is_index f cdv A outer s H E) W) : JSs (CF P w K mg base N_is_index "is_index" s_is_index f cdv A outer s H E) W (defBody s_is_index) (t_is_index S_is_number) :=
  have nd : (CF P w K mg base N_is_index "is_index" s_is_index f cdv A outer s H E).N.Nodup := sc_is_index.nd
  (js_cons (js_ret (je_and (je_cx F_is_number hr hgu tk bd_is_number rfl (ja_cons (jv 0) ja_nil)) (je_one (je_lt (jv 0) (jv 1))))) js_nil)
theorem ok_is_index {S_is_number : DSp} {S : DSp} (D : FnP K "is_index" s_is_index f fd) (m : mg "is_index" = some (.ref f)) (F_is_number : Fx P w K mg base k "is_number" s_is_number ps_is_number S_is_number) (len : ∀ ds M Pd X, S ds M Pd X → ds.length = ps_is_index.length)
    (hp : ∀ ds M Pd X, MemOk M → S ds M Pd X → t_is_index S_is_number (dkOf M.length Pd X) (startD N_is_index ds) M) : Fx P w K mg base (k + 1) "is_index" s_is_index ps_is_index S :=
  fx_of D m sc_is_index _ len (fun _ _ _ _ _ _ _ hr hgu tk => b_is_index F_is_number hr hgu tk) hp
def t_is_sequence : DS := (dSeq (dRet (dCB gIsiT (dCons (dVar 0) (dCons (dTup (dCons (dC (.ty "list")) (dCons (dC (.ty "tuple")) dNil))) dNil)))) dNext)
theorem b_is_sequence  {cdv : Value} {A : Around} {outer : List Env} {s : Shared} {H : Hp} {E : XK} {W : WX} (n_isinstance : mg "isinstance" = none) (n_tuple : mg "tuple" = none) (n_list : mg "list" = none)
    (hr : Room k (CF P w K mg base N_is_sequence "is_sequence" s_is_sequence f cdv A outer s H E).A) (hgu : (CF P w K mg base N_is_sequence "is_sequence" s_is_sequence f cdv A outer s H E).A.guards = some []) (tk : Takes (CF P w K mg base N_is_sequence "is_sequence" s_is_sequence f cdv A outer s H E) W) : JSs (CF P w K mg base N_is_sequence "is_sequence" s_is_sequence f cdv A outer s H E) W (defBody s_is_sequence) (t_is_sequence ) :=
  have nd : (CF P w K mg base N_is_sequence "is_sequence" s_is_sequence f cdv A outer s H E).N.Nodup := sc_is_sequence.nd
  (js_cons (js_ret (je_isiT rfl n_isinstance (ja_cons (jv 0) (ja_cons (je_tup (ja_cons (je_bty rfl n_list PyProof.Rows.boot_list) (ja_cons (je_bty rfl n_tuple PyProof.Rows.boot_tuple) ja_nil))) ja_nil)))) js_nil)
theorem ok_is_sequence  {S : DSp} (D : FnP K "is_sequence" s_is_sequence f fd) (m : mg "is_sequence" = some (.ref f)) (n_isinstance : mg "isinstance" = none) (n_tuple : mg "tuple" = none) (n_list : mg "list" = none) (len : ∀ ds M Pd X, S ds M Pd X → ds.length = ps_is_sequence.length)
    (hp : ∀ ds M Pd X, MemOk M → S ds M Pd X → t_is_sequence  (dkOf M.length Pd X) (startD N_is_sequence ds) M) : Fx P w K mg base (k + 1) "is_sequence" s_is_sequence ps_is_sequence S :=
  fx_of D m sc_is_sequence _ len (fun _ _ _ _ _ _ _ hr hgu tk => b_is_sequence n_isinstance n_tuple n_list hr hgu tk) hp
def t_is_row_below (S_is_index S_is_sequence : DSp) : DS := (dSeq (dIfS (dOr (dNot (dTru (dCall S_is_sequence (dCons (dVar 1) dNil)))) (dTest (dOp gNe (dCB gLen (dCons (dVar 1) dNil)) (dCB gLen (dCons (dVar 0) dNil))))) (dSeq (dRet (dC (.bl false))) dNext) dNext) (dSeq (dRet (dCB gAll (dCons (dComp (iZip (dCons (dVar 1) (dCons (dVar 0) dNil))) (gT 2 (gsCons (gN 2) (gsCons (gN 3) gsNil))) dYes (dCall S_is_index (dCons (dVar 2) (dCons (dOp gAdd (dVar 3) (dC (.int 1))) dNil))) [2, 3]) dNil))) dNext))
theorem b_is_row_below {S_is_index S_is_sequence : DSp} {cdv : Value} {A : Around} {outer : List Env} {s : Shared} {H : Hp} {E : XK} {W : WX} (F_is_index : Fx P w K mg base k "is_index" s_is_index ps_is_index S_is_index) (F_is_sequence : Fx P w K mg base k "is_sequence" s_is_sequence ps_is_sequence S_is_sequence) (n_all : mg "all" = none) (n_zip : mg "zip" = none) (n_len : mg "len" = none)
    (hr : Room k (CF P w K mg base N_is_row_below "is_row_below" s_is_row_below f cdv A outer s H E).A) (hgu : (CF P w K mg base N_is_row_below "is_row_below" s_is_row_below f cdv A outer s H E).A.guards = some []) (tk : Takes (CF P w K mg base N_is_row_below "is_row_below" s_is_row_below f cdv A outer s H E) W) : JSs (CF P w K mg base N_is_row_below "is_row_below" s_is_row_below f cdv A outer s H E) W (defBody s_is_row_below) (t_is_row_below S_is_index S_is_sequence) :=
  have nd : (CF P w K mg base N_is_row_below "is_row_below" s_is_row_below f cdv A outer s H E).N.Nodup := sc_is_row_below.nd
  (js_cons (js_if (PW.pt (jw_or (jt_not (jt_tru (je_cx F_is_sequence hr hgu tk bd_is_sequence rfl (ja_cons (jv 1) ja_nil)))) (jw_or1 (jt_ne hr (je_len rfl n_len (ja_cons (jv 1) ja_nil)) (je_len rfl n_len (ja_cons (jv 0) ja_nil)))))) (js_cons (js_ret je_bl) js_nil) js_nil) (js_cons (js_ret (je_all rfl rfl n_all (ja_cons (je_comp (own := [("one", 2), ("cap", 3)]) (ws := [2, 3]) rfl nd (by simp) (ji_zip rfl n_zip (ja_cons (jv 1) (ja_cons (jv 0) ja_nil))) (blkOk_by (by first | rfl | decide +kernel)) (fun _ _ _ _ _ => (jg_tup rfl (jgs_cons (jg_name (i := 2) (by simp) nd rfl (by first | exact .inl rfl | exact .inr rfl)) (jgs_cons (jg_name (i := 3) (by simp) nd rfl (by first | exact .inl rfl | exact .inr rfl)) jgs_nil)))) (fun _ _ _ _ _ => jts_nil) (fun _ _ _ _ _ => (je_cx F_is_index hr hgu takes0 bd_is_index rfl (ja_cons (jv 2) (ja_cons (je_add (jv 3) je_int) ja_nil))))) ja_nil))) js_nil))
theorem ok_is_row_below {S_is_index S_is_sequence : DSp} {S : DSp} (D : FnP K "is_row_below" s_is_row_below f fd) (m : mg "is_row_below" = some (.ref f)) (F_is_index : Fx P w K mg base k "is_index" s_is_index ps_is_index S_is_index) (F_is_sequence : Fx P w K mg base k "is_sequence" s_is_sequence ps_is_sequence S_is_sequence) (n_all : mg "all" = none) (n_zip : mg "zip" = none) (n_len : mg "len" = none) (len : ∀ ds M Pd X, S ds M Pd X → ds.length = ps_is_row_below.length)
    (hp : ∀ ds M Pd X, MemOk M → S ds M Pd X → t_is_row_below S_is_index S_is_sequence (dkOf M.length Pd X) (startD N_is_row_below ds) M) : Fx P w K mg base (k + 1) "is_row_below" s_is_row_below ps_is_row_below S :=
  fx_of D m sc_is_row_below _ len (fun _ _ _ _ _ _ _ hr hgu tk => b_is_row_below F_is_index F_is_sequence n_all n_zip n_len hr hgu tk) hp
def t_weighed : DS := (dSeq (dRet (dCB gSum (dCons (dComp (iZip (dCons (dVar 0) (dCons (dVar 1) dNil))) (gT 2 (gsCons (gN 2) (gsCons (gN 3) gsNil))) dYes (dOp gMul (dVar 2) (dVar 3)) [2, 3]) dNil))) dNext)
theorem b_weighed  {cdv : Value} {A : Around} {outer : List Env} {s : Shared} {H : Hp} {E : XK} {W : WX} (n_sum : mg "sum" = none) (n_zip : mg "zip" = none)
    (hr : Room k (CF P w K mg base N_weighed "weighed" s_weighed f cdv A outer s H E).A) (hgu : (CF P w K mg base N_weighed "weighed" s_weighed f cdv A outer s H E).A.guards = some []) (tk : Takes (CF P w K mg base N_weighed "weighed" s_weighed f cdv A outer s H E) W) : JSs (CF P w K mg base N_weighed "weighed" s_weighed f cdv A outer s H E) W (defBody s_weighed) (t_weighed ) :=
  have nd : (CF P w K mg base N_weighed "weighed" s_weighed f cdv A outer s H E).N.Nodup := sc_weighed.nd
  (js_cons (js_ret (je_sum rfl rfl n_sum (ja_cons (je_comp (own := [("weight", 2), ("value", 3)]) (ws := [2, 3]) rfl nd (by simp) (ji_zip rfl n_zip (ja_cons (jv 0) (ja_cons (jv 1) ja_nil))) (blkOk_by (by first | rfl | decide +kernel)) (fun _ _ _ _ _ => (jg_tup rfl (jgs_cons (jg_name (i := 2) (by simp) nd rfl (by first | exact .inl rfl | exact .inr rfl)) (jgs_cons (jg_name (i := 3) (by simp) nd rfl (by first | exact .inl rfl | exact .inr rfl)) jgs_nil)))) (fun _ _ _ _ _ => jts_nil) (fun _ _ _ _ _ => (je_mul (jv 2) (jv 3)))) ja_nil))) js_nil)
theorem ok_weighed  {S : DSp} (D : FnP K "weighed" s_weighed f fd) (m : mg "weighed" = some (.ref f)) (n_sum : mg "sum" = none) (n_zip : mg "zip" = none) (len : ∀ ds M Pd X, S ds M Pd X → ds.length = ps_weighed.length)
    (hp : ∀ ds M Pd X, MemOk M → S ds M Pd X → t_weighed  (dkOf M.length Pd X) (startD N_weighed ds) M) : Fx P w K mg base (k + 1) "weighed" s_weighed ps_weighed S :=
  fx_of D m sc_weighed _ len (fun _ _ _ _ _ _ _ hr hgu tk => b_weighed n_sum n_zip hr hgu tk) hp
def t_is_cut (S_weighed S_is_row_below : DSp) : DS := (dSeq (dIfS (dOr (dNot (dTru (dCB gIsi (dCons (dVar 4) (dCons (dC (.ty "tuple")) dNil))))) (dTest (dOp gNe (dCB gLen (dCons (dVar 4) dNil)) (dC (.int 2))))) (dSeq (dRet (dC (.bl false))) dNext) dNext) (dSeq (dFor (iSeq (dVar 4)) (gN 5) (dSeq (dIfS (dOr (dNot (dTru (dCB gIsi (dCons (dVar 5) (dCons (dC (.ty "tuple")) dNil))))) (dOr (dNot (dTru (dCall S_is_row_below (dCons (dVar 0) (dCons (dVar 5) dNil))))) (dNot (dTest (dChain gLe gLe (dVar 2) (dCall S_weighed (dCons (dVar 1) (dCons (dVar 5) dNil))) (dVar 3)))))) (dSeq (dRet (dC (.bl false))) dNext) dNext) dNext)) (dSeq (dAsg (dVar 4) (gT 2 (gsCons (gN 6) (gsCons (gN 7) gsNil)))) (dSeq (dSet 8 (dComp (iRan1 (dCons (dCB gLen (dCons (dVar 0) dNil)) dNil)) (gN 10) (dTest (dOp gGt (dOp gIx (dVar 7) (dVar 10)) (dOp gIx (dVar 6) (dVar 10)))) (dVar 10) [10])) (dSeq (dSet 9 (dComp (iRan1 (dCons (dCB gLen (dCons (dVar 0) dNil)) dNil)) (gN 10) (dTest (dOp gLt (dOp gIx (dVar 7) (dVar 10)) (dOp gIx (dVar 6) (dVar 10)))) (dVar 10) [10])) (dSeq (dIfS (dOr (dTest (dOp gNe (dCB gLen (dCons (dVar 8) dNil)) (dC (.int 1)))) (dTest (dOp gNe (dCB gLen (dCons (dVar 9) dNil)) (dC (.int 1))))) (dSeq (dRet (dC (.bl false))) dNext) dNext) (dSeq (dRet (dAndV (dOp gGt (dOp gAdd (dCall S_weighed (dCons (dVar 1) (dCons (dVar 6) dNil))) (dOp gIx (dVar 1) (dOp gIx (dVar 8) (dC (.int 0))))) (dVar 3)) (dOp gLt (dOp gSub' (dCall S_weighed (dCons (dVar 1) (dCons (dVar 6) dNil))) (dOp gIx (dVar 1) (dOp gIx (dVar 9) (dC (.int 0))))) (dVar 2)))) dNext)))))))
theorem b_is_cut {S_weighed S_is_row_below : DSp} {cdv : Value} {A : Around} {outer : List Env} {s : Shared} {H : Hp} {E : XK} {W : WX} (F_weighed : Fx P w K mg base k "weighed" s_weighed ps_weighed S_weighed) (F_is_row_below : Fx P w K mg base k "is_row_below" s_is_row_below ps_is_row_below S_is_row_below) (n_len : mg "len" = none) (n_range : mg "range" = none) (n_isinstance : mg "isinstance" = none) (n_tuple : mg "tuple" = none)
    (hr : Room k (CF P w K mg base N_is_cut "is_cut" s_is_cut f cdv A outer s H E).A) (hgu : (CF P w K mg base N_is_cut "is_cut" s_is_cut f cdv A outer s H E).A.guards = some []) (tk : Takes (CF P w K mg base N_is_cut "is_cut" s_is_cut f cdv A outer s H E) W) : JSs (CF P w K mg base N_is_cut "is_cut" s_is_cut f cdv A outer s H E) W (defBody s_is_cut) (t_is_cut S_weighed S_is_row_below) :=
  have nd : (CF P w K mg base N_is_cut "is_cut" s_is_cut f cdv A outer s H E).N.Nodup := sc_is_cut.nd
  (js_cons (js_if (PW.pt (jw_or (jt_not (jt_tru (je_isi rfl n_isinstance (ja_cons (jv 4) (ja_cons (je_bty rfl n_tuple PyProof.Rows.boot_tuple) ja_nil))))) (jw_or1 (jt_ne hr (je_len rfl n_len (ja_cons (jv 4) ja_nil)) je_int)))) (js_cons (js_ret je_bl) js_nil) js_nil) (js_cons (js_for (ws := [5]) (passes_of rfl) rfl (ji_seq (jv 4)) (jg_name (i := 5) (by simp) nd rfl (by first | exact .inl rfl | exact .inr rfl)) (js_cons (js_if (PW.pt (jw_or (jt_not (jt_tru (je_isi rfl n_isinstance (ja_cons (jv 5) (ja_cons (je_bty rfl n_tuple PyProof.Rows.boot_tuple) ja_nil))))) (jw_or (jt_not (jt_tru (je_cx F_is_row_below hr hgu tk bd_is_row_below rfl (ja_cons (jv 0) (ja_cons (jv 5) ja_nil))))) (jw_or1 (jt_not (jt_chain op_le op_le o2B0 o2B0 (jv 2) (je_cx F_weighed hr hgu tk bd_weighed rfl (ja_cons (jv 1) (ja_cons (jv 5) ja_nil))) (jv 3))))))) (js_cons (js_ret je_bl) js_nil) js_nil) js_nil)) (js_cons (js_asg (ws := [6, 7]) (jv 4) (jg_tup rfl (jgs_cons (jg_name (i := 6) (by simp) nd rfl (by first | exact .inl rfl | exact .inr rfl)) (jgs_cons (jg_name (i := 7) (by simp) nd rfl (by first | exact .inl rfl | exact .inr rfl)) jgs_nil)))) (js_cons (js_comp (i := 8) (own := [("key", 10)]) (ws := [10]) rfl nd (by simp) (ji_range1 rfl n_range (ja_cons (je_len rfl n_len (ja_cons (jv 0) ja_nil)) ja_nil)) (blkOk_by (by first | rfl | decide +kernel)) (fun _ _ _ _ _ => (jg_name (i := 10) (by simp) nd rfl (by first | exact .inl rfl | exact .inr rfl))) (fun _ _ _ _ _ => (jts_one (jt_gt (je_at (jv 7) (jv 10)) (je_at (jv 6) (jv 10))))) (fun _ _ _ _ _ => (jv 10)) rfl rfl rfl) (js_cons (js_comp (i := 9) (own := [("key", 10)]) (ws := [10]) rfl nd (by simp) (ji_range1 rfl n_range (ja_cons (je_len rfl n_len (ja_cons (jv 0) ja_nil)) ja_nil)) (blkOk_by (by first | rfl | decide +kernel)) (fun _ _ _ _ _ => (jg_name (i := 10) (by simp) nd rfl (by first | exact .inl rfl | exact .inr rfl))) (fun _ _ _ _ _ => (jts_one (jt_lt (je_at (jv 7) (jv 10)) (je_at (jv 6) (jv 10))))) (fun _ _ _ _ _ => (jv 10)) rfl rfl rfl) (js_cons (js_if (PW.pt (jw_or (jt_ne hr (je_len rfl n_len (ja_cons (jv 8) ja_nil)) je_int) (jw_or1 (jt_ne hr (je_len rfl n_len (ja_cons (jv 9) ja_nil)) je_int)))) (js_cons (js_ret je_bl) js_nil) js_nil) (js_cons (js_ret (je_and (je_gt (je_add (je_cx F_weighed hr hgu tk bd_weighed rfl (ja_cons (jv 1) (ja_cons (jv 6) ja_nil))) (je_at (jv 1) (je_at (jv 8) je_int))) (jv 3)) (je_one (je_lt (je_sub (je_cx F_weighed hr hgu tk bd_weighed rfl (ja_cons (jv 1) (ja_cons (jv 6) ja_nil))) (je_at (jv 1) (je_at (jv 9) je_int))) (jv 2))))) js_nil)))))))
theorem ok_is_cut {S_weighed S_is_row_below : DSp} {S : DSp} (D : FnP K "is_cut" s_is_cut f fd) (m : mg "is_cut" = some (.ref f)) (F_weighed : Fx P w K mg base k "weighed" s_weighed ps_weighed S_weighed) (F_is_row_below : Fx P w K mg base k "is_row_below" s_is_row_below ps_is_row_below S_is_row_below) (n_len : mg "len" = none) (n_range : mg "range" = none) (n_isinstance : mg "isinstance" = none) (n_tuple : mg "tuple" = none) (len : ∀ ds M Pd X, S ds M Pd X → ds.length = ps_is_cut.length)
    (hp : ∀ ds M Pd X, MemOk M → S ds M Pd X → t_is_cut S_weighed S_is_row_below (dkOf M.length Pd X) (startD N_is_cut ds) M) : Fx P w K mg base (k + 1) "is_cut" s_is_cut ps_is_cut S :=
  fx_of D m sc_is_cut _ len (fun _ _ _ _ _ _ _ hr hgu tk => b_is_cut F_weighed F_is_row_below n_len n_range n_isinstance n_tuple hr hgu tk) hp
def t_first_within (S_first_within : DSp) : DS := (dSeq (dIfS (dTest (dOp gEq (dVar 0) (dC (.int 0)))) (dSeq (dRet (dC .non)) dNext) dNext) (dSeq (dIfS (dTest (dOp gGt (dOp gMul (dC (.int 2)) (dVar 0)) (dVar 1))) (dSeq (dRet (dCall S_first_within (dCons (dOp gSub' (dVar 1) (dVar 0)) (dCons (dVar 1) (dCons (dOp gSub' (dVar 1) (dVar 3)) (dCons (dOp gSub' (dVar 1) (dVar 2)) dNil)))))) dNext) dNext) (dSeq (dSet 4 (dOp gDiv (dOp gSub' (dOp gAdd (dVar 2) (dVar 0)) (dC (.int 1))) (dVar 0))) (dSeq (dIfS (dTest (dOp gLe (dOp gMul (dVar 4) (dVar 0)) (dVar 3))) (dSeq (dRet (dVar 4)) dNext) dNext) (dSeq (dSet 5 (dCall S_first_within (dCons (dOp gMod (dOp gSub' (dC (.int 0)) (dVar 1)) (dVar 0)) (dCons (dVar 0) (dCons (dOp gMod (dVar 2) (dVar 0)) (dCons (dOp gMod (dVar 3) (dVar 0)) dNil)))))) (dSeq (dRet (dIf (dTest (dOp (gIs false) (dVar 5) (dC .non))) (dC .non) (dOp gDiv (dOp gSub' (dOp gAdd (dOp gAdd (dOp gMul (dVar 1) (dVar 5)) (dVar 2)) (dVar 0)) (dC (.int 1))) (dVar 0)))) dNext))))))
theorem b_first_within {S_first_within : DSp} {cdv : Value} {A : Around} {outer : List Env} {s : Shared} {H : Hp} {E : XK} {W : WX} (F_first_within : Fx P w K mg base k "first_within" s_first_within ps_first_within S_first_within)
    (hr : Room k (CF P w K mg base N_first_within "first_within" s_first_within f cdv A outer s H E).A) (hgu : (CF P w K mg base N_first_within "first_within" s_first_within f cdv A outer s H E).A.guards = some []) (tk : Takes (CF P w K mg base N_first_within "first_within" s_first_within f cdv A outer s H E) W) : JSs (CF P w K mg base N_first_within "first_within" s_first_within f cdv A outer s H E) W (defBody s_first_within) (t_first_within S_first_within) :=
  have nd : (CF P w K mg base N_first_within "first_within" s_first_within f cdv A outer s H E).N.Nodup := sc_first_within.nd
  (js_cons (js_if (jt_eq hr (jv 0) je_int) (js_cons (js_ret je_non) js_nil) js_nil) (js_cons (js_if (jt_gt (je_mul je_int (jv 0)) (jv 1)) (js_cons (js_ret (je_cx F_first_within hr hgu tk bd_first_within rfl (ja_cons (je_sub (jv 1) (jv 0)) (ja_cons (jv 1) (ja_cons (je_sub (jv 1) (jv 3)) (ja_cons (je_sub (jv 1) (jv 2)) ja_nil)))))) js_nil) js_nil) (js_cons (js_set (i := 4) nd rfl (by first | exact .inl rfl | exact .inr rfl) (je_div (je_sub (je_add (jv 2) (jv 0)) je_int) (jv 0))) (js_cons (js_if (jt_le (je_mul (jv 4) (jv 0)) (jv 3)) (js_cons (js_ret (jv 4)) js_nil) js_nil) (js_cons (js_set (i := 5) nd rfl (by first | exact .inl rfl | exact .inr rfl) (je_cx F_first_within hr hgu tk bd_first_within rfl (ja_cons (je_mod (je_sub je_int (jv 1)) (jv 0)) (ja_cons (jv 0) (ja_cons (je_mod (jv 2) (jv 0)) (ja_cons (je_mod (jv 3) (jv 0)) ja_nil)))))) (js_cons (js_ret (je_if (jt_is (jv 5) je_non) je_non (je_div (je_sub (je_add (je_add (je_mul (jv 1) (jv 5)) (jv 2)) (jv 0)) je_int) (jv 0)))) js_nil))))))
theorem ok_first_within {S_first_within : DSp} {S : DSp} (D : FnP K "first_within" s_first_within f fd) (m : mg "first_within" = some (.ref f)) (F_first_within : Fx P w K mg base k "first_within" s_first_within ps_first_within S_first_within) (len : ∀ ds M Pd X, S ds M Pd X → ds.length = ps_first_within.length)
    (hp : ∀ ds M Pd X, MemOk M → S ds M Pd X → t_first_within S_first_within (dkOf M.length Pd X) (startD N_first_within ds) M) : Fx P w K mg base (k + 1) "first_within" s_first_within ps_first_within S :=
  fx_of D m sc_first_within _ len (fun _ _ _ _ _ _ _ hr hgu tk => b_first_within F_first_within hr hgu tk) hp
def t_first_row (S_first_within : DSp) : DS := (dSeq (dAsg (dVar 1) (gT 2 (gsCons (gN 5) (gsCons (gN 6) gsNil)))) (dSeq (dSet 7 (dCB gMax2 (dCons (dVar 4) (dCons (dOp gDiv (dOp gSub' (dOp gAdd (dOp gSub' (dVar 2) (dOp gMul (dOp gIx (dVar 0) (dC (.int 0))) (dVar 5))) (dVar 6)) (dC (.int 1))) (dVar 6)) dNil)))) (dSeq (dIfS (dOr (dTest (dOp gGt (dVar 2) (dVar 3))) (dTest (dOp gGt (dVar 7) (dCB gMin2 (dCons (dOp gIx (dVar 0) (dC (.int 1))) (dCons (dOp gDiv (dVar 3) (dVar 6)) dNil)))))) (dSeq (dRet (dC .non)) dNext) dNext) (dSeq (dPar3 8 9 10 (dCons (dOp gMod (dOp gSub' (dOp gMul (dVar 6) (dVar 7)) (dVar 2)) (dVar 5)) (dCons (dOp gSub' (dVar 3) (dVar 2)) (dCons (dC (.int 0)) dNil)))) (dSeq (dIfS (dTest (dOp gGt (dVar 8) (dVar 9))) (dSeq (dSet 10 (dCall S_first_within (dCons (dOp gMod (dVar 6) (dVar 5)) (dCons (dVar 5) (dCons (dOp gSub' (dVar 5) (dVar 8)) (dCons (dOp gAdd (dOp gSub' (dVar 5) (dVar 8)) (dVar 9)) dNil)))))) dNext) dNext) (dSeq (dIfS (dOr (dTest (dOp (gIs false) (dVar 10) (dC .non))) (dTest (dOp gGt (dOp gAdd (dVar 7) (dVar 10)) (dCB gMin2 (dCons (dOp gIx (dVar 0) (dC (.int 1))) (dCons (dOp gDiv (dVar 3) (dVar 6)) dNil)))))) (dSeq (dRet (dC .non)) dNext) dNext) (dSeq (dSet 11 (dOp gAdd (dVar 7) (dVar 10))) (dSeq (dRet (dTup (dCons (dCB gMax2 (dCons (dC (.int 0)) (dCons (dOp gDiv (dOp gSub' (dOp gAdd (dOp gSub' (dVar 2) (dOp gMul (dVar 6) (dVar 11))) (dVar 5)) (dC (.int 1))) (dVar 5)) dNil))) (dCons (dVar 11) dNil)))) dNext))))))))
theorem b_first_row {S_first_within : DSp} {cdv : Value} {A : Around} {outer : List Env} {s : Shared} {H : Hp} {E : XK} {W : WX} (F_first_within : Fx P w K mg base k "first_within" s_first_within ps_first_within S_first_within) (n_max : mg "max" = none) (n_min : mg "min" = none)
    (hr : Room k (CF P w K mg base N_first_row "first_row" s_first_row f cdv A outer s H E).A) (hgu : (CF P w K mg base N_first_row "first_row" s_first_row f cdv A outer s H E).A.guards = some []) (tk : Takes (CF P w K mg base N_first_row "first_row" s_first_row f cdv A outer s H E) W) : JSs (CF P w K mg base N_first_row "first_row" s_first_row f cdv A outer s H E) W (defBody s_first_row) (t_first_row S_first_within) :=
  have nd : (CF P w K mg base N_first_row "first_row" s_first_row f cdv A outer s H E).N.Nodup := sc_first_row.nd
  (js_cons (js_asg (ws := [5, 6]) (jv 1) (jg_tup rfl (jgs_cons (jg_name (i := 5) (by simp) nd rfl (by first | exact .inl rfl | exact .inr rfl)) (jgs_cons (jg_name (i := 6) (by simp) nd rfl (by first | exact .inl rfl | exact .inr rfl)) jgs_nil)))) (js_cons (js_set (i := 7) nd rfl (by first | exact .inl rfl | exact .inr rfl) (je_max2 rfl rfl n_max (ja_cons (jv 4) (ja_cons (je_div (je_sub (je_add (je_sub (jv 2) (je_mul (je_at (jv 0) je_int) (jv 5))) (jv 6)) je_int) (jv 6)) ja_nil)))) (js_cons (js_if (PW.pt (jw_or (jt_gt (jv 2) (jv 3)) (jw_or1 (jt_gt (jv 7) (je_min2 rfl rfl n_min (ja_cons (je_at (jv 0) je_int) (ja_cons (je_div (jv 3) (jv 6)) ja_nil))))))) (js_cons (js_ret je_non) js_nil) js_nil) (js_cons (js_par3 (i := 8) (j := 9) (q := 10) rfl nd rfl rfl rfl (by decide) (by decide) (by decide) rfl rfl rfl (ja_cons (je_mod (je_sub (je_mul (jv 6) (jv 7)) (jv 2)) (jv 5)) (ja_cons (je_sub (jv 3) (jv 2)) (ja_cons je_int ja_nil))) rfl) (js_cons (js_if (jt_gt (jv 8) (jv 9)) (js_cons (js_set (i := 10) nd rfl (by first | exact .inl rfl | exact .inr rfl) (je_cx F_first_within hr hgu tk bd_first_within rfl (ja_cons (je_mod (jv 6) (jv 5)) (ja_cons (jv 5) (ja_cons (je_sub (jv 5) (jv 8)) (ja_cons (je_add (je_sub (jv 5) (jv 8)) (jv 9)) ja_nil)))))) js_nil) js_nil) (js_cons (js_if (PW.pt (jw_or (jt_is (jv 10) je_non) (jw_or1 (jt_gt (je_add (jv 7) (jv 10)) (je_min2 rfl rfl n_min (ja_cons (je_at (jv 0) je_int) (ja_cons (je_div (jv 3) (jv 6)) ja_nil))))))) (js_cons (js_ret je_non) js_nil) js_nil) (js_cons (js_set (i := 11) nd rfl (by first | exact .inl rfl | exact .inr rfl) (je_add (jv 7) (jv 10))) (js_cons (js_ret (je_tup (ja_cons (je_max2 rfl rfl n_max (ja_cons je_int (ja_cons (je_div (je_sub (je_add (je_sub (jv 2) (je_mul (jv 6) (jv 11))) (jv 5)) je_int) (jv 5)) ja_nil))) (ja_cons (jv 11) ja_nil)))) js_nil))))))))
theorem ok_first_row {S_first_within : DSp} {S : DSp} (D : FnP K "first_row" s_first_row f fd) (m : mg "first_row" = some (.ref f)) (F_first_within : Fx P w K mg base k "first_within" s_first_within ps_first_within S_first_within) (n_max : mg "max" = none) (n_min : mg "min" = none) (len : ∀ ds M Pd X, S ds M Pd X → ds.length = ps_first_row.length)
    (hp : ∀ ds M Pd X, MemOk M → S ds M Pd X → t_first_row S_first_within (dkOf M.length Pd X) (startD N_first_row ds) M) : Fx P w K mg base (k + 1) "first_row" s_first_row ps_first_row S :=
  fx_of D m sc_first_row _ len (fun _ _ _ _ _ _ _ hr hgu tk => b_first_row F_first_within n_max n_min hr hgu tk) hp
def t_two_cut (S_first_row : DSp) : DS := (dSeq (dSet 4 (dCall S_first_row (dCons (dVar 0) (dCons (dVar 1) (dCons (dVar 2) (dCons (dVar 3) (dCons (dC (.int 0)) dNil))))))) (dSeq (dIfS (dTest (dOp (gIs false) (dVar 4) (dC .non))) (dSeq (dRet (dC .non)) dNext) dNext) (dSeq (dPar 5 6 (dCons (dCB gMax2 (dCons (dVar 2) (dCons (dOp gAdd (dOp gSub' (dVar 3) (dOp gIx (dVar 1) (dC (.int 0)))) (dC (.int 1))) dNil))) (dCons (dCB gMin2 (dCons (dVar 3) (dCons (dOp gSub' (dOp gAdd (dVar 2) (dOp gIx (dVar 1) (dC (.int 1)))) (dC (.int 1))) dNil))) dNil))) (dSeq (dSet 7 (dCall S_first_row (dCons (dVar 0) (dCons (dVar 1) (dCons (dVar 5) (dCons (dVar 6) (dCons (dOp gAdd (dOp gIx (dVar 4) (dC (.int 1))) (dC (.int 1))) dNil))))))) (dSeq (dRet (dIf (dTest (dOp (gIs false) (dVar 7) (dC .non))) (dC .non) (dTup (dCons (dVar 7) (dCons (dVar 4) dNil))))) dNext)))))
theorem b_two_cut {S_first_row : DSp} {cdv : Value} {A : Around} {outer : List Env} {s : Shared} {H : Hp} {E : XK} {W : WX} (F_first_row : Fx P w K mg base k "first_row" s_first_row ps_first_row S_first_row) (n_min : mg "min" = none) (n_max : mg "max" = none)
    (hr : Room k (CF P w K mg base N_two_cut "two_cut" s_two_cut f cdv A outer s H E).A) (hgu : (CF P w K mg base N_two_cut "two_cut" s_two_cut f cdv A outer s H E).A.guards = some []) (tk : Takes (CF P w K mg base N_two_cut "two_cut" s_two_cut f cdv A outer s H E) W) : JSs (CF P w K mg base N_two_cut "two_cut" s_two_cut f cdv A outer s H E) W (defBody s_two_cut) (t_two_cut S_first_row) :=
  have nd : (CF P w K mg base N_two_cut "two_cut" s_two_cut f cdv A outer s H E).N.Nodup := sc_two_cut.nd
  (js_cons (js_set (i := 4) nd rfl (by first | exact .inl rfl | exact .inr rfl) (je_cx F_first_row hr hgu tk bd_first_row rfl (ja_cons (jv 0) (ja_cons (jv 1) (ja_cons (jv 2) (ja_cons (jv 3) (ja_cons je_int ja_nil))))))) (js_cons (js_if (jt_is (jv 4) je_non) (js_cons (js_ret je_non) js_nil) js_nil) (js_cons (js_par (i := 5) (j := 6) rfl nd rfl rfl (by decide) rfl rfl (ja_cons (je_max2 rfl rfl n_max (ja_cons (jv 2) (ja_cons (je_add (je_sub (jv 3) (je_at (jv 1) je_int)) je_int) ja_nil))) (ja_cons (je_min2 rfl rfl n_min (ja_cons (jv 3) (ja_cons (je_sub (je_add (jv 2) (je_at (jv 1) je_int)) je_int) ja_nil))) ja_nil)) rfl) (js_cons (js_set (i := 7) nd rfl (by first | exact .inl rfl | exact .inr rfl) (je_cx F_first_row hr hgu tk bd_first_row rfl (ja_cons (jv 0) (ja_cons (jv 1) (ja_cons (jv 5) (ja_cons (jv 6) (ja_cons (je_add (je_at (jv 4) je_int) je_int) ja_nil))))))) (js_cons (js_ret (je_if (jt_is (jv 7) je_non) je_non (je_tup (ja_cons (jv 7) (ja_cons (jv 4) ja_nil))))) js_nil)))))
theorem ok_two_cut {S_first_row : DSp} {S : DSp} (D : FnP K "two_cut" s_two_cut f fd) (m : mg "two_cut" = some (.ref f)) (F_first_row : Fx P w K mg base k "first_row" s_first_row ps_first_row S_first_row) (n_min : mg "min" = none) (n_max : mg "max" = none) (len : ∀ ds M Pd X, S ds M Pd X → ds.length = ps_two_cut.length)
    (hp : ∀ ds M Pd X, MemOk M → S ds M Pd X → t_two_cut S_first_row (dkOf M.length Pd X) (startD N_two_cut ds) M) : Fx P w K mg base (k + 1) "two_cut" s_two_cut ps_two_cut S :=
  fx_of D m sc_two_cut _ len (fun _ _ _ _ _ _ _ hr hgu tk => b_two_cut F_first_row n_min n_max hr hgu tk) hp
def t_heaviest : DS := (dSeq (dSet 2 (dCB gSortP (dCons (dComp (iEnum (dCons (dVar 1) dNil)) (gT 2 (gsCons (gN 3) (gsCons (gN 4) gsNil))) (dTest (dOp gGt (dOp gIx (dVar 0) (dVar 3)) (dC (.int 0)))) (dTup (dCons (dOp gSub' (dC (.int 0)) (dVar 4)) (dCons (dVar 3) dNil))) [3, 4]) dNil))) (dSeq (dRet (dComp (iSeq (dSl (dVar 2) dNoP (dPart (dC (.int 2))))) (gT 2 (gsCons (gN 4) (gsCons (gN 3) gsNil))) dYes (dVar 3) [4, 3])) dNext))
theorem b_heaviest  {cdv : Value} {A : Around} {outer : List Env} {s : Shared} {H : Hp} {E : XK} {W : WX} (n_sorted : mg "sorted" = none) (n_enumerate : mg "enumerate" = none)
    (hr : Room k (CF P w K mg base N_heaviest "heaviest" s_heaviest f cdv A outer s H E).A) (hgu : (CF P w K mg base N_heaviest "heaviest" s_heaviest f cdv A outer s H E).A.guards = some []) (tk : Takes (CF P w K mg base N_heaviest "heaviest" s_heaviest f cdv A outer s H E) W) : JSs (CF P w K mg base N_heaviest "heaviest" s_heaviest f cdv A outer s H E) W (defBody s_heaviest) (t_heaviest ) :=
  have nd : (CF P w K mg base N_heaviest "heaviest" s_heaviest f cdv A outer s H E).N.Nodup := sc_heaviest.nd
  (js_cons (js_set (i := 2) nd rfl (by first | exact .inl rfl | exact .inr rfl) (je_sortP rfl n_sorted (ja_cons (je_comp (own := [("key", 3), ("weight", 4)]) (ws := [3, 4]) rfl nd (by simp) (ji_enum rfl n_enumerate (ja_cons (jv 1) ja_nil)) (blkOk_by (by first | rfl | decide +kernel)) (fun _ _ _ _ _ => (jg_tup rfl (jgs_cons (jg_name (i := 3) (by simp) nd rfl (by first | exact .inl rfl | exact .inr rfl)) (jgs_cons (jg_name (i := 4) (by simp) nd rfl (by first | exact .inl rfl | exact .inr rfl)) jgs_nil)))) (fun _ _ _ _ _ => (jts_one (jt_gt (je_at (jv 0) (jv 3)) je_int))) (fun _ _ _ _ _ => (je_tup (ja_cons (je_sub je_int (jv 4)) (ja_cons (jv 3) ja_nil))))) ja_nil))) (js_cons (js_ret (je_comp (own := [("weight", 4), ("key", 3)]) (ws := [4, 3]) rfl nd (by simp) (ji_seq (je_slice (jv 2) jo_none (jo_some je_int))) (blkOk_by (by first | rfl | decide +kernel)) (fun _ _ _ _ _ => (jg_tup rfl (jgs_cons (jg_name (i := 4) (by simp) nd rfl (by first | exact .inl rfl | exact .inr rfl)) (jgs_cons (jg_name (i := 3) (by simp) nd rfl (by first | exact .inl rfl | exact .inr rfl)) jgs_nil)))) (fun _ _ _ _ _ => jts_nil) (fun _ _ _ _ _ => (jv 3)))) js_nil))
theorem ok_heaviest  {S : DSp} (D : FnP K "heaviest" s_heaviest f fd) (m : mg "heaviest" = some (.ref f)) (n_sorted : mg "sorted" = none) (n_enumerate : mg "enumerate" = none) (len : ∀ ds M Pd X, S ds M Pd X → ds.length = ps_heaviest.length)
    (hp : ∀ ds M Pd X, MemOk M → S ds M Pd X → t_heaviest  (dkOf M.length Pd X) (startD N_heaviest ds) M) : Fx P w K mg base (k + 1) "heaviest" s_heaviest ps_heaviest S :=
  fx_of D m sc_heaviest _ len (fun _ _ _ _ _ _ _ hr hgu tk => b_heaviest n_sorted n_enumerate hr hgu tk) hp
def t_enough_slack (S_heaviest : DSp) : DS := (dSeq (dSet 2 (dCall S_heaviest (dCons (dVar 0) (dCons (dVar 1) dNil)))) (dSeq (dRet (dIf (dTest (dOp gEq (dCB gLen (dCons (dVar 2) dNil)) (dC (.int 2)))) (dOp gSub' (dOp gAdd (dOp gIx (dVar 1) (dOp gIx (dVar 2) (dC (.int 0)))) (dOp gIx (dVar 1) (dOp gIx (dVar 2) (dC (.int 1))))) (dC (.int 1))) (dC (.int 0)))) dNext))
theorem b_enough_slack {S_heaviest : DSp} {cdv : Value} {A : Around} {outer : List Env} {s : Shared} {H : Hp} {E : XK} {W : WX} (F_heaviest : Fx P w K mg base k "heaviest" s_heaviest ps_heaviest S_heaviest) (n_len : mg "len" = none)
    (hr : Room k (CF P w K mg base N_enough_slack "enough_slack" s_enough_slack f cdv A outer s H E).A) (hgu : (CF P w K mg base N_enough_slack "enough_slack" s_enough_slack f cdv A outer s H E).A.guards = some []) (tk : Takes (CF P w K mg base N_enough_slack "enough_slack" s_enough_slack f cdv A outer s H E) W) : JSs (CF P w K mg base N_enough_slack "enough_slack" s_enough_slack f cdv A outer s H E) W (defBody s_enough_slack) (t_enough_slack S_heaviest) :=
  have nd : (CF P w K mg base N_enough_slack "enough_slack" s_enough_slack f cdv A outer s H E).N.Nodup := sc_enough_slack.nd
  (js_cons (js_set (i := 2) nd rfl (by first | exact .inl rfl | exact .inr rfl) (je_cx F_heaviest hr hgu tk bd_heaviest rfl (ja_cons (jv 0) (ja_cons (jv 1) ja_nil)))) (js_cons (js_ret (je_if (jt_eq hr (je_len rfl n_len (ja_cons (jv 2) ja_nil)) je_int) (je_sub (je_add (je_at (jv 1) (je_at (jv 2) je_int)) (je_at (jv 1) (je_at (jv 2) je_int))) je_int) je_int)) js_nil))
theorem ok_enough_slack {S_heaviest : DSp} {S : DSp} (D : FnP K "enough_slack" s_enough_slack f fd) (m : mg "enough_slack" = some (.ref f)) (F_heaviest : Fx P w K mg base k "heaviest" s_heaviest ps_heaviest S_heaviest) (n_len : mg "len" = none) (len : ∀ ds M Pd X, S ds M Pd X → ds.length = ps_enough_slack.length)
    (hp : ∀ ds M Pd X, MemOk M → S ds M Pd X → t_enough_slack S_heaviest (dkOf M.length Pd X) (startD N_enough_slack ds) M) : Fx P w K mg base (k + 1) "enough_slack" s_enough_slack ps_enough_slack S :=
  fx_of D m sc_enough_slack _ len (fun _ _ _ _ _ _ _ hr hgu tk => b_enough_slack F_heaviest n_len hr hgu tk) hp
def t_slack_cut (S_heaviest : DSp) : DS := (dSeq (dSet 2 (dCall S_heaviest (dCons (dVar 0) (dCons (dVar 1) dNil)))) (dSeq (dIfS (dTest (dOp gLt (dCB gLen (dCons (dVar 2) dNil)) (dC (.int 2)))) (dSeq (dRet (dC .non)) dNext) dNext) (dSeq (dSet 3 (dComp (iSeq (dVar 2)) (gN 4) dYes (dCB gTuple (dCons (dComp (iRan1 (dCons (dCB gLen (dCons (dVar 0) dNil)) dNil)) (gN 5) dYes (dIf (dTest (dOp gEq (dVar 5) (dVar 4))) (dC (.int 1)) (dC (.int 0))) [5]) dNil)) [4])) (dSeq (dRet (dTup (dCons (dC (.int 1)) (dCons (dOp gIx (dVar 3) (dC (.int 0))) (dCons (dOp gIx (dVar 3) (dC (.int 1))) dNil))))) dNext))))
theorem b_slack_cut {S_heaviest : DSp} {cdv : Value} {A : Around} {outer : List Env} {s : Shared} {H : Hp} {E : XK} {W : WX} (F_heaviest : Fx P w K mg base k "heaviest" s_heaviest ps_heaviest S_heaviest) (n_tuple : mg "tuple" = none) (n_range : mg "range" = none) (n_len : mg "len" = none)
    (hr : Room k (CF P w K mg base N_slack_cut "slack_cut" s_slack_cut f cdv A outer s H E).A) (hgu : (CF P w K mg base N_slack_cut "slack_cut" s_slack_cut f cdv A outer s H E).A.guards = some []) (tk : Takes (CF P w K mg base N_slack_cut "slack_cut" s_slack_cut f cdv A outer s H E) W) : JSs (CF P w K mg base N_slack_cut "slack_cut" s_slack_cut f cdv A outer s H E) W (defBody s_slack_cut) (t_slack_cut S_heaviest) :=
  have nd : (CF P w K mg base N_slack_cut "slack_cut" s_slack_cut f cdv A outer s H E).N.Nodup := sc_slack_cut.nd
  (js_cons (js_set (i := 2) nd rfl (by first | exact .inl rfl | exact .inr rfl) (je_cx F_heaviest hr hgu tk bd_heaviest rfl (ja_cons (jv 0) (ja_cons (jv 1) ja_nil)))) (js_cons (js_if (jt_lt (je_len rfl n_len (ja_cons (jv 2) ja_nil)) je_int) (js_cons (js_ret je_non) js_nil) js_nil) (js_cons (js_comp (i := 3) (own := [("unit", 4)]) (ws := [4]) rfl nd (by simp) (ji_seq (jv 2)) (blkOk_by (by first | rfl | decide +kernel)) (fun _ _ _ _ _ => (jg_name (i := 4) (by simp) nd rfl (by first | exact .inl rfl | exact .inr rfl))) (fun _ _ _ _ _ => jts_nil) (fun _ _ _ _ _ => (je_tupleOf rfl n_tuple (ja_cons (je_comp (own := [("key", 5)]) (ws := [5]) rfl nd (by simp) (ji_range1 rfl n_range (ja_cons (je_len rfl n_len (ja_cons (jv 0) ja_nil)) ja_nil)) (blkOk_by (by first | rfl | decide +kernel)) (fun _ _ _ _ _ => (jg_name (i := 5) (by simp) nd rfl (by first | exact .inl rfl | exact .inr rfl))) (fun _ _ _ _ _ => jts_nil) (fun _ _ _ _ _ => (je_if (jt_eq hr (jv 5) (jv 4)) je_int je_int))) ja_nil))) rfl rfl rfl) (js_cons (js_ret (je_tup (ja_cons je_int (ja_cons (je_at (jv 3) je_int) (ja_cons (je_at (jv 3) je_int) ja_nil))))) js_nil))))
theorem ok_slack_cut {S_heaviest : DSp} {S : DSp} (D : FnP K "slack_cut" s_slack_cut f fd) (m : mg "slack_cut" = some (.ref f)) (F_heaviest : Fx P w K mg base k "heaviest" s_heaviest ps_heaviest S_heaviest) (n_tuple : mg "tuple" = none) (n_range : mg "range" = none) (n_len : mg "len" = none) (len : ∀ ds M Pd X, S ds M Pd X → ds.length = ps_slack_cut.length)
    (hp : ∀ ds M Pd X, MemOk M → S ds M Pd X → t_slack_cut S_heaviest (dkOf M.length Pd X) (startD N_slack_cut ds) M) : Fx P w K mg base (k + 1) "slack_cut" s_slack_cut ps_slack_cut S :=
  fx_of D m sc_slack_cut _ len (fun _ _ _ _ _ _ _ hr hgu tk => b_slack_cut F_heaviest n_tuple n_range n_len hr hgu tk) hp
def t__law_draw (K : PySem.W.Frag) : DS := (dSeq (dSet 2 (dComp (iSeq (dSlS K (dVar 0) dNoP (dPart (dC (.int 48))))) (gN 4) dYes (dCB gAbs (dCons (dCB gInt (dCons (dVar 4) dNil)) dNil)) [4])) (dSeq (dSet 3 (dOp gAdd (dC (.int 7919)) (dOp gMul (dC (.int 104729)) (dVar 1)))) (dSeq (dFor (iSeq (dVar 2)) (gN 4) (dSeq (dSet 3 (dOp gMod (dCB gInt (dCons (dOp gAdd (dOp gAdd (dOp gMul (dVar 3) (dC (.int 48271))) (dOp gMod (dVar 4) (dC (.int 2147483549)))) (dC (.int 11))) dNil)) (dC (.int 2147483647)))) dNext)) (dSeq (dRet (dLstM (dCons (dRevM (dComp (iSeq (dVar 2)) (gN 4) (dTest (dOp gGe (dVar 4) (dOp gPow (dC (.int 10)) (dC (.int 18))))) (dVar 4) [4])) (dCons (dVar 3) dNil)))) dNext))))
theorem b__law_draw  {cdv : Value} {A : Around} {outer : List Env} {s : Shared} {H : Hp} {E : XK} {W : WX} (n_int : mg "int" = none) (n_abs : mg "abs" = none)
    (hr : Room k (CF P w K mg base N__law_draw "_law_draw" s__law_draw f cdv A outer s H E).A) (hgu : (CF P w K mg base N__law_draw "_law_draw" s__law_draw f cdv A outer s H E).A.guards = some []) (tk : Takes (CF P w K mg base N__law_draw "_law_draw" s__law_draw f cdv A outer s H E) W) : JSs (CF P w K mg base N__law_draw "_law_draw" s__law_draw f cdv A outer s H E) W (defBody s__law_draw) (t__law_draw K ) :=
  have nd : (CF P w K mg base N__law_draw "_law_draw" s__law_draw f cdv A outer s H E).N.Nodup := sc__law_draw.nd
  (js_cons (js_comp (i := 2) (own := [("cell", 4)]) (ws := [4]) rfl nd (by simp) (ji_seq (je_sliceS (jv 0) jo_none (jo_some je_int))) (blkOk_by (by first | rfl | decide +kernel)) (fun _ _ _ _ _ => (jg_name (i := 4) (by simp) nd rfl (by first | exact .inl rfl | exact .inr rfl))) (fun _ _ _ _ _ => jts_nil) (fun _ _ _ _ _ => (je_abs rfl n_abs (ja_cons (je_int1 rfl n_int (ja_cons (jv 4) ja_nil)) ja_nil))) rfl rfl rfl) (js_cons (js_set (i := 3) nd rfl (by first | exact .inl rfl | exact .inr rfl) (je_add je_int (je_mul je_int (jv 1)))) (js_cons (js_for (ws := [4]) (passes_of rfl) rfl (ji_seq (jv 2)) (jg_name (i := 4) (by simp) nd rfl (by first | exact .inl rfl | exact .inr rfl)) (js_cons (js_set (i := 3) nd rfl (by first | exact .inl rfl | exact .inr rfl) (je_mod (je_int1 rfl n_int (ja_cons (je_add (je_add (je_mul (jv 3) je_int) (je_mod (jv 4) je_int)) je_int) ja_nil)) je_int)) js_nil)) (js_cons (js_ret (je_lstM (ja_cons (je_revM (je_comp (own := [("cell", 4)]) (ws := [4]) rfl nd (by simp) (ji_seq (jv 2)) (blkOk_by (by first | rfl | decide +kernel)) (fun _ _ _ _ _ => (jg_name (i := 4) (by simp) nd rfl (by first | exact .inl rfl | exact .inr rfl))) (fun _ _ _ _ _ => (jts_one (jt_ge (jv 4) (je_pow je_int je_int)))) (fun _ _ _ _ _ => (jv 4)))) (ja_cons (jv 3) ja_nil)))) js_nil))))
theorem ok__law_draw  {S : DSp} (D : FnP K "_law_draw" s__law_draw f fd) (m : mg "_law_draw" = some (.ref f)) (n_int : mg "int" = none) (n_abs : mg "abs" = none) (len : ∀ ds M Pd X, S ds M Pd X → ds.length = ps__law_draw.length)
    (hp : ∀ ds M Pd X, MemOk M → S ds M Pd X → t__law_draw K  (dkOf M.length Pd X) (startD N__law_draw ds) M) : Fx P w K mg base (k + 1) "_law_draw" s__law_draw ps__law_draw S :=
  fx_of D m sc__law_draw _ len (fun _ _ _ _ _ _ _ hr hgu tk => b__law_draw n_int n_abs hr hgu tk) hp
def t__law_any : DS := (dSeq (dWhile (dAnd (dTest (dOp gNe (dOp gIx (dVar 0) (dC (.int 0))) (dLst dNil))) (dTest (dOp gEq (dOp gIx (dOp gIx (dVar 0) (dC (.int 0))) (dUn gNeg (dC (.int 1)))) (dC (.int 0))))) (dSeq (dDrop (dPop (dOp gIx (dVar 0) (dC (.int 0))))) dNext)) (dSeq (dIfS (dTest (dOp gNe (dOp gIx (dVar 0) (dC (.int 0))) (dLst dNil))) (dSeq (dSet 2 (dCB gInt (dCons (dPop (dOp gIx (dVar 0) (dC (.int 0)))) dNil))) (dSeq (dDrop (dAppend (dOp gIx (dVar 0) (dC (.int 0))) (dCons (dOp gDiv (dVar 2) (dVar 1)) dNil))) (dSeq (dRet (dOp gMod (dVar 2) (dVar 1))) dNext))) dNext) (dSeq (dAsg (dOp gMod (dCB gInt (dCons (dOp gAdd (dOp gMul (dOp gIx (dVar 0) (dC (.int 1))) (dC (.int 40693))) (dC (.int 71))) dNil)) (dC (.int 2147483647))) (gSub (dVar 0) (dC (.int 1)))) (dSeq (dRet (dOp gMod (dCB gInt (dCons (dOp gDiv (dOp gIx (dVar 0) (dC (.int 1))) (dC (.int 64))) dNil)) (dVar 1))) dNext))))
theorem b__law_any  {cdv : Value} {A : Around} {outer : List Env} {s : Shared} {H : Hp} {E : XK} {W : WX} (n_int : mg "int" = none)
    (hr : Room k (CF P w K mg base N__law_any "_law_any" s__law_any f cdv A outer s H E).A) (hgu : (CF P w K mg base N__law_any "_law_any" s__law_any f cdv A outer s H E).A.guards = some []) (tk : Takes (CF P w K mg base N__law_any "_law_any" s__law_any f cdv A outer s H E) W) : JSs (CF P w K mg base N__law_any "_law_any" s__law_any f cdv A outer s H E) W (defBody s__law_any) (t__law_any ) :=
  have nd : (CF P w K mg base N__law_any "_law_any" s__law_any f cdv A outer s H E).N.Nodup := sc__law_any.nd
  (js_cons (js_while (passes_of rfl) (PW.pt (jw_and (jt_ne hr (je_at (jv 0) je_int) (je_lst ja_nil)) (jw_and1 (jt_eq hr (je_at (je_at (jv 0) je_int) (je_neg je_int)) je_int)))) (js_cons (js_expr (je_pop (je_at (jv 0) je_int))) js_nil)) (js_cons (js_if (jt_ne hr (je_at (jv 0) je_int) (je_lst ja_nil)) (js_cons (js_set (i := 2) nd rfl (by first | exact .inl rfl | exact .inr rfl) (je_int1 rfl n_int (ja_cons (je_pop (je_at (jv 0) je_int)) ja_nil))) (js_cons (js_expr (je_append (je_at (jv 0) je_int) (ja_cons (je_div (jv 2) (jv 1)) ja_nil))) (js_cons (js_ret (je_mod (jv 2) (jv 1))) js_nil))) js_nil) (js_cons (js_asg (ws := []) (je_mod (je_int1 rfl n_int (ja_cons (je_add (je_mul (je_at (jv 0) je_int) je_int) je_int) ja_nil)) je_int) (jg_sub (jv 0) je_int)) (js_cons (js_ret (je_mod (je_int1 rfl n_int (ja_cons (je_div (je_at (jv 0) je_int) je_int) ja_nil)) (jv 1))) js_nil))))
theorem ok__law_any  {S : DSp} (D : FnP K "_law_any" s__law_any f fd) (m : mg "_law_any" = some (.ref f)) (n_int : mg "int" = none) (len : ∀ ds M Pd X, S ds M Pd X → ds.length = ps__law_any.length)
    (hp : ∀ ds M Pd X, MemOk M → S ds M Pd X → t__law_any  (dkOf M.length Pd X) (startD N__law_any ds) M) : Fx P w K mg base (k + 1) "_law_any" s__law_any ps__law_any S :=
  fx_of D m sc__law_any _ len (fun _ _ _ _ _ _ _ hr hgu tk => b__law_any n_int hr hgu tk) hp
def t__law_of (S__law_any : DSp) : DS := (dSeq (dRet (dOp gIx (dVar 1) (dCall S__law_any (dCons (dVar 0) (dCons (dCB gLen (dCons (dVar 1) dNil)) dNil))))) dNext)
theorem b__law_of {S__law_any : DSp} {cdv : Value} {A : Around} {outer : List Env} {s : Shared} {H : Hp} {E : XK} {W : WX} (F__law_any : Fx P w K mg base k "_law_any" s__law_any ps__law_any S__law_any) (n_len : mg "len" = none)
    (hr : Room k (CF P w K mg base N__law_of "_law_of" s__law_of f cdv A outer s H E).A) (hgu : (CF P w K mg base N__law_of "_law_of" s__law_of f cdv A outer s H E).A.guards = some []) (tk : Takes (CF P w K mg base N__law_of "_law_of" s__law_of f cdv A outer s H E) W) : JSs (CF P w K mg base N__law_of "_law_of" s__law_of f cdv A outer s H E) W (defBody s__law_of) (t__law_of S__law_any) :=
  have nd : (CF P w K mg base N__law_of "_law_of" s__law_of f cdv A outer s H E).N.Nodup := sc__law_of.nd
  (js_cons (js_ret (je_at (jv 1) (je_cx F__law_any hr hgu tk bd__law_any rfl (ja_cons (jv 0) (ja_cons (je_len rfl n_len (ja_cons (jv 1) ja_nil)) ja_nil))))) js_nil)
theorem ok__law_of {S__law_any : DSp} {S : DSp} (D : FnP K "_law_of" s__law_of f fd) (m : mg "_law_of" = some (.ref f)) (F__law_any : Fx P w K mg base k "_law_any" s__law_any ps__law_any S__law_any) (n_len : mg "len" = none) (len : ∀ ds M Pd X, S ds M Pd X → ds.length = ps__law_of.length)
    (hp : ∀ ds M Pd X, MemOk M → S ds M Pd X → t__law_of S__law_any (dkOf M.length Pd X) (startD N__law_of ds) M) : Fx P w K mg base (k + 1) "_law_of" s__law_of ps__law_of S :=
  fx_of D m sc__law_of _ len (fun _ _ _ _ _ _ _ hr hgu tk => b__law_of F__law_any n_len hr hgu tk) hp
def t__law_great (S__law_any : DSp) : DS := (dSeq (dSet 2 (dC (.int 0))) (dSeq (dFor (iRan1 (dCons (dC (.int 6)) dNil)) (gN 3) (dSeq (dSet 2 (dOp gAdd (dOp gMul (dVar 2) (dC (.int 100000))) (dCall S__law_any (dCons (dVar 0) (dCons (dC (.int 100000)) dNil))))) dNext)) (dSeq (dRet (dOp gMod (dCB gInt (dCons (dVar 2) dNil)) (dVar 1))) dNext)))
theorem b__law_great {S__law_any : DSp} {cdv : Value} {A : Around} {outer : List Env} {s : Shared} {H : Hp} {E : XK} {W : WX} (F__law_any : Fx P w K mg base k "_law_any" s__law_any ps__law_any S__law_any) (n_int : mg "int" = none) (n_range : mg "range" = none)
    (hr : Room k (CF P w K mg base N__law_great "_law_great" s__law_great f cdv A outer s H E).A) (hgu : (CF P w K mg base N__law_great "_law_great" s__law_great f cdv A outer s H E).A.guards = some []) (tk : Takes (CF P w K mg base N__law_great "_law_great" s__law_great f cdv A outer s H E) W) : JSs (CF P w K mg base N__law_great "_law_great" s__law_great f cdv A outer s H E) W (defBody s__law_great) (t__law_great S__law_any) :=
  have nd : (CF P w K mg base N__law_great "_law_great" s__law_great f cdv A outer s H E).N.Nodup := sc__law_great.nd
  (js_cons (js_set (i := 2) nd rfl (by first | exact .inl rfl | exact .inr rfl) je_int) (js_cons (js_for (ws := [3]) (passes_of rfl) rfl (ji_range1 rfl n_range (ja_cons je_int ja_nil)) (jg_name (i := 3) (by simp) nd rfl (by first | exact .inl rfl | exact .inr rfl)) (js_cons (js_set (i := 2) nd rfl (by first | exact .inl rfl | exact .inr rfl) (je_add (je_mul (jv 2) je_int) (je_cx F__law_any hr hgu tk bd__law_any rfl (ja_cons (jv 0) (ja_cons je_int ja_nil))))) js_nil)) (js_cons (js_ret (je_mod (je_int1 rfl n_int (ja_cons (jv 2) ja_nil)) (jv 1))) js_nil)))
theorem ok__law_great {S__law_any : DSp} {S : DSp} (D : FnP K "_law_great" s__law_great f fd) (m : mg "_law_great" = some (.ref f)) (F__law_any : Fx P w K mg base k "_law_any" s__law_any ps__law_any S__law_any) (n_int : mg "int" = none) (n_range : mg "range" = none) (len : ∀ ds M Pd X, S ds M Pd X → ds.length = ps__law_great.length)
    (hp : ∀ ds M Pd X, MemOk M → S ds M Pd X → t__law_great S__law_any (dkOf M.length Pd X) (startD N__law_great ds) M) : Fx P w K mg base (k + 1) "_law_great" s__law_great ps__law_great S :=
  fx_of D m sc__law_great _ len (fun _ _ _ _ _ _ _ hr hgu tk => b__law_great F__law_any n_int n_range hr hgu tk) hp
def t__law_weighed : DS := (dSeq (dRet (dCB gSum (dCons (dComp (iZip (dCons (dVar 0) (dCons (dVar 1) dNil))) (gT 2 (gsCons (gN 2) (gsCons (gN 3) gsNil))) dYes (dOp gMul (dVar 2) (dVar 3)) [2, 3]) dNil))) dNext)
theorem b__law_weighed  {cdv : Value} {A : Around} {outer : List Env} {s : Shared} {H : Hp} {E : XK} {W : WX} (n_sum : mg "sum" = none) (n_zip : mg "zip" = none)
    (hr : Room k (CF P w K mg base N__law_weighed "_law_weighed" s__law_weighed f cdv A outer s H E).A) (hgu : (CF P w K mg base N__law_weighed "_law_weighed" s__law_weighed f cdv A outer s H E).A.guards = some []) (tk : Takes (CF P w K mg base N__law_weighed "_law_weighed" s__law_weighed f cdv A outer s H E) W) : JSs (CF P w K mg base N__law_weighed "_law_weighed" s__law_weighed f cdv A outer s H E) W (defBody s__law_weighed) (t__law_weighed ) :=
  have nd : (CF P w K mg base N__law_weighed "_law_weighed" s__law_weighed f cdv A outer s H E).N.Nodup := sc__law_weighed.nd
  (js_cons (js_ret (je_sum rfl rfl n_sum (ja_cons (je_comp (own := [("weight", 2), ("value", 3)]) (ws := [2, 3]) rfl nd (by simp) (ji_zip rfl n_zip (ja_cons (jv 0) (ja_cons (jv 1) ja_nil))) (blkOk_by (by first | rfl | decide +kernel)) (fun _ _ _ _ _ => (jg_tup rfl (jgs_cons (jg_name (i := 2) (by simp) nd rfl (by first | exact .inl rfl | exact .inr rfl)) (jgs_cons (jg_name (i := 3) (by simp) nd rfl (by first | exact .inl rfl | exact .inr rfl)) jgs_nil)))) (fun _ _ _ _ _ => jts_nil) (fun _ _ _ _ _ => (je_mul (jv 2) (jv 3)))) ja_nil))) js_nil)
theorem ok__law_weighed  {S : DSp} (D : FnP K "_law_weighed" s__law_weighed f fd) (m : mg "_law_weighed" = some (.ref f)) (n_sum : mg "sum" = none) (n_zip : mg "zip" = none) (len : ∀ ds M Pd X, S ds M Pd X → ds.length = ps__law_weighed.length)
    (hp : ∀ ds M Pd X, MemOk M → S ds M Pd X → t__law_weighed  (dkOf M.length Pd X) (startD N__law_weighed ds) M) : Fx P w K mg base (k + 1) "_law_weighed" s__law_weighed ps__law_weighed S :=
  fx_of D m sc__law_weighed _ len (fun _ _ _ _ _ _ _ hr hgu tk => b__law_weighed n_sum n_zip hr hgu tk) hp
def t__law_rows (S__law_weighed : DSp) : DS := (dSeq (dSet 4 (dLst (dCons (dTup dNil) dNil))) (dSeq (dFor (iSeq (dVar 0)) (gN 5) (dSeq (dSet 6 (dLst dNil)) (dSeq (dFor (iSeq (dVar 4)) (gN 7) (dSeq (dSet 6 (dOp gAdd (dVar 6) (dComp (iRan1 (dCons (dOp gAdd (dVar 5) (dC (.int 1))) dNil)) (gN 8) dYes (dOp gAdd (dVar 7) (dTup (dCons (dVar 8) dNil))) [8]))) dNext)) (dSeq (dSet 4 (dVar 6)) dNext)))) (dSeq (dRet (dComp (iSeq (dVar 4)) (gN 7) (dTest (dChain gLe gLe (dVar 2) (dCall S__law_weighed (dCons (dVar 1) (dCons (dVar 7) dNil))) (dVar 3))) (dVar 7) [7])) dNext)))
theorem b__law_rows {S__law_weighed : DSp} {cdv : Value} {A : Around} {outer : List Env} {s : Shared} {H : Hp} {E : XK} {W : WX} (F__law_weighed : Fx P w K mg base k "_law_weighed" s__law_weighed ps__law_weighed S__law_weighed) (n_range : mg "range" = none)
    (hr : Room k (CF P w K mg base N__law_rows "_law_rows" s__law_rows f cdv A outer s H E).A) (hgu : (CF P w K mg base N__law_rows "_law_rows" s__law_rows f cdv A outer s H E).A.guards = some []) (tk : Takes (CF P w K mg base N__law_rows "_law_rows" s__law_rows f cdv A outer s H E) W) : JSs (CF P w K mg base N__law_rows "_law_rows" s__law_rows f cdv A outer s H E) W (defBody s__law_rows) (t__law_rows S__law_weighed) :=
  have nd : (CF P w K mg base N__law_rows "_law_rows" s__law_rows f cdv A outer s H E).N.Nodup := sc__law_rows.nd
  (js_cons (js_set (i := 4) nd rfl (by first | exact .inl rfl | exact .inr rfl) (je_lst (ja_cons (je_tup ja_nil) ja_nil))) (js_cons (js_for (ws := [5]) (passes_of rfl) rfl (ji_seq (jv 0)) (jg_name (i := 5) (by simp) nd rfl (by first | exact .inl rfl | exact .inr rfl)) (js_cons (js_set (i := 6) nd rfl (by first | exact .inl rfl | exact .inr rfl) (je_lst ja_nil)) (js_cons (js_for (ws := [7]) (passes_of rfl) rfl (ji_seq (jv 4)) (jg_name (i := 7) (by simp) nd rfl (by first | exact .inl rfl | exact .inr rfl)) (js_cons (js_set (i := 6) nd rfl (by first | exact .inl rfl | exact .inr rfl) (je_add (jv 6) (je_comp (own := [("value", 8)]) (ws := [8]) rfl nd (by simp) (ji_range1 rfl n_range (ja_cons (je_add (jv 5) je_int) ja_nil)) (blkOk_by (by first | rfl | decide +kernel)) (fun _ _ _ _ _ => (jg_name (i := 8) (by simp) nd rfl (by first | exact .inl rfl | exact .inr rfl))) (fun _ _ _ _ _ => jts_nil) (fun _ _ _ _ _ => (je_add (jv 7) (je_tup (ja_cons (jv 8) ja_nil))))))) js_nil)) (js_cons (js_set (i := 4) nd rfl (by first | exact .inl rfl | exact .inr rfl) (jv 6)) js_nil)))) (js_cons (js_ret (je_comp (own := [("row", 7)]) (ws := [7]) rfl nd (by simp) (ji_seq (jv 4)) (blkOk_by (by first | rfl | decide +kernel)) (fun _ _ _ _ _ => (jg_name (i := 7) (by simp) nd rfl (by first | exact .inl rfl | exact .inr rfl))) (fun _ _ _ _ _ => (jts_one (jt_chain op_le op_le o2B0 o2B0 (jv 2) (je_cx F__law_weighed hr hgu takes0 bd__law_weighed rfl (ja_cons (jv 1) (ja_cons (jv 7) ja_nil))) (jv 3)))) (fun _ _ _ _ _ => (jv 7)))) js_nil)))
theorem ok__law_rows {S__law_weighed : DSp} {S : DSp} (D : FnP K "_law_rows" s__law_rows f fd) (m : mg "_law_rows" = some (.ref f)) (F__law_weighed : Fx P w K mg base k "_law_weighed" s__law_weighed ps__law_weighed S__law_weighed) (n_range : mg "range" = none) (len : ∀ ds M Pd X, S ds M Pd X → ds.length = ps__law_rows.length)
    (hp : ∀ ds M Pd X, MemOk M → S ds M Pd X → t__law_rows S__law_weighed (dkOf M.length Pd X) (startD N__law_rows ds) M) : Fx P w K mg base (k + 1) "_law_rows" s__law_rows ps__law_rows S :=
  fx_of D m sc__law_rows _ len (fun _ _ _ _ _ _ _ hr hgu tk => b__law_rows F__law_weighed n_range hr hgu tk) hp
def t__law_allowed (S__law_weighed : DSp) : DS := (dSeq (dIfS (dOr (dNot (dTru (dCB gIsi (dCons (dVar 4) (dCons (dC (.ty "tuple")) dNil))))) (dTest (dOp gNe (dCB gLen (dCons (dVar 4) dNil)) (dCB gLen (dCons (dVar 0) dNil))))) (dSeq (dRet (dC (.bl false))) dNext) dNext) (dSeq (dFor (iZip (dCons (dVar 4) (dCons (dVar 0) dNil))) (gT 2 (gsCons (gN 5) (gsCons (gN 6) gsNil))) (dSeq (dIfS (dOr (dNot (dTru (dCB gIsi (dCons (dVar 5) (dCons (dC (.ty "int")) dNil))))) (dOr (dTru (dCB gIsi (dCons (dVar 5) (dCons (dC (.ty "bool")) dNil)))) (dOr (dTest (dOp gLt (dVar 5) (dC (.int 0)))) (dTest (dOp gGt (dVar 5) (dVar 6)))))) (dSeq (dRet (dC (.bl false))) dNext) dNext) dNext)) (dSeq (dRet (dChain gLe gLe (dVar 2) (dCall S__law_weighed (dCons (dVar 1) (dCons (dVar 4) dNil))) (dVar 3))) dNext)))
theorem b__law_allowed {S__law_weighed : DSp} {cdv : Value} {A : Around} {outer : List Env} {s : Shared} {H : Hp} {E : XK} {W : WX} (F__law_weighed : Fx P w K mg base k "_law_weighed" s__law_weighed ps__law_weighed S__law_weighed) (n_zip : mg "zip" = none) (n_isinstance : mg "isinstance" = none) (n_bool : mg "bool" = none) (n_int : mg "int" = none) (n_len : mg "len" = none) (n_tuple : mg "tuple" = none)
    (hr : Room k (CF P w K mg base N__law_allowed "_law_allowed" s__law_allowed f cdv A outer s H E).A) (hgu : (CF P w K mg base N__law_allowed "_law_allowed" s__law_allowed f cdv A outer s H E).A.guards = some []) (tk : Takes (CF P w K mg base N__law_allowed "_law_allowed" s__law_allowed f cdv A outer s H E) W) : JSs (CF P w K mg base N__law_allowed "_law_allowed" s__law_allowed f cdv A outer s H E) W (defBody s__law_allowed) (t__law_allowed S__law_weighed) :=
  have nd : (CF P w K mg base N__law_allowed "_law_allowed" s__law_allowed f cdv A outer s H E).N.Nodup := sc__law_allowed.nd
  (js_cons (js_if (PW.pt (jw_or (jt_not (jt_tru (je_isi rfl n_isinstance (ja_cons (jv 4) (ja_cons (je_bty rfl n_tuple PyProof.Rows.boot_tuple) ja_nil))))) (jw_or1 (jt_ne hr (je_len rfl n_len (ja_cons (jv 4) ja_nil)) (je_len rfl n_len (ja_cons (jv 0) ja_nil)))))) (js_cons (js_ret je_bl) js_nil) js_nil) (js_cons (js_for (ws := [5, 6]) (passes_of rfl) rfl (ji_zip rfl n_zip (ja_cons (jv 4) (ja_cons (jv 0) ja_nil))) (jg_tup rfl (jgs_cons (jg_name (i := 5) (by simp) nd rfl (by first | exact .inl rfl | exact .inr rfl)) (jgs_cons (jg_name (i := 6) (by simp) nd rfl (by first | exact .inl rfl | exact .inr rfl)) jgs_nil))) (js_cons (js_if (PW.pt (jw_or (jt_not (jt_tru (je_isi rfl n_isinstance (ja_cons (jv 5) (ja_cons (je_bty rfl n_int PyProof.Rows.boot_int) ja_nil))))) (jw_or (jt_tru (je_isi rfl n_isinstance (ja_cons (jv 5) (ja_cons (je_bty rfl n_bool PyProof.Rows.boot_bool) ja_nil)))) (jw_or (jt_lt (jv 5) je_int) (jw_or1 (jt_gt (jv 5) (jv 6))))))) (js_cons (js_ret je_bl) js_nil) js_nil) js_nil)) (js_cons (js_ret (je_chain op_le op_le o2B0 o2B0 (jv 2) (je_cx F__law_weighed hr hgu tk bd__law_weighed rfl (ja_cons (jv 1) (ja_cons (jv 4) ja_nil))) (jv 3))) js_nil)))
theorem ok__law_allowed {S__law_weighed : DSp} {S : DSp} (D : FnP K "_law_allowed" s__law_allowed f fd) (m : mg "_law_allowed" = some (.ref f)) (F__law_weighed : Fx P w K mg base k "_law_weighed" s__law_weighed ps__law_weighed S__law_weighed) (n_zip : mg "zip" = none) (n_isinstance : mg "isinstance" = none) (n_bool : mg "bool" = none) (n_int : mg "int" = none) (n_len : mg "len" = none) (n_tuple : mg "tuple" = none) (len : ∀ ds M Pd X, S ds M Pd X → ds.length = ps__law_allowed.length)
    (hp : ∀ ds M Pd X, MemOk M → S ds M Pd X → t__law_allowed S__law_weighed (dkOf M.length Pd X) (startD N__law_allowed ds) M) : Fx P w K mg base (k + 1) "_law_allowed" s__law_allowed ps__law_allowed S :=
  fx_of D m sc__law_allowed _ len (fun _ _ _ _ _ _ _ hr hgu tk => b__law_allowed F__law_weighed n_zip n_isinstance n_bool n_int n_len n_tuple hr hgu tk) hp
def t__law_cut (S__law_weighed S__law_allowed : DSp) : DS := (dSeq (dIfS (dOr (dNot (dTru (dCB gIsi (dCons (dVar 4) (dCons (dC (.ty "tuple")) dNil))))) (dTest (dOp gNe (dCB gLen (dCons (dVar 4) dNil)) (dC (.int 2))))) (dSeq (dRet (dC (.bl false))) dNext) dNext) (dSeq (dAsg (dVar 4) (gT 2 (gsCons (gN 5) (gsCons (gN 6) gsNil)))) (dSeq (dIfS (dOr (dNot (dTru (dCall S__law_allowed (dCons (dVar 0) (dCons (dVar 1) (dCons (dVar 2) (dCons (dVar 3) (dCons (dVar 5) dNil)))))))) (dNot (dTru (dCall S__law_allowed (dCons (dVar 0) (dCons (dVar 1) (dCons (dVar 2) (dCons (dVar 3) (dCons (dVar 6) dNil))))))))) (dSeq (dRet (dC (.bl false))) dNext) dNext) (dSeq (dSet 7 (dComp (iRan1 (dCons (dCB gLen (dCons (dVar 0) dNil)) dNil)) (gN 10) (dTest (dOp gLt (dOp gIx (dVar 5) (dVar 10)) (dOp gIx (dVar 6) (dVar 10)))) (dVar 10) [10])) (dSeq (dSet 8 (dComp (iRan1 (dCons (dCB gLen (dCons (dVar 0) dNil)) dNil)) (gN 10) (dTest (dOp gGt (dOp gIx (dVar 5) (dVar 10)) (dOp gIx (dVar 6) (dVar 10)))) (dVar 10) [10])) (dSeq (dIfS (dOr (dTest (dOp gNe (dCB gLen (dCons (dVar 7) dNil)) (dC (.int 1)))) (dTest (dOp gNe (dCB gLen (dCons (dVar 8) dNil)) (dC (.int 1))))) (dSeq (dRet (dC (.bl false))) dNext) dNext) (dSeq (dSet 9 (dCall S__law_weighed (dCons (dVar 1) (dCons (dVar 5) dNil)))) (dSeq (dRet (dAndV (dOp gGt (dOp gAdd (dVar 9) (dOp gIx (dVar 1) (dOp gIx (dVar 7) (dC (.int 0))))) (dVar 3)) (dOp gLt (dOp gSub' (dVar 9) (dOp gIx (dVar 1) (dOp gIx (dVar 8) (dC (.int 0))))) (dVar 2)))) dNext))))))))
theorem b__law_cut {S__law_weighed S__law_allowed : DSp} {cdv : Value} {A : Around} {outer : List Env} {s : Shared} {H : Hp} {E : XK} {W : WX} (F__law_weighed : Fx P w K mg base k "_law_weighed" s__law_weighed ps__law_weighed S__law_weighed) (F__law_allowed : Fx P w K mg base k "_law_allowed" s__law_allowed ps__law_allowed S__law_allowed) (n_len : mg "len" = none) (n_range : mg "range" = none) (n_isinstance : mg "isinstance" = none) (n_tuple : mg "tuple" = none)
    (hr : Room k (CF P w K mg base N__law_cut "_law_cut" s__law_cut f cdv A outer s H E).A) (hgu : (CF P w K mg base N__law_cut "_law_cut" s__law_cut f cdv A outer s H E).A.guards = some []) (tk : Takes (CF P w K mg base N__law_cut "_law_cut" s__law_cut f cdv A outer s H E) W) : JSs (CF P w K mg base N__law_cut "_law_cut" s__law_cut f cdv A outer s H E) W (defBody s__law_cut) (t__law_cut S__law_weighed S__law_allowed) :=
  have nd : (CF P w K mg base N__law_cut "_law_cut" s__law_cut f cdv A outer s H E).N.Nodup := sc__law_cut.nd
  (js_cons (js_if (PW.pt (jw_or (jt_not (jt_tru (je_isi rfl n_isinstance (ja_cons (jv 4) (ja_cons (je_bty rfl n_tuple PyProof.Rows.boot_tuple) ja_nil))))) (jw_or1 (jt_ne hr (je_len rfl n_len (ja_cons (jv 4) ja_nil)) je_int)))) (js_cons (js_ret je_bl) js_nil) js_nil) (js_cons (js_asg (ws := [5, 6]) (jv 4) (jg_tup rfl (jgs_cons (jg_name (i := 5) (by simp) nd rfl (by first | exact .inl rfl | exact .inr rfl)) (jgs_cons (jg_name (i := 6) (by simp) nd rfl (by first | exact .inl rfl | exact .inr rfl)) jgs_nil)))) (js_cons (js_if (PW.pt (jw_or (jt_not (jt_tru (je_cx F__law_allowed hr hgu tk bd__law_allowed rfl (ja_cons (jv 0) (ja_cons (jv 1) (ja_cons (jv 2) (ja_cons (jv 3) (ja_cons (jv 5) ja_nil)))))))) (jw_or1 (jt_not (jt_tru (je_cx F__law_allowed hr hgu tk bd__law_allowed rfl (ja_cons (jv 0) (ja_cons (jv 1) (ja_cons (jv 2) (ja_cons (jv 3) (ja_cons (jv 6) ja_nil))))))))))) (js_cons (js_ret je_bl) js_nil) js_nil) (js_cons (js_comp (i := 7) (own := [("key", 10)]) (ws := [10]) rfl nd (by simp) (ji_range1 rfl n_range (ja_cons (je_len rfl n_len (ja_cons (jv 0) ja_nil)) ja_nil)) (blkOk_by (by first | rfl | decide +kernel)) (fun _ _ _ _ _ => (jg_name (i := 10) (by simp) nd rfl (by first | exact .inl rfl | exact .inr rfl))) (fun _ _ _ _ _ => (jts_one (jt_lt (je_at (jv 5) (jv 10)) (je_at (jv 6) (jv 10))))) (fun _ _ _ _ _ => (jv 10)) rfl rfl rfl) (js_cons (js_comp (i := 8) (own := [("key", 10)]) (ws := [10]) rfl nd (by simp) (ji_range1 rfl n_range (ja_cons (je_len rfl n_len (ja_cons (jv 0) ja_nil)) ja_nil)) (blkOk_by (by first | rfl | decide +kernel)) (fun _ _ _ _ _ => (jg_name (i := 10) (by simp) nd rfl (by first | exact .inl rfl | exact .inr rfl))) (fun _ _ _ _ _ => (jts_one (jt_gt (je_at (jv 5) (jv 10)) (je_at (jv 6) (jv 10))))) (fun _ _ _ _ _ => (jv 10)) rfl rfl rfl) (js_cons (js_if (PW.pt (jw_or (jt_ne hr (je_len rfl n_len (ja_cons (jv 7) ja_nil)) je_int) (jw_or1 (jt_ne hr (je_len rfl n_len (ja_cons (jv 8) ja_nil)) je_int)))) (js_cons (js_ret je_bl) js_nil) js_nil) (js_cons (js_set (i := 9) nd rfl (by first | exact .inl rfl | exact .inr rfl) (je_cx F__law_weighed hr hgu tk bd__law_weighed rfl (ja_cons (jv 1) (ja_cons (jv 5) ja_nil)))) (js_cons (js_ret (je_and (je_gt (je_add (jv 9) (je_at (jv 1) (je_at (jv 7) je_int))) (jv 3)) (je_one (je_lt (je_sub (jv 9) (je_at (jv 1) (je_at (jv 8) je_int))) (jv 2))))) js_nil))))))))
theorem ok__law_cut {S__law_weighed S__law_allowed : DSp} {S : DSp} (D : FnP K "_law_cut" s__law_cut f fd) (m : mg "_law_cut" = some (.ref f)) (F__law_weighed : Fx P w K mg base k "_law_weighed" s__law_weighed ps__law_weighed S__law_weighed) (F__law_allowed : Fx P w K mg base k "_law_allowed" s__law_allowed ps__law_allowed S__law_allowed) (n_len : mg "len" = none) (n_range : mg "range" = none) (n_isinstance : mg "isinstance" = none) (n_tuple : mg "tuple" = none) (len : ∀ ds M Pd X, S ds M Pd X → ds.length = ps__law_cut.length)
    (hp : ∀ ds M Pd X, MemOk M → S ds M Pd X → t__law_cut S__law_weighed S__law_allowed (dkOf M.length Pd X) (startD N__law_cut ds) M) : Fx P w K mg base (k + 1) "_law_cut" s__law_cut ps__law_cut S :=
  fx_of D m sc__law_cut _ len (fun _ _ _ _ _ _ _ hr hgu tk => b__law_cut F__law_weighed F__law_allowed n_len n_range n_isinstance n_tuple hr hgu tk) hp
def t__law_reached : DS := (dSeq (dAsg (dTup (dCons (dLst (dCons (dVar 1) dNil)) (dCons (dLst (dCons (dVar 1) dNil)) (dCons (dComp (iSeq (dVar 0)) (gN 6) (dTest (dOp gNe (dVar 6) (dVar 1))) (dVar 6) [6]) dNil)))) (gT 3 (gsCons (gN 2) (gsCons (gN 3) (gsCons (gN 4) gsNil))))) (dSeq (dFor (iRan1 (dCons (dCB gLen (dCons (dVar 0) dNil)) dNil)) (gN 5) (dSeq (dIfS (dTest (dOp gEq (dVar 3) (dLst dNil))) (dSeq dBreak dNext) dNext) (dSeq (dSet 3 (dComp (iSeq (dVar 4)) (gN 6) (dTest (dOp gNe (dComp (iSeq (dVar 3)) (gN 7) (dTest (dOp gEq (dCB gLen (dCons (dComp (iRan1 (dCons (dCB gLen (dCons (dVar 6) dNil)) dNil)) (gN 8) (dTest (dOp gNe (dOp gIx (dVar 6) (dVar 8)) (dOp gIx (dVar 7) (dVar 8)))) (dVar 8) [8]) dNil)) (dC (.int 1)))) (dVar 7) [7]) (dLst dNil))) (dVar 6) [6])) (dSeq (dSet 4 (dComp (iSeq (dVar 4)) (gN 6) (dTest (dOp (gIn true) (dVar 6) (dVar 3))) (dVar 6) [6])) (dSeq (dSet 2 (dOp gAdd (dVar 2) (dVar 3))) dNext))))) (dSeq (dRet (dVar 2)) dNext)))
theorem b__law_reached  {cdv : Value} {A : Around} {outer : List Env} {s : Shared} {H : Hp} {E : XK} {W : WX} (n_range : mg "range" = none) (n_len : mg "len" = none)
    (hr : Room k (CF P w K mg base N__law_reached "_law_reached" s__law_reached f cdv A outer s H E).A) (hgu : (CF P w K mg base N__law_reached "_law_reached" s__law_reached f cdv A outer s H E).A.guards = some []) (tk : Takes (CF P w K mg base N__law_reached "_law_reached" s__law_reached f cdv A outer s H E) W) : JSs (CF P w K mg base N__law_reached "_law_reached" s__law_reached f cdv A outer s H E) W (defBody s__law_reached) (t__law_reached ) :=
  have nd : (CF P w K mg base N__law_reached "_law_reached" s__law_reached f cdv A outer s H E).N.Nodup := sc__law_reached.nd
  (js_cons (js_asg (ws := [2, 3, 4]) (je_tup (ja_cons (je_lst (ja_cons (jv 1) ja_nil)) (ja_cons (je_lst (ja_cons (jv 1) ja_nil)) (ja_cons (je_comp (own := [("row", 6)]) (ws := [6]) rfl nd (by simp) (ji_seq (jv 0)) (blkOk_by (by first | rfl | decide +kernel)) (fun _ _ _ _ _ => (jg_name (i := 6) (by simp) nd rfl (by first | exact .inl rfl | exact .inr rfl))) (fun _ _ _ _ _ => (jts_one (jt_ne hr (jv 6) (jv 1)))) (fun _ _ _ _ _ => (jv 6))) ja_nil)))) (jg_tup rfl (jgs_cons (jg_name (i := 2) (by simp) nd rfl (by first | exact .inl rfl | exact .inr rfl)) (jgs_cons (jg_name (i := 3) (by simp) nd rfl (by first | exact .inl rfl | exact .inr rfl)) (jgs_cons (jg_name (i := 4) (by simp) nd rfl (by first | exact .inl rfl | exact .inr rfl)) jgs_nil))))) (js_cons (js_for (ws := [5]) (passes_of rfl) rfl (ji_range1 rfl n_range (ja_cons (je_len rfl n_len (ja_cons (jv 0) ja_nil)) ja_nil)) (jg_name (i := 5) (by simp) nd rfl (by first | exact .inl rfl | exact .inr rfl)) (js_cons (js_if (jt_eq hr (jv 3) (je_lst ja_nil)) (js_cons js_break js_nil) js_nil) (js_cons (js_set (i := 3) nd rfl (by first | exact .inl rfl | exact .inr rfl) (je_comp (own := [("row", 6)]) (ws := [6]) rfl nd (by simp) (ji_seq (jv 4)) (blkOk_by (by first | rfl | decide +kernel)) (fun _ _ _ _ _ => (jg_name (i := 6) (by simp) nd rfl (by first | exact .inl rfl | exact .inr rfl))) (fun _ _ _ _ _ => (jts_one (jt_ne hr (je_comp (own := [("near", 7)]) (ws := [7]) rfl nd (by simp) (ji_seq (jv 3)) (blkOk_by (by first | rfl | decide +kernel)) (fun _ _ _ _ _ => (jg_name (i := 7) (by simp) nd rfl (by first | exact .inl rfl | exact .inr rfl))) (fun _ _ _ _ _ => (jts_one (jt_eq hr (je_len rfl n_len (ja_cons (je_comp (own := [("k", 8)]) (ws := [8]) rfl nd (by simp) (ji_range1 rfl n_range (ja_cons (je_len rfl n_len (ja_cons (jv 6) ja_nil)) ja_nil)) (blkOk_by (by first | rfl | decide +kernel)) (fun _ _ _ _ _ => (jg_name (i := 8) (by simp) nd rfl (by first | exact .inl rfl | exact .inr rfl))) (fun _ _ _ _ _ => (jts_one (jt_ne hr (je_at (jv 6) (jv 8)) (je_at (jv 7) (jv 8))))) (fun _ _ _ _ _ => (jv 8))) ja_nil)) je_int))) (fun _ _ _ _ _ => (jv 7))) (je_lst ja_nil)))) (fun _ _ _ _ _ => (jv 6)))) (js_cons (js_comp (i := 4) (own := [("row", 6)]) (ws := [6]) rfl nd (by simp) (ji_seq (jv 4)) (blkOk_by (by first | rfl | decide +kernel)) (fun _ _ _ _ _ => (jg_name (i := 6) (by simp) nd rfl (by first | exact .inl rfl | exact .inr rfl))) (fun _ _ _ _ _ => (jts_one (jt_notIn hr (jv 6) (jv 3)))) (fun _ _ _ _ _ => (jv 6)) rfl rfl rfl) (js_cons (js_set (i := 2) nd rfl (by first | exact .inl rfl | exact .inr rfl) (je_add (jv 2) (jv 3))) js_nil))))) (js_cons (js_ret (jv 2)) js_nil)))
theorem ok__law_reached  {S : DSp} (D : FnP K "_law_reached" s__law_reached f fd) (m : mg "_law_reached" = some (.ref f)) (n_range : mg "range" = none) (n_len : mg "len" = none) (len : ∀ ds M Pd X, S ds M Pd X → ds.length = ps__law_reached.length)
    (hp : ∀ ds M Pd X, MemOk M → S ds M Pd X → t__law_reached  (dkOf M.length Pd X) (startD N__law_reached ds) M) : Fx P w K mg base (k + 1) "_law_reached" s__law_reached ps__law_reached S :=
  fx_of D m sc__law_reached _ len (fun _ _ _ _ _ _ _ hr hgu tk => b__law_reached n_range n_len hr hgu tk) hp
def t__law_two (S_is_cut S__law_cut S_two_cut : DSp) : DS := (dSeq (dFor (iRan1 (dCons (dC (.int 2)) dNil)) (gN 5) (dSeq (dSet 6 (dIf (dTest (dOp gEq (dVar 5) (dC (.int 0)))) (dCall S_two_cut (dCons (dCB gTuple (dCons (dVar 0) dNil)) (dCons (dVar 1) (dCons (dVar 2) (dCons (dVar 3) dNil))))) (dCallK S_two_cut [3, 2, 1, 0] 0 4 dNil (dCons (dVar 3) (dCons (dVar 2) (dCons (dCB gTuple (dCons (dVar 1) dNil)) (dCons (dCB gList (dCons (dVar 0) dNil)) dNil))))))) (dSeq (dIfS (dTru (dVar 4)) (dSeq (dIfS (dTest (dOp (gIs true) (dVar 6) (dC .non))) (dSeq (dRet (dC (.bl false))) dNext) dNext) dNext) (dSeq (dIfS (dOr (dNot (dTru (dCall S__law_cut (dCons (dVar 0) (dCons (dVar 1) (dCons (dVar 2) (dCons (dVar 3) (dCons (dVar 6) dNil)))))))) (dTest (dOp (gIs true) (dCallK S_is_cut [4, 3, 2, 1, 0] 0 5 dNil (dCons (dVar 6) (dCons (dVar 3) (dCons (dVar 2) (dCons (dVar 1) (dCons (dVar 0) dNil)))))) (dC (.bl true))))) (dSeq (dRet (dC (.bl false))) dNext) dNext) dNext)) dNext))) (dSeq (dRet (dC (.bl true))) dNext))
theorem b__law_two {S_is_cut S__law_cut S_two_cut : DSp} {cdv : Value} {A : Around} {outer : List Env} {s : Shared} {H : Hp} {E : XK} {W : WX} (F_is_cut : Fx P w K mg base k "is_cut" s_is_cut ps_is_cut S_is_cut) (F__law_cut : Fx P w K mg base k "_law_cut" s__law_cut ps__law_cut S__law_cut) (F_two_cut : Fx P w K mg base k "two_cut" s_two_cut ps_two_cut S_two_cut) (n_range : mg "range" = none) (n_tuple : mg "tuple" = none) (n_list : mg "list" = none)
    (hr : Room k (CF P w K mg base N__law_two "_law_two" s__law_two f cdv A outer s H E).A) (hgu : (CF P w K mg base N__law_two "_law_two" s__law_two f cdv A outer s H E).A.guards = some []) (tk : Takes (CF P w K mg base N__law_two "_law_two" s__law_two f cdv A outer s H E) W) : JSs (CF P w K mg base N__law_two "_law_two" s__law_two f cdv A outer s H E) W (defBody s__law_two) (t__law_two S_is_cut S__law_cut S_two_cut) :=
  have nd : (CF P w K mg base N__law_two "_law_two" s__law_two f cdv A outer s H E).N.Nodup := sc__law_two.nd
  (js_cons (js_for (ws := [5]) (passes_of rfl) rfl (ji_range1 rfl n_range (ja_cons je_int ja_nil)) (jg_name (i := 5) (by simp) nd rfl (by first | exact .inl rfl | exact .inr rfl)) (js_cons (js_set (i := 6) nd rfl (by first | exact .inl rfl | exact .inr rfl) (je_if (jt_eq hr (jv 5) je_int) (je_cx F_two_cut hr hgu tk bd_two_cut rfl (ja_cons (je_tupleOf rfl n_tuple (ja_cons (jv 0) ja_nil)) (ja_cons (jv 1) (ja_cons (jv 2) (ja_cons (jv 3) ja_nil))))) (je_cxK0 F_two_cut hr hgu tk bk_two_cut_1 rfl (jk_cons (jv 3) (jk_cons (jv 2) (jk_cons (je_tupleOf rfl n_tuple (ja_cons (jv 1) ja_nil)) (jk_cons (je_listOf rfl n_list (ja_cons (jv 0) ja_nil)) jk_nil))))))) (js_cons (js_if (jt_tru (jv 4)) (js_cons (js_if (jt_isNot (jv 6) je_non) (js_cons (js_ret je_bl) js_nil) js_nil) js_nil) (js_cons (js_if (PW.pt (jw_or (jt_not (jt_tru (je_cx F__law_cut hr hgu tk bd__law_cut rfl (ja_cons (jv 0) (ja_cons (jv 1) (ja_cons (jv 2) (ja_cons (jv 3) (ja_cons (jv 6) ja_nil)))))))) (jw_or1 (jt_isNot (je_cxK0 F_is_cut hr hgu tk bk_is_cut_0 rfl (jk_cons (jv 6) (jk_cons (jv 3) (jk_cons (jv 2) (jk_cons (jv 1) (jk_cons (jv 0) jk_nil)))))) je_bl)))) (js_cons (js_ret je_bl) js_nil) js_nil) js_nil)) js_nil))) (js_cons (js_ret je_bl) js_nil))
theorem ok__law_two {S_is_cut S__law_cut S_two_cut : DSp} {S : DSp} (D : FnP K "_law_two" s__law_two f fd) (m : mg "_law_two" = some (.ref f)) (F_is_cut : Fx P w K mg base k "is_cut" s_is_cut ps_is_cut S_is_cut) (F__law_cut : Fx P w K mg base k "_law_cut" s__law_cut ps__law_cut S__law_cut) (F_two_cut : Fx P w K mg base k "two_cut" s_two_cut ps_two_cut S_two_cut) (n_range : mg "range" = none) (n_tuple : mg "tuple" = none) (n_list : mg "list" = none) (len : ∀ ds M Pd X, S ds M Pd X → ds.length = ps__law_two.length)
    (hp : ∀ ds M Pd X, MemOk M → S ds M Pd X → t__law_two S_is_cut S__law_cut S_two_cut (dkOf M.length Pd X) (startD N__law_two ds) M) : Fx P w K mg base (k + 1) "_law_two" s__law_two ps__law_two S :=
  fx_of D m sc__law_two _ len (fun _ _ _ _ _ _ _ hr hgu tk => b__law_two F_is_cut F__law_cut F_two_cut n_range n_tuple n_list hr hgu tk) hp
def t__law_small (S__law_two S__law_great S__law_reached S__law_rows S__law_any S__law_weighed : DSp) : DS := (dSeq (dPar 1 2 (dCons (dLst (dCons (dCall S__law_any (dCons (dVar 0) (dCons (dC (.int 6)) dNil))) (dCons (dCall S__law_any (dCons (dVar 0) (dCons (dC (.int 6)) dNil))) dNil))) (dCons (dLst (dCons (dOp gAdd (dC (.int 1)) (dCall S__law_any (dCons (dVar 0) (dCons (dC (.int 7)) dNil)))) (dCons (dOp gAdd (dC (.int 1)) (dCall S__law_any (dCons (dVar 0) (dCons (dC (.int 7)) dNil)))) dNil))) dNil))) (dSeq (dSet 3 (dCall S__law_any (dCons (dVar 0) (dCons (dOp gAdd (dCall S__law_weighed (dCons (dVar 2) (dCons (dVar 1) dNil))) (dC (.int 2))) dNil)))) (dSeq (dSet 4 (dOp gAdd (dVar 3) (dCall S__law_any (dCons (dVar 0) (dCons (dOp gAdd (dC (.int 1)) (dCB gSum (dCons (dVar 2) dNil))) dNil))))) (dSeq (dSet 5 (dCall S__law_rows (dCons (dVar 1) (dCons (dVar 2) (dCons (dVar 3) (dCons (dVar 4) dNil)))))) (dSeq (dSet 6 (dOrV (dOp gEq (dVar 5) (dLst dNil)) (dOp gEq (dCB gLen (dCons (dCall S__law_reached (dCons (dVar 5) (dCons (dOp gIx (dVar 5) (dC (.int 0))) dNil))) dNil)) (dCB gLen (dCons (dVar 5) dNil))))) (dSeq (dIfS (dNot (dTru (dCall S__law_two (dCons (dVar 1) (dCons (dVar 2) (dCons (dVar 3) (dCons (dVar 4) (dCons (dVar 6) dNil)))))))) (dSeq (dRet (dC (.bl false))) dNext) dNext) (dSeq (dSet 7 (dOp gAdd (dC (.int 1)) (dCall S__law_great (dCons (dVar 0) (dCons (dOp gPow (dC (.int 10)) (dC (.int 28))) dNil))))) (dSeq (dPar 8 9 (dCons (dCB gMax2 (dCons (dC (.int 0)) (dCons (dOp gSub' (dOp gMul (dVar 3) (dVar 7)) (dCall S__law_great (dCons (dVar 0) (dCons (dVar 7) dNil)))) dNil))) (dCons (dOp gAdd (dOp gMul (dVar 4) (dVar 7)) (dCall S__law_great (dCons (dVar 0) (dCons (dVar 7) dNil)))) dNil))) (dSeq (dRet (dCall S__law_two (dCons (dVar 1) (dCons (dComp (iSeq (dVar 2)) (gN 10) dYes (dOp gMul (dVar 10) (dVar 7)) [10]) (dCons (dVar 8) (dCons (dVar 9) (dCons (dVar 6) dNil))))))) dNext)))))))))
theorem b__law_small {S__law_two S__law_great S__law_reached S__law_rows S__law_any S__law_weighed : DSp} {cdv : Value} {A : Around} {outer : List Env} {s : Shared} {H : Hp} {E : XK} {W : WX} (F__law_two : Fx P w K mg base k "_law_two" s__law_two ps__law_two S__law_two) (F__law_great : Fx P w K mg base k "_law_great" s__law_great ps__law_great S__law_great) (F__law_reached : Fx P w K mg base k "_law_reached" s__law_reached ps__law_reached S__law_reached) (F__law_rows : Fx P w K mg base k "_law_rows" s__law_rows ps__law_rows S__law_rows) (F__law_any : Fx P w K mg base k "_law_any" s__law_any ps__law_any S__law_any) (F__law_weighed : Fx P w K mg base k "_law_weighed" s__law_weighed ps__law_weighed S__law_weighed) (n_max : mg "max" = none) (n_len : mg "len" = none) (n_sum : mg "sum" = none)
    (hr : Room k (CF P w K mg base N__law_small "_law_small" s__law_small f cdv A outer s H E).A) (hgu : (CF P w K mg base N__law_small "_law_small" s__law_small f cdv A outer s H E).A.guards = some []) (tk : Takes (CF P w K mg base N__law_small "_law_small" s__law_small f cdv A outer s H E) W) : JSs (CF P w K mg base N__law_small "_law_small" s__law_small f cdv A outer s H E) W (defBody s__law_small) (t__law_small S__law_two S__law_great S__law_reached S__law_rows S__law_any S__law_weighed) :=
  have nd : (CF P w K mg base N__law_small "_law_small" s__law_small f cdv A outer s H E).N.Nodup := sc__law_small.nd
  (js_cons (js_par (i := 1) (j := 2) rfl nd rfl rfl (by decide) rfl rfl (ja_cons (je_lst (ja_cons (je_cx F__law_any hr hgu tk bd__law_any rfl (ja_cons (jv 0) (ja_cons je_int ja_nil))) (ja_cons (je_cx F__law_any hr hgu tk bd__law_any rfl (ja_cons (jv 0) (ja_cons je_int ja_nil))) ja_nil))) (ja_cons (je_lst (ja_cons (je_add je_int (je_cx F__law_any hr hgu tk bd__law_any rfl (ja_cons (jv 0) (ja_cons je_int ja_nil)))) (ja_cons (je_add je_int (je_cx F__law_any hr hgu tk bd__law_any rfl (ja_cons (jv 0) (ja_cons je_int ja_nil)))) ja_nil))) ja_nil)) rfl) (js_cons (js_set (i := 3) nd rfl (by first | exact .inl rfl | exact .inr rfl) (je_cx F__law_any hr hgu tk bd__law_any rfl (ja_cons (jv 0) (ja_cons (je_add (je_cx F__law_weighed hr hgu tk bd__law_weighed rfl (ja_cons (jv 2) (ja_cons (jv 1) ja_nil))) je_int) ja_nil)))) (js_cons (js_set (i := 4) nd rfl (by first | exact .inl rfl | exact .inr rfl) (je_add (jv 3) (je_cx F__law_any hr hgu tk bd__law_any rfl (ja_cons (jv 0) (ja_cons (je_add je_int (je_sum rfl rfl n_sum (ja_cons (jv 2) ja_nil))) ja_nil))))) (js_cons (js_set (i := 5) nd rfl (by first | exact .inl rfl | exact .inr rfl) (je_cx F__law_rows hr hgu tk bd__law_rows rfl (ja_cons (jv 1) (ja_cons (jv 2) (ja_cons (jv 3) (ja_cons (jv 4) ja_nil)))))) (js_cons (js_set (i := 6) nd rfl (by first | exact .inl rfl | exact .inr rfl) (je_or (je_eq hr (jv 5) (je_lst ja_nil)) (je_one (je_eq hr (je_len rfl n_len (ja_cons (je_cx F__law_reached hr hgu tk bd__law_reached rfl (ja_cons (jv 5) (ja_cons (je_at (jv 5) je_int) ja_nil))) ja_nil)) (je_len rfl n_len (ja_cons (jv 5) ja_nil)))))) (js_cons (js_if (jt_not (jt_tru (je_cx F__law_two hr hgu tk bd__law_two rfl (ja_cons (jv 1) (ja_cons (jv 2) (ja_cons (jv 3) (ja_cons (jv 4) (ja_cons (jv 6) ja_nil)))))))) (js_cons (js_ret je_bl) js_nil) js_nil) (js_cons (js_set (i := 7) nd rfl (by first | exact .inl rfl | exact .inr rfl) (je_add je_int (je_cx F__law_great hr hgu tk bd__law_great rfl (ja_cons (jv 0) (ja_cons (je_pow je_int je_int) ja_nil))))) (js_cons (js_par (i := 8) (j := 9) rfl nd rfl rfl (by decide) rfl rfl (ja_cons (je_max2 rfl rfl n_max (ja_cons je_int (ja_cons (je_sub (je_mul (jv 3) (jv 7)) (je_cx F__law_great hr hgu tk bd__law_great rfl (ja_cons (jv 0) (ja_cons (jv 7) ja_nil)))) ja_nil))) (ja_cons (je_add (je_mul (jv 4) (jv 7)) (je_cx F__law_great hr hgu tk bd__law_great rfl (ja_cons (jv 0) (ja_cons (jv 7) ja_nil)))) ja_nil)) rfl) (js_cons (js_ret (je_cx F__law_two hr hgu tk bd__law_two rfl (ja_cons (jv 1) (ja_cons (je_comp (own := [("weight", 10)]) (ws := [10]) rfl nd (by simp) (ji_seq (jv 2)) (blkOk_by (by first | rfl | decide +kernel)) (fun _ _ _ _ _ => (jg_name (i := 10) (by simp) nd rfl (by first | exact .inl rfl | exact .inr rfl))) (fun _ _ _ _ _ => jts_nil) (fun _ _ _ _ _ => (je_mul (jv 10) (jv 7)))) (ja_cons (jv 8) (ja_cons (jv 9) (ja_cons (jv 6) ja_nil))))))) js_nil)))))))))
theorem ok__law_small {S__law_two S__law_great S__law_reached S__law_rows S__law_any S__law_weighed : DSp} {S : DSp} (D : FnP K "_law_small" s__law_small f fd) (m : mg "_law_small" = some (.ref f)) (F__law_two : Fx P w K mg base k "_law_two" s__law_two ps__law_two S__law_two) (F__law_great : Fx P w K mg base k "_law_great" s__law_great ps__law_great S__law_great) (F__law_reached : Fx P w K mg base k "_law_reached" s__law_reached ps__law_reached S__law_reached) (F__law_rows : Fx P w K mg base k "_law_rows" s__law_rows ps__law_rows S__law_rows) (F__law_any : Fx P w K mg base k "_law_any" s__law_any ps__law_any S__law_any) (F__law_weighed : Fx P w K mg base k "_law_weighed" s__law_weighed ps__law_weighed S__law_weighed) (n_max : mg "max" = none) (n_len : mg "len" = none) (n_sum : mg "sum" = none) (len : ∀ ds M Pd X, S ds M Pd X → ds.length = ps__law_small.length)
    (hp : ∀ ds M Pd X, MemOk M → S ds M Pd X → t__law_small S__law_two S__law_great S__law_reached S__law_rows S__law_any S__law_weighed (dkOf M.length Pd X) (startD N__law_small ds) M) : Fx P w K mg base (k + 1) "_law_small" s__law_small ps__law_small S :=
  fx_of D m sc__law_small _ len (fun _ _ _ _ _ _ _ hr hgu tk => b__law_small F__law_two F__law_great F__law_reached F__law_rows F__law_any F__law_weighed n_max n_len n_sum hr hgu tk) hp
def t__law_wide (S__law_two S__law_great S__law_of S__law_cut S__law_weighed : DSp) : DS := (dSeq (dSet 1 (dComp (iRan1 (dCons (dC (.int 2)) dNil)) (gN 8) dYes (dOp gAdd (dC (.int 1)) (dCall S__law_great (dCons (dVar 0) (dCons (dCall S__law_of (dCons (dVar 0) (dCons (dLst (dCons (dC (.int 9)) (dCons (dOp gPow (dC (.int 10)) (dC (.int 6))) (dCons (dOp gPow (dC (.int 10)) (dC (.int 14))) dNil)))) dNil))) dNil)))) [8])) (dSeq (dSet 2 (dCompM (iRan1 (dCons (dC (.int 2)) dNil)) (gN 8) dYes (dCall S__law_great (dCons (dVar 0) (dCons (dCall S__law_of (dCons (dVar 0) (dCons (dLst (dCons (dC (.int 2)) (dCons (dC (.int 100)) (dCons (dOp gPow (dC (.int 10)) (dC (.int 15))) dNil)))) dNil))) dNil))) [8])) (dSeq (dAsg (dOp gAdd (dOp gIx (dVar 2) (dC (.int 1))) (dC (.int 1))) (gSub (dVar 2) (dC (.int 1)))) (dSeq (dSet 3 (dLst (dCons (dOp gAdd (dOp gAdd (dOp gIx (dVar 2) (dC (.int 0))) (dC (.int 1))) (dCall S__law_great (dCons (dVar 0) (dCons (dCall S__law_of (dCons (dVar 0) (dCons (dLst (dCons (dC (.int 1)) (dCons (dC (.int 10)) (dCons (dOp gPow (dC (.int 10)) (dC (.int 15))) dNil)))) dNil))) dNil)))) (dCons (dOp gAdd (dOp gIx (dVar 2) (dC (.int 1))) (dCall S__law_great (dCons (dVar 0) (dCons (dCall S__law_of (dCons (dVar 0) (dCons (dLst (dCons (dC (.int 1)) (dCons (dC (.int 10)) (dCons (dOp gPow (dC (.int 10)) (dC (.int 15))) dNil)))) dNil))) dNil)))) dNil)))) (dSeq (dPar 4 5 (dCons (dCall S__law_weighed (dCons (dVar 1) (dCons (dVar 2) dNil))) (dCons (dCall S__law_weighed (dCons (dVar 1) (dCons (dLst (dCons (dOp gAdd (dOp gIx (dVar 2) (dC (.int 0))) (dC (.int 1))) (dCons (dOp gSub' (dOp gIx (dVar 2) (dC (.int 1))) (dC (.int 1))) dNil))) dNil))) dNil))) (dSeq (dSet 6 (dOp gSub' (dCB gMin2 (dCons (dVar 4) (dCons (dVar 5) dNil))) (dCall S__law_great (dCons (dVar 0) (dCons (dOp gAdd (dOp gSub' (dCB gMin2 (dCons (dVar 4) (dCons (dVar 5) dNil))) (dOp gAdd (dOp gSub' (dVar 4) (dOp gIx (dVar 1) (dC (.int 1)))) (dC (.int 1)))) (dC (.int 1))) dNil))))) (dSeq (dSet 7 (dOp gAdd (dCB gMax2 (dCons (dVar 4) (dCons (dVar 5) dNil))) (dCall S__law_great (dCons (dVar 0) (dCons (dOp gAdd (dOp gSub' (dOp gSub' (dOp gAdd (dVar 4) (dOp gIx (dVar 1) (dC (.int 0)))) (dC (.int 1))) (dCB gMax2 (dCons (dVar 4) (dCons (dVar 5) dNil)))) (dC (.int 1))) dNil))))) (dSeq (dIfS (dNot (dTru (dCall S__law_cut (dCons (dVar 3) (dCons (dVar 1) (dCons (dVar 6) (dCons (dVar 7) (dCons (dTup (dCons (dCB gTuple (dCons (dVar 2) dNil)) (dCons (dTup (dCons (dOp gAdd (dOp gIx (dVar 2) (dC (.int 0))) (dC (.int 1))) (dCons (dOp gSub' (dOp gIx (dVar 2) (dC (.int 1))) (dC (.int 1))) dNil))) dNil))) dNil)))))))) (dSeq (dRet (dC (.bl false))) dNext) dNext) (dSeq (dIfS (dOr (dNot (dTru (dCall S__law_two (dCons (dVar 3) (dCons (dVar 1) (dCons (dVar 6) (dCons (dVar 7) (dCons (dC (.bl false)) dNil)))))))) (dNot (dTru (dCall S__law_two (dCons (dRev (dVar 3)) (dCons (dRev (dVar 1)) (dCons (dVar 6) (dCons (dVar 7) (dCons (dC (.bl false)) dNil))))))))) (dSeq (dRet (dC (.bl false))) dNext) dNext) (dSeq (dRet (dCall S__law_two (dCons (dVar 3) (dCons (dVar 1) (dCons (dVar 6) (dCons (dOp gAdd (dOp gSub' (dOp gAdd (dVar 6) (dCB gSum (dCons (dVar 1) dNil))) (dC (.int 1))) (dCall S__law_great (dCons (dVar 0) (dCons (dCall S__law_of (dCons (dVar 0) (dCons (dLst (dCons (dC (.int 1)) (dCons (dOp gPow (dC (.int 10)) (dC (.int 14))) dNil))) dNil))) dNil)))) (dCons (dC (.bl true)) dNil))))))) dNext))))))))))
theorem b__law_wide {S__law_two S__law_great S__law_of S__law_cut S__law_weighed : DSp} {cdv : Value} {A : Around} {outer : List Env} {s : Shared} {H : Hp} {E : XK} {W : WX} (F__law_two : Fx P w K mg base k "_law_two" s__law_two ps__law_two S__law_two) (F__law_great : Fx P w K mg base k "_law_great" s__law_great ps__law_great S__law_great) (F__law_of : Fx P w K mg base k "_law_of" s__law_of ps__law_of S__law_of) (F__law_cut : Fx P w K mg base k "_law_cut" s__law_cut ps__law_cut S__law_cut) (F__law_weighed : Fx P w K mg base k "_law_weighed" s__law_weighed ps__law_weighed S__law_weighed) (n_sum : mg "sum" = none) (n_tuple : mg "tuple" = none) (n_max : mg "max" = none) (n_min : mg "min" = none) (n_range : mg "range" = none)
    (hr : Room k (CF P w K mg base N__law_wide "_law_wide" s__law_wide f cdv A outer s H E).A) (hgu : (CF P w K mg base N__law_wide "_law_wide" s__law_wide f cdv A outer s H E).A.guards = some []) (tk : Takes (CF P w K mg base N__law_wide "_law_wide" s__law_wide f cdv A outer s H E) W) : JSs (CF P w K mg base N__law_wide "_law_wide" s__law_wide f cdv A outer s H E) W (defBody s__law_wide) (t__law_wide S__law_two S__law_great S__law_of S__law_cut S__law_weighed) :=
  have nd : (CF P w K mg base N__law_wide "_law_wide" s__law_wide f cdv A outer s H E).N.Nodup := sc__law_wide.nd
  (js_cons (js_comp (i := 1) (own := [("turn", 8)]) (ws := [8]) rfl nd (by simp) (ji_range1 rfl n_range (ja_cons je_int ja_nil)) (blkOk_by (by first | rfl | decide +kernel)) (fun _ _ _ _ _ => (jg_name (i := 8) (by simp) nd rfl (by first | exact .inl rfl | exact .inr rfl))) (fun _ _ _ _ _ => jts_nil) (fun _ _ _ _ _ => (je_add je_int (je_cx F__law_great hr hgu takes0 bd__law_great rfl (ja_cons (jv 0) (ja_cons (je_cx F__law_of hr hgu takes0 bd__law_of rfl (ja_cons (jv 0) (ja_cons (je_lst (ja_cons je_int (ja_cons (je_pow je_int je_int) (ja_cons (je_pow je_int je_int) ja_nil)))) ja_nil))) ja_nil))))) rfl rfl rfl) (js_cons (js_compM (i := 2) (own := [("turn", 8)]) (ws := [8]) rfl nd (by simp) (ji_range1 rfl n_range (ja_cons je_int ja_nil)) (blkOk_by (by first | rfl | decide +kernel)) (fun _ _ _ _ _ => (jg_name (i := 8) (by simp) nd rfl (by first | exact .inl rfl | exact .inr rfl))) (fun _ _ _ _ _ => jts_nil) (fun _ _ _ _ _ => (je_cx F__law_great hr hgu takes0 bd__law_great rfl (ja_cons (jv 0) (ja_cons (je_cx F__law_of hr hgu takes0 bd__law_of rfl (ja_cons (jv 0) (ja_cons (je_lst (ja_cons je_int (ja_cons je_int (ja_cons (je_pow je_int je_int) ja_nil)))) ja_nil))) ja_nil)))) rfl rfl rfl) (js_cons (js_asg (ws := []) (je_add (je_at (jv 2) je_int) je_int) (jg_sub (jv 2) je_int)) (js_cons (js_set (i := 3) nd rfl (by first | exact .inl rfl | exact .inr rfl) (je_lst (ja_cons (je_add (je_add (je_at (jv 2) je_int) je_int) (je_cx F__law_great hr hgu tk bd__law_great rfl (ja_cons (jv 0) (ja_cons (je_cx F__law_of hr hgu tk bd__law_of rfl (ja_cons (jv 0) (ja_cons (je_lst (ja_cons je_int (ja_cons je_int (ja_cons (je_pow je_int je_int) ja_nil)))) ja_nil))) ja_nil)))) (ja_cons (je_add (je_at (jv 2) je_int) (je_cx F__law_great hr hgu tk bd__law_great rfl (ja_cons (jv 0) (ja_cons (je_cx F__law_of hr hgu tk bd__law_of rfl (ja_cons (jv 0) (ja_cons (je_lst (ja_cons je_int (ja_cons je_int (ja_cons (je_pow je_int je_int) ja_nil)))) ja_nil))) ja_nil)))) ja_nil)))) (js_cons (js_par (i := 4) (j := 5) rfl nd rfl rfl (by decide) rfl rfl (ja_cons (je_cx F__law_weighed hr hgu tk bd__law_weighed rfl (ja_cons (jv 1) (ja_cons (jv 2) ja_nil))) (ja_cons (je_cx F__law_weighed hr hgu tk bd__law_weighed rfl (ja_cons (jv 1) (ja_cons (je_lst (ja_cons (je_add (je_at (jv 2) je_int) je_int) (ja_cons (je_sub (je_at (jv 2) je_int) je_int) ja_nil))) ja_nil))) ja_nil)) rfl) (js_cons (js_set (i := 6) nd rfl (by first | exact .inl rfl | exact .inr rfl) (je_sub (je_min2 rfl rfl n_min (ja_cons (jv 4) (ja_cons (jv 5) ja_nil))) (je_cx F__law_great hr hgu tk bd__law_great rfl (ja_cons (jv 0) (ja_cons (je_add (je_sub (je_min2 rfl rfl n_min (ja_cons (jv 4) (ja_cons (jv 5) ja_nil))) (je_add (je_sub (jv 4) (je_at (jv 1) je_int)) je_int)) je_int) ja_nil))))) (js_cons (js_set (i := 7) nd rfl (by first | exact .inl rfl | exact .inr rfl) (je_add (je_max2 rfl rfl n_max (ja_cons (jv 4) (ja_cons (jv 5) ja_nil))) (je_cx F__law_great hr hgu tk bd__law_great rfl (ja_cons (jv 0) (ja_cons (je_add (je_sub (je_sub (je_add (jv 4) (je_at (jv 1) je_int)) je_int) (je_max2 rfl rfl n_max (ja_cons (jv 4) (ja_cons (jv 5) ja_nil)))) je_int) ja_nil))))) (js_cons (js_if (jt_not (jt_tru (je_cx F__law_cut hr hgu tk bd__law_cut rfl (ja_cons (jv 3) (ja_cons (jv 1) (ja_cons (jv 6) (ja_cons (jv 7) (ja_cons (je_tup (ja_cons (je_tupleOf rfl n_tuple (ja_cons (jv 2) ja_nil)) (ja_cons (je_tup (ja_cons (je_add (je_at (jv 2) je_int) je_int) (ja_cons (je_sub (je_at (jv 2) je_int) je_int) ja_nil))) ja_nil))) ja_nil)))))))) (js_cons (js_ret je_bl) js_nil) js_nil) (js_cons (js_if (PW.pt (jw_or (jt_not (jt_tru (je_cx F__law_two hr hgu tk bd__law_two rfl (ja_cons (jv 3) (ja_cons (jv 1) (ja_cons (jv 6) (ja_cons (jv 7) (ja_cons je_bl ja_nil)))))))) (jw_or1 (jt_not (jt_tru (je_cx F__law_two hr hgu tk bd__law_two rfl (ja_cons (je_rev (jv 3)) (ja_cons (je_rev (jv 1)) (ja_cons (jv 6) (ja_cons (jv 7) (ja_cons je_bl ja_nil))))))))))) (js_cons (js_ret je_bl) js_nil) js_nil) (js_cons (js_ret (je_cx F__law_two hr hgu tk bd__law_two rfl (ja_cons (jv 3) (ja_cons (jv 1) (ja_cons (jv 6) (ja_cons (je_add (je_sub (je_add (jv 6) (je_sum rfl rfl n_sum (ja_cons (jv 1) ja_nil))) je_int) (je_cx F__law_great hr hgu tk bd__law_great rfl (ja_cons (jv 0) (ja_cons (je_cx F__law_of hr hgu tk bd__law_of rfl (ja_cons (jv 0) (ja_cons (je_lst (ja_cons je_int (ja_cons (je_pow je_int je_int) ja_nil))) ja_nil))) ja_nil)))) (ja_cons je_bl ja_nil))))))) js_nil))))))))))
theorem ok__law_wide {S__law_two S__law_great S__law_of S__law_cut S__law_weighed : DSp} {S : DSp} (D : FnP K "_law_wide" s__law_wide f fd) (m : mg "_law_wide" = some (.ref f)) (F__law_two : Fx P w K mg base k "_law_two" s__law_two ps__law_two S__law_two) (F__law_great : Fx P w K mg base k "_law_great" s__law_great ps__law_great S__law_great) (F__law_of : Fx P w K mg base k "_law_of" s__law_of ps__law_of S__law_of) (F__law_cut : Fx P w K mg base k "_law_cut" s__law_cut ps__law_cut S__law_cut) (F__law_weighed : Fx P w K mg base k "_law_weighed" s__law_weighed ps__law_weighed S__law_weighed) (n_sum : mg "sum" = none) (n_tuple : mg "tuple" = none) (n_max : mg "max" = none) (n_min : mg "min" = none) (n_range : mg "range" = none) (len : ∀ ds M Pd X, S ds M Pd X → ds.length = ps__law_wide.length)
    (hp : ∀ ds M Pd X, MemOk M → S ds M Pd X → t__law_wide S__law_two S__law_great S__law_of S__law_cut S__law_weighed (dkOf M.length Pd X) (startD N__law_wide ds) M) : Fx P w K mg base (k + 1) "_law_wide" s__law_wide ps__law_wide S :=
  fx_of D m sc__law_wide _ len (fun _ _ _ _ _ _ _ hr hgu tk => b__law_wide F__law_two F__law_great F__law_of F__law_cut F__law_weighed n_sum n_tuple n_max n_min n_range hr hgu tk) hp
def t__law_near (S__law_of S__law_any : DSp) : DS := (dSeq (dAsg (dVar 3) (gT 2 (gsCons (gN 4) (gsCons (gN 5) gsNil)))) (dSeq (dSet 6 (dCall S__law_any (dCons (dVar 0) (dCons (dCB gLen (dCons (dVar 4) dNil)) dNil)))) (dSeq (dSet 7 (dOp gAdd (dOp gAdd (dSl (dVar 4) dNoP (dPart (dVar 6))) (dTup (dCons (dCall S__law_of (dCons (dVar 0) (dCons (dLst (dCons (dOp gAdd (dOp gIx (dVar 4) (dVar 6)) (dC (.int 1))) (dCons (dOp gSub' (dOp gIx (dVar 4) (dVar 6)) (dC (.int 1))) (dCons (dC .non) (dCons (dC (.str "0")) (dCons (dC (.bl true)) (dCons (dOp gAdd (dOp gIx (dVar 2) (dVar 6)) (dC (.int 1))) dNil))))))) dNil))) dNil))) (dSl (dVar 4) (dPart (dOp gAdd (dVar 6) (dC (.int 1)))) dNoP))) (dSeq (dSet 8 (dLst (dCons (dLst (dCons (dVar 4) (dCons (dVar 5) dNil))) (dCons (dTup (dCons (dVar 4) dNil)) (dCons (dTup (dCons (dVar 4) (dCons (dVar 5) (dCons (dVar 5) dNil)))) (dCons (dTup (dCons (dCB gList (dCons (dVar 4) dNil)) (dCons (dVar 5) dNil))) (dCons (dTup (dCons (dVar 4) (dCons (dCB gList (dCons (dVar 5) dNil)) dNil))) (dCons (dTup (dCons (dVar 7) (dCons (dVar 5) dNil))) (dCons (dTup (dCons (dVar 5) (dCons (dVar 7) dNil))) (dCons (dC .non) (dCons (dC (.int 3)) (dCons (dTup (dCons (dVar 4) (dCons (dVar 4) dNil))) dNil)))))))))))) (dSeq (dRet (dCall S__law_of (dCons (dVar 0) (dCons (dOp gAdd (dVar 8) (dLst (dCons (dTup (dCons (dVar 4) (dCons (dVar 7) dNil))) (dCons (dTup (dCons (dVar 5) (dCons (dVar 4) dNil))) (dCons (dTup (dCons (dVar 4) (dCons (dCall S__law_of (dCons (dVar 0) (dCons (dVar 1) dNil))) dNil))) (dCons (dC (.str "01")) (dCons (dC .dic) (dCons (dTup (dCons (dOp gAdd (dVar 4) (dTup (dCons (dC (.int 0)) dNil))) (dCons (dVar 5) dNil))) dNil)))))))) dNil)))) dNext)))))
theorem b__law_near {S__law_of S__law_any : DSp} {cdv : Value} {A : Around} {outer : List Env} {s : Shared} {H : Hp} {E : XK} {W : WX} (F__law_of : Fx P w K mg base k "_law_of" s__law_of ps__law_of S__law_of) (F__law_any : Fx P w K mg base k "_law_any" s__law_any ps__law_any S__law_any) (n_list : mg "list" = none) (n_len : mg "len" = none)
    (hr : Room k (CF P w K mg base N__law_near "_law_near" s__law_near f cdv A outer s H E).A) (hgu : (CF P w K mg base N__law_near "_law_near" s__law_near f cdv A outer s H E).A.guards = some []) (tk : Takes (CF P w K mg base N__law_near "_law_near" s__law_near f cdv A outer s H E) W) : JSs (CF P w K mg base N__law_near "_law_near" s__law_near f cdv A outer s H E) W (defBody s__law_near) (t__law_near S__law_of S__law_any) :=
  have nd : (CF P w K mg base N__law_near "_law_near" s__law_near f cdv A outer s H E).N.Nodup := sc__law_near.nd
  (js_cons (js_asg (ws := [4, 5]) (jv 3) (jg_tup rfl (jgs_cons (jg_name (i := 4) (by simp) nd rfl (by first | exact .inl rfl | exact .inr rfl)) (jgs_cons (jg_name (i := 5) (by simp) nd rfl (by first | exact .inl rfl | exact .inr rfl)) jgs_nil)))) (js_cons (js_set (i := 6) nd rfl (by first | exact .inl rfl | exact .inr rfl) (je_cx F__law_any hr hgu tk bd__law_any rfl (ja_cons (jv 0) (ja_cons (je_len rfl n_len (ja_cons (jv 4) ja_nil)) ja_nil)))) (js_cons (js_set (i := 7) nd rfl (by first | exact .inl rfl | exact .inr rfl) (je_add (je_add (je_slice (jv 4) jo_none (jo_some (jv 6))) (je_tup (ja_cons (je_cx F__law_of hr hgu tk bd__law_of rfl (ja_cons (jv 0) (ja_cons (je_lst (ja_cons (je_add (je_at (jv 4) (jv 6)) je_int) (ja_cons (je_sub (je_at (jv 4) (jv 6)) je_int) (ja_cons je_non (ja_cons je_str (ja_cons je_bl (ja_cons (je_add (je_at (jv 2) (jv 6)) je_int) ja_nil))))))) ja_nil))) ja_nil))) (je_slice (jv 4) (jo_some (je_add (jv 6) je_int)) jo_none))) (js_cons (js_set (i := 8) nd rfl (by first | exact .inl rfl | exact .inr rfl) (je_lst (ja_cons (je_lst (ja_cons (jv 4) (ja_cons (jv 5) ja_nil))) (ja_cons (je_tup (ja_cons (jv 4) ja_nil)) (ja_cons (je_tup (ja_cons (jv 4) (ja_cons (jv 5) (ja_cons (jv 5) ja_nil)))) (ja_cons (je_tup (ja_cons (je_listOf rfl n_list (ja_cons (jv 4) ja_nil)) (ja_cons (jv 5) ja_nil))) (ja_cons (je_tup (ja_cons (jv 4) (ja_cons (je_listOf rfl n_list (ja_cons (jv 5) ja_nil)) ja_nil))) (ja_cons (je_tup (ja_cons (jv 7) (ja_cons (jv 5) ja_nil))) (ja_cons (je_tup (ja_cons (jv 5) (ja_cons (jv 7) ja_nil))) (ja_cons je_non (ja_cons je_int (ja_cons (je_tup (ja_cons (jv 4) (ja_cons (jv 4) ja_nil))) ja_nil)))))))))))) (js_cons (js_ret (je_cx F__law_of hr hgu tk bd__law_of rfl (ja_cons (jv 0) (ja_cons (je_add (jv 8) (je_lst (ja_cons (je_tup (ja_cons (jv 4) (ja_cons (jv 7) ja_nil))) (ja_cons (je_tup (ja_cons (jv 5) (ja_cons (jv 4) ja_nil))) (ja_cons (je_tup (ja_cons (jv 4) (ja_cons (je_cx F__law_of hr hgu tk bd__law_of rfl (ja_cons (jv 0) (ja_cons (jv 1) ja_nil))) ja_nil))) (ja_cons je_str (ja_cons je_dic (ja_cons (je_tup (ja_cons (je_add (jv 4) (je_tup (ja_cons je_int ja_nil))) (ja_cons (jv 5) ja_nil))) ja_nil)))))))) ja_nil)))) js_nil)))))
theorem ok__law_near {S__law_of S__law_any : DSp} {S : DSp} (D : FnP K "_law_near" s__law_near f fd) (m : mg "_law_near" = some (.ref f)) (F__law_of : Fx P w K mg base k "_law_of" s__law_of ps__law_of S__law_of) (F__law_any : Fx P w K mg base k "_law_any" s__law_any ps__law_any S__law_any) (n_list : mg "list" = none) (n_len : mg "len" = none) (len : ∀ ds M Pd X, S ds M Pd X → ds.length = ps__law_near.length)
    (hp : ∀ ds M Pd X, MemOk M → S ds M Pd X → t__law_near S__law_of S__law_any (dkOf M.length Pd X) (startD N__law_near ds) M) : Fx P w K mg base (k + 1) "_law_near" s__law_near ps__law_near S :=
  fx_of D m sc__law_near _ len (fun _ _ _ _ _ _ _ hr hgu tk => b__law_near F__law_of F__law_any n_list n_len hr hgu tk) hp
def t__law_near_cuts (S__law_near S_is_cut S__law_cut S__law_of S__law_rows : DSp) : DS := (dSeq (dSet 5 (dCall S__law_rows (dCons (dVar 1) (dCons (dVar 2) (dCons (dVar 3) (dCons (dVar 4) dNil)))))) (dSeq (dFor (iRan1 (dCons (dIf (dTest (dOp gNe (dVar 5) (dLst dNil))) (dC (.int 4)) (dC (.int 0))) dNil)) (gN 6) (dSeq (dSet 7 (dCall S__law_of (dCons (dVar 0) (dCons (dVar 5) dNil)))) (dSeq (dSet 8 (dComp (iSeq (dVar 5)) (gN 12) (dTest (dOp gEq (dCB gLen (dCons (dComp (iRan1 (dCons (dCB gLen (dCons (dVar 12) dNil)) dNil)) (gN 13) (dTest (dOp gNe (dOp gIx (dVar 12) (dVar 13)) (dOp gIx (dVar 7) (dVar 13)))) (dVar 13) [13]) dNil)) (dC (.int 2)))) (dVar 12) [12])) (dSeq (dSet 8 (dComp (iSeq (dVar 8)) (gN 12) (dTru (dCall S__law_cut (dCons (dVar 1) (dCons (dVar 2) (dCons (dVar 3) (dCons (dVar 4) (dCons (dTup (dCons (dVar 7) (dCons (dVar 12) dNil))) dNil))))))) (dVar 12) [12])) (dSeq (dSet 9 (dIf (dTest (dOp gNe (dVar 8) (dLst dNil))) (dCall S__law_of (dCons (dVar 0) (dCons (dVar 8) dNil))) (dCall S__law_of (dCons (dVar 0) (dCons (dVar 5) dNil))))) (dSeq (dFor (iSeq (dLst (dCons (dTup (dCons (dVar 7) (dCons (dVar 9) dNil))) (dCons (dCall S__law_near (dCons (dVar 0) (dCons (dVar 5) (dCons (dVar 1) (dCons (dTup (dCons (dVar 7) (dCons (dVar 9) dNil))) dNil))))) dNil)))) (gN 10) (dSeq (dSet 11 (dCB gRepr (dCons (dCall S__law_cut (dCons (dVar 1) (dCons (dVar 2) (dCons (dVar 3) (dCons (dVar 4) (dCons (dVar 10) dNil)))))) dNil))) (dSeq (dIfS (dOr (dTest (dOp gNe (dCB gRepr (dCons (dCall S_is_cut (dCons (dVar 1) (dCons (dVar 2) (dCons (dVar 3) (dCons (dVar 4) (dCons (dVar 10) dNil)))))) dNil)) (dVar 11))) (dTest (dOp gNe (dCB gRepr (dCons (dCall S_is_cut (dCons (dVar 1) (dCons (dVar 2) (dCons (dVar 3) (dCons (dVar 4) (dCons (dVar 10) dNil)))))) dNil)) (dVar 11)))) (dSeq (dRet (dC (.bl false))) dNext) dNext) dNext))) dNext)))))) (dSeq (dRet (dC (.bl true))) dNext)))
theorem b__law_near_cuts {S__law_near S_is_cut S__law_cut S__law_of S__law_rows : DSp} {cdv : Value} {A : Around} {outer : List Env} {s : Shared} {H : Hp} {E : XK} {W : WX} (F__law_near : Fx P w K mg base k "_law_near" s__law_near ps__law_near S__law_near) (F_is_cut : Fx P w K mg base k "is_cut" s_is_cut ps_is_cut S_is_cut) (F__law_cut : Fx P w K mg base k "_law_cut" s__law_cut ps__law_cut S__law_cut) (F__law_of : Fx P w K mg base k "_law_of" s__law_of ps__law_of S__law_of) (F__law_rows : Fx P w K mg base k "_law_rows" s__law_rows ps__law_rows S__law_rows) (n_range : mg "range" = none) (n_repr : mg "repr" = none) (n_len : mg "len" = none)
    (hr : Room k (CF P w K mg base N__law_near_cuts "_law_near_cuts" s__law_near_cuts f cdv A outer s H E).A) (hgu : (CF P w K mg base N__law_near_cuts "_law_near_cuts" s__law_near_cuts f cdv A outer s H E).A.guards = some []) (tk : Takes (CF P w K mg base N__law_near_cuts "_law_near_cuts" s__law_near_cuts f cdv A outer s H E) W) : JSs (CF P w K mg base N__law_near_cuts "_law_near_cuts" s__law_near_cuts f cdv A outer s H E) W (defBody s__law_near_cuts) (t__law_near_cuts S__law_near S_is_cut S__law_cut S__law_of S__law_rows) :=
  have nd : (CF P w K mg base N__law_near_cuts "_law_near_cuts" s__law_near_cuts f cdv A outer s H E).N.Nodup := sc__law_near_cuts.nd
  (js_cons (js_set (i := 5) nd rfl (by first | exact .inl rfl | exact .inr rfl) (je_cx F__law_rows hr hgu tk bd__law_rows rfl (ja_cons (jv 1) (ja_cons (jv 2) (ja_cons (jv 3) (ja_cons (jv 4) ja_nil)))))) (js_cons (js_for (ws := [6]) (passes_of rfl) rfl (ji_range1 rfl n_range (ja_cons (je_if (jt_ne hr (jv 5) (je_lst ja_nil)) je_int je_int) ja_nil)) (jg_name (i := 6) (by simp) nd rfl (by first | exact .inl rfl | exact .inr rfl)) (js_cons (js_set (i := 7) nd rfl (by first | exact .inl rfl | exact .inr rfl) (je_cx F__law_of hr hgu tk bd__law_of rfl (ja_cons (jv 0) (ja_cons (jv 5) ja_nil)))) (js_cons (js_comp (i := 8) (own := [("row", 12)]) (ws := [12]) rfl nd (by simp) (ji_seq (jv 5)) (blkOk_by (by first | rfl | decide +kernel)) (fun _ _ _ _ _ => (jg_name (i := 12) (by simp) nd rfl (by first | exact .inl rfl | exact .inr rfl))) (fun _ _ _ _ _ => (jts_one (jt_eq hr (je_len rfl n_len (ja_cons (je_comp (own := [("key", 13)]) (ws := [13]) rfl nd (by simp) (ji_range1 rfl n_range (ja_cons (je_len rfl n_len (ja_cons (jv 12) ja_nil)) ja_nil)) (blkOk_by (by first | rfl | decide +kernel)) (fun _ _ _ _ _ => (jg_name (i := 13) (by simp) nd rfl (by first | exact .inl rfl | exact .inr rfl))) (fun _ _ _ _ _ => (jts_one (jt_ne hr (je_at (jv 12) (jv 13)) (je_at (jv 7) (jv 13))))) (fun _ _ _ _ _ => (jv 13))) ja_nil)) je_int))) (fun _ _ _ _ _ => (jv 12)) rfl rfl rfl) (js_cons (js_comp (i := 8) (own := [("row", 12)]) (ws := [12]) rfl nd (by simp) (ji_seq (jv 8)) (blkOk_by (by first | rfl | decide +kernel)) (fun _ _ _ _ _ => (jg_name (i := 12) (by simp) nd rfl (by first | exact .inl rfl | exact .inr rfl))) (fun _ _ _ _ _ => (jts_one (jt_tru (je_cx F__law_cut hr hgu takes0 bd__law_cut rfl (ja_cons (jv 1) (ja_cons (jv 2) (ja_cons (jv 3) (ja_cons (jv 4) (ja_cons (je_tup (ja_cons (jv 7) (ja_cons (jv 12) ja_nil))) ja_nil))))))))) (fun _ _ _ _ _ => (jv 12)) rfl rfl rfl) (js_cons (js_set (i := 9) nd rfl (by first | exact .inl rfl | exact .inr rfl) (je_if (jt_ne hr (jv 8) (je_lst ja_nil)) (je_cx F__law_of hr hgu tk bd__law_of rfl (ja_cons (jv 0) (ja_cons (jv 8) ja_nil))) (je_cx F__law_of hr hgu tk bd__law_of rfl (ja_cons (jv 0) (ja_cons (jv 5) ja_nil))))) (js_cons (js_for (ws := [10]) (passes_of rfl) rfl (ji_seq (je_lst (ja_cons (je_tup (ja_cons (jv 7) (ja_cons (jv 9) ja_nil))) (ja_cons (je_cx F__law_near hr hgu tk bd__law_near rfl (ja_cons (jv 0) (ja_cons (jv 5) (ja_cons (jv 1) (ja_cons (je_tup (ja_cons (jv 7) (ja_cons (jv 9) ja_nil))) ja_nil))))) ja_nil)))) (jg_name (i := 10) (by simp) nd rfl (by first | exact .inl rfl | exact .inr rfl)) (js_cons (js_set (i := 11) nd rfl (by first | exact .inl rfl | exact .inr rfl) (je_repr hr hgu rfl n_repr (ja_cons (je_cx F__law_cut hr hgu tk bd__law_cut rfl (ja_cons (jv 1) (ja_cons (jv 2) (ja_cons (jv 3) (ja_cons (jv 4) (ja_cons (jv 10) ja_nil)))))) ja_nil))) (js_cons (js_if (PW.pt (jw_or (jt_ne hr (je_repr hr hgu rfl n_repr (ja_cons (je_cx F_is_cut hr hgu tk bd_is_cut rfl (ja_cons (jv 1) (ja_cons (jv 2) (ja_cons (jv 3) (ja_cons (jv 4) (ja_cons (jv 10) ja_nil)))))) ja_nil)) (jv 11)) (jw_or1 (jt_ne hr (je_repr hr hgu rfl n_repr (ja_cons (je_cx F_is_cut hr hgu tk bd_is_cut rfl (ja_cons (jv 1) (ja_cons (jv 2) (ja_cons (jv 3) (ja_cons (jv 4) (ja_cons (jv 10) ja_nil)))))) ja_nil)) (jv 11))))) (js_cons (js_ret je_bl) js_nil) js_nil) js_nil))) js_nil)))))) (js_cons (js_ret je_bl) js_nil)))
theorem ok__law_near_cuts {S__law_near S_is_cut S__law_cut S__law_of S__law_rows : DSp} {S : DSp} (D : FnP K "_law_near_cuts" s__law_near_cuts f fd) (m : mg "_law_near_cuts" = some (.ref f)) (F__law_near : Fx P w K mg base k "_law_near" s__law_near ps__law_near S__law_near) (F_is_cut : Fx P w K mg base k "is_cut" s_is_cut ps_is_cut S_is_cut) (F__law_cut : Fx P w K mg base k "_law_cut" s__law_cut ps__law_cut S__law_cut) (F__law_of : Fx P w K mg base k "_law_of" s__law_of ps__law_of S__law_of) (F__law_rows : Fx P w K mg base k "_law_rows" s__law_rows ps__law_rows S__law_rows) (n_range : mg "range" = none) (n_repr : mg "repr" = none) (n_len : mg "len" = none) (len : ∀ ds M Pd X, S ds M Pd X → ds.length = ps__law_near_cuts.length)
    (hp : ∀ ds M Pd X, MemOk M → S ds M Pd X → t__law_near_cuts S__law_near S_is_cut S__law_cut S__law_of S__law_rows (dkOf M.length Pd X) (startD N__law_near_cuts ds) M) : Fx P w K mg base (k + 1) "_law_near_cuts" s__law_near_cuts ps__law_near_cuts S :=
  fx_of D m sc__law_near_cuts _ len (fun _ _ _ _ _ _ _ hr hgu tk => b__law_near_cuts F__law_near F_is_cut F__law_cut F__law_of F__law_rows n_range n_repr n_len hr hgu tk) hp
def t__law_enough : DS := (dSeq (dSet 2 (dSl (dCB gSortI (dCons (dComp (iZip (dCons (dVar 1) (dCons (dVar 0) dNil))) (gT 2 (gsCons (gN 3) (gsCons (gN 4) gsNil))) (dTest (dOp gGt (dVar 4) (dC (.int 0)))) (dVar 3) [3, 4]) dNil)) (dPart (dUn gNeg (dC (.int 2)))) dNoP)) (dSeq (dRet (dIf (dTest (dOp gEq (dCB gLen (dCons (dVar 2) dNil)) (dC (.int 2)))) (dOp gSub' (dCB gSum (dCons (dVar 2) dNil)) (dC (.int 1))) (dC (.int 0)))) dNext))
theorem b__law_enough  {cdv : Value} {A : Around} {outer : List Env} {s : Shared} {H : Hp} {E : XK} {W : WX} (n_len : mg "len" = none) (n_sum : mg "sum" = none) (n_sorted : mg "sorted" = none) (n_zip : mg "zip" = none)
    (hr : Room k (CF P w K mg base N__law_enough "_law_enough" s__law_enough f cdv A outer s H E).A) (hgu : (CF P w K mg base N__law_enough "_law_enough" s__law_enough f cdv A outer s H E).A.guards = some []) (tk : Takes (CF P w K mg base N__law_enough "_law_enough" s__law_enough f cdv A outer s H E) W) : JSs (CF P w K mg base N__law_enough "_law_enough" s__law_enough f cdv A outer s H E) W (defBody s__law_enough) (t__law_enough ) :=
  have nd : (CF P w K mg base N__law_enough "_law_enough" s__law_enough f cdv A outer s H E).N.Nodup := sc__law_enough.nd
  (js_cons (js_set (i := 2) nd rfl (by first | exact .inl rfl | exact .inr rfl) (je_slice (je_sortI rfl n_sorted (ja_cons (je_comp (own := [("weight", 3), ("cap", 4)]) (ws := [3, 4]) rfl nd (by simp) (ji_zip rfl n_zip (ja_cons (jv 1) (ja_cons (jv 0) ja_nil))) (blkOk_by (by first | rfl | decide +kernel)) (fun _ _ _ _ _ => (jg_tup rfl (jgs_cons (jg_name (i := 3) (by simp) nd rfl (by first | exact .inl rfl | exact .inr rfl)) (jgs_cons (jg_name (i := 4) (by simp) nd rfl (by first | exact .inl rfl | exact .inr rfl)) jgs_nil)))) (fun _ _ _ _ _ => (jts_one (jt_gt (jv 4) je_int))) (fun _ _ _ _ _ => (jv 3))) ja_nil)) (jo_some (je_neg je_int)) jo_none)) (js_cons (js_ret (je_if (jt_eq hr (je_len rfl n_len (ja_cons (jv 2) ja_nil)) je_int) (je_sub (je_sum rfl rfl n_sum (ja_cons (jv 2) ja_nil)) je_int) je_int)) js_nil))
theorem ok__law_enough  {S : DSp} (D : FnP K "_law_enough" s__law_enough f fd) (m : mg "_law_enough" = some (.ref f)) (n_len : mg "len" = none) (n_sum : mg "sum" = none) (n_sorted : mg "sorted" = none) (n_zip : mg "zip" = none) (len : ∀ ds M Pd X, S ds M Pd X → ds.length = ps__law_enough.length)
    (hp : ∀ ds M Pd X, MemOk M → S ds M Pd X → t__law_enough  (dkOf M.length Pd X) (startD N__law_enough ds) M) : Fx P w K mg base (k + 1) "_law_enough" s__law_enough ps__law_enough S :=
  fx_of D m sc__law_enough _ len (fun _ _ _ _ _ _ _ hr hgu tk => b__law_enough n_len n_sum n_sorted n_zip hr hgu tk) hp
def t__law_slack (S_slack_cut S__law_cut S_enough_slack S__law_enough : DSp) : DS := (dSeq (dSet 2 (dCall S__law_enough (dCons (dVar 0) (dCons (dVar 1) dNil)))) (dSeq (dIfS (dOr (dTest (dOp gNe (dCB gRepr (dCons (dCall S_enough_slack (dCons (dVar 0) (dCons (dVar 1) dNil))) dNil)) (dCB gRepr (dCons (dVar 2) dNil)))) (dTest (dOp gNe (dCB gRepr (dCons (dCallK S_enough_slack [1, 0] 0 2 dNil (dCons (dCB gTuple (dCons (dVar 1) dNil)) (dCons (dCB gTuple (dCons (dVar 0) dNil)) dNil))) dNil)) (dCB gRepr (dCons (dVar 2) dNil))))) (dSeq (dRet (dC (.bl false))) dNext) dNext) (dSeq (dFor (iSeq (dLst (dCons (dCall S_slack_cut (dCons (dVar 0) (dCons (dVar 1) dNil))) (dCons (dCallK S_slack_cut [1, 0] 0 2 dNil (dCons (dCB gTuple (dCons (dVar 1) dNil)) (dCons (dCB gTuple (dCons (dVar 0) dNil)) dNil))) dNil)))) (gN 3) (dSeq (dIfS (dTest (dOp gEq (dVar 2) (dC (.int 0)))) (dSeq (dIfS (dTest (dOp (gIs true) (dVar 3) (dC .non))) (dSeq (dRet (dC (.bl false))) dNext) dNext) dNext) (dSeq (dIfS (dOr (dNot (dTru (dCB gIsi (dCons (dVar 3) (dCons (dC (.ty "tuple")) dNil))))) (dTest (dOp gNe (dCB gLen (dCons (dVar 3) dNil)) (dC (.int 3))))) (dSeq (dRet (dC (.bl false))) dNext) dNext) (dSeq (dAsg (dVar 3) (gT 3 (gsCons (gN 4) (gsCons (gN 5) (gsCons (gN 6) gsNil))))) (dSeq (dIfS (dOr (dNot (dTru (dCB gIsi (dCons (dVar 4) (dCons (dC (.ty "int")) dNil))))) (dOr (dTru (dCB gIsi (dCons (dVar 4) (dCons (dC (.ty "bool")) dNil)))) (dTest (dOp gLt (dVar 4) (dC (.int 0)))))) (dSeq (dRet (dC (.bl false))) dNext) dNext) (dSeq (dIfS (dNot (dTru (dCall S__law_cut (dCons (dVar 0) (dCons (dVar 1) (dCons (dVar 4) (dCons (dOp gSub' (dOp gAdd (dVar 4) (dVar 2)) (dC (.int 1))) (dCons (dTup (dCons (dVar 5) (dCons (dVar 6) dNil))) dNil)))))))) (dSeq (dRet (dC (.bl false))) dNext) dNext) dNext))))) dNext)) (dSeq (dRet (dC (.bl true))) dNext))))
theorem b__law_slack {S_slack_cut S__law_cut S_enough_slack S__law_enough : DSp} {cdv : Value} {A : Around} {outer : List Env} {s : Shared} {H : Hp} {E : XK} {W : WX} (F_slack_cut : Fx P w K mg base k "slack_cut" s_slack_cut ps_slack_cut S_slack_cut) (F__law_cut : Fx P w K mg base k "_law_cut" s__law_cut ps__law_cut S__law_cut) (F_enough_slack : Fx P w K mg base k "enough_slack" s_enough_slack ps_enough_slack S_enough_slack) (F__law_enough : Fx P w K mg base k "_law_enough" s__law_enough ps__law_enough S__law_enough) (n_tuple : mg "tuple" = none) (n_isinstance : mg "isinstance" = none) (n_bool : mg "bool" = none) (n_int : mg "int" = none) (n_len : mg "len" = none) (n_repr : mg "repr" = none)
    (hr : Room k (CF P w K mg base N__law_slack "_law_slack" s__law_slack f cdv A outer s H E).A) (hgu : (CF P w K mg base N__law_slack "_law_slack" s__law_slack f cdv A outer s H E).A.guards = some []) (tk : Takes (CF P w K mg base N__law_slack "_law_slack" s__law_slack f cdv A outer s H E) W) : JSs (CF P w K mg base N__law_slack "_law_slack" s__law_slack f cdv A outer s H E) W (defBody s__law_slack) (t__law_slack S_slack_cut S__law_cut S_enough_slack S__law_enough) :=
  have nd : (CF P w K mg base N__law_slack "_law_slack" s__law_slack f cdv A outer s H E).N.Nodup := sc__law_slack.nd
  (js_cons (js_set (i := 2) nd rfl (by first | exact .inl rfl | exact .inr rfl) (je_cx F__law_enough hr hgu tk bd__law_enough rfl (ja_cons (jv 0) (ja_cons (jv 1) ja_nil)))) (js_cons (js_if (PW.pt (jw_or (jt_ne hr (je_repr hr hgu rfl n_repr (ja_cons (je_cx F_enough_slack hr hgu tk bd_enough_slack rfl (ja_cons (jv 0) (ja_cons (jv 1) ja_nil))) ja_nil)) (je_repr hr hgu rfl n_repr (ja_cons (jv 2) ja_nil))) (jw_or1 (jt_ne hr (je_repr hr hgu rfl n_repr (ja_cons (je_cxK0 F_enough_slack hr hgu tk bk_enough_slack_3 rfl (jk_cons (je_tupleOf rfl n_tuple (ja_cons (jv 1) ja_nil)) (jk_cons (je_tupleOf rfl n_tuple (ja_cons (jv 0) ja_nil)) jk_nil))) ja_nil)) (je_repr hr hgu rfl n_repr (ja_cons (jv 2) ja_nil)))))) (js_cons (js_ret je_bl) js_nil) js_nil) (js_cons (js_for (ws := [3]) (passes_of rfl) rfl (ji_seq (je_lst (ja_cons (je_cx F_slack_cut hr hgu tk bd_slack_cut rfl (ja_cons (jv 0) (ja_cons (jv 1) ja_nil))) (ja_cons (je_cxK0 F_slack_cut hr hgu tk bk_slack_cut_2 rfl (jk_cons (je_tupleOf rfl n_tuple (ja_cons (jv 1) ja_nil)) (jk_cons (je_tupleOf rfl n_tuple (ja_cons (jv 0) ja_nil)) jk_nil))) ja_nil)))) (jg_name (i := 3) (by simp) nd rfl (by first | exact .inl rfl | exact .inr rfl)) (js_cons (js_if (jt_eq hr (jv 2) je_int) (js_cons (js_if (jt_isNot (jv 3) je_non) (js_cons (js_ret je_bl) js_nil) js_nil) js_nil) (js_cons (js_if (PW.pt (jw_or (jt_not (jt_tru (je_isi rfl n_isinstance (ja_cons (jv 3) (ja_cons (je_bty rfl n_tuple PyProof.Rows.boot_tuple) ja_nil))))) (jw_or1 (jt_ne hr (je_len rfl n_len (ja_cons (jv 3) ja_nil)) je_int)))) (js_cons (js_ret je_bl) js_nil) js_nil) (js_cons (js_asg (ws := [4, 5, 6]) (jv 3) (jg_tup rfl (jgs_cons (jg_name (i := 4) (by simp) nd rfl (by first | exact .inl rfl | exact .inr rfl)) (jgs_cons (jg_name (i := 5) (by simp) nd rfl (by first | exact .inl rfl | exact .inr rfl)) (jgs_cons (jg_name (i := 6) (by simp) nd rfl (by first | exact .inl rfl | exact .inr rfl)) jgs_nil))))) (js_cons (js_if (PW.pt (jw_or (jt_not (jt_tru (je_isi rfl n_isinstance (ja_cons (jv 4) (ja_cons (je_bty rfl n_int PyProof.Rows.boot_int) ja_nil))))) (jw_or (jt_tru (je_isi rfl n_isinstance (ja_cons (jv 4) (ja_cons (je_bty rfl n_bool PyProof.Rows.boot_bool) ja_nil)))) (jw_or1 (jt_lt (jv 4) je_int))))) (js_cons (js_ret je_bl) js_nil) js_nil) (js_cons (js_if (jt_not (jt_tru (je_cx F__law_cut hr hgu tk bd__law_cut rfl (ja_cons (jv 0) (ja_cons (jv 1) (ja_cons (jv 4) (ja_cons (je_sub (je_add (jv 4) (jv 2)) je_int) (ja_cons (je_tup (ja_cons (jv 5) (ja_cons (jv 6) ja_nil))) ja_nil)))))))) (js_cons (js_ret je_bl) js_nil) js_nil) js_nil))))) js_nil)) (js_cons (js_ret je_bl) js_nil))))
theorem ok__law_slack {S_slack_cut S__law_cut S_enough_slack S__law_enough : DSp} {S : DSp} (D : FnP K "_law_slack" s__law_slack f fd) (m : mg "_law_slack" = some (.ref f)) (F_slack_cut : Fx P w K mg base k "slack_cut" s_slack_cut ps_slack_cut S_slack_cut) (F__law_cut : Fx P w K mg base k "_law_cut" s__law_cut ps__law_cut S__law_cut) (F_enough_slack : Fx P w K mg base k "enough_slack" s_enough_slack ps_enough_slack S_enough_slack) (F__law_enough : Fx P w K mg base k "_law_enough" s__law_enough ps__law_enough S__law_enough) (n_tuple : mg "tuple" = none) (n_isinstance : mg "isinstance" = none) (n_bool : mg "bool" = none) (n_int : mg "int" = none) (n_len : mg "len" = none) (n_repr : mg "repr" = none) (len : ∀ ds M Pd X, S ds M Pd X → ds.length = ps__law_slack.length)
    (hp : ∀ ds M Pd X, MemOk M → S ds M Pd X → t__law_slack S_slack_cut S__law_cut S_enough_slack S__law_enough (dkOf M.length Pd X) (startD N__law_slack ds) M) : Fx P w K mg base (k + 1) "_law_slack" s__law_slack ps__law_slack S :=
  fx_of D m sc__law_slack _ len (fun _ _ _ _ _ _ _ hr hgu tk => b__law_slack F_slack_cut F__law_cut F_enough_slack F__law_enough n_tuple n_isinstance n_bool n_int n_len n_repr hr hgu tk) hp
def t_law (S__law_slack S__law_great S__law_of S__law_any S__law_reached S__law_rows S__law_enough S__law_near_cuts S__law_weighed S__law_wide S__law_small S__law_draw : DSp) : DS := (dSeq (dSet 1 (dCall S__law_draw (dCons (dVar 0) (dCons (dC (.int 33)) dNil)))) (dSeq (dIfS (dOr (dNot (dTru (dCall S__law_small (dCons (dVar 1) dNil)))) (dNot (dTru (dCall S__law_wide (dCons (dVar 1) dNil))))) (dSeq (dRet (dC (.bl false))) dNext) dNext) (dSeq (dSet 2 (dComp (iRan1 (dCons (dCall S__law_of (dCons (dVar 1) (dCons (dLst (dCons (dC (.int 1)) (dCons (dC (.int 2)) (dCons (dC (.int 3)) (dCons (dC (.int 3)) (dCons (dC (.int 3)) (dCons (dC (.int 3)) dNil))))))) dNil))) dNil)) (gN 10) dYes (dCall S__law_of (dCons (dVar 1) (dCons (dLst (dCons (dC (.int 0)) (dCons (dC (.int 1)) (dCons (dC (.int 1)) (dCons (dC (.int 2)) (dCons (dC (.int 2)) (dCons (dC (.int 3)) dNil))))))) dNil))) [10])) (dSeq (dSet 3 (dComp (iSeq (dVar 2)) (gN 11) dYes (dOp gAdd (dC (.int 1)) (dCall S__law_any (dCons (dVar 1) (dCons (dC (.int 5)) dNil)))) [11])) (dSeq (dIfS (dNot (dTru (dCall S__law_slack (dCons (dVar 2) (dCons (dVar 3) dNil))))) (dSeq (dRet (dC (.bl false))) dNext) dNext) (dSeq (dSet 4 (dCall S__law_any (dCons (dVar 1) (dCons (dOp gAdd (dCall S__law_weighed (dCons (dVar 3) (dCons (dVar 2) dNil))) (dC (.int 1))) dNil)))) (dSeq (dIfS (dNot (dTru (dCall S__law_near_cuts (dCons (dVar 1) (dCons (dVar 2) (dCons (dVar 3) (dCons (dVar 4) (dCons (dOp gAdd (dVar 4) (dCall S__law_any (dCons (dVar 1) (dCons (dOp gAdd (dCB gSum (dCons (dVar 3) dNil)) (dC (.int 1))) dNil)))) dNil)))))))) (dSeq (dRet (dC (.bl false))) dNext) dNext) (dSeq (dSet 5 (dCall S__law_rows (dCons (dVar 2) (dCons (dVar 3) (dCons (dVar 4) (dCons (dOp gAdd (dVar 4) (dCall S__law_enough (dCons (dVar 2) (dCons (dVar 3) dNil)))) dNil)))))) (dSeq (dIfS (dTest (dOp gNe (dVar 5) (dLst dNil))) (dSeq (dAsg (dTup (dCons (dCall S__law_of (dCons (dVar 1) (dCons (dVar 5) dNil))) (dCons (dCall S__law_of (dCons (dVar 1) (dCons (dVar 5) dNil))) dNil))) (gT 2 (gsCons (gN 6) (gsCons (gN 7) gsNil)))) (dSeq (dSet 8 (dComp (iRan1 (dCons (dCB gLen (dCons (dVar 2) dNil)) dNil)) (gN 10) (dTest (dOp gEq (dOp gIx (dVar 6) (dVar 10)) (dOp gIx (dVar 7) (dVar 10)))) (dVar 10) [10])) (dSeq (dIfS (dTest (dOp (gIn true) (dVar 7) (dCall S__law_reached (dCons (dComp (iSeq (dVar 5)) (gN 12) (dTest (dOp gEq (dComp (iSeq (dVar 8)) (gN 10) (dTest (dOp gNe (dOp gIx (dVar 12) (dVar 10)) (dOp gIx (dVar 6) (dVar 10)))) (dVar 10) [10]) (dLst dNil))) (dVar 12) [12]) (dCons (dVar 6) dNil))))) (dSeq (dRet (dC (.bl false))) dNext) dNext) dNext))) dNext) (dSeq (dSet 9 (dComp (iRan1 (dCons (dOp gAdd (dC (.int 1)) (dCall S__law_any (dCons (dVar 1) (dCons (dC (.int 12)) dNil)))) dNil)) (gN 10) dYes (dCall S__law_of (dCons (dVar 1) (dCons (dLst (dCons (dC (.int 0)) (dCons (dC (.int 1)) (dCons (dCall S__law_great (dCons (dVar 1) (dCons (dOp gPow (dC (.int 10)) (dC (.int 30))) dNil))) dNil)))) dNil))) [10])) (dSeq (dRet (dCall S__law_slack (dCons (dVar 9) (dCons (dComp (iSeq (dVar 9)) (gN 11) dYes (dOp gAdd (dC (.int 1)) (dCall S__law_great (dCons (dVar 1) (dCons (dCall S__law_of (dCons (dVar 1) (dCons (dLst (dCons (dC (.int 3)) (dCons (dOp gPow (dC (.int 10)) (dC (.int 28))) dNil))) dNil))) dNil)))) [11]) dNil)))) dNext)))))))))))
theorem b_law {S__law_slack S__law_great S__law_of S__law_any S__law_reached S__law_rows S__law_enough S__law_near_cuts S__law_weighed S__law_wide S__law_small S__law_draw : DSp} {cdv : Value} {A : Around} {outer : List Env} {s : Shared} {H : Hp} {E : XK} {W : WX} (F__law_slack : Fx P w K mg base k "_law_slack" s__law_slack ps__law_slack S__law_slack) (F__law_great : Fx P w K mg base k "_law_great" s__law_great ps__law_great S__law_great) (F__law_of : Fx P w K mg base k "_law_of" s__law_of ps__law_of S__law_of) (F__law_any : Fx P w K mg base k "_law_any" s__law_any ps__law_any S__law_any) (F__law_reached : Fx P w K mg base k "_law_reached" s__law_reached ps__law_reached S__law_reached) (F__law_rows : Fx P w K mg base k "_law_rows" s__law_rows ps__law_rows S__law_rows) (F__law_enough : Fx P w K mg base k "_law_enough" s__law_enough ps__law_enough S__law_enough) (F__law_near_cuts : Fx P w K mg base k "_law_near_cuts" s__law_near_cuts ps__law_near_cuts S__law_near_cuts) (F__law_weighed : Fx P w K mg base k "_law_weighed" s__law_weighed ps__law_weighed S__law_weighed) (F__law_wide : Fx P w K mg base k "_law_wide" s__law_wide ps__law_wide S__law_wide) (F__law_small : Fx P w K mg base k "_law_small" s__law_small ps__law_small S__law_small) (F__law_draw : Fx P w K mg base k "_law_draw" s__law_draw ps__law_draw S__law_draw) (n_range : mg "range" = none) (n_len : mg "len" = none) (n_sum : mg "sum" = none)
    (hr : Room k (CF P w K mg base N_law "law" s_law f cdv A outer s H E).A) (hgu : (CF P w K mg base N_law "law" s_law f cdv A outer s H E).A.guards = some []) (tk : Takes (CF P w K mg base N_law "law" s_law f cdv A outer s H E) W) : JSs (CF P w K mg base N_law "law" s_law f cdv A outer s H E) W (defBody s_law) (t_law S__law_slack S__law_great S__law_of S__law_any S__law_reached S__law_rows S__law_enough S__law_near_cuts S__law_weighed S__law_wide S__law_small S__law_draw) :=
  have nd : (CF P w K mg base N_law "law" s_law f cdv A outer s H E).N.Nodup := sc_law.nd
  (js_cons (js_set (i := 1) nd rfl (by first | exact .inl rfl | exact .inr rfl) (je_cx F__law_draw hr hgu tk bd__law_draw rfl (ja_cons (jv 0) (ja_cons je_int ja_nil)))) (js_cons (js_if (PW.pt (jw_or (jt_not (jt_tru (je_cx F__law_small hr hgu tk bd__law_small rfl (ja_cons (jv 1) ja_nil)))) (jw_or1 (jt_not (jt_tru (je_cx F__law_wide hr hgu tk bd__law_wide rfl (ja_cons (jv 1) ja_nil))))))) (js_cons (js_ret je_bl) js_nil) js_nil) (js_cons (js_comp (i := 2) (own := [("key", 10)]) (ws := [10]) rfl nd (by simp) (ji_range1 rfl n_range (ja_cons (je_cx F__law_of hr hgu tk bd__law_of rfl (ja_cons (jv 1) (ja_cons (je_lst (ja_cons je_int (ja_cons je_int (ja_cons je_int (ja_cons je_int (ja_cons je_int (ja_cons je_int ja_nil))))))) ja_nil))) ja_nil)) (blkOk_by (by first | rfl | decide +kernel)) (fun _ _ _ _ _ => (jg_name (i := 10) (by simp) nd rfl (by first | exact .inl rfl | exact .inr rfl))) (fun _ _ _ _ _ => jts_nil) (fun _ _ _ _ _ => (je_cx F__law_of hr hgu takes0 bd__law_of rfl (ja_cons (jv 1) (ja_cons (je_lst (ja_cons je_int (ja_cons je_int (ja_cons je_int (ja_cons je_int (ja_cons je_int (ja_cons je_int ja_nil))))))) ja_nil)))) rfl rfl rfl) (js_cons (js_comp (i := 3) (own := [("cap", 11)]) (ws := [11]) rfl nd (by simp) (ji_seq (jv 2)) (blkOk_by (by first | rfl | decide +kernel)) (fun _ _ _ _ _ => (jg_name (i := 11) (by simp) nd rfl (by first | exact .inl rfl | exact .inr rfl))) (fun _ _ _ _ _ => jts_nil) (fun _ _ _ _ _ => (je_add je_int (je_cx F__law_any hr hgu takes0 bd__law_any rfl (ja_cons (jv 1) (ja_cons je_int ja_nil))))) rfl rfl rfl) (js_cons (js_if (jt_not (jt_tru (je_cx F__law_slack hr hgu tk bd__law_slack rfl (ja_cons (jv 2) (ja_cons (jv 3) ja_nil))))) (js_cons (js_ret je_bl) js_nil) js_nil) (js_cons (js_set (i := 4) nd rfl (by first | exact .inl rfl | exact .inr rfl) (je_cx F__law_any hr hgu tk bd__law_any rfl (ja_cons (jv 1) (ja_cons (je_add (je_cx F__law_weighed hr hgu tk bd__law_weighed rfl (ja_cons (jv 3) (ja_cons (jv 2) ja_nil))) je_int) ja_nil)))) (js_cons (js_if (jt_not (jt_tru (je_cx F__law_near_cuts hr hgu tk bd__law_near_cuts rfl (ja_cons (jv 1) (ja_cons (jv 2) (ja_cons (jv 3) (ja_cons (jv 4) (ja_cons (je_add (jv 4) (je_cx F__law_any hr hgu tk bd__law_any rfl (ja_cons (jv 1) (ja_cons (je_add (je_sum rfl rfl n_sum (ja_cons (jv 3) ja_nil)) je_int) ja_nil)))) ja_nil)))))))) (js_cons (js_ret je_bl) js_nil) js_nil) (js_cons (js_set (i := 5) nd rfl (by first | exact .inl rfl | exact .inr rfl) (je_cx F__law_rows hr hgu tk bd__law_rows rfl (ja_cons (jv 2) (ja_cons (jv 3) (ja_cons (jv 4) (ja_cons (je_add (jv 4) (je_cx F__law_enough hr hgu tk bd__law_enough rfl (ja_cons (jv 2) (ja_cons (jv 3) ja_nil)))) ja_nil)))))) (js_cons (js_if (jt_ne hr (jv 5) (je_lst ja_nil)) (js_cons (js_asg (ws := [6, 7]) (je_tup (ja_cons (je_cx F__law_of hr hgu tk bd__law_of rfl (ja_cons (jv 1) (ja_cons (jv 5) ja_nil))) (ja_cons (je_cx F__law_of hr hgu tk bd__law_of rfl (ja_cons (jv 1) (ja_cons (jv 5) ja_nil))) ja_nil))) (jg_tup rfl (jgs_cons (jg_name (i := 6) (by simp) nd rfl (by first | exact .inl rfl | exact .inr rfl)) (jgs_cons (jg_name (i := 7) (by simp) nd rfl (by first | exact .inl rfl | exact .inr rfl)) jgs_nil)))) (js_cons (js_set (i := 8) nd rfl (by first | exact .inl rfl | exact .inr rfl) (je_comp (own := [("key", 10)]) (ws := [10]) rfl nd (by simp) (ji_range1 rfl n_range (ja_cons (je_len rfl n_len (ja_cons (jv 2) ja_nil)) ja_nil)) (blkOk_by (by first | rfl | decide +kernel)) (fun _ _ _ _ _ => (jg_name (i := 10) (by simp) nd rfl (by first | exact .inl rfl | exact .inr rfl))) (fun _ _ _ _ _ => (jts_one (jt_eq hr (je_at (jv 6) (jv 10)) (je_at (jv 7) (jv 10))))) (fun _ _ _ _ _ => (jv 10)))) (js_cons (js_if (jt_notIn hr (jv 7) (je_cx F__law_reached hr hgu tk bd__law_reached rfl (ja_cons (je_comp (own := [("row", 12)]) (ws := [12]) rfl nd (by simp) (ji_seq (jv 5)) (blkOk_by (by first | rfl | decide +kernel)) (fun _ _ _ _ _ => (jg_name (i := 12) (by simp) nd rfl (by first | exact .inl rfl | exact .inr rfl))) (fun _ _ _ _ _ => (jts_one (jt_eq hr (je_comp (own := [("key", 10)]) (ws := [10]) rfl nd (by simp) (ji_seq (jv 8)) (blkOk_by (by first | rfl | decide +kernel)) (fun _ _ _ _ _ => (jg_name (i := 10) (by simp) nd rfl (by first | exact .inl rfl | exact .inr rfl))) (fun _ _ _ _ _ => (jts_one (jt_ne hr (je_at (jv 12) (jv 10)) (je_at (jv 6) (jv 10))))) (fun _ _ _ _ _ => (jv 10))) (je_lst ja_nil)))) (fun _ _ _ _ _ => (jv 12))) (ja_cons (jv 6) ja_nil)))) (js_cons (js_ret je_bl) js_nil) js_nil) js_nil))) js_nil) (js_cons (js_comp (i := 9) (own := [("key", 10)]) (ws := [10]) rfl nd (by simp) (ji_range1 rfl n_range (ja_cons (je_add je_int (je_cx F__law_any hr hgu tk bd__law_any rfl (ja_cons (jv 1) (ja_cons je_int ja_nil)))) ja_nil)) (blkOk_by (by first | rfl | decide +kernel)) (fun _ _ _ _ _ => (jg_name (i := 10) (by simp) nd rfl (by first | exact .inl rfl | exact .inr rfl))) (fun _ _ _ _ _ => jts_nil) (fun _ _ _ _ _ => (je_cx F__law_of hr hgu takes0 bd__law_of rfl (ja_cons (jv 1) (ja_cons (je_lst (ja_cons je_int (ja_cons je_int (ja_cons (je_cx F__law_great hr hgu takes0 bd__law_great rfl (ja_cons (jv 1) (ja_cons (je_pow je_int je_int) ja_nil))) ja_nil)))) ja_nil)))) rfl rfl rfl) (js_cons (js_ret (je_cx F__law_slack hr hgu tk bd__law_slack rfl (ja_cons (jv 9) (ja_cons (je_comp (own := [("cap", 11)]) (ws := [11]) rfl nd (by simp) (ji_seq (jv 9)) (blkOk_by (by first | rfl | decide +kernel)) (fun _ _ _ _ _ => (jg_name (i := 11) (by simp) nd rfl (by first | exact .inl rfl | exact .inr rfl))) (fun _ _ _ _ _ => jts_nil) (fun _ _ _ _ _ => (je_add je_int (je_cx F__law_great hr hgu takes0 bd__law_great rfl (ja_cons (jv 1) (ja_cons (je_cx F__law_of hr hgu takes0 bd__law_of rfl (ja_cons (jv 1) (ja_cons (je_lst (ja_cons je_int (ja_cons (je_pow je_int je_int) ja_nil))) ja_nil))) ja_nil)))))) ja_nil)))) js_nil)))))))))))
theorem ok_law {S__law_slack S__law_great S__law_of S__law_any S__law_reached S__law_rows S__law_enough S__law_near_cuts S__law_weighed S__law_wide S__law_small S__law_draw : DSp} {S : DSp} (D : FnP K "law" s_law f fd) (m : mg "law" = some (.ref f)) (F__law_slack : Fx P w K mg base k "_law_slack" s__law_slack ps__law_slack S__law_slack) (F__law_great : Fx P w K mg base k "_law_great" s__law_great ps__law_great S__law_great) (F__law_of : Fx P w K mg base k "_law_of" s__law_of ps__law_of S__law_of) (F__law_any : Fx P w K mg base k "_law_any" s__law_any ps__law_any S__law_any) (F__law_reached : Fx P w K mg base k "_law_reached" s__law_reached ps__law_reached S__law_reached) (F__law_rows : Fx P w K mg base k "_law_rows" s__law_rows ps__law_rows S__law_rows) (F__law_enough : Fx P w K mg base k "_law_enough" s__law_enough ps__law_enough S__law_enough) (F__law_near_cuts : Fx P w K mg base k "_law_near_cuts" s__law_near_cuts ps__law_near_cuts S__law_near_cuts) (F__law_weighed : Fx P w K mg base k "_law_weighed" s__law_weighed ps__law_weighed S__law_weighed) (F__law_wide : Fx P w K mg base k "_law_wide" s__law_wide ps__law_wide S__law_wide) (F__law_small : Fx P w K mg base k "_law_small" s__law_small ps__law_small S__law_small) (F__law_draw : Fx P w K mg base k "_law_draw" s__law_draw ps__law_draw S__law_draw) (n_range : mg "range" = none) (n_len : mg "len" = none) (n_sum : mg "sum" = none) (len : ∀ ds M Pd X, S ds M Pd X → ds.length = ps_law.length)
    (hp : ∀ ds M Pd X, MemOk M → S ds M Pd X → t_law S__law_slack S__law_great S__law_of S__law_any S__law_reached S__law_rows S__law_enough S__law_near_cuts S__law_weighed S__law_wide S__law_small S__law_draw (dkOf M.length Pd X) (startD N_law ds) M) : Fx P w K mg base (k + 1) "law" s_law ps_law S :=
  fx_of D m sc_law _ len (fun _ _ _ _ _ _ _ hr hgu tk => b_law F__law_slack F__law_great F__law_of F__law_any F__law_reached F__law_rows F__law_enough F__law_near_cuts F__law_weighed F__law_wide F__law_small F__law_draw n_range n_len n_sum hr hgu tk) hp
end
end D.k33
end

section
set_option autoImplicit false
/-! The plain law of k33, part 1: the first multiple within bounds; first rows; cuts of two keys. -/
namespace D.P33
theorem emod_uniq {a b q r : Int} (h : a = b * q + r) (h0 : 0 ≤ r) (h1 : r < b) : a % b = r := by
  subst h
  rw [Int.add_comm, Int.add_mul_emod_self_left]
  exact Int.emod_eq_of_lt h0 h1
theorem emod_split (a b : Int) : a = b * (a / b) + a % b := (Int.mul_ediv_add_emod a b).symm
theorem ceil_spec {s : Int} (hs : 0 < s) (x : Int) : x ≤ s * ((x + s - 1) / s) ∧ s * ((x + s - 1) / s) < x + s := by
  have h := emod_split (x + s - 1) s
  have h0 := Int.emod_nonneg (x + s - 1) (Int.ne_of_gt hs)
  have h1 := Int.emod_lt_of_pos (x + s - 1) hs
  constructor <;> omega
theorem mul_lt_of {s a b : Int} (hs : 0 < s) (h : s * a < s * b) : a < b := Int.lt_of_mul_lt_mul_left h (Int.le_of_lt hs)
theorem ceil_uniq {s x t : Int} (hs : 0 < s) (h1 : x ≤ s * t) (h2 : s * t < x + s) : t = (x + s - 1) / s := by
  obtain ⟨g1, g2⟩ := ceil_spec hs x
  generalize (x + s - 1) / s = u at g1 g2
  have e1 : s * (t - 1) = s * t - s := by rw [Int.mul_sub, Int.mul_one]
  have e2 : s * (u - 1) = s * u - s := by rw [Int.mul_sub, Int.mul_one]
  have a1 : t - 1 < u := mul_lt_of hs (by omega)
  have a2 : u - 1 < t := mul_lt_of hs (by omega)
  omega
def Hit (step m lo hi t : Int) : Prop := lo ≤ (step * t) % m ∧ (step * t) % m ≤ hi
def Least (step m lo hi t : Int) : Prop := 0 ≤ t ∧ Hit step m lo hi t ∧ ∀ s, 0 ≤ s → s < t → ¬ Hit step m lo hi s
def NoHit (step m lo hi : Int) : Prop := ∀ s, 0 ≤ s → ¬ Hit step m lo hi s
theorem hit_zero {m lo hi : Int} (h : 1 ≤ lo) : NoHit 0 m lo hi := fun s _ hh => by
  have := hh.1
  rw [Int.zero_mul, Int.zero_emod] at this
  omega
theorem hit_refl {step m lo hi s : Int} (hm : 0 < m) (h1 : 1 ≤ lo) (h2 : hi < m) : Hit step m lo hi s ↔ Hit (m - step) m (m - hi) (m - lo) s := by
  have e := emod_split (step * s) m
  have h0 := Int.emod_nonneg (step * s) (Int.ne_of_gt hm)
  have h3 := Int.emod_lt_of_pos (step * s) hm
  unfold Hit
  generalize (step * s) % m = r at e h0 h3
  generalize (step * s) / m = q at e
  have e2 : (m - step) * s = m * (s - q) - r := by rw [Int.sub_mul, Int.mul_sub]; omega
  by_cases hr : r = 0
  · have : (m - step) * s % m = 0 := emod_uniq (q := s - q) (by omega) (Int.le_refl _) hm
    rw [this]; omega
  · have : (m - step) * s % m = m - r := emod_uniq (q := s - q - 1) (by rw [e2, Int.mul_sub m (s - q) 1, Int.mul_one]; omega) (by omega) (by omega)
    rw [this]; omega
theorem least_refl {step m lo hi t : Int} (hm : 0 < m) (h1 : 1 ≤ lo) (h2 : hi < m) (h : Least (m - step) m (m - hi) (m - lo) t) : Least step m lo hi t :=
  ⟨h.1, (hit_refl hm h1 h2).mpr h.2.1, fun s h0 hs hh => h.2.2 s h0 hs ((hit_refl hm h1 h2).mp hh)⟩
theorem least_now {step m lo hi : Int} (hs : 0 < step) (h1 : 1 ≤ lo) (h2 : hi < m) (h : (lo + step - 1) / step * step ≤ hi) : Least step m lo hi ((lo + step - 1) / step) := by
  obtain ⟨g1, g2⟩ := ceil_spec hs lo
  rw [Int.mul_comm] at h
  generalize (lo + step - 1) / step = t at g1 g2 h
  have ht : 0 < t := mul_lt_of hs (by omega)
  refine ⟨by omega, ?_, fun s h0 hst hh => ?_⟩
  · unfold Hit
    rw [emod_uniq (q := 0) (r := step * t) (by omega) (by omega) (by omega)]
    omega
  · have e1 : step * (t - 1) = step * t - step := by rw [Int.mul_sub, Int.mul_one]
    have l1 : step * s ≤ step * (t - 1) := Int.mul_le_mul_of_nonneg_left (by omega) (by omega)
    have l0 : 0 ≤ step * s := Int.mul_nonneg (by omega) h0
    unfold Hit at hh
    rw [emod_uniq (q := 0) (r := step * s) (by omega) l0 (by omega)] at hh
    omega
section
variable {step m lo hi : Int} (hs : 0 < step) (hm : step ≤ m) (h1 : 1 ≤ lo) (h12 : lo ≤ hi) (h2 : hi < m) (h : hi < (lo + step - 1) / step * step)
include hs h1 h12 h
theorem sub_bounds : ∃ c, lo % step = lo - step * c ∧ hi % step = hi - step * c ∧ step * c < lo ∧ hi < step * c + step := by
  obtain ⟨g1, g2⟩ := ceil_spec hs lo
  rw [Int.mul_comm] at h
  generalize (lo + step - 1) / step = t at g1 g2 h
  have e1 : step * (t - 1) = step * t - step := by rw [Int.mul_sub, Int.mul_one]
  exact ⟨t - 1, emod_uniq (q := t - 1) (by omega) (by omega) (by omega), emod_uniq (q := t - 1) (by omega) (by omega) (by omega), by omega, by omega⟩
theorem sub_pre : 0 ≤ (0 - m) % step ∧ (0 - m) % step < step ∧ 1 ≤ lo % step ∧ lo % step ≤ hi % step ∧ hi % step < step := by
  obtain ⟨c, e1, e2, a1, a2⟩ := sub_bounds hs h1 h12 h
  have b1 := Int.emod_nonneg (0 - m) (Int.ne_of_gt hs)
  have b2 := Int.emod_lt_of_pos (0 - m) hs
  omega
theorem sub_mod (q : Int) : ((0 - m) % step * q) % step = (-(m * q)) % step := by
  have e := emod_split (0 - m) step
  have : (0 - m) % step * q = -(m * q) + step * (-((0 - m) / step * q)) := by
    have e2 : (0 - m) % step = (0 - m) - step * ((0 - m) / step) := by omega
    rw [e2, Int.sub_mul, Int.sub_mul, Int.zero_mul, Int.mul_assoc, Int.mul_neg]
    omega
  rw [this, Int.add_mul_emod_self_left]
include h2 hm
theorem hit_of_sub {q : Int} (h0 : 0 ≤ q) (hh : Hit ((0 - m) % step) step (lo % step) (hi % step) q) : ∃ v t, step * t = m * q + v ∧ lo ≤ v ∧ v ≤ hi := by
  obtain ⟨c, e1, e2, a1, a2⟩ := sub_bounds hs h1 h12 h
  unfold Hit at hh
  rw [sub_mod hs h1 h12 h q] at hh
  have e := emod_split (-(m * q)) step
  generalize (-(m * q)) % step = r at e hh
  generalize (-(m * q)) / step = u at e
  refine ⟨r + step * c, c - u, ?_, by omega, by omega⟩
  rw [Int.mul_sub]; omega
theorem sub_of_hit {t : Int} (ht : 0 ≤ t) (hh : Hit step m lo hi t) : 0 ≤ step * t / m ∧ Hit ((0 - m) % step) step (lo % step) (hi % step) (step * t / m) := by
  obtain ⟨c, e1, e2, a1, a2⟩ := sub_bounds hs h1 h12 h
  have hm0 : 0 < m := by omega
  refine ⟨Int.ediv_nonneg (Int.mul_nonneg (by omega) ht) (by omega), ?_⟩
  unfold Hit at hh ⊢
  rw [sub_mod hs h1 h12 h]
  have e := emod_split (step * t) m
  generalize (step * t) % m = v at e hh
  generalize step * t / m = q at e
  have : (-(m * q)) % step = v - step * c := emod_uniq (q := c - t) (by rw [Int.mul_sub]; omega) (by omega) (by omega)
  rw [this]; omega
theorem least_sub {q : Int} (hq : Least ((0 - m) % step) step (lo % step) (hi % step) q) : Least step m lo hi ((m * q + lo + step - 1) / step) := by
  obtain ⟨c, e1, e2, a1, a2⟩ := sub_bounds hs h1 h12 h
  have hm0 : 0 < m := by omega
  obtain ⟨v, t, e, v1, v2⟩ := hit_of_sub hs hm h1 h12 h2 h hq.1 hq.2.1
  have et : t = (m * q + lo + step - 1) / step := ceil_uniq hs (by omega) (by omega)
  rw [← et]
  have mq : 0 ≤ m * q := Int.mul_nonneg (by omega) hq.1
  have ht : 0 < t := mul_lt_of hs (by omega)
  refine ⟨by omega, ?_, fun s h0 hst hh => ?_⟩
  · unfold Hit
    rw [emod_uniq (q := q) e (by omega) (by omega)]
    omega
  · obtain ⟨b1, b2⟩ := sub_of_hit hs hm h1 h12 h2 h h0 hh
    have hqs : q ≤ step * s / m := by
      apply Int.not_lt.mp
      intro hlt
      exact hq.2.2 _ b1 hlt b2
    have es := emod_split (step * s) m
    have hv := hh.1
    have l1 : m * q ≤ m * (step * s / m) := Int.mul_le_mul_of_nonneg_left hqs (by omega)
    have e3 : step * (t - 1) = step * t - step := by rw [Int.mul_sub, Int.mul_one]
    have l2 : step * s ≤ step * (t - 1) := Int.mul_le_mul_of_nonneg_left (by omega) (by omega)
    omega
theorem nohit_sub (hn : NoHit ((0 - m) % step) step (lo % step) (hi % step)) : NoHit step m lo hi := fun s h0 hh => by
  obtain ⟨b1, b2⟩ := sub_of_hit hs hm h1 h12 h2 h h0 hh
  exact hn _ b1 b2
end
end D.P33
end

section
set_option autoImplicit false
set_option linter.all false
/-! The plain law of k33, part 2: rows, single changes, ways; enough slack joins; two keys. -/
namespace D.P33
abbrev Rw := List Int
def wsum : List Int → Rw → Int
  | w :: ws, v :: r => w * v + wsum ws r
  | _, _ => 0
def fit : List Int → Rw → Prop
  | c :: cs, v :: r => (0 ≤ v ∧ v ≤ c) ∧ fit cs r
  | [], [] => True
  | _, _ => False
/-- the rows within -/
def InR (cs ws : List Int) (lo hi : Int) (r : Rw) : Prop := fit cs r ∧ lo ≤ wsum ws r ∧ wsum ws r ≤ hi
def at' (r : Rw) (k : Nat) : Int := r.getD k 0
def diffKs (r s : Rw) : List Nat := (List.range r.length).filter fun k => at' r k != at' s k
def Near (r s : Rw) : Prop := (diffKs r s).length = 1
theorem mem_diff {r s : Rw} {k : Nat} : k ∈ diffKs r s ↔ k < r.length ∧ at' r k ≠ at' s k := by simp [diffKs]
theorem diff_nd (r s : Rw) : (diffKs r s).Nodup := List.Pairwise.filter _ List.nodup_range
theorem near_of {r s : Rw} {k : Nat} (h1 : k < r.length) (h2 : at' r k ≠ at' s k) (h3 : ∀ j, j < r.length → j ≠ k → at' r j = at' s j) : Near r s := by
  have hm : ∀ j, j ∈ diffKs r s ↔ j = k := fun j => by
    rw [mem_diff]
    constructor
    · rintro ⟨a, b⟩
      by_cases e : j = k
      · exact e
      · exact absurd (h3 j a e) b
    · rintro rfl; exact ⟨h1, h2⟩
  have hn := diff_nd r s
  unfold Near
  generalize diffKs r s = l at hm hn
  cases l with
  | nil => exact absurd ((hm k).mpr rfl) (by simp)
  | cons a t =>
    have ha : a = k := (hm a).mp List.mem_cons_self
    subst ha
    cases t with
    | nil => rfl
    | cons b t =>
      have hb : b = a := (hm b).mp (by simp)
      subst hb
      simp at hn
theorem near_ex {r s : Rw} (h : Near r s) : ∃ k, k < r.length ∧ at' r k ≠ at' s k ∧ ∀ j, j < r.length → j ≠ k → at' r j = at' s j := by
  unfold Near at h
  obtain ⟨k, hk⟩ : ∃ k, diffKs r s = [k] := List.length_eq_one_iff.mp h
  have hm := mem_diff.mp (show k ∈ diffKs r s by rw [hk]; simp)
  refine ⟨k, hm.1, hm.2, fun j hj hjk => ?_⟩
  apply Classical.byContradiction
  intro hne
  have : j ∈ diffKs r s := mem_diff.mpr ⟨hj, hne⟩
  rw [hk] at this
  simp at this
  exact hjk this
theorem near_symm {r s : Rw} (hl : r.length = s.length) (h : Near r s) : Near s r := by
  obtain ⟨k, h1, h2, h3⟩ := near_ex h
  exact near_of (by omega) (Ne.symm h2) fun j hj hjk => (h3 j (by omega) hjk).symm
theorem fit_len : ∀ {cs : List Int} {r : Rw}, fit cs r → r.length = cs.length
  | [], [], _ => rfl
  | [], _ :: _, h => h.elim
  | _ :: _, [], h => h.elim
  | c :: cs, v :: r, h => by simp [fit_len h.2]
theorem fit_at : ∀ {cs : List Int} {r : Rw} {k : Nat}, fit cs r → k < r.length → 0 ≤ at' r k ∧ at' r k ≤ at' cs k
  | [], [], _, _, h => by simp at h
  | [], _ :: _, _, h, _ => h.elim
  | _ :: _, [], _, h, _ => h.elim
  | c :: cs, v :: r, 0, h, _ => h.1
  | c :: cs, v :: r, k + 1, h, hk => fit_at (cs := cs) (r := r) (k := k) h.2 (by simpa using hk)
theorem fit_set : ∀ {cs : List Int} {r : Rw} {k : Nat} {v : Int}, fit cs r → k < r.length → 0 ≤ v → v ≤ at' cs k → fit cs (r.set k v)
  | [], [], _, _, _, h, _, _ => by simp at h
  | [], _ :: _, _, _, h, _, _, _ => h.elim
  | _ :: _, [], _, _, h, _, _, _ => h.elim
  | c :: cs, x :: r, 0, v, h, _, h0, h1 => ⟨⟨h0, h1⟩, h.2⟩
  | c :: cs, x :: r, k + 1, v, h, hk, h0, h1 => ⟨h.1, fit_set (cs := cs) (r := r) (k := k) h.2 (by simpa using hk) h0 h1⟩
theorem wsum_set : ∀ {ws : List Int} {r : Rw} {k : Nat} {v : Int}, k < r.length → ws.length = r.length → wsum ws (r.set k v) = wsum ws r + at' ws k * (v - at' r k)
  | _, [], _, _, h, _ => by simp at h
  | [], _ :: _, _, _, _, h => by simp at h
  | w :: ws, x :: r, 0, v, _, _ => by
    show w * v + wsum ws r = w * x + wsum ws r + w * (v - x)
    rw [Int.mul_sub]; omega
  | w :: ws, x :: r, k + 1, v, hk, hl => by
    show w * x + wsum ws (r.set k v) = w * x + wsum ws r + at' ws k * (v - at' r k)
    rw [wsum_set (by simpa using hk) (by simpa using hl)]; omega
theorem at_set {r : Rw} {k : Nat} {v : Int} (hk : k < r.length) (j : Nat) : at' (r.set k v) j = if j = k then v else at' r j := by
  unfold at'
  by_cases e : j = k
  · subst e; simp [hk]
  · rw [if_neg e]; simp [List.getD, List.getElem?_set_ne (Ne.symm e)]
theorem row_ext {r s : Rw} (hl : r.length = s.length) (h : ∀ k, k < r.length → at' r k = at' s k) : r = s := by
  apply List.ext_getElem hl
  intro k h1 h2
  have := h k h1
  simpa [at', h1, h2] using this
/-- up only: the sum rises by the weight of a key that rises -/
theorem wsum_up : ∀ {ws : List Int} {r s : Rw} {u : Nat}, ws.length = r.length → r.length = s.length → (∀ k, k < ws.length → 0 ≤ at' ws k) → (∀ k, k < r.length → at' r k ≤ at' s k) → u < r.length → at' r u < at' s u → wsum ws r + at' ws u ≤ wsum ws s
  | [], [], _, _, _, _, _, _, h, _ => by simp at h
  | [], _ :: _, _, _, h, _, _, _, _, _ => by simp at h
  | _ :: _, [], _, _, h, _, _, _, _, _ => by simp at h
  | _ :: _, _ :: _, [], _, _, h, _, _, _, _ => by simp at h
  | w :: ws, x :: r, y :: s, u, h1, h2, hw, hle, hu, hlt => by
    have hw0 : 0 ≤ w := hw 0 (by simp)
    have hxy : x ≤ y := hle 0 (by simp)
    have hmono : ∀ {ws : List Int} {r s : Rw}, ws.length = r.length → r.length = s.length → (∀ k, k < ws.length → 0 ≤ at' ws k) → (∀ k, k < r.length → at' r k ≤ at' s k) → wsum ws r ≤ wsum ws s := by
      intro ws
      induction ws with
      | nil => intro r s a b _ _; cases r with
        | nil => cases s with
          | nil => exact Int.le_refl _
          | cons _ _ => simp at b
        | cons _ _ => simp at a
      | cons w ws ih => intro r s a b c d; cases r with
        | nil => simp at a
        | cons x r => cases s with
          | nil => simp at b
          | cons y s =>
            have e1 : w * x ≤ w * y := Int.mul_le_mul_of_nonneg_left (d 0 (by simp)) (c 0 (by simp))
            have e2 := ih (by simpa using a) (by simpa using b) (fun k hk => c (k + 1) (by simpa using hk)) (fun k hk => d (k + 1) (by simpa using hk))
            show w * x + wsum ws r ≤ w * y + wsum ws s
            omega
    cases u with
    | zero =>
      have e2 := hmono (ws := ws) (r := r) (s := s) (by simpa using h1) (by simpa using h2) (fun k hk => hw (k + 1) (by simpa using hk)) (fun k hk => hle (k + 1) (by simpa using hk))
      have hlt' : x < y := hlt
      have e1 : w * (x + 1) ≤ w * y := Int.mul_le_mul_of_nonneg_left (by omega) hw0
      show w * x + wsum ws r + w ≤ w * y + wsum ws s
      rw [Int.mul_add, Int.mul_one] at e1
      omega
    | succ u =>
      have e1 : w * x ≤ w * y := Int.mul_le_mul_of_nonneg_left hxy hw0
      have e2 := wsum_up (ws := ws) (r := r) (s := s) (u := u) (by simpa using h1) (by simpa using h2) (fun k hk => hw (k + 1) (by simpa using hk)) (fun k hk => hle (k + 1) (by simpa using hk)) (by simpa using hu) hlt
      show w * x + wsum ws r + at' ws u ≤ w * y + wsum ws s
      omega
/-! ### ways -/
inductive Path (R : Rw → Prop) : Rw → Rw → Prop
  | refl (r : Rw) : Path R r r
  | step {r s t : Rw} (h : Path R r s) (ht : R t) (hn : Near s t) : Path R r t
theorem Path.trans {R : Rw → Prop} {r s t : Rw} (h : Path R r s) (k : Path R s t) : Path R r t := by
  induction k with
  | refl => exact h
  | step _ ht hn ih => exact .step ih ht hn
theorem Path.mono {R R' : Rw → Prop} (hR : ∀ r, R r → R' r) {r s : Rw} (h : Path R r s) : Path R' r s := by
  induction h with
  | refl => exact .refl _
  | step _ ht hn ih => exact .step ih (hR _ ht) hn
theorem Path.one {R : Rw → Prop} {r s : Rw} (hs : R s) (h : Near r s) : Path R r s := .step (.refl r) hs h
theorem Path.mem {R : Rw → Prop} {r s : Rw} (h : Path R r s) (hr : R r) : R s := by
  induction h with
  | refl => exact hr
  | step _ ht _ _ => exact ht
theorem Path.symm {R : Rw → Prop} (hl : ∀ r s, R r → R s → r.length = s.length) {r s : Rw} (h : Path R r s) (hr : R r) : Path R s r := by
  induction h with
  | refl => exact .refl _
  | step p ht hn ih =>
    have hs := p.mem hr
    exact (Path.one hs (near_symm (hl _ _ hs ht) hn)).trans ih
/-- every two rows hang together -/
def Conn (R : Rw → Prop) : Prop := ∀ r s, R r → R s → Path R r s
theorem set_near {r : Rw} {k : Nat} {v : Int} (hk : k < r.length) (hv : v ≠ at' r k) : Near r (r.set k v) :=
  near_of hk (by rw [at_set hk, if_pos rfl]; exact Ne.symm hv) fun j _ hj => by rw [at_set hk, if_neg hj]
/-! ### enough slack -/
def l1 : Rw → Rw → Nat
  | x :: r, y :: s => (x - y).natAbs + l1 r s
  | _, _ => 0
theorem l1_set : ∀ {r s : Rw} {k : Nat} {v : Int}, k < r.length → r.length = s.length → l1 (r.set k v) s + (at' r k - at' s k).natAbs = l1 r s + (v - at' s k).natAbs
  | [], _, _, _, h, _ => by simp at h
  | _ :: _, [], _, _, _, h => by simp at h
  | x :: r, y :: s, 0, v, _, _ => by
    show (v - y).natAbs + l1 r s + (x - y).natAbs = (x - y).natAbs + l1 r s + (v - y).natAbs
    omega
  | x :: r, y :: s, k + 1, v, hk, hl => by
    have := l1_set (r := r) (s := s) (k := k) (v := v) (by simpa using hk) (by simpa using hl)
    show (x - y).natAbs + l1 (r.set k v) s + (at' r k - at' s k).natAbs = (x - y).natAbs + l1 r s + (v - at' s k).natAbs
    omega
section
variable {cs ws : List Int} {lo hi : Int} (hw : ws.length = cs.length) (h0 : ∀ k, k < ws.length → 0 ≤ at' ws k)
include hw h0
/-- rows that differ just where slack is: joined by rows between them -/
theorem slack_path {s : Rw} (hs : InR cs ws lo hi s) : ∀ (n : Nat) (r : Rw), l1 r s = n → InR cs ws lo hi r →
    (∀ u d, u < ws.length → d < ws.length → u ≠ d → at' r u ≠ at' s u → at' r d ≠ at' s d → at' ws u + at' ws d - 1 ≤ hi - lo) →
    Path (fun t => InR cs ws lo hi t ∧ ∀ k, k < ws.length → at' r k = at' s k → at' t k = at' s k) r s := by
  intro n
  induction n using Nat.strongRecOn with
  | ind n ih =>
    intro r hn hr hsl
    have lr := fit_len hr.1
    have ls := fit_len hs.1
    -- a step at k to v, nearer to s
    have go : ∀ (k : Nat) (v : Int), k < r.length → at' r k ≠ at' s k → v ≠ at' r k → (v - at' s k).natAbs < (at' r k - at' s k).natAbs → 0 ≤ v → v ≤ at' cs k → lo ≤ wsum ws (r.set k v) → wsum ws (r.set k v) ≤ hi →
        Path (fun t => InR cs ws lo hi t ∧ ∀ k, k < ws.length → at' r k = at' s k → at' t k = at' s k) r s := fun k v hk hne hv hd hv0 hv1 b1 b2 => by
      have hin : InR cs ws lo hi (r.set k v) := ⟨fit_set hr.1 hk hv0 hv1, b1, b2⟩
      have hl := l1_set (r := r) (s := s) (k := k) (v := v) hk (by omega)
      have p := ih (l1 (r.set k v) s) (by omega) (r.set k v) rfl hin fun u d hu hd2 hud e1 e2 => by
        refine hsl u d hu hd2 hud (fun e => e1 ?_) (fun e => e2 ?_)
        · rw [at_set hk]
          split
          · rename_i q; subst q; exact absurd e hne
          · exact e
        · rw [at_set hk]
          split
          · rename_i q; subst q; exact absurd e hne
          · exact e
      have agree : ∀ t, (InR cs ws lo hi t ∧ ∀ j, j < ws.length → at' (r.set k v) j = at' s j → at' t j = at' s j) → InR cs ws lo hi t ∧ ∀ j, j < ws.length → at' r j = at' s j → at' t j = at' s j := fun t ht => ⟨ht.1, fun j hj e => ht.2 j hj (by
        rw [at_set hk]
        split
        · rename_i q; subst q; exact absurd e hne
        · exact e)⟩
      refine Path.trans (Path.one ⟨hin, fun j hj e => ?_⟩ (set_near hk hv)) (p.mono agree)
      rw [at_set hk]
      split
      · rename_i q; subst q; exact absurd e hne
      · exact e
    by_cases up : ∃ u, u < r.length ∧ at' r u < at' s u
    · obtain ⟨u, hu, hlt⟩ := up
      have wu := wsum_set (ws := ws) (r := r) (k := u) (v := at' r u + 1) hu (by omega)
      rw [show at' r u + 1 - at' r u = 1 by omega, Int.mul_one] at wu
      have wu0 := h0 u (by omega)
      have fs := fit_at hs.1 (k := u) (by omega)
      have fr := fit_at hr.1 (k := u) hu
      by_cases b : wsum ws r + at' ws u ≤ hi
      · exact go u (at' r u + 1) hu (by omega) (by omega) (by omega) (by omega) (by omega) (by have := hr.2.1; omega) (by omega)
      · by_cases dn : ∃ d, d < r.length ∧ at' s d < at' r d
        · obtain ⟨d, hd, hgt⟩ := dn
          have wd := wsum_set (ws := ws) (r := r) (k := d) (v := at' r d - 1) hd (by omega)
          rw [show at' r d - 1 - at' r d = -1 by omega, Int.mul_neg, Int.mul_one] at wd
          have wd0 := h0 d (by omega)
          have fs' := fit_at hs.1 (k := d) (by omega)
          have fr' := fit_at hr.1 (k := d) hd
          have sl := hsl u d (by omega) (by omega) (fun e => by subst e; omega) (by omega) (by omega)
          have := hr.2.2
          exact go d (at' r d - 1) hd (by omega) (by omega) (by omega) (by omega) (by omega) (by omega) (by omega)
        · have hle : ∀ k, k < r.length → at' r k ≤ at' s k := fun k hk => Int.not_lt.mp fun z => dn ⟨k, hk, z⟩
          have := wsum_up (ws := ws) (r := r) (s := s) (by omega) (by omega) h0 hle hu hlt
          have := hs.2.2
          omega
    · by_cases dn : ∃ d, d < r.length ∧ at' s d < at' r d
      · obtain ⟨d, hd, hgt⟩ := dn
        have wd := wsum_set (ws := ws) (r := r) (k := d) (v := at' r d - 1) hd (by omega)
        rw [show at' r d - 1 - at' r d = -1 by omega, Int.mul_neg, Int.mul_one] at wd
        have wd0 := h0 d (by omega)
        have fs' := fit_at hs.1 (k := d) (by omega)
        have fr' := fit_at hr.1 (k := d) hd
        have hle : ∀ k, k < s.length → at' s k ≤ at' r k := fun k hk => Int.not_lt.mp fun z => up ⟨k, by omega, z⟩
        have l := wsum_up (ws := ws) (r := s) (s := r) (by omega) (by omega) h0 hle (u := d) (by omega) hgt
        have := hs.2.1
        have := hr.2.2
        exact go d (at' r d - 1) hd (by omega) (by omega) (by omega) (by omega) (by omega) (by omega) (by omega)
      · have : r = s := row_ext (by omega) fun k hk => by
          have a : ¬ at' r k < at' s k := fun z => up ⟨k, hk, z⟩
          have b : ¬ at' s k < at' r k := fun z => dn ⟨k, hk, z⟩
          omega
        subst this
        exact .refl _
theorem slack_conn (hsl : ∀ u d, u < ws.length → d < ws.length → u ≠ d → at' ws u + at' ws d - 1 ≤ hi - lo) : Conn (InR cs ws lo hi) := fun r s hr hs =>
  (slack_path hw h0 hs _ r rfl hr fun u d hu hd hud _ _ => hsl u d hu hd hud).mono fun _ h => h.1
end
end D.P33
end

section
set_option autoImplicit false
set_option linter.all false
/-! The plain law of k33, part 3: first rows and cuts of two keys. -/
namespace D.P33
section
variable {a b c0 c1 lo hi : Int}
/-- the rows of two keys -/
def In2 (a b c0 c1 lo hi x y : Int) : Prop := (0 ≤ x ∧ x ≤ c0) ∧ (0 ≤ y ∧ y ≤ c1) ∧ lo ≤ a * x + b * y ∧ a * x + b * y ≤ hi
theorem in2 {x y : Int} : InR [c0, c1] [a, b] lo hi [x, y] ↔ In2 a b c0 c1 lo hi x y := by
  show (((0 ≤ x ∧ x ≤ c0) ∧ (0 ≤ y ∧ y ≤ c1) ∧ True) ∧ lo ≤ a * x + (b * y + 0) ∧ a * x + (b * y + 0) ≤ hi) ↔ _
  unfold In2
  simp only [Int.add_zero, and_true, and_assoc]
theorem in2_ex {r : Rw} (h : InR [c0, c1] [a, b] lo hi r) : ∃ x y, r = [x, y] := by
  have := fit_len h.1
  match r, this with
  | [x, y], _ => exact ⟨x, y, rfl⟩
/-- the first row from the second key's value st on -/
def IsFirst (a b c0 c1 lo hi st x y : Int) : Prop := In2 a b c0 c1 lo hi x y ∧ st ≤ y ∧ ∀ x' y', In2 a b c0 c1 lo hi x' y' → st ≤ y' → y ≤ y'
def NoFirst (a b c0 c1 lo hi st : Int) : Prop := ∀ x' y', In2 a b c0 c1 lo hi x' y' → ¬ st ≤ y'
variable (ha : 0 < a) (hb : 0 < b)
include ha hb
theorem beg_le {st x y : Int} (h : In2 a b c0 c1 lo hi x y) (hs : st ≤ y) : max st ((lo - c0 * a + b - 1) / b) ≤ y := by
  obtain ⟨⟨x0, x1⟩, _, l, _⟩ := h
  have e1 : a * x ≤ a * c0 := Int.mul_le_mul_of_nonneg_left x1 (by omega)
  rw [Int.mul_comm c0 a]
  obtain ⟨g1, g2⟩ := ceil_spec hb (lo - a * c0)
  generalize (lo - a * c0 + b - 1) / b = q at g1 g2
  have e2 : b * (q - 1) = b * q - b := by rw [Int.mul_sub, Int.mul_one]
  have : q - 1 < y := mul_lt_of hb (by omega)
  omega
theorem le_end {x y : Int} (h : In2 a b c0 c1 lo hi x y) : y ≤ min c1 (hi / b) := by
  obtain ⟨⟨x0, _⟩, ⟨_, y1⟩, _, u⟩ := h
  have e1 : 0 ≤ a * x := Int.mul_nonneg (by omega) x0
  have : y ≤ hi / b := (Int.le_ediv_iff_mul_le hb).mpr (by rw [Int.mul_comm]; omega)
  omega
/-- at a value of the second key: whether a row is there -/
theorem row_at {st y : Int} (c00 : 0 ≤ c0) (hst : 0 ≤ st) (h1 : max st ((lo - c0 * a + b - 1) / b) ≤ y) (h2 : y ≤ min c1 (hi / b)) (hm : (b * y - lo) % a ≤ hi - lo) : In2 a b c0 c1 lo hi (max 0 ((lo - b * y + a - 1) / a)) y := by
  have hy : b * y ≤ hi := by
    have : y ≤ hi / b := by omega
    have := (Int.le_ediv_iff_mul_le hb).mp this
    rw [Int.mul_comm] at this; exact this
  obtain ⟨g1, g2⟩ := ceil_spec hb (lo - c0 * a)
  have e0 := emod_split (b * y - lo) a
  have m0 := Int.emod_nonneg (b * y - lo) (Int.ne_of_gt ha)
  have m1 := Int.emod_lt_of_pos (b * y - lo) ha
  obtain ⟨k1, k2⟩ := ceil_spec ha (lo - b * y)
  have hq : b * ((lo - c0 * a + b - 1) / b) ≤ b * y := Int.mul_le_mul_of_nonneg_left (by omega) (by omega)
  generalize (lo - c0 * a + b - 1) / b = q at *
  generalize (b * y - lo) % a = r at *
  generalize (b * y - lo) / a = z at *
  have ez : (lo - b * y + a - 1) / a = -z := by
    refine (ceil_uniq (t := -z) ha ?_ ?_).symm
    · rw [Int.mul_neg]; omega
    · rw [Int.mul_neg]; omega
  rw [ez] at k1 k2 ⊢
  rw [Int.mul_comm c0 a] at *
  by_cases hz : 0 ≤ -z
  · rw [show max 0 (-z) = -z by omega]
    refine ⟨⟨hz, ?_⟩, ⟨by omega, by omega⟩, by omega, ?_⟩
    · have e2 : a * (-z - 1) = a * (-z) - a := by rw [Int.mul_sub, Int.mul_one]
      have : -z - 1 < c0 := mul_lt_of ha (by omega)
      omega
    · rw [Int.mul_neg]; omega
  · rw [show max 0 (-z) = 0 by omega, ]
    refine ⟨⟨Int.le_refl _, c00⟩, ⟨by omega, by omega⟩, ?_, ?_⟩
    · rw [Int.mul_zero]
      have : 0 ≤ a * z := Int.mul_nonneg (by omega) (by omega)
      omega
    · rw [Int.mul_zero]; omega
theorem mod_of {x y : Int} (h : In2 a b c0 c1 lo hi x y) : (b * y - lo) % a ≤ hi - lo := by
  obtain ⟨_, _, l, u⟩ := h
  have e0 := emod_split (b * y - lo) a
  have m0 := Int.emod_nonneg (b * y - lo) (Int.ne_of_gt ha)
  have m1 := Int.emod_lt_of_pos (b * y - lo) ha
  generalize (b * y - lo) % a = r at *
  generalize (b * y - lo) / a = z at *
  -- a (x + z) + r within 0 .. hi - lo
  have : 0 ≤ x + z := by
    have e1 : a * (x + z) = a * x + a * z := Int.mul_add ..
    have : -1 < x + z := mul_lt_of ha (by rw [Int.mul_neg, Int.mul_one]; omega)
    omega
  have e2 : 0 ≤ a * (x + z) := Int.mul_nonneg (by omega) this
  rw [Int.mul_add] at e2
  omega
omit hb in
/-- whether a row is s values further on: as a hit -/
theorem turn_hit {bg s : Int} (h0 : 0 ≤ hi - lo) (hr : hi - lo < (b * bg - lo) % a) : (b * (bg + s) - lo) % a ≤ hi - lo ↔ Hit (b % a) a (a - (b * bg - lo) % a) (a - (b * bg - lo) % a + (hi - lo)) s := by
  have e0 := emod_split (b * bg - lo) a
  have m0 := Int.emod_nonneg (b * bg - lo) (Int.ne_of_gt ha)
  have m1 := Int.emod_lt_of_pos (b * bg - lo) ha
  have e1 := emod_split (b % a * s) a
  have v0 := Int.emod_nonneg (b % a * s) (Int.ne_of_gt ha)
  have v1 := Int.emod_lt_of_pos (b % a * s) ha
  have e2 := emod_split b a
  unfold Hit
  have e3 : b * (bg + s) - lo = (b * bg - lo) + b % a * s + a * (b / a * s) := by
    have : b * s = b % a * s + a * (b / a * s) := by
      have : b * s = (a * (b / a) + b % a) * s := by rw [← e2]
      rw [this, Int.add_mul, Int.mul_assoc]; omega
    rw [Int.mul_add, this]; omega
  generalize (b * bg - lo) % a = r at *
  generalize (b * bg - lo) / a = z at *
  generalize b % a * s = w at *
  generalize w % a = v at *
  generalize w / a = y at *
  generalize b / a * s = n at *
  by_cases hc : r + v < a
  · have : (b * (bg + s) - lo) % a = r + v := emod_uniq (q := z + y + n) (by rw [e3, Int.mul_add, Int.mul_add]; omega) (by omega) hc
    rw [this]; omega
  · have : (b * (bg + s) - lo) % a = r + v - a := emod_uniq (q := z + y + n + 1) (by rw [e3, Int.mul_add, Int.mul_add, Int.mul_add, Int.mul_one]; omega) (by omega) (by omega)
    rw [this]; omega
/-- how many values on the first row is -/
def Turns (a b lo hi bg t : Int) : Prop := 0 ≤ t ∧ (b * (bg + t) - lo) % a ≤ hi - lo ∧ ∀ s, 0 ≤ s → s < t → ¬ (b * (bg + s) - lo) % a ≤ hi - lo
theorem first_of {st t : Int} (c00 : 0 ≤ c0) (hst : 0 ≤ st) (ht : Turns a b lo hi (max st ((lo - c0 * a + b - 1) / b)) t) (hm : max st ((lo - c0 * a + b - 1) / b) + t ≤ min c1 (hi / b)) :
    IsFirst a b c0 c1 lo hi st (max 0 ((lo - b * (max st ((lo - c0 * a + b - 1) / b) + t) + a - 1) / a)) (max st ((lo - c0 * a + b - 1) / b) + t) := by
  obtain ⟨t0, t1, t2⟩ := ht
  refine ⟨row_at ha hb c00 hst (by omega) hm t1, by omega, fun x' y' h hy => ?_⟩
  have l := beg_le ha hb h hy
  have m := mod_of ha hb h
  apply Int.not_lt.mp
  intro hlt
  refine t2 (y' - max st ((lo - c0 * a + b - 1) / b)) (by omega) (by omega) ?_
  rw [show max st ((lo - c0 * a + b - 1) / b) + (y' - max st ((lo - c0 * a + b - 1) / b)) = y' by omega]
  exact m
theorem nofirst_far {st t : Int} (ht : Turns a b lo hi (max st ((lo - c0 * a + b - 1) / b)) t) (hm : min c1 (hi / b) < max st ((lo - c0 * a + b - 1) / b) + t) : NoFirst a b c0 c1 lo hi st := fun x' y' h hy => by
  have l := beg_le ha hb h hy
  have m := mod_of ha hb h
  have e := le_end ha hb h
  refine ht.2.2 (y' - max st ((lo - c0 * a + b - 1) / b)) (by omega) (by omega) ?_
  rw [show max st ((lo - c0 * a + b - 1) / b) + (y' - max st ((lo - c0 * a + b - 1) / b)) = y' by omega]
  exact m
theorem nofirst_begin {st : Int} (hm : min c1 (hi / b) < max st ((lo - c0 * a + b - 1) / b)) : NoFirst a b c0 c1 lo hi st := fun x' y' h hy => by
  have l := beg_le ha hb h hy
  have e := le_end ha hb h
  omega
omit ha hb in
theorem nofirst_empty {st : Int} (hm : hi < lo) : NoFirst a b c0 c1 lo hi st := fun x' y' h _ => by
  obtain ⟨_, _, l, u⟩ := h
  omega
theorem nofirst_never {st : Int} (ht : ∀ s, 0 ≤ s → ¬ (b * (max st ((lo - c0 * a + b - 1) / b) + s) - lo) % a ≤ hi - lo) : NoFirst a b c0 c1 lo hi st := fun x' y' h hy => by
  have l := beg_le ha hb h hy
  have m := mod_of ha hb h
  refine ht (y' - max st ((lo - c0 * a + b - 1) / b)) (by omega) ?_
  rw [show max st ((lo - c0 * a + b - 1) / b) + (y' - max st ((lo - c0 * a + b - 1) / b)) = y' by omega]
  exact m
omit ha hb in
theorem turns_zero {bg : Int} (h : (b * bg - lo) % a ≤ hi - lo) : Turns a b lo hi bg 0 := ⟨Int.le_refl _, by rw [Int.add_zero]; exact h, fun s h0 h1 => by omega⟩
omit hb in
theorem turns_hit {bg t : Int} (h0 : 0 ≤ hi - lo) (hr : hi - lo < (b * bg - lo) % a) (h : Least (b % a) a (a - (b * bg - lo) % a) (a - (b * bg - lo) % a + (hi - lo)) t) : Turns a b lo hi bg t :=
  ⟨h.1, (turn_hit ha h0 hr).mpr h.2.1, fun s h1 h2 h3 => h.2.2 s h1 h2 ((turn_hit ha h0 hr).mp h3)⟩
end
/-! ### cuts -/
section
variable {a b c0 c1 lo hi : Int}
theorem near_x {x x' y : Int} (h : x ≠ x') : Near [x, y] [x', y] := near_of (k := 0) (by simp) h fun j hj hj0 => by
  have : j = 1 := by simp at hj; omega
  subst this; rfl
theorem near_y {x y y' : Int} (h : y ≠ y') : Near [x, y] [x, y'] := near_of (k := 1) (by simp) h fun j hj hj0 => by
  have : j = 0 := by simp at hj; omega
  subst this; rfl
theorem near2 {x y x' y' : Int} (h : Near [x, y] [x', y']) : x = x' ∨ y = y' := by
  obtain ⟨k, hk, _, h3⟩ := near_ex h
  have : k = 0 ∨ k = 1 := by simp at hk; omega
  rcases this with rfl | rfl
  · exact .inr (h3 1 (by simp) (by omega))
  · exact .inl (h3 0 (by simp) (by omega))
/-- no way leaves what is closed under single changes -/
theorem path_in {R C : Rw → Prop} (hc : ∀ r s, R r → C r → R s → Near r s → C s) {r s : Rw} (h : Path R r s) (hr : R r) (h0 : C r) : C s := by
  induction h with
  | refl => exact h0
  | step p ht hn ih => exact hc _ _ (p.mem hr) ih ht hn
/-- stuck at [x, y]: no more of the first key, no less of the second -/
theorem cut_a {x y x' y' : Int} (ha : 0 ≤ a) (hb : 0 ≤ b) (h : InR [c0, c1] [a, b] lo hi [x, y]) (h' : InR [c0, c1] [a, b] lo hi [x', y']) (up : hi < a * x + b * y + a) (dn : a * x + b * y - b < lo) (hx : x < x') : ¬ Conn (InR [c0, c1] [a, b] lo hi) := fun co => by
  have := path_in (C := fun r => at' r 0 ≤ x ∧ y ≤ at' r 1) (fun r s hr hcr hs hn => by
    obtain ⟨p, q, rfl⟩ := in2_ex hr
    obtain ⟨p', q', rfl⟩ := in2_ex hs
    obtain ⟨_, _, l1, u1⟩ := in2.mp hr
    obtain ⟨_, _, l2, u2⟩ := in2.mp hs
    obtain ⟨k1, k2⟩ : p ≤ x ∧ y ≤ q := hcr
    show p' ≤ x ∧ y ≤ q'
    rcases near2 hn with e | e
    · subst e
      refine ⟨k1, Int.not_lt.mp fun z => ?_⟩
      have e1 : b * q' ≤ b * (y - 1) := Int.mul_le_mul_of_nonneg_left (by omega) hb
      have e2 : a * p ≤ a * x := Int.mul_le_mul_of_nonneg_left k1 ha
      rw [Int.mul_sub, Int.mul_one] at e1
      omega
    · subst e
      refine ⟨Int.not_lt.mp fun z => ?_, k2⟩
      have e1 : a * (x + 1) ≤ a * p' := Int.mul_le_mul_of_nonneg_left (by omega) ha
      have e2 : b * y ≤ b * q := Int.mul_le_mul_of_nonneg_left k2 hb
      rw [Int.mul_add, Int.mul_one] at e1
      omega) (co _ _ h h') h ⟨Int.le_refl _, Int.le_refl _⟩
  have z : x' ≤ x := this.1
  omega
/-- .. no more of the second, no less of the first -/
theorem cut_b {x y x' y' : Int} (ha : 0 ≤ a) (hb : 0 ≤ b) (h : InR [c0, c1] [a, b] lo hi [x, y]) (h' : InR [c0, c1] [a, b] lo hi [x', y']) (up : hi < a * x + b * y + b) (dn : a * x + b * y - a < lo) (hy : y < y') : ¬ Conn (InR [c0, c1] [a, b] lo hi) := fun co => by
  have := path_in (C := fun r => x ≤ at' r 0 ∧ at' r 1 ≤ y) (fun r s hr hcr hs hn => by
    obtain ⟨p, q, rfl⟩ := in2_ex hr
    obtain ⟨p', q', rfl⟩ := in2_ex hs
    obtain ⟨_, _, l1, u1⟩ := in2.mp hr
    obtain ⟨_, _, l2, u2⟩ := in2.mp hs
    obtain ⟨k1, k2⟩ : x ≤ p ∧ q ≤ y := hcr
    show x ≤ p' ∧ q' ≤ y
    rcases near2 hn with e | e
    · subst e
      refine ⟨k1, Int.not_lt.mp fun z => ?_⟩
      have e1 : b * (y + 1) ≤ b * q' := Int.mul_le_mul_of_nonneg_left (by omega) hb
      have e2 : a * x ≤ a * p := Int.mul_le_mul_of_nonneg_left k1 ha
      rw [Int.mul_add, Int.mul_one] at e1
      omega
    · subst e
      refine ⟨Int.not_lt.mp fun z => ?_, k2⟩
      have e1 : a * p' ≤ a * (x - 1) := Int.mul_le_mul_of_nonneg_left (by omega) ha
      have e2 : b * q ≤ b * y := Int.mul_le_mul_of_nonneg_left k2 hb
      rw [Int.mul_sub, Int.mul_one] at e1
      omega) (co _ _ h h') h ⟨Int.le_refl _, Int.le_refl _⟩
  have z : y' ≤ y := this.2
  omega
theorem conn_none (h : NoFirst a b c0 c1 lo hi 0) : Conn (InR [c0, c1] [a, b] lo hi) := fun r s hr _ => by
  obtain ⟨x, y, rfl⟩ := in2_ex hr
  have := in2.mp hr
  exact absurd this.2.1.1 (h x y this)
/-- nothing is stuck: all hang together -/
theorem conn_free {xo yo : Int} (ha : 0 < a) (hb : 0 < b) (ho : IsFirst a b c0 c1 lo hi 0 xo yo) (hn : NoFirst a b c0 c1 (max lo (hi - a + 1)) (min hi (lo + b - 1)) (yo + 1)) : Conn (InR [c0, c1] [a, b] lo hi) := by
  have hol := in2.mpr ho.1
  have key : ∀ (n : Nat) (x y : Int), ((c0 - x) + (y - yo)).toNat = n → In2 a b c0 c1 lo hi x y → Path (InR [c0, c1] [a, b] lo hi) [x, y] [xo, yo] := by
    intro n
    induction n using Nat.strongRecOn with
    | ind n ih =>
      intro x y hn' h
      have hy := ho.2.2 x y h h.2.1.1
      obtain ⟨⟨x0, x1⟩, ⟨y0, y1⟩, l, u⟩ := h
      obtain ⟨⟨ox0, ox1⟩, ⟨oy0, oy1⟩, ol, ou⟩ := ho.1
      have stepx : In2 a b c0 c1 lo hi (x + 1) y → Path (InR [c0, c1] [a, b] lo hi) [x, y] [xo, yo] := fun h' =>
        (Path.one (in2.mpr h') (near_x (by omega))).trans (ih _ (by have := h'.1.2; omega) (x + 1) y rfl h')
      have stepy : In2 a b c0 c1 lo hi x (y - 1) → yo < y → Path (InR [c0, c1] [a, b] lo hi) [x, y] [xo, yo] := fun h' hlt =>
        (Path.one (in2.mpr h') (near_y (by omega))).trans (ih _ (by omega) x (y - 1) rfl h')
      have ex : a * (x + 1) = a * x + a := by rw [Int.mul_add, Int.mul_one]
      have ey : b * (y - 1) = b * y - b := by rw [Int.mul_sub, Int.mul_one]
      by_cases he : y = yo
      · subst he
        by_cases hx : x = xo
        · subst hx; exact .refl _
        · exact Path.one hol (near_x hx)
      · have hlt : yo < y := by omega
        by_cases b1 : a * x + b * y + a ≤ hi
        · by_cases b2 : x < c0
          · exact stepx ⟨by omega, by omega, by omega, by omega⟩
          · have hx : x = c0 := by omega
            subst hx
            have e1 : a * xo ≤ a * x := Int.mul_le_mul_of_nonneg_left ox1 (by omega)
            have e2 : b * yo ≤ b * (y - 1) := Int.mul_le_mul_of_nonneg_left (by omega) (by omega)
            exact stepy ⟨by omega, by omega, by omega, by omega⟩ hlt
        · by_cases b2 : lo ≤ a * x + b * y - b
          · exact stepy ⟨by omega, by omega, by omega, by omega⟩ hlt
          · exact absurd (show yo + 1 ≤ y by omega) (hn x y ⟨by omega, by omega, by omega, by omega⟩)
  intro r s hr hs
  obtain ⟨x, y, rfl⟩ := in2_ex hr
  obtain ⟨x', y', rfl⟩ := in2_ex hs
  exact (key _ x y rfl (in2.mp hr)).trans ((key _ x' y' rfl (in2.mp hs)).symm (fun r s h1 h2 => by rw [fit_len h1.1, fit_len h2.1]) hs)
/-- a told cut is one -/
theorem cut_told {xo yo x y : Int} (ha : 0 < a) (hb : 0 < b) (ho : IsFirst a b c0 c1 lo hi 0 xo yo) (h : IsFirst a b c0 c1 (max lo (hi - a + 1)) (min hi (lo + b - 1)) (yo + 1) x y) :
    In2 a b c0 c1 lo hi x y ∧ x < xo ∧ yo < y ∧ hi < a * x + b * y + a ∧ a * x + b * y - b < lo := by
  obtain ⟨⟨hx, hy, l, u⟩, h1, _⟩ := h
  obtain ⟨_, _, ol, ou⟩ := ho.1
  refine ⟨⟨hx, hy, by omega, by omega⟩, ?_, by omega, by omega, by omega⟩
  apply Int.not_le.mp
  intro hle
  have e1 : a * xo ≤ a * x := Int.mul_le_mul_of_nonneg_left hle (by omega)
  have e2 : b * yo ≤ b * (y - 1) := Int.mul_le_mul_of_nonneg_left (by omega) (by omega)
  rw [Int.mul_sub, Int.mul_one] at e2
  omega
end
end D.P33
end

section
set_option autoImplicit false
set_option linter.all false
/-! The plain law of k33, part 4: rows found one ring after another; all rows; the two heaviest. -/
namespace D.P33
/-! ### rings -/
structure Bfs (rs : List Rw) (o : Rw) (found fresh left : List Rw) : Prop where
  cnt : found.length + left.length = 1 + (rs.filter fun r => decide (r ≠ o)).length
  cov : ∀ r ∈ rs, r ∈ found ∨ r ∈ left
  sub : ∀ r ∈ left, r ∈ rs ∧ r ∉ found
  fr : ∀ r ∈ fresh, r ∈ found
  clo : ∀ r ∈ left, ∀ f ∈ found, f ∉ fresh → ¬ Near r f
  way : ∀ r ∈ found, Path (fun t => t ∈ rs) o r
  og : o ∈ found
  frs : ∀ r ∈ found, r = o ∨ r ∈ rs
instance (r s : Rw) : Decidable (Near r s) := by unfold Near; infer_instance
def nextF (fresh left : List Rw) : List Rw := left.filter fun r => !(fresh.filter fun f => decide (Near r f)).isEmpty
def nextL (fresh left : List Rw) : List Rw := left.filter fun r => !decide (r ∈ nextF fresh left)
theorem mem_nextF {fresh left : List Rw} {r : Rw} : r ∈ nextF fresh left ↔ r ∈ left ∧ ∃ f ∈ fresh, Near r f := by
  unfold nextF
  rw [List.mem_filter]
  constructor
  · rintro ⟨h1, h2⟩
    refine ⟨h1, ?_⟩
    cases e : fresh.filter fun f => decide (Near r f) with
    | nil => rw [e] at h2; cases h2
    | cons f t =>
      have : f ∈ fresh.filter fun f => decide (Near r f) := by rw [e]; exact List.mem_cons_self
      rw [List.mem_filter] at this
      exact ⟨f, this.1, of_decide_eq_true this.2⟩
  · rintro ⟨h1, f, hf, hn⟩
    refine ⟨h1, ?_⟩
    have : f ∈ fresh.filter fun f => decide (Near r f) := List.mem_filter.mpr ⟨hf, decide_eq_true hn⟩
    cases e : fresh.filter fun f => decide (Near r f) with
    | nil => rw [e] at this; cases this
    | cons _ _ => rfl
theorem mem_nextL {fresh left : List Rw} {r : Rw} : r ∈ nextL fresh left ↔ r ∈ left ∧ ¬ ∃ f ∈ fresh, Near r f := by
  unfold nextL
  rw [List.mem_filter]
  constructor
  · rintro ⟨h1, h2⟩
    refine ⟨h1, fun h => ?_⟩
    have : r ∈ nextF fresh left := mem_nextF.mpr ⟨h1, h⟩
    rw [decide_eq_true this] at h2
    cases h2
  · rintro ⟨h1, h2⟩
    exact ⟨h1, by rw [decide_eq_false fun h => h2 (mem_nextF.mp h).2]; rfl⟩
theorem len_part (p : Rw → Bool) : ∀ l : List Rw, (l.filter p).length + (l.filter fun r => !p r).length = l.length
  | [] => rfl
  | x :: t => by
    have ih := len_part p t
    cases h : p x with
    | true =>
      have e1 : (x :: t).filter p = x :: t.filter p := List.filter_cons_of_pos h
      have e2 : ((x :: t).filter fun r => !p r) = t.filter fun r => !p r := List.filter_cons_of_neg (by simp [h])
      rw [e1, e2, List.length_cons, List.length_cons]; omega
    | false =>
      have e1 : (x :: t).filter p = t.filter p := List.filter_cons_of_neg (by simp [h])
      have e2 : ((x :: t).filter fun r => !p r) = x :: t.filter fun r => !p r := List.filter_cons_of_pos (by simp [h])
      rw [e1, e2, List.length_cons, List.length_cons]; omega
theorem len_next (fresh left : List Rw) : (nextF fresh left).length + (nextL fresh left).length = left.length := by
  have : nextL fresh left = left.filter fun r => !(!(fresh.filter fun f => decide (Near r f)).isEmpty) := by
    unfold nextL
    apply List.filter_congr
    intro r hr
    congr 1
    rw [Bool.eq_iff_iff, decide_eq_true_eq, mem_nextF]
    constructor
    · rintro ⟨_, h⟩; exact (List.mem_filter.mp (mem_nextF.mpr ⟨hr, h⟩)).2
    · intro h; exact mem_nextF.mp (List.mem_filter.mpr ⟨hr, h⟩)
  rw [this]
  exact len_part _ left
section
variable {rs : List Rw} {o : Rw} {found fresh left : List Rw}
theorem bfs_start : Bfs rs o [o] [o] (rs.filter fun r => decide (r ≠ o)) := ⟨by simp, fun r hr => by
    by_cases e : r = o
    · exact .inl (by simp [e])
    · exact .inr (List.mem_filter.mpr ⟨hr, decide_eq_true e⟩), fun r hr => by
    obtain ⟨h1, h2⟩ := List.mem_filter.mp hr
    exact ⟨h1, by simpa using of_decide_eq_true h2⟩, fun r h => h, fun r _ f hf hn => absurd hf hn, fun r hr => by
    have : r = o := by simpa using hr
    subst this; exact .refl _, by simp, fun r hr => .inl (by simpa using hr)⟩
theorem Bfs.next (hl : ∀ r s, (r = o ∨ r ∈ rs) → (s = o ∨ s ∈ rs) → r.length = s.length) (b : Bfs rs o found fresh left) : Bfs rs o (found ++ nextF fresh left) (nextF fresh left) (nextL fresh left) where
  cnt := by
    have := len_next fresh left
    have := b.cnt
    rw [List.length_append]; omega
  cov := fun r hr => by
    rcases b.cov r hr with h | h
    · exact .inl (List.mem_append_left _ h)
    · by_cases e : ∃ f ∈ fresh, Near r f
      · exact .inl (List.mem_append_right _ (mem_nextF.mpr ⟨h, e⟩))
      · exact .inr (mem_nextL.mpr ⟨h, e⟩)
  sub := fun r hr => by
    obtain ⟨h1, h2⟩ := mem_nextL.mp hr
    refine ⟨(b.sub r h1).1, fun h => ?_⟩
    rcases List.mem_append.mp h with h | h
    · exact (b.sub r h1).2 h
    · exact h2 (mem_nextF.mp h).2
  fr := fun r hr => List.mem_append_right _ hr
  clo := fun r hr f hf hn => by
    obtain ⟨h1, h2⟩ := mem_nextL.mp hr
    rcases List.mem_append.mp hf with h | h
    · by_cases e : f ∈ fresh
      · exact fun hh => h2 ⟨f, e, hh⟩
      · exact b.clo r h1 f h e
    · exact absurd h hn
  way := fun r hr => by
    rcases List.mem_append.mp hr with h | h
    · exact b.way r h
    · obtain ⟨h1, f, hf, hn⟩ := mem_nextF.mp h
      have hr' := (b.sub r h1).1
      exact .step (b.way f (b.fr f hf)) hr' (near_symm (hl _ _ (.inr hr') (b.frs f (b.fr f hf))) hn)
  og := List.mem_append_left _ b.og
  frs := fun r hr => by
    rcases List.mem_append.mp hr with h | h
    · exact b.frs r h
    · exact .inr (b.sub r (mem_nextF.mp h).1).1
/-- at the end: just what hangs together with o -/
def Done (rs : List Rw) (o : Rw) (found : List Rw) : Prop := ∃ fresh left, Bfs rs o found fresh left ∧ (fresh = [] ∨ left = [])
theorem Done.mem (hl : ∀ r s, (r = o ∨ r ∈ rs) → (s = o ∨ s ∈ rs) → r.length = s.length) (d : Done rs o found) {r : Rw} (p : Path (fun t => t ∈ rs) o r) : r ∈ found := by
  obtain ⟨fresh, left, b, h⟩ := d
  induction p with
  | refl => exact b.og
  | @step s t p ht hn ih =>
    rcases b.cov t ht with h2 | h2
    · exact h2
    · rcases h with h | h
      · subst h
        exact absurd (near_symm (hl _ _ (b.frs s ih) (.inr ht)) hn) (b.clo t h2 s ih (by simp))
      · subst h; cases h2
theorem filter_ne : ∀ {rs : List Rw}, rs.Nodup → o ∈ rs → 1 + (rs.filter fun r => decide (r ≠ o)).length = rs.length
  | x :: t, hn, h => by
    obtain ⟨hx, ht⟩ := List.nodup_cons.mp hn
    by_cases e : x = o
    · subst e
      have e0 : ((x :: t).filter fun r => decide (r ≠ x)) = t.filter fun r => decide (r ≠ x) := List.filter_cons_of_neg (by simp)
      rw [e0]
      have : t.filter (fun r => decide (r ≠ x)) = t := List.filter_eq_self.mpr fun a ha => decide_eq_true fun z => hx (z ▸ ha)
      rw [this, List.length_cons]; omega
    · have e0 : ((x :: t).filter fun r => decide (r ≠ o)) = x :: t.filter fun r => decide (r ≠ o) := List.filter_cons_of_pos (by simp [e])
      rw [e0, List.length_cons, List.length_cons]
      have := filter_ne ht ((List.mem_cons.mp h).resolve_left fun z => e z.symm)
      omega
theorem Done.conn (hl : ∀ r s, (r = o ∨ r ∈ rs) → (s = o ∨ s ∈ rs) → r.length = s.length) (hn : rs.Nodup) (ho : o ∈ rs) (d : Done rs o found) : found.length = rs.length ↔ Conn (fun r => r ∈ rs) := by
  have d' := d
  obtain ⟨fresh, left, b, h⟩ := d
  have c := b.cnt
  rw [filter_ne hn ho] at c
  constructor
  · intro e
    have : left = [] := List.length_eq_zero_iff.mp (by omega)
    subst this
    have all : ∀ r ∈ rs, Path (fun t => t ∈ rs) o r := fun r hr => by
      rcases b.cov r hr with h | h
      · exact b.way r h
      · cases h
    intro r s hr hs
    exact ((all r hr).symm (fun r s h1 h2 => hl r s (.inr h1) (.inr h2)) ho).trans (all s hs)
  · intro co
    have : left = [] := by
      cases left with
      | nil => rfl
      | cons x t =>
        have hx := b.sub x List.mem_cons_self
        exact absurd (d'.mem hl (co o x ho hx.1)) hx.2
    subst this
    simpa using c
end
/-! ### all rows -/
theorem fit_snoc : ∀ {cs : List Int} {r : Rw} {c v : Int}, fit (cs ++ [c]) (r ++ [v]) ↔ fit cs r ∧ 0 ≤ v ∧ v ≤ c
  | [], [], c, v => by show ((0 ≤ v ∧ v ≤ c) ∧ True) ↔ (True ∧ _); simp
  | [], x :: r, c, v => by
    show ((0 ≤ x ∧ x ≤ c) ∧ fit [] (r ++ [v])) ↔ (False ∧ _)
    have : ¬ fit [] (r ++ [v]) := fun h => by have := fit_len h; simp at this
    simp [this]
  | c' :: cs, [], c, v => by
    show ((0 ≤ v ∧ v ≤ c') ∧ fit (cs ++ [c]) []) ↔ (False ∧ _)
    have : ¬ fit (cs ++ [c]) [] := fun h => by have := fit_len h; simp at this
    simp [this]
  | c' :: cs, x :: r, c, v => by
    show ((0 ≤ x ∧ x ≤ c') ∧ fit (cs ++ [c]) (r ++ [v])) ↔ (((0 ≤ x ∧ x ≤ c') ∧ fit cs r) ∧ _)
    rw [fit_snoc (cs := cs) (r := r)]
    constructor
    · rintro ⟨a, b, c⟩; exact ⟨⟨a, b⟩, c⟩
    · rintro ⟨⟨a, b⟩, c⟩; exact ⟨a, b, c⟩
def upto (c : Int) : List Int := (List.range (c + 1).toNat).map fun (i : Nat) => (i : Int)
theorem mem_upto {c v : Int} : v ∈ upto c ↔ 0 ≤ v ∧ v ≤ c := by
  unfold upto
  rw [List.mem_map]
  constructor
  · rintro ⟨i, hi, rfl⟩
    rw [List.mem_range] at hi
    omega
  · rintro ⟨h0, h1⟩
    exact ⟨v.toNat, List.mem_range.mpr (by omega), by omega⟩
def wider (c : Int) (found : List Rw) : List Rw := found.flatMap fun r => (upto c).map fun v => r ++ [v]
def allR (cs : List Int) : List Rw := cs.foldl (fun f c => wider c f) [[]]
theorem allR_snoc (cs : List Int) (c : Int) : allR (cs ++ [c]) = wider c (allR cs) := by
  unfold allR; rw [List.foldl_append]; rfl
theorem upto_nd (c : Int) : (upto c).Nodup := List.pairwise_map.mpr (List.nodup_range.imp fun h e => h (by omega))
theorem allR_ok : ∀ (n : Nat) (cs : List Int), cs.length = n → (∀ r, r ∈ allR cs ↔ fit cs r) ∧ (allR cs).Nodup
  | 0, cs, h => by
    have : cs = [] := List.length_eq_zero_iff.mp h
    subst this
    refine ⟨fun r => ?_, by simp [allR]⟩
    show r ∈ [[]] ↔ _
    cases r with
    | nil => simp [fit]
    | cons _ _ => simp [fit]
  | n + 1, cs, h => by
    obtain ⟨cs', c, rfl⟩ : ∃ cs' c, cs = cs' ++ [c] := ⟨cs.dropLast, cs.getLast (by intro e; rw [e] at h; simp at h), (List.dropLast_concat_getLast _).symm⟩
    have hl : cs'.length = n := by simpa using h
    obtain ⟨ih, nd⟩ := allR_ok n cs' hl
    rw [allR_snoc]
    constructor
    · intro r
      unfold wider
      rw [List.mem_flatMap]
      constructor
      · rintro ⟨q, hq, hr⟩
        obtain ⟨v, hv, rfl⟩ := List.mem_map.mp hr
        exact fit_snoc.mpr ⟨(ih q).mp hq, mem_upto.mp hv⟩
      · intro hf
        have hlr := fit_len hf
        obtain ⟨r', v, rfl⟩ : ∃ r' v, r = r' ++ [v] := ⟨r.dropLast, r.getLast (by intro e; rw [e] at hlr; simp at hlr), (List.dropLast_concat_getLast _).symm⟩
        obtain ⟨h1, h2⟩ := fit_snoc.mp hf
        exact ⟨r', (ih r').mpr h1, List.mem_map.mpr ⟨v, mem_upto.mpr h2, rfl⟩⟩
    · unfold wider
      refine List.pairwise_flatMap.mpr ⟨fun r _ => List.pairwise_map.mpr ((upto_nd c).imp fun hne e => hne (by simpa using e)), nd.imp fun hne => ?_⟩
      intro x hx y hy e
      obtain ⟨v, _, rfl⟩ := List.mem_map.mp hx
      obtain ⟨v', _, rfl⟩ := List.mem_map.mp hy
      exact hne (List.append_inj_left' e rfl)
theorem wider_len {c : Int} {m : Nat} (hc : (c + 1).toNat ≤ m) : ∀ (f : List Rw), (wider c f).length ≤ m * f.length
  | [] => by simp [wider]
  | r :: f => by
    have ih := wider_len hc f
    unfold wider at ih ⊢
    rw [List.flatMap_cons, List.length_append, List.length_map, List.length_cons, Nat.mul_succ]
    have : (upto c).length = (c + 1).toNat := by simp [upto]
    omega
/-! ### the two heaviest -/
abbrev Desc (l : List Int) : Prop := l.Pairwise (fun x y => y ≤ x)
theorem desc_uniq : ∀ {l m : List Int}, Desc l → Desc m → l.Perm m → l = m
  | [], m, _, _, p => (List.nil_perm.mp p).symm ▸ rfl
  | x :: t, [], _, _, p => absurd p (by intro p; have := p.length_eq; simp at this)
  | x :: t, y :: u, h1, h2, p => by
    obtain ⟨a1, b1⟩ := List.pairwise_cons.mp h1
    obtain ⟨a2, b2⟩ := List.pairwise_cons.mp h2
    have e : x = y := by
      have hx : x ∈ y :: u := p.mem_iff.mp List.mem_cons_self
      have hy : y ∈ x :: t := p.mem_iff.mpr List.mem_cons_self
      rcases List.mem_cons.mp hx with h | h
      · exact h
      · rcases List.mem_cons.mp hy with h' | h'
        · exact h'.symm
        · have := a1 y h'; have := a2 x h; omega
    subst e
    rw [desc_uniq b1 b2 (List.perm_cons _ |>.mp p)]
def due (l : List Int) : Int := match l with
  | x :: y :: _ => x + y - 1
  | _ => 0
theorem due_top {l rest : List Int} {p q : Int} (h : Desc l) (hp : l.Perm (p :: q :: rest)) : p + q - 1 ≤ due l := by
  match l, h, hp with
  | [], _, hp => exact absurd hp.length_eq (by simp)
  | [x], _, hp => exact absurd hp.length_eq (by simp)
  | x :: y :: t, h, hp =>
    obtain ⟨a1, b1⟩ := List.pairwise_cons.mp h
    obtain ⟨a2, _⟩ := List.pairwise_cons.mp b1
    have hy := a1 y List.mem_cons_self
    have below : ∀ z ∈ y :: t, z ≤ y := fun z hz => by
      rcases List.mem_cons.mp hz with rfl | hz
      · exact Int.le_refl _
      · exact a2 z hz
    show p + q - 1 ≤ x + y - 1
    by_cases e : p = x
    · subst e
      have := (List.perm_cons _ |>.mp hp).mem_iff (a := q)
      have := below q (this.mpr List.mem_cons_self)
      omega
    · have m1 : p ∈ y :: t := by
        have : p ∈ x :: y :: t := hp.mem_iff.mpr List.mem_cons_self
        exact (List.mem_cons.mp this).resolve_left e
      by_cases e2 : q = x
      · have := below p m1; omega
      · have m2 : q ∈ y :: t := by
          have : q ∈ x :: y :: t := hp.mem_iff.mpr (by simp)
          exact (List.mem_cons.mp this).resolve_left e2
        have := below p m1
        have := below q m2
        omega
/-- the keys that count -/
def live (cs : List Int) : List Nat := (List.range cs.length).filter fun k => decide (0 < at' cs k)
theorem mem_live {cs : List Int} {k : Nat} : k ∈ live cs ↔ k < cs.length ∧ 0 < at' cs k := by simp [live]
theorem live_nd (cs : List Int) : (live cs).Nodup := List.Pairwise.filter _ List.nodup_range
theorem due_pair {cs ws l : List Int} (h : Desc l) (hp : l.Perm ((live cs).map (at' ws))) {u d : Nat} (hu : u ∈ live cs) (hd : d ∈ live cs) (hne : u ≠ d) : at' ws u + at' ws d - 1 ≤ due l := by
  have p1 : (live cs).Perm (u :: (live cs).erase u) := List.perm_cons_erase hu
  have hd' : d ∈ (live cs).erase u := (List.mem_erase_of_ne (Ne.symm hne)).mpr hd
  have p2 : (live cs).Perm (u :: d :: ((live cs).erase u).erase d) := p1.trans ((List.perm_cons_erase hd').cons u)
  exact due_top h (hp.trans (p2.map (at' ws)))
end D.P33
end

section
set_option Elab.async false
set_option linter.all false
set_option maxRecDepth 100000
set_option maxHeartbeats 1000000
set_option autoImplicit false
/-! k33: the program's part of the walk. -/
namespace D.k33
open PySem PySem.Spec PyProof.Rows L2 D D.P33
theorem ret_now {n : Nat} {P : PD} {d : Dv} {M : Mem} (h : P d M) : Ret n P d M := .inl h
abbrev nms (ns : List Int) : List Dv := ns.map Dv.int
abbrev tupI (ns : List Int) : Dv := .tup (ns.map Dv.int)
def Sm (i : Int) : Prop := i.natAbs < 2 ^ 300
theorem sm_log {i : Int} (h : Sm i) : i.natAbs.log2 < 300 := by
  by_cases e : i.natAbs = 0
  · rw [e]; decide
  · exact (Nat.log2_lt e).mpr h
theorem sm_mul {i j : Int} (h : Sm i) (k : Sm j) : i.natAbs.log2 + j.natAbs.log2 < 1000000 := by
  have := sm_log h
  have := sm_log k
  omega
theorem le_size {n : Nat} (h : n ≤ 1000) : n ≤ sizeLine := by rw [sizeLine_eq]; omega
/-- of numbers: a value that is one (not True, False) -/
def isInt : Dv → Bool
  | .int _ => true
  | _ => false
theorem isi_int (v : Dv) (h : okV v = true) : (isiB (kind v) "int" && !(isiB (kind v) "bool")) = isInt v := by
  cases v <;> first | rfl | decide | (cases h)
def S_is_integer : DSp := fun ds M P _ => ∃ v, ds = [v] ∧ okV v = true ∧ P (.bl (isInt v)) M
theorem p_is_integer : ∀ ds M Pd X, MemOk M → S_is_integer ds M Pd X → t_is_integer (dkOf M.length Pd X) (startD N_is_integer ds) M := by
  rintro _ M Pd X - ⟨v, rfl, hv, h⟩
  show t_is_integer (dkOf M.length Pd X) [some v] M
  rw [← isi_int v hv] at h
  cases e : isiB (kind v) "int" <;> cases e2 : isiB (kind v) "bool" <;> rw [e, e2] at h <;> simp [t_is_integer, dkOf, s_isi hv, e, e2] <;> exact ret_now h
def isNum : Dv → Bool
  | .int i => decide (0 ≤ i)
  | _ => false
def S_is_number : DSp := fun ds M P _ => ∃ v, ds = [v] ∧ okV v = true ∧ P (.bl (isNum v)) M
theorem p_is_number : ∀ ds M Pd X, MemOk M → S_is_number ds M Pd X → t_is_number S_is_integer (dkOf M.length Pd X) (startD N_is_number ds) M := by
  rintro _ M Pd X - ⟨v, rfl, hv, h⟩
  show t_is_number S_is_integer (dkOf M.length Pd X) [some v] M
  simp [t_is_number, dkOf, S_is_integer, hv]
  cases v <;> first | (simp [isInt] ; exact ret_now h) | (cases hv)
def isIdx (v : Dv) (many : Int) : Bool := match v with
  | .int i => decide (0 ≤ i) && decide (i < many)
  | _ => false
def S_is_index : DSp := fun ds M P _ => ∃ v many, ds = [v, .int many] ∧ okV v = true ∧ P (.bl (isIdx v many)) M
theorem p_is_index : ∀ ds M Pd X, MemOk M → S_is_index ds M Pd X → t_is_index S_is_number (dkOf M.length Pd X) (startD N_is_index ds) M := by
  rintro _ M Pd X - ⟨v, many, rfl, hv, h⟩
  show t_is_index S_is_number (dkOf M.length Pd X) [some v, some (.int many)] M
  simp [t_is_index, dkOf, S_is_number, hv]
  cases v with
  | int i =>
    by_cases e : 0 ≤ i
    · simp [isNum, isIdx, e] at h ⊢; exact ret_now h
    · simp [isNum, isIdx, e] at h ⊢; exact ret_now h
  | _ => first | (simp [isNum] ; exact ret_now h) | (cases hv)
def isSeq : Dv → Bool
  | .tup _ => true
  | .lst _ => true
  | _ => false
def S_is_sequence : DSp := fun ds M P _ => ∃ v, ds = [v] ∧ okV v = true ∧ P (.bl (isSeq v)) M
theorem isi_seq (v : Dv) (h : okV v = true) : (isiB (kind v) "list" || isiB (kind v) "tuple") = isSeq v := by
  cases v <;> first | rfl | decide | (cases h)
theorem p_is_sequence : ∀ ds M Pd X, MemOk M → S_is_sequence ds M Pd X → t_is_sequence (dkOf M.length Pd X) (startD N_is_sequence ds) M := by
  rintro _ M Pd X - ⟨v, rfl, hv, h⟩
  show t_is_sequence (dkOf M.length Pd X) [some v] M
  rw [← isi_seq v hv] at h
  simp [t_is_sequence, dkOf]
  exact ⟨le_size (by omega), v, kind v, "list", "tuple", rfl, ty_ok hv, by simp, by simp, ret_now h⟩
/-! rows -/
def seqOf : Dv → List Dv
  | .tup l => l
  | .lst l => l
  | _ => []
def rowB (cs : List Int) (v : Dv) : Bool := isSeq v && (decide ((seqOf v).length = cs.length) && ((seqOf v).zip cs).all fun p => isIdx p.1 (p.2 + 1))
def S_is_row_below : DSp := fun ds M P _ => ∃ c cs v, ds = [c, v] ∧ seqD M c = some (nms cs) ∧ cs.length ≤ 1000 ∧ okV v = true ∧ P (.bl (rowB cs v)) M
theorem zip_nms (l : List Dv) : ∀ cs : List Int, zipD l (nms cs) = (l.zip cs).map fun p => .tup [p.1, .int p.2] := by
  induction l with
  | nil => intro cs; rfl
  | cons d l ih => intro cs; cases cs with
    | nil => rfl
    | cons c cs => show _ :: zipD l (nms cs) = _ :: _; rw [ih]; rfl
theorem okV_seq {v : Dv} (hs : isSeq v = true) (h : okV v = true) : ∀ d ∈ seqOf v, okV d = true := by
  cases v with
  | tup l => exact okV_mem h
  | lst l => exact okV_mem h
  | _ => cases hs
theorem seqD_of {M : Mem} {v : Dv} (hs : isSeq v = true) : seqD M v = some (seqOf v) := by
  cases v <;> first | rfl | (cases hs)
theorem all_id_map {α : Type} (f : α → Bool) (l : List α) : (l.map f).all id = l.all f := by
  induction l with
  | nil => rfl
  | cons x t ih => simp [ih]
theorem p_is_row_below : ∀ ds M Pd X, MemOk M → S_is_row_below ds M Pd X → t_is_row_below S_is_index S_is_sequence (dkOf M.length Pd X) (startD N_is_row_below ds) M := by
  rintro _ M Pd X - ⟨c, cs, v, rfl, hc, hl, hv, h⟩
  show t_is_row_below S_is_index S_is_sequence (dkOf M.length Pd X) [some c, some v, none, none] M
  simp [t_is_row_below, dkOf, S_is_sequence, hv]
  cases hs : isSeq v with
  | false => unfold rowB at h; rw [hs] at h; simp; exact ret_now h
  | true =>
    have hq := seqD_of (M := M) hs
    unfold rowB at h; rw [hs] at h
    simp [s_len hq, s_len hc]
    by_cases e : (seqOf v).length = cs.length
    · refine .inl ⟨by omega, _, hq, _, hc, le_size (by simp [zipD]; omega), ?_⟩
      simp [e] at h
      rw [zip_nms]
      refine loopC_map (fun d => match d with | .tup [x, .int cap] => .bl (isIdx x (cap + 1)) | _ => .non) ⟨hq, hc⟩ ?_ ?_
      · intro x hx C1 C2 hC
        obtain ⟨p, hp, rfl⟩ := List.mem_map.mp hx
        have hm := List.of_mem_zip hp
        simp
        exact ⟨_, _, rfl, okV_seq hs hv _ hm.1, hC⟩
      · refine ⟨_, ((seqOf v).zip cs).map (fun p => isIdx p.1 (p.2 + 1)), rfl, ?_, ?_⟩
        · simp [List.map_map, Function.comp_def]
        · rw [all_id_map]
          exact ret_now h
    · refine .inr ⟨by omega, ?_⟩
      simp [e] at h
      exact ret_now h
end D.k33
end

section
set_option Elab.async false
set_option linter.all false
set_option maxRecDepth 100000
set_option maxHeartbeats 2000000
set_option autoImplicit false
/-! k33: weights, cuts. -/
namespace D.k33
open PySem PySem.Spec PyProof.Rows L2 D D.P33
theorem zip_nn : ∀ ws rs : List Int, zipD (nms ws) (nms rs) = (ws.zip rs).map fun p => .tup [.int p.1, .int p.2]
  | [], _ => rfl
  | _ :: _, [] => rfl
  | w :: ws, r :: rs => by show _ :: zipD (nms ws) (nms rs) = _ :: _; rw [zip_nn ws rs]; rfl
theorem sum_wsum : ∀ (ws : List Int) (r : Rw), ((ws.zip r).map fun p => p.1 * p.2).sum = wsum ws r
  | [], _ => rfl
  | _ :: _, [] => rfl
  | w :: ws, v :: r => by simp [wsum, sum_wsum ws r]
def S_weighed : DSp := fun ds M P _ => ∃ w r ws rs, ds = [w, r] ∧ seqD M w = some (nms ws) ∧ seqD M r = some (nms rs) ∧ ws.length ≤ 1000 ∧ (∀ i ∈ ws, Sm i) ∧ (∀ i ∈ rs, Sm i) ∧ P (.int (wsum ws rs)) M
theorem go_weighed {M : Mem} {w r : Dv} {ws rs : List Int} {P : PD} (hw : seqD M w = some (nms ws)) (hr : seqD M r = some (nms rs)) (hl : ws.length ≤ 1000) (h1 : ∀ i ∈ ws, Sm i) (h2 : ∀ i ∈ rs, Sm i) (h : P (.int (wsum ws rs)) M) {E : DK} (hE : E.rt = P) :
    (dSeq (dRet (dCB gSum (dCons (dComp (iZip (dCons (dVar 0) (dCons (dVar 1) dNil))) (gT 2 (gsCons (gN 2) (gsCons (gN 3) gsNil))) dYes (dOp gMul (dVar 2) (dVar 3)) [2, 3]) dNil))) dNext) E [some w, some r, none, none] M := by
  simp
  refine ⟨_, hw, _, hr, le_size (by simp [zipD]; omega), ?_⟩
  rw [zip_nn]
  refine loopC_map (fun d => match d with | .tup [.int x, .int y] => .int (x * y) | _ => .non) ⟨hw, hr⟩ ?_ ?_
  · intro x hx C1 C2 hC
    obtain ⟨p, hp, rfl⟩ := List.mem_map.mp hx
    have hm := List.of_mem_zip hp
    simp
    exact ⟨sm_mul (h1 _ hm.1) (h2 _ hm.2), hC⟩
  · refine s_sum (ns := (ws.zip rs).map fun p => p.1 * p.2) ?_ ?_
    · simp [List.map_map, Function.comp_def]
    · rw [sum_wsum, hE]; exact h
theorem p_weighed : ∀ ds M Pd X, MemOk M → S_weighed ds M Pd X → t_weighed (dkOf M.length Pd X) (startD N_weighed ds) M := by
  rintro _ M Pd X - ⟨w, r, ws, rs, rfl, hw, hr, hl, h1, h2, h⟩
  exact go_weighed hw hr hl h1 h2 (P := Ret M.length Pd) (ret_now h) rfl
theorem p__law_weighed : ∀ ds M Pd X, MemOk M → S_weighed ds M Pd X → t__law_weighed (dkOf M.length Pd X) (startD N__law_weighed ds) M := by
  rintro _ M Pd X - ⟨w, r, ws, rs, rfl, hw, hr, hl, h1, h2, h⟩
  exact go_weighed hw hr hl h1 h2 (P := Ret M.length Pd) (ret_now h) rfl
/-! rows among values -/
def numsOf : List Dv → Option (List Int)
  | [] => some []
  | .int i :: l => (numsOf l).map (i :: ·)
  | _ :: _ => none
theorem numsOf_nms : ∀ r : List Int, numsOf (nms r) = some r
  | [] => rfl
  | i :: r => by show (numsOf (nms r)).map (i :: ·) = _; rw [numsOf_nms r]; rfl
theorem nms_of : ∀ {l : List Dv} {r : List Int}, numsOf l = some r → l = nms r
  | [], r, h => by cases h; rfl
  | .int i :: l, r, h => by
    have h' : (numsOf l).map (i :: ·) = some r := h
    cases e : numsOf l with
    | none => rw [e] at h'; cases h'
    | some s => rw [e] at h'; cases h'; show _ = Dv.int i :: nms s; rw [nms_of e]
  | .non :: _, _, h => by cases (show none = some _ from h)
  | .bl _ :: _, _, h => by cases (show none = some _ from h)
  | .str _ :: _, _, h => by cases (show none = some _ from h)
  | .tup _ :: _, _, h => by cases (show none = some _ from h)
  | .lst _ :: _, _, h => by cases (show none = some _ from h)
  | .obj _ _ _ :: _, _, h => by cases (show none = some _ from h)
  | .ref _ :: _, _, h => by cases (show none = some _ from h)
  | .adr _ :: _, _, h => by cases (show none = some _ from h)
  | .frz _ :: _, _, h => by cases (show none = some _ from h)
  | .ty _ :: _, _, h => by cases (show none = some _ from h)
  | .dic :: _, _, h => by cases (show none = some _ from h)
def rowOf : Dv → Option Rw
  | .tup l => numsOf l
  | _ => none
instance fitDec : ∀ (cs : List Int) (r : Rw), Decidable (fit cs r)
  | [], [] => isTrue trivial
  | [], _ :: _ => isFalse fun h => h
  | _ :: _, [] => isFalse fun h => h
  | c :: cs, v :: r => @instDecidableAnd _ _ _ (fitDec cs r)
instance (cs ws : List Int) (lo hi : Int) (r : Rw) : Decidable (InR cs ws lo hi r) := by unfold InR; infer_instance
theorem idx_not {v : Dv} {m : Int} (h : ∀ i, v ≠ .int i) : isIdx v m = false := by
  cases v <;> first | rfl | exact absurd rfl (h _)
theorem rowB_go : ∀ (cs : List Int) (l : List Dv), (decide (l.length = cs.length) && (l.zip cs).all fun p => isIdx p.1 (p.2 + 1)) = (match numsOf l with | some r => decide (fit cs r) | none => false)
  | [], [] => rfl
  | [], d :: l => by
    have : (decide ((d :: l).length = ([] : List Int).length)) = false := by simp
    rw [this, Bool.false_and]
    cases h : numsOf (d :: l) with
    | none => rfl
    | some r =>
      cases r with
      | nil => have := nms_of h; simp at this
      | cons x r => rfl
  | c :: cs, [] => by
    have : (decide (([] : List Dv).length = (c :: cs).length)) = false := by simp
    rw [this, Bool.false_and]; rfl
  | c :: cs, d :: l => by
    have ih := rowB_go cs l
    have e1 : decide ((d :: l).length = (c :: cs).length) = decide (l.length = cs.length) := by simp
    rw [e1, List.zip_cons_cons, List.all_cons]
    by_cases hd : ∃ i, d = .int i
    · obtain ⟨i, rfl⟩ := hd
      have e2 : numsOf (.int i :: l) = (numsOf l).map (i :: ·) := rfl
      rw [e2]
      have e3 : isIdx (.int i) (c + 1) = (decide (0 ≤ i ∧ i ≤ c)) := by
        show (decide (0 ≤ i) && decide (i < c + 1)) = _
        rw [Bool.eq_iff_iff]; simp; omega
      have : (decide (l.length = cs.length) && (isIdx (.int i) (c + 1) && (l.zip cs).all fun p => isIdx p.1 (p.2 + 1))) = (decide (0 ≤ i ∧ i ≤ c) && (decide (l.length = cs.length) && (l.zip cs).all fun p => isIdx p.1 (p.2 + 1))) := by
        rw [e3, ← Bool.and_assoc, ← Bool.and_assoc, Bool.and_comm (decide (l.length = cs.length))]
      refine this.trans ?_
      rw [ih]
      cases numsOf l with
      | none => simp
      | some r =>
        show (decide (0 ≤ i ∧ i ≤ c) && decide (fit cs r)) = decide (fit (c :: cs) (i :: r))
        rw [Bool.eq_iff_iff]
        simp only [Bool.and_eq_true, decide_eq_true_eq]
        exact Iff.rfl
    · have e2 : numsOf (d :: l) = none := by
        cases d <;> first | rfl | exact absurd ⟨_, rfl⟩ hd
      have e3 : isIdx d (c + 1) = false := idx_not fun i e => hd ⟨i, e⟩
      rw [e2]
      have : (decide (l.length = cs.length) && (isIdx d (c + 1) && (l.zip cs).all fun p => isIdx p.1 (p.2 + 1))) = false := by rw [e3]; simp
      exact this
theorem rowB_tup (cs : List Int) (l : List Dv) : rowB cs (.tup l) = (match numsOf l with | some r => decide (fit cs r) | none => false) := by
  unfold rowB
  show (true && _) = _
  rw [Bool.true_and]
  exact rowB_go cs l
/-- is it a row within -/
def allowB (cs ws : List Int) (lo hi : Int) (d : Dv) : Bool := match rowOf d with
  | some r => decide (InR cs ws lo hi r)
  | none => false
def ups (n : Nat) (x y : Rw) : List Nat := (List.range n).filter fun k => decide (at' x k < at' y k)
def cut2 (n : Nat) (ws : List Int) (lo hi : Int) (x y : Rw) : Bool :=
  match ups n x y, ups n y x with
  | [u], [d] => decide (hi < wsum ws x + at' ws u) && decide (wsum ws x - at' ws d < lo)
  | _, _ => false
def cutB (cs ws : List Int) (lo hi : Int) (v : Dv) : Bool := match v with
  | .tup [a, b] => (match rowOf a, rowOf b with
    | some x, some y => decide (InR cs ws lo hi x) && (decide (InR cs ws lo hi y) && cut2 cs.length ws lo hi x y)
    | _, _ => false)
  | _ => false
theorem rng_nat (n : Nat) : rngD 0 (n : Int) = (List.range n).map fun (k : Nat) => .int (k : Int) := by
  unfold rngD
  simp
theorem at_nms {r : List Int} {k : Nat} (h : k < r.length) : (nms r)[k]? = some (.int (at' r k)) := by
  simp [at', List.getD, h]
/-- [key for key in range(n) if a[key] < b[key]], by slots -/
theorem ups_go {n : Nat} {x y : Rw} {da db : Dv} {l : Loc} {M : Mem} {P : List Dv → Mem → Prop} {tt : DT} {i : Nat} (hi : i < l.length) (hx : seqD M da = some (nms x)) (hy : seqD M db = some (nms y)) (lx : n ≤ x.length) (ly : n ≤ y.length)
    (ht : ∀ (k : Nat) (Q : Bool → Mem → Prop), k < n → Q (decide (at' x k < at' y k)) M → tt (l.set i (some (.int (k : Int)))) M Q noX) (h : P ((ups n x y).map fun (k : Nat) => .int (k : Int)) M) :
    loopC (gN i) tt (dVar i) [i] (fun _ => True) (rngD 0 (n : Int)) [] l M P := by
  rw [rng_nat]
  refine loopC_pure (fun d => match d with | .int k => decide (at' x k.toNat < at' y k.toNat) | _ => false) id trivial ?_ ?_
  · intro d hd C1 C2 hC
    obtain ⟨k, hk, rfl⟩ := List.mem_map.mp hd
    simp
    refine ht k _ (List.mem_range.mp hk) ?_
    simp at hC ⊢
    by_cases e : at' x k < at' y k
    · rw [if_pos e] at hC ⊢; exact ⟨_, by simp [hi], hC⟩
    · rw [if_neg e] at hC ⊢; exact hC
  · have : ((List.map (fun (k : Nat) => Dv.int (k : Int)) (List.range n)).filter (fun d => match d with | .int k => decide (at' x k.toNat < at' y k.toNat) | _ => false)).map id = (ups n x y).map fun (k : Nat) => .int (k : Int) := by
      rw [List.map_id, List.filter_map]
      rfl
    rw [List.nil_append, this]
    exact h
theorem seq_row {M : Mem} {d : Dv} {r : Rw} (h : rowOf d = some r) : seqD M d = some (nms r) := by
  cases d <;> first | (cases (show none = some r from h)) | skip
  rename_i l
  rw [nms_of (show numsOf l = some r from h)]; rfl
theorem sm_row {cs : List Int} {r : Rw} (hc : ∀ i ∈ cs, Sm i) (h : fit cs r) : ∀ i ∈ r, Sm i := by
  intro i hi
  obtain ⟨k, hk, rfl⟩ := List.mem_iff_getElem.mp hi
  have hl := fit_len h
  have b := fit_at h hk
  have e : at' r k = r[k] := by simp [at', hk]
  have e2 : at' cs k = cs[k]'(by omega) := by simp [at', show k < cs.length by omega]
  have := hc (cs[k]'(by omega)) (List.getElem_mem _)
  unfold Sm at this ⊢
  rw [e, e2] at b
  omega
def Arg (M : Mem) (c w : Dv) (cs ws : List Int) : Prop := seqD M c = some (nms cs) ∧ seqD M w = some (nms ws) ∧ ws.length = cs.length ∧ cs.length ≤ 1000 ∧ (∀ i ∈ cs, Sm i) ∧ ∀ i ∈ ws, Sm i
def S_is_cut : DSp := fun ds M P _ => ∃ c w lo hi v cs ws, ds = [c, w, .int lo, .int hi, v] ∧ Arg M c w cs ws ∧ okV v = true ∧ P (.bl (cutB cs ws lo hi v)) M
theorem allow_rowB {cs ws : List Int} {lo hi : Int} {l : List Dv} : allowB cs ws lo hi (.tup l) = (rowB cs (.tup l) && (match numsOf l with | some r => decide (lo ≤ wsum ws r) && decide (wsum ws r ≤ hi) | none => false)) := by
  rw [rowB_tup]
  show (match numsOf l with
    | some r => decide (InR cs ws lo hi r)
    | none => false) = _
  cases numsOf l with
  | none => rfl
  | some r =>
    show decide (InR cs ws lo hi r) = (decide (fit cs r) && (decide _ && decide _))
    rw [Bool.eq_iff_iff]
    simp only [Bool.and_eq_true, decide_eq_true_eq]
    exact Iff.rfl
theorem cutB_pair {cs ws : List Int} {lo hi : Int} {a b : Dv} : cutB cs ws lo hi (.tup [a, b]) = (allowB cs ws lo hi a && (allowB cs ws lo hi b && (match rowOf a, rowOf b with | some x, some y => cut2 cs.length ws lo hi x y | _, _ => false))) := by
  show (match rowOf a, rowOf b with
    | some x, some y => decide (InR cs ws lo hi x) && (decide (InR cs ws lo hi y) && cut2 cs.length ws lo hi x y)
    | _, _ => false) = _
  unfold allowB
  cases rowOf a with
  | none => rfl
  | some x =>
    cases rowOf b with
    | none => simp
    | some y => rfl
theorem cutB_not {cs ws : List Int} {lo hi : Int} {v : Dv} (h : ∀ a b, v ≠ .tup [a, b]) : cutB cs ws lo hi v = false := by
  match v with
  | .tup [a, b] => exact absurd rfl (h a b)
  | .tup [] => rfl
  | .tup [_] => rfl
  | .tup (_ :: _ :: _ :: _) => rfl
  | .non => rfl
  | .bl _ => rfl
  | .int _ => rfl
  | .str _ => rfl
  | .lst _ => rfl
  | .obj _ _ _ => rfl
  | .ref _ => rfl
  | .adr _ => rfl
  | .frz _ => rfl
  | .ty _ => rfl
  | .dic => rfl
def isTup : Dv → Bool
  | .tup _ => true
  | _ => false
theorem isi_tup {v : Dv} (h : okV v = true) : isiB (kind v) "tuple" = isTup v := by
  cases v <;> first | rfl | decide | (cases h)
theorem len2 {l : List Dv} (h : l.length = 2) : ∃ a b, l = [a, b] := by
  match l, h with
  | [a, b], _ => exact ⟨a, b, rfl⟩
theorem atI_nms {r : List Int} {k : Nat} (h : k < r.length) : atI (nms r) (k : Int) = some (.int (at' r k)) := atI_nat (at_nms h)
theorem mem_ups {n : Nat} {x y : Rw} {k : Nat} : k ∈ ups n x y ↔ k < n ∧ at' x k < at' y k := by simp [ups]
theorem len1 {α : Type} {l : List α} : l.length = 1 ↔ ∃ a, l = [a] := List.length_eq_one_iff
/-- the end of both judges of cuts -/
theorem cut_end {M : Mem} {P : PD} {w a : Dv} {ws x y : List Int} {lo hi : Int} {n : Nat} {Y : PX} (hw : seqD M w = some (nms ws)) (hl : ws.length = n) (sw : ∀ i ∈ ws, Sm i) (sx : ∀ i ∈ x, Sm i) (qa : seqD M a = some (nms x)) (hz : ws.length ≤ 1000) (h : P (.bl (cut2 n ws lo hi x y)) M) :
    ((((ups n x y).map fun (k : Nat) => Dv.int (k : Int)).length : Int) = 1 ∧
                          (((((ups n y x).map fun (k : Nat) => Dv.int (k : Int)).length : Int) = 1 ∧
                              S_weighed [w, a] M
                                (fun x' M1 =>
                                  gIx (Dv.lst ((ups n x y).map fun (k : Nat) => Dv.int (k : Int))) (Dv.int 0) M1 fun d =>
                                    gIx w d M1 fun d =>
                                      gAdd x' d M1 fun d =>
                                        gGt d (Dv.int hi) M1 fun d =>
                                          truD M1 d = some false ∧ Ret (List.length M) P d M1 ∨
                                            truD M1 d = some true ∧
                                              S_weighed [w, a] M1
                                                (fun x' M1 =>
                                                  gIx (Dv.lst ((ups n y x).map fun (k : Nat) => Dv.int (k : Int))) (Dv.int 0) M1 fun d =>
                                                    gIx w d M1 fun d =>
                                                      gSub' x' d M1 fun d =>
                                                        gLt d (Dv.int lo) M1 fun d => Ret (List.length M) P d M1)
                                                Y)
                                Y) ∨
                            ¬ (((ups n y x).map fun (k : Nat) => Dv.int (k : Int)).length : Int) = 1 ∧ Ret (List.length M) P (Dv.bl false) M)) ∨
                        ¬ (((ups n x y).map fun (k : Nat) => Dv.int (k : Int)).length : Int) = 1 ∧ Ret (List.length M) P (Dv.bl false) M := by
  by_cases h1 : (ups n x y).length = 1
  · obtain ⟨u, hu⟩ := len1.mp h1
    have mu := mem_ups.mp (show u ∈ ups n x y by rw [hu]; simp)
    refine .inl ⟨by simp [h1], ?_⟩
    by_cases h2 : (ups n y x).length = 1
    · obtain ⟨d, hd⟩ := len1.mp h2
      have md := mem_ups.mp (show d ∈ ups n y x by rw [hd]; simp)
      refine .inl ⟨by simp [h2], ?_⟩
      unfold cut2 at h
      rw [hu, hd] at h ⊢
      refine ⟨w, a, ws, x, rfl, hw, qa, hz, sw, sx, s_ix (v := .int (u : Int)) (x := [.int (u : Int)]) rfl rfl (s_ixn hw (at_nms (by omega)) ?_)⟩
      simp only [s_add_i, s_gt, tru_bl, Option.some.injEq, decide_eq_true_eq, decide_eq_false_iff_not]
      by_cases b1 : hi < wsum ws x + at' ws u
      · refine .inr ⟨b1, w, a, ws, x, rfl, hw, qa, hz, sw, sx, s_ix (v := .int (d : Int)) (x := [.int (d : Int)]) rfl rfl (s_ixn hw (at_nms (by omega)) ?_)⟩
        simp only [s_sub, s_lt]
        simp [b1] at h
        exact ret_now h
      · refine .inl ⟨b1, ?_⟩
        simp [b1] at h
        simp [b1]
        exact ret_now h
    · refine .inr ⟨by simpa using fun e => h2 (by omega), ?_⟩
      unfold cut2 at h
      rw [hu] at h
      have : (match [u], ups n y x with | [u], [d] => decide (hi < wsum ws x + at' ws u) && decide (wsum ws x - at' ws d < lo) | _, _ => false) = false := by
        cases e : ups n y x with
        | nil => rfl
        | cons d t => cases t with
          | nil => rw [e] at h2; exact absurd rfl h2
          | cons _ _ => rfl
      rw [this] at h
      exact ret_now h
  · refine .inr ⟨by simpa using fun e => h1 (by omega), ?_⟩
    have : cut2 n ws lo hi x y = false := by
      unfold cut2
      cases e : ups n x y with
      | nil => rfl
      | cons d t => cases t with
        | nil => rw [e] at h1; exact absurd rfl h1
        | cons _ _ => rfl
    rw [this] at h
    exact ret_now h
theorem p_is_cut : ∀ ds M Pd X, MemOk M → S_is_cut ds M Pd X → t_is_cut S_weighed S_is_row_below (dkOf M.length Pd X) (startD N_is_cut ds) M := by
  rintro _ M Pd X - ⟨c, w, lo, hi, v, cs, ws, rfl, ⟨hc, hw, hl, hz, sc, sw⟩, hv, h⟩
  show t_is_cut S_weighed S_is_row_below (dkOf M.length Pd X) [some c, some w, some (.int lo), some (.int hi), some v, none, none, none, none, none, none] M
  have no : (∀ a b, v ≠ .tup [a, b]) → Ret M.length Pd (.bl false) M := fun hn => by
    rw [cutB_not hn] at h; exact ret_now h
  simp [t_is_cut, dkOf, s_isi hv, isi_tup hv]
  cases ht : isTup v with
  | false => simp; exact no fun a b e => by rw [e] at ht; cases ht
  | true =>
    obtain ⟨l, rfl⟩ : ∃ l, v = .tup l := by cases v <;> first | exact ⟨_, rfl⟩ | (cases ht)
    by_cases h2 : l.length = 2
    · obtain ⟨a, b, rfl⟩ := len2 h2
      have oa : okV a = true := okV_mem (show okVs [a, b] = true from hv) a (by simp)
      have ob : okV b = true := okV_mem (show okVs [a, b] = true from hv) b (by simp)
      rw [cutB_pair] at h
      have turn : ∀ (d : Dv) (E : DK) (o : Option Dv), okV d = true → E.rt = (fun d M' => Ret M.length Pd d M') → (allowB cs ws lo hi d = true → E.nx [some c, some w, some (.int lo), some (.int hi), some (.tup [a, b]), some d, none, none, none, none, none] M) → (allowB cs ws lo hi d = false → Ret M.length Pd (.bl false) M) →
          gN 5 d [some c, some w, some (.int lo), some (.int hi), some (.tup [a, b]), o, none, none, none, none, none] M fun l2 M2 => (dSeq
      (dIfS
        (dOr (dNot (dTru (dCB gIsi (dCons (dVar 5) (dCons (dC (Dv.ty "tuple")) dNil)))))
          (dOr (dNot (dTru (dCall S_is_row_below (dCons (dVar 0) (dCons (dVar 5) dNil)))))
            (dNot (dTest (dChain gLe gLe (dVar 2) (dCall S_weighed (dCons (dVar 1) (dCons (dVar 5) dNil))) (dVar 3))))))
        (dSeq (dRet (dC (Dv.bl false))) dNext) dNext)
      dNext) E l2 M2 := fun d E o hd hE yes nop => by
        simp [s_isi hd, isi_tup hd, hE]
        cases htd : isTup d with
        | false => simp; exact nop (by cases d <;> first | rfl | (cases htd))
        | true =>
          obtain ⟨q, rfl⟩ : ∃ q, d = .tup q := by cases d <;> first | exact ⟨_, rfl⟩ | (cases htd)
          simp
          refine ⟨c, cs, .tup q, rfl, hc, hz, hd, ?_⟩
          rw [allow_rowB] at yes nop
          cases hr : rowB cs (.tup q) with
          | false => simp; exact nop (by rw [hr]; rfl)
          | true =>
            simp
            rw [rowB_tup] at hr
            cases hn : numsOf q with
            | none => rw [hn] at hr; cases hr
            | some r =>
              rw [hn] at hr yes nop
              have hf : fit cs r := of_decide_eq_true hr
              refine ⟨w, .tup q, ws, r, rfl, hw, seq_row hn, by omega, sw, sm_row sc hf, ?_⟩
              rw [rowB_tup, hn] at yes nop
              have ef : decide (fit cs r) = true := hr
              by_cases b1 : lo ≤ wsum ws r
              · by_cases b2 : wsum ws r ≤ hi
                · simp [b1, b2]; exact yes (by simp [ef, b1, b2])
                · simp [b1, b2]; exact nop (by simp [b1, b2])
              · simp [b1]; exact nop (by simp [b1])
      simp
      refine ⟨rfl, turn a _ _ oa rfl (fun ya => ?_) fun na => ?_⟩
      · rw [ya] at h
        refine ⟨rfl, turn b _ _ ob rfl (fun yb => ?_) fun nb => ?_⟩
        · rw [yb] at h
          refine ⟨rfl, ?_⟩
          obtain ⟨x, ex⟩ : ∃ x, rowOf a = some x := by
            unfold allowB at ya
            cases e : rowOf a with
            | none => rw [e] at ya; cases ya
            | some x => exact ⟨x, rfl⟩
          obtain ⟨y, ey⟩ : ∃ x, rowOf b = some x := by
            unfold allowB at yb
            cases e : rowOf b with
            | none => rw [e] at yb; cases yb
            | some x => exact ⟨x, rfl⟩
          unfold allowB at ya yb
          rw [ex] at ya h
          rw [ey] at yb h
          have fx : InR cs ws lo hi x := of_decide_eq_true ya
          have fy : InR cs ws lo hi y := of_decide_eq_true yb
          have lx := fit_len fx.1
          have ly := fit_len fy.1
          have qa := seq_row (M := M) ex
          have qb := seq_row (M := M) ey
          simp [s_len hc]
          have h' : Pd (.bl (cut2 cs.length ws lo hi x y)) M := by simpa using h
          refine ⟨by omega, le_size (by rw [rng_nat]; simp; omega), ups_go (x := x) (y := y) (by simp) qa qb (by omega) (by omega) (fun k Q hk hQ => ?_) ?_⟩
          · simp only [s_test, s_op, s_var]
            exact ⟨_, rfl, _, rfl, s_ixn qb (at_nms (by omega)) ⟨_, rfl, _, rfl, s_ixn qa (at_nms (by omega)) ⟨_, rfl, hQ⟩⟩⟩
          · simp [s_len hc]
            refine ⟨by omega, le_size (by rw [rng_nat]; simp; omega), ups_go (x := y) (y := x) (by simp) qb qa (by omega) (by omega) (fun k Q hk hQ => ?_) ?_⟩
            · simp only [s_test, s_op, s_var]
              exact ⟨_, rfl, _, rfl, s_ixn qb (at_nms (by omega)) ⟨_, rfl, _, rfl, s_ixn qa (at_nms (by omega)) ⟨_, rfl, hQ⟩⟩⟩
            · have q := cut_end (Y := fun C d M1 => RetX M.length X C d M1) hw hl sw (sm_row sc fx.1) qa (by omega) h'
              simp only [List.length_map] at q ⊢
              exact q
        · rw [nb] at h; exact ret_now (by simpa using h)
      · rw [na] at h; exact ret_now (by simpa using h)
    · simp
      exact .inr ⟨by omega, no fun a b e => by cases e; exact h2 rfl⟩
end D.k33
end

section
set_option Elab.async false
set_option linter.all false
set_option maxRecDepth 100000
set_option maxHeartbeats 2000000
set_option autoImplicit false
/-! k33: the law's own judge of cuts; first rows. -/
namespace D.k33
open PySem PySem.Spec PyProof.Rows L2 D D.P33
def S__law_allowed : DSp := fun ds M P _ => ∃ c w lo hi v cs ws, ds = [c, w, .int lo, .int hi, v] ∧ Arg M c w cs ws ∧ okV v = true ∧ P (.bl (allowB cs ws lo hi v)) M
def isBool : Dv → Bool
  | .bl _ => true
  | _ => false
theorem isi_bool {v : Dv} (h : okV v = true) : isiB (kind v) "bool" = isBool v := by
  cases v <;> first | rfl | decide | (cases h)
def isIB : Dv → Bool
  | .bl _ => true
  | .int _ => true
  | _ => false
theorem isi_ib {v : Dv} (h : okV v = true) : isiB (kind v) "int" = isIB v := by
  cases v <;> first | rfl | decide | (cases h)
def goodP : Dv → Bool
  | .tup [x, .int cap] => isIdx x (cap + 1)
  | _ => false
theorem p__law_allowed : ∀ ds M Pd X, MemOk M → S__law_allowed ds M Pd X → t__law_allowed S_weighed (dkOf M.length Pd X) (startD N__law_allowed ds) M := by
  rintro _ M Pd X - ⟨c, w, lo, hi, v, cs, ws, rfl, ⟨hc, hw, hl, hz, sc, sw⟩, hv, h⟩
  show t__law_allowed S_weighed (dkOf M.length Pd X) [some c, some w, some (.int lo), some (.int hi), some v, none, none] M
  simp [t__law_allowed, dkOf, s_isi hv, isi_tup hv]
  cases ht : isTup v with
  | false =>
    simp
    have : allowB cs ws lo hi v = false := by cases v <;> first | rfl | (cases ht)
    rw [this] at h; exact ret_now h
  | true =>
    obtain ⟨q, rfl⟩ : ∃ l, v = .tup l := by cases v <;> first | exact ⟨_, rfl⟩ | (cases ht)
    simp [s_len hc]
    rw [allow_rowB, rowB_tup, ← rowB_go] at h
    by_cases e : q.length = cs.length
    · refine .inl ⟨by omega, _, hc, ?_⟩
      rw [zip_nms]
      refine loopS_inv (fun pre l M' => M' = M ∧ (∃ o5 o6, l = [some c, some w, some (.int lo), some (.int hi), some (.tup q), o5, o6]) ∧ ∀ p ∈ pre, goodP p = true) (fun pre l M' ⟨hM, _, _⟩ => by subst hM; exact ⟨rfl, hc⟩) (pre := []) ⟨rfl, ⟨none, none, rfl⟩, fun p hp => by cases hp⟩ ?_ ?_
      · rintro pre x suf l M' hx ⟨rfl, ⟨o5, o6, rfl⟩, hg⟩ C hC
        have hm : x ∈ (q.zip cs).map fun p => Dv.tup [p.1, .int p.2] := by rw [hx]; simp
        obtain ⟨p, hp, rfl⟩ := List.mem_map.mp hm
        have hmm := List.of_mem_zip hp
        have ho : okV p.1 = true := okV_mem hv _ hmm.1
        have bad : isIdx p.1 (p.2 + 1) = false → Ret M'.length Pd (.bl false) M' := fun hb => by
          have : ((q.zip cs).all fun p => isIdx p.1 (p.2 + 1)) = false := List.all_eq_false.mpr ⟨p, hp, by rw [hb]; decide⟩
          rw [this] at h
          simp at h
          exact ret_now h
        have good : isIdx p.1 (p.2 + 1) = true → C [some c, some w, some (.int lo), some (.int hi), some (.tup q), some p.1, some (.int p.2)] M' := fun hb => hC _ _ ⟨rfl, ⟨_, _, rfl⟩, fun y hy => by
          rcases List.mem_append.mp hy with h | h
          · exact hg y h
          · have : y = .tup [p.1, .int p.2] := by simpa using h
            rw [this]; exact hb⟩
        simp [s_isi ho, isi_ib ho, isi_bool ho]
        cases hp1 : p.1 with
        | int i =>
          rw [hp1] at bad good
          simp [isIB, isBool]
          by_cases b1 : i < 0
          · simp [b1]; exact .inr (bad (by simp [isIdx]; omega))
          · by_cases b2 : p.2 < i
            · simp [b1, b2]; exact ⟨by omega, .inr (bad (by simp [isIdx]; omega))⟩
            · simp [b1, b2]; exact ⟨by omega, by omega, good (by simp [isIdx]; omega)⟩
        | bl b => rw [hp1] at bad; simp [isIB, isBool]; exact bad rfl
        | _ => first | (rw [hp1] at bad; simp [isIB]; exact bad rfl) | (rw [hp1] at ho; cases ho)
      · rintro l M' ⟨rfl, ⟨o5, o6, rfl⟩, hg⟩
        have all : ((q.zip cs).all fun p => isIdx p.1 (p.2 + 1)) = true := List.all_eq_true.mpr fun p hp => hg (.tup [p.1, .int p.2]) (List.mem_map.mpr ⟨p, hp, rfl⟩)
        have both : (decide (q.length = cs.length) && (q.zip cs).all fun p => isIdx p.1 (p.2 + 1)) = true := by rw [all, decide_eq_true e]; rfl
        have hn := both
        rw [rowB_go] at hn
        rw [both] at h
        cases e2 : numsOf q with
        | none => rw [e2] at hn; cases hn
        | some r =>
          rw [e2] at hn h
          have hf : fit cs r := of_decide_eq_true hn
          simp
          refine ⟨w, .tup q, ws, r, rfl, hw, seq_row e2, by omega, sw, sm_row sc hf, ?_⟩
          by_cases b1 : lo ≤ wsum ws r
          · simp [b1] at h ⊢; exact ret_now h
          · simp [b1] at h ⊢; exact ret_now h
    · refine .inr ⟨by omega, ?_⟩
      simp [e] at h
      exact ret_now h
theorem cut2_no {n : Nat} {ws x y : List Int} {lo hi : Int} (h : ¬ (ups n y x).length = 1) : cut2 n ws lo hi x y = false := by
  unfold cut2
  cases e : ups n y x with
  | nil => cases ups n x y with
    | nil => rfl
    | cons d t => cases t <;> rfl
  | cons d t => cases t with
    | nil => rw [e] at h; exact absurd rfl h
    | cons _ _ => cases ups n x y with
      | nil => rfl
      | cons d t => cases t <;> rfl
theorem cut_end2 {M : Mem} {P : PD} {w a : Dv} {ws x y : List Int} {lo hi : Int} {n : Nat} {Y : PX} (hw : seqD M w = some (nms ws)) (hl : ws.length = n) (sw : ∀ i ∈ ws, Sm i) (sx : ∀ i ∈ x, Sm i) (qa : seqD M a = some (nms x)) (hz : ws.length ≤ 1000) (h : P (.bl (cut2 n ws lo hi x y)) M) :
    (((ups n x y).length : Int) = 1 ∧
                          ((((ups n y x).length : Int) = 1 ∧
                              S_weighed [w, a] M
                                (fun x' M1 =>
                                  gIx (Dv.lst ((ups n x y).map fun (k : Nat) => Dv.int (k : Int))) (Dv.int 0) M1 fun d =>
                                    gIx w d M1 fun d =>
                                      gAdd x' d M1 fun d =>
                                        gGt d (Dv.int hi) M1 fun d =>
                                          truD M1 d = some false ∧ Ret (List.length M) P d M1 ∨
                                            truD M1 d = some true ∧
                                                  gIx (Dv.lst ((ups n y x).map fun (k : Nat) => Dv.int (k : Int))) (Dv.int 0) M1 fun d =>
                                                    gIx w d M1 fun d =>
                                                      gSub' x' d M1 fun d =>
                                                        gLt d (Dv.int lo) M1 fun d => Ret (List.length M) P d M1)
                                Y) ∨
                            ¬ ((ups n y x).length : Int) = 1 ∧ Ret (List.length M) P (Dv.bl false) M)) ∨
                        ¬ ((ups n x y).length : Int) = 1 ∧ Ret (List.length M) P (Dv.bl false) M := by
  by_cases h1 : (ups n x y).length = 1
  · obtain ⟨u, hu⟩ := len1.mp h1
    have mu := mem_ups.mp (show u ∈ ups n x y by rw [hu]; simp)
    refine .inl ⟨by simp [h1], ?_⟩
    by_cases h2 : (ups n y x).length = 1
    · obtain ⟨d, hd⟩ := len1.mp h2
      have md := mem_ups.mp (show d ∈ ups n y x by rw [hd]; simp)
      refine .inl ⟨by simp [h2], ?_⟩
      unfold cut2 at h
      rw [hu, hd] at h ⊢
      refine ⟨w, a, ws, x, rfl, hw, qa, hz, sw, sx, s_ix (v := .int (u : Int)) (x := [.int (u : Int)]) rfl rfl (s_ixn hw (at_nms (by omega)) ?_)⟩
      simp only [s_add_i, s_gt, tru_bl, Option.some.injEq, decide_eq_true_eq, decide_eq_false_iff_not]
      by_cases b1 : hi < wsum ws x + at' ws u
      · refine .inr ⟨b1, s_ix (v := .int (d : Int)) (x := [.int (d : Int)]) rfl rfl (s_ixn hw (at_nms (by omega)) ?_)⟩
        simp only [s_sub, s_lt]
        simp [b1] at h
        exact ret_now h
      · refine .inl ⟨b1, ?_⟩
        simp [b1] at h
        simp [b1]
        exact ret_now h
    · refine .inr ⟨by omega, ?_⟩
      rw [cut2_no h2] at h
      exact ret_now h
  · refine .inr ⟨by omega, ?_⟩
    have : cut2 n ws lo hi x y = false := by
      unfold cut2
      cases e : ups n x y with
      | nil => rfl
      | cons d t => cases t with
        | nil => rw [e] at h1; exact absurd rfl h1
        | cons _ _ => rfl
    rw [this] at h
    exact ret_now h
theorem p__law_cut : ∀ ds M Pd X, MemOk M → S_is_cut ds M Pd X → t__law_cut S_weighed S__law_allowed (dkOf M.length Pd X) (startD N__law_cut ds) M := by
  rintro _ M Pd X - ⟨c, w, lo, hi, v, cs, ws, rfl, ar, hv, h⟩
  have ar' := ar
  obtain ⟨hc, hw, hl, hz, sc, sw⟩ := ar'
  show t__law_cut S_weighed S__law_allowed (dkOf M.length Pd X) [some c, some w, some (.int lo), some (.int hi), some v, none, none, none, none, none, none] M
  have no : (∀ a b, v ≠ .tup [a, b]) → Ret M.length Pd (.bl false) M := fun hn => by
    rw [cutB_not hn] at h; exact ret_now h
  simp [t__law_cut, dkOf, s_isi hv, isi_tup hv]
  cases ht : isTup v with
  | false => simp; exact no fun a b e => by rw [e] at ht; cases ht
  | true =>
    obtain ⟨l, rfl⟩ : ∃ l, v = .tup l := by cases v <;> first | exact ⟨_, rfl⟩ | (cases ht)
    by_cases h2 : l.length = 2
    · obtain ⟨a, b, rfl⟩ := len2 h2
      have oa : okV a = true := okV_mem (show okVs [a, b] = true from hv) a (by simp)
      have ob : okV b = true := okV_mem (show okVs [a, b] = true from hv) b (by simp)
      rw [cutB_pair] at h
      simp
      refine ⟨c, w, lo, hi, a, cs, ws, rfl, ar, oa, ?_⟩
      cases ya : allowB cs ws lo hi a with
      | false => rw [ya] at h; simp; exact ret_now (by simpa using h)
      | true =>
        rw [ya] at h
        simp
        refine ⟨c, w, lo, hi, b, cs, ws, rfl, ar, ob, ?_⟩
        cases yb : allowB cs ws lo hi b with
        | false => rw [yb] at h; simp; exact ret_now (by simpa using h)
        | true =>
          rw [yb] at h
          obtain ⟨x, ex⟩ : ∃ x, rowOf a = some x := by
            unfold allowB at ya
            cases e : rowOf a with
            | none => rw [e] at ya; cases ya
            | some x => exact ⟨x, rfl⟩
          obtain ⟨y, ey⟩ : ∃ x, rowOf b = some x := by
            unfold allowB at yb
            cases e : rowOf b with
            | none => rw [e] at yb; cases yb
            | some x => exact ⟨x, rfl⟩
          unfold allowB at ya yb
          rw [ex] at ya h
          rw [ey] at yb h
          have fx : InR cs ws lo hi x := of_decide_eq_true ya
          have fy : InR cs ws lo hi y := of_decide_eq_true yb
          have lx := fit_len fx.1
          have ly := fit_len fy.1
          have qa := seq_row (M := M) ex
          have qb := seq_row (M := M) ey
          have h' : Pd (.bl (cut2 cs.length ws lo hi x y)) M := by simpa using h
          simp [s_len hc]
          refine ⟨by omega, le_size (by rw [rng_nat]; simp; omega), ups_go (x := x) (y := y) (by simp) qa qb (by omega) (by omega) (fun k Q hk hQ => ?_) ?_⟩
          · simp only [s_test, s_op, s_var]
            exact ⟨_, rfl, _, rfl, s_ixn qa (at_nms (by omega)) ⟨_, rfl, _, rfl, s_ixn qb (at_nms (by omega)) ⟨_, rfl, hQ⟩⟩⟩
          · simp [s_len hc]
            refine ⟨by omega, le_size (by rw [rng_nat]; simp; omega), ups_go (x := y) (y := x) (by simp) qb qa (by omega) (by omega) (fun k Q hk hQ => ?_) ?_⟩
            · simp only [s_test, s_op, s_var]
              exact ⟨_, rfl, _, rfl, s_ixn qa (at_nms (by omega)) ⟨_, rfl, _, rfl, s_ixn qb (at_nms (by omega)) ⟨_, rfl, hQ⟩⟩⟩
            · have q := cut_end2 (Y := fun C d M1 => RetX M.length X C d M1) hw hl sw (sm_row sc fx.1) qa (by omega) h'
              simp only [List.length_map] at q ⊢
              exact q
    · simp
      exact .inr ⟨by omega, no fun a b e => by cases e; exact h2 rfl⟩
end D.k33
end

section
set_option Elab.async false
set_option linter.all false
set_option maxRecDepth 100000
set_option maxHeartbeats 2000000
set_option autoImplicit false
/-! k33: the first multiple within, first rows, the told cut. -/
namespace D.k33
open PySem PySem.Spec PyProof.Rows L2 D D.P33
theorem log_lt {i : Int} {k : Nat} (h : i.natAbs < 2 ^ k) (hk : 0 < k) : i.natAbs.log2 < k := by
  by_cases e : i.natAbs = 0
  · rw [e]; simpa using hk
  · exact (Nat.log2_lt e).mpr h
theorem least_lt {step m lo hi t : Int} (hm : 0 < m) (h : Least step m lo hi t) : t < m := by
  apply Int.not_le.mp
  intro hle
  refine h.2.2 (t - m) (by omega) (by omega) ?_
  have e : step * (t - m) = step * t + m * (-step) := by rw [Int.mul_sub, Int.mul_neg, Int.mul_comm m step]; omega
  unfold Hit
  rw [e, Int.add_mul_emod_self_left]
  exact h.2.1
def S_fw (n : Nat) : DSp := fun ds M P _ => ∃ (step m lo hi : Int) (j : Nat), ds = [.int step, .int m, .int lo, .int hi] ∧ 0 ≤ step ∧ step < m ∧ 1 ≤ lo ∧ lo ≤ hi ∧ hi < m ∧ m < 2 ^ j ∧ j ≤ 300 ∧ 2 * j + (if m < 2 * step then 1 else 0) ≤ n ∧
  (∀ t, Least step m lo hi t → P (.int t) M) ∧ (NoHit step m lo hi → P .non M)
theorem small_of {j : Nat} {i m : Int} (h0 : 0 ≤ i) (h : i ≤ m) (hm : m < 2 ^ j) (hj : j ≤ 300) : i.natAbs < 2 ^ 300 := by
  have e1 : (i.natAbs : Int) = i := by omega
  have e2 : (2 : Int) ^ j ≤ 2 ^ 300 := by exact_mod_cast Nat.pow_le_pow_right (by decide) hj
  have : (i.natAbs : Int) < 2 ^ 300 := by omega
  exact_mod_cast this
theorem p_first_within (n : Nat) : ∀ ds M Pd X, MemOk M → S_fw (n + 1) ds M Pd X → t_first_within (S_fw n) (dkOf M.length Pd X) (startD N_first_within ds) M := by
  rintro _ M Pd X - ⟨step, m, lo, hi, j, rfl, hs0, hsm, h1, h12, h2, hmj, hj, hn, hy, hno⟩
  show t_first_within (S_fw n) (dkOf M.length Pd X) [some (.int step), some (.int m), some (.int lo), some (.int hi), none, none] M
  have ls := log_lt (small_of hs0 (by omega) hmj hj) (by decide)
  have lm := log_lt (small_of (i := m) (by omega) (Int.le_refl _) hmj hj) (by decide)
  have l2 : (2 : Int).natAbs.log2 < 10 := by decide
  simp only [t_first_within, dkOf, s_seq, s_ifS, s_test, s_op, s_var, s_c, s_ret]
  refine ⟨_, rfl, ?_⟩
  by_cases e0 : step = 0
  · subst e0
    simp
    exact ret_now (hno (hit_zero h1))
  · have hs : 0 < step := by omega
    simp [e0]
    refine ⟨by simp at l2; omega, ?_⟩
    by_cases e1 : m < 2 * step
    · simp [e1]
      refine .inr ⟨m - step, m, m - hi, m - lo, j, rfl, by omega, by omega, by omega, by omega, by omega, hmj, hj, ?_, fun t ht => ret_now (hy t (least_refl (by omega) h1 h2 ht)), fun hn' => ret_now (hno fun s h0 hh => hn' s h0 ((hit_refl (by omega) h1 h2).mp hh))⟩
      rw [if_pos e1] at hn
      rw [if_neg (by omega)]
      omega
    · rw [if_neg e1] at hn
      obtain ⟨g1, g2⟩ := ceil_spec hs lo
      have ml : ((lo + step - 1) / step).natAbs.log2 < 301 := by
        have a0 : 0 < (lo + step - 1) / step := mul_lt_of hs (by omega)
        have a1 : (lo + step - 1) / step ≤ step * ((lo + step - 1) / step) := by
          have := Int.mul_le_mul_of_nonneg_right (show (1 : Int) ≤ step by omega) (show 0 ≤ (lo + step - 1) / step by omega)
          rw [Int.one_mul] at this; exact this
        refine log_lt ?_ (by decide)
        have e2 : (2 : Int) ^ j ≤ 2 ^ 300 := by exact_mod_cast Nat.pow_le_pow_right (by decide) hj
        have e3 : (((lo + step - 1) / step).natAbs : Int) = (lo + step - 1) / step := by omega
        have : (((lo + step - 1) / step).natAbs : Int) < 2 ^ 301 := by
          have : (2 : Int) ^ 301 = 2 * 2 ^ 300 := by decide
          omega
        exact_mod_cast this
      refine .inl ⟨by omega, ⟨hs, by omega⟩, by omega, ?_⟩
      by_cases e2 : (lo + step - 1) / step * step ≤ hi
      · exact .inr ⟨e2, ret_now (hy _ (least_now hs h1 h2 e2))⟩
      · have e2' : hi < (lo + step - 1) / step * step := by omega
        refine .inl ⟨e2', hs, ?_⟩
        obtain ⟨p1, p2, p3, p4, p5⟩ := sub_pre (m := m) hs h1 h12 e2'
        have hj1 : 1 ≤ j := by
          cases j with
          | zero => simp at hmj; omega
          | succ j => omega
        have hstep : step < 2 ^ (j - 1) := by
          have : (2 : Int) ^ j = 2 * 2 ^ (j - 1) := by
            have : j = (j - 1) + 1 := by omega
            rw [this, Int.pow_succ]; simp; omega
          omega
        refine ⟨_, _, _, _, j - 1, rfl, by simpa using p1, by simpa using p2, p3, p4, p5, hstep, by omega, ?_, fun q hq => ?_, fun hq => ?_⟩
        · split <;> omega
        · have hq' : Least ((0 - m) % step) step (lo % step) (hi % step) q := by simpa using hq
          have hl := least_sub hs (by omega) h1 h12 h2 e2' hq'
          have q0 := hq'.1
          have qs := least_lt hs hq'
          have lq := log_lt (small_of q0 (Int.le_of_lt (Int.lt_trans qs hsm)) hmj hj) (by decide)
          simp
          exact ⟨by omega, ⟨hs, by omega⟩, ret_now (hy _ hl)⟩
        · simp
          exact ret_now (hno (nohit_sub hs (by omega) h1 h12 h2 e2' (by simpa using hq)))
end D.k33
end

section
set_option Elab.async false
set_option linter.all false
set_option maxRecDepth 100000
set_option maxHeartbeats 2000000
set_option autoImplicit false
set_option exponentiation.threshold 600
/-! k33: first rows, the told cut. -/
namespace D.k33
open PySem PySem.Spec PyProof.Rows L2 D D.P33
/-- two keys -/
def Two (M : Mem) (c w : Dv) (a b c0 c1 : Int) : Prop := seqD M c = some (nms [c0, c1]) ∧ seqD M w = some (nms [a, b]) ∧ 0 < a ∧ 0 < b ∧ 0 ≤ c0 ∧ 0 ≤ c1 ∧ Sm a ∧ Sm b ∧ Sm c0 ∧ Sm c1
def S_first_row (n : Nat) : DSp := fun ds M P _ => ∃ (c w : Dv) (a b c0 c1 lo hi st : Int) (j : Nat), ds = [c, w, .int lo, .int hi, .int st] ∧ Two M c w a b c0 c1 ∧ 0 ≤ st ∧ a < 2 ^ j ∧ j ≤ 300 ∧ 2 * j + 1 ≤ n ∧
  (∀ x y, IsFirst a b c0 c1 lo hi st x y → P (.tup [.int x, .int y]) M) ∧ (NoFirst a b c0 c1 lo hi st → P .non M)
theorem sm_between {i m : Int} (h0 : 0 ≤ i) (h : i ≤ m) (hm : Sm m) : Sm i := by
  unfold Sm at *
  omega
theorem p_first_row (n : Nat) : ∀ ds M Pd X, MemOk M → S_first_row n ds M Pd X → t_first_row (S_fw n) (dkOf M.length Pd X) (startD N_first_row ds) M := by
  rintro _ M Pd X - ⟨c, w, a, b, c0, c1, lo, hi, st, j, rfl, ⟨hc, hw, ha, hb, h0, h1, sa, sb, s0, s1⟩, hst, hj, hj3, hn, hy, hno⟩
  show t_first_row (S_fw n) (dkOf M.length Pd X) [some c, some w, some (.int lo), some (.int hi), some (.int st), none, none, none, none, none, none, none] M
  have q0 : atI (nms [c0, c1]) 0 = some (.int c0) := rfl
  have q1 : atI (nms [c0, c1]) 1 = some (.int c1) := rfl
  have lb := sm_log sb
  unfold t_first_row
  refine seq_step fun C1 hC1 => ?_
  simp [hw]
  subst hC1
  refine seq_step fun C2 hC2 => ?_
  simp
  refine s_ix hc q0 ?_
  simp
  refine ⟨by have := sm_mul s0 sa; omega, ⟨hb, by omega⟩, ?_⟩
  subst hC2
  generalize hbg : max st ((lo - c0 * a + b - 1) / b) = bg
  refine seq_step fun C3 hC3 => ?_
  simp
  have rt : ∀ d, Pd d M → (dkOf M.length Pd X).rt d M := fun d h => ret_now h
  by_cases e1 : hi < lo
  · exact .inr ⟨e1, rt _ (hno (nofirst_empty e1))⟩
  · refine .inl ⟨by omega, s_ix hc q1 ⟨⟨hb, by omega⟩, ?_⟩⟩
    simp
    by_cases e2 : min c1 (hi / b) < bg
    · exact .inr ⟨by omega, rt _ (hno (nofirst_begin ha hb (by rw [hbg]; exact e2)))⟩
    · have sbg : Sm bg := sm_between (by omega) (show bg ≤ c1 by omega) s1
      refine .inl ⟨by omega, ?_⟩
      subst hC3
      refine seq_step fun C4 hC4 => ?_
      simp
      refine ⟨by have := sm_mul sb sbg; omega, ha, ?_⟩
      subst hC4
      refine seq_step fun C5 hC5 => ?_
      -- the end: so many values on
      have fin : ∀ t, Turns a b lo hi bg t → C5 [some c, some w, some (.int lo), some (.int hi), some (.int st), some (.int a), some (.int b), some (.int bg), some (.int ((b * bg - lo) % a)), some (.int (hi - lo)), some (.int t), none] M := fun t ht => by
        subst hC5
        refine seq_step fun C6 hC6 => ?_
        simp
        refine s_ix hc q1 ⟨⟨hb, by omega⟩, ?_⟩
        simp
        by_cases e : min c1 (hi / b) < bg + t
        · exact .inr ⟨by omega, rt _ (hno (nofirst_far ha hb (by rw [hbg]; exact ht) (by rw [hbg]; exact e)))⟩
        · refine .inl ⟨by omega, ?_⟩
          subst hC6
          have t0 := ht.1
          have sbt : Sm (bg + t) := sm_between (by omega) (show bg + t ≤ c1 by omega) s1
          simp
          have := sm_mul sb sbt
          have := sm_log sa
          refine ⟨by omega, ⟨ha, by omega⟩, le_size (by decide), rt _ (hy _ _ ?_)⟩
          have := first_of ha hb h0 hst (st := st) (c1 := c1) (by rw [hbg]; exact ht) (by rw [hbg]; omega)
          rw [hbg] at this
          exact this
      simp
      by_cases e3 : hi - lo < (b * bg - lo) % a
      · refine .inr ⟨by omega, ha, ?_⟩
        have m0 := Int.emod_nonneg (b * bg - lo) (Int.ne_of_gt ha)
        have m1 := Int.emod_lt_of_pos (b * bg - lo) ha
        have v0 := Int.emod_nonneg b (Int.ne_of_gt ha)
        have v1 := Int.emod_lt_of_pos b ha
        refine ⟨b % a, a, a - (b * bg - lo) % a, a - (b * bg - lo) % a + (hi - lo), j, rfl, v0, v1, by omega, by omega, by omega, hj, hj3, by split <;> omega, fun t ht => fin t (turns_hit ha (by omega) e3 ht), fun hq => ?_⟩
        subst hC5
        refine seq_step fun C6 hC6 => ?_
        simp
        refine rt _ (hno (nofirst_never ha hb fun s hs hh => ?_))
        rw [hbg] at hh
        exact hq s hs ((turn_hit ha (by omega) e3).mp hh)
      · exact .inl ⟨by omega, fin 0 (turns_zero (by omega))⟩
def S_two_cut (n : Nat) : DSp := fun ds M P _ => ∃ (c w : Dv) (a b c0 c1 lo hi : Int) (j : Nat), ds = [c, w, .int lo, .int hi] ∧ Two M c w a b c0 c1 ∧ a < 2 ^ j ∧ j ≤ 300 ∧ 2 * j + 1 ≤ n ∧
  (Conn (InR [c0, c1] [a, b] lo hi) → P .non M) ∧ (∀ x y, InR [c0, c1] [a, b] lo hi x → InR [c0, c1] [a, b] lo hi y → cut2 2 [a, b] lo hi x y = true → ¬ Conn (InR [c0, c1] [a, b] lo hi) → P (.tup [tupI x, tupI y]) M)
theorem cut2_of {a b lo hi x y xo yo : Int} (h1 : x < xo) (h2 : yo < y) (h3 : hi < a * x + b * y + a) (h4 : a * x + b * y - b < lo) : cut2 2 [a, b] lo hi [x, y] [xo, yo] = true := by
  have e1 : ups 2 [x, y] [xo, yo] = [0] := by
    have a1 : decide (at' [x, y] 0 < at' [xo, yo] 0) = true := decide_eq_true h1
    have a2 : decide (at' [x, y] 1 < at' [xo, yo] 1) = false := decide_eq_false (show ¬ y < yo by omega)
    show (([0, 1] : List Nat).filter fun k => decide (at' [x, y] k < at' [xo, yo] k)) = [0]
    simp [List.filter, a1, a2]
  have e2 : ups 2 [xo, yo] [x, y] = [1] := by
    have a1 : decide (at' [xo, yo] 0 < at' [x, y] 0) = false := decide_eq_false (show ¬ xo < x by omega)
    have a2 : decide (at' [xo, yo] 1 < at' [x, y] 1) = true := decide_eq_true h2
    show (([0, 1] : List Nat).filter fun k => decide (at' [xo, yo] k < at' [x, y] k)) = [1]
    simp [List.filter, a1, a2]
  unfold cut2
  rw [e1, e2]
  show (decide (hi < a * x + (b * y + 0) + a) && decide (a * x + (b * y + 0) - b < lo)) = true
  rw [decide_eq_true (by omega), decide_eq_true (by omega)]; rfl
theorem p_two_cut (n : Nat) : ∀ ds M Pd X, MemOk M → S_two_cut n ds M Pd X → t_two_cut (S_first_row n) (dkOf M.length Pd X) (startD N_two_cut ds) M := by
  rintro _ M Pd X - ⟨c, w, a, b, c0, c1, lo, hi, j, rfl, tw, hj, hj3, hn, hco, hcut⟩
  have tw' := tw
  obtain ⟨hc, hw, ha, hb, h0, h1, sa, sb, s0, s1⟩ := tw'
  show t_two_cut (S_first_row n) (dkOf M.length Pd X) [some c, some w, some (.int lo), some (.int hi), none, none, none, none] M
  have rt : ∀ d, Pd d M → (dkOf M.length Pd X).rt d M := fun d h => ret_now h
  unfold t_two_cut
  refine seq_step fun C1 hC1 => ?_
  simp
  refine ⟨c, w, a, b, c0, c1, lo, hi, 0, j, rfl, tw, Int.le_refl _, hj, hj3, hn, fun xo yo ho => ?_, fun hq => ?_⟩
  · subst hC1
    refine seq_step fun C2 hC2 => ?_
    simp
    subst hC2
    refine seq_step fun C3 hC3 => ?_
    simp
    refine s_ix (v := .int a) hw rfl ?_
    simp
    refine s_ix (v := .int b) hw rfl ?_
    simp
    subst hC3
    refine seq_step fun C4 hC4 => ?_
    simp
    refine s_ix (v := .int yo) (x := [.int xo, .int yo]) rfl rfl ?_
    simp
    refine ⟨c, w, a, b, c0, c1, _, _, _, j, rfl, tw, by have := ho.1.2.1.1; omega, hj, hj3, hn, fun x y h => ?_, fun hq => ?_⟩
    · subst hC4
      simp
      have ct := cut_told ha hb ho h
      refine ⟨le_size (by decide), rt _ (hcut [x, y] [xo, yo] (in2.mpr ct.1) (in2.mpr ho.1) (cut2_of ct.2.1 ct.2.2.1 ct.2.2.2.1 ct.2.2.2.2) (cut_a (by omega) (by omega) (in2.mpr ct.1) (in2.mpr ho.1) ct.2.2.2.1 ct.2.2.2.2 ct.2.1))⟩
    · subst hC4
      simp
      exact rt _ (hco (conn_free ha hb ho hq))
  · subst hC1
    refine seq_step fun C2 hC2 => ?_
    simp
    exact rt _ (hco (conn_none hq))
end D.k33
end

section
set_option Elab.async false
set_option linter.all false
set_option maxRecDepth 100000
set_option maxHeartbeats 2000000
set_option autoImplicit false
/-! k33: the heaviest keys, enough slack. -/
namespace D.k33
open PySem PySem.Spec PyProof.Rows L2 D D.P33
def Heavy (cs ws : List Int) (D : List Int) (ks : List Nat) : Prop := Desc D ∧ D.Perm ((live cs).map (at' ws)) ∧ ks.map (at' ws) = D.take 2 ∧ ks.Nodup ∧ ∀ k ∈ ks, k ∈ live cs
def S_heaviest : DSp := fun ds M P _ => ∃ c w cs ws, ds = [c, w] ∧ Arg M c w cs ws ∧ ∀ D ks, Heavy cs ws D ks → P (.lst (ks.map fun (k : Nat) => .int (k : Int))) M
theorem zip_rng : ∀ (ws cs : List Int), ws.length = cs.length → ws.zip cs = (List.range cs.length).map fun k => (at' ws k, at' cs k)
  | [], [], _ => rfl
  | [], _ :: _, h => by simp at h
  | _ :: _, [], h => by simp at h
  | w :: ws, c :: cs, h => by
    rw [List.zip_cons_cons, zip_rng ws cs (by simpa using h), List.length_cons, List.range_succ_eq_map, List.map_cons, List.map_map]
    rfl
theorem enum_rng : ∀ (ws : List Int) (b : Int), enumF b (nms ws) = (List.range ws.length).map fun (k : Nat) => .tup [.int (b + (k : Int)), .int (at' ws k)]
  | [], b => rfl
  | w :: ws, b => by
    show Dv.tup [.int b, .int w] :: enumF (b + 1) (nms ws) = _
    rw [enum_rng ws (b + 1), List.length_cons, List.range_succ_eq_map, List.map_cons, List.map_map]
    congr 1
    · simp; rfl
    · apply List.map_congr_left
      intro k _
      show Dv.tup [.int (b + 1 + (k : Int)), _] = Dv.tup [.int (b + ((k + 1 : Nat) : Int)), _]
      rw [show b + 1 + (k : Int) = b + ((k + 1 : Nat) : Int) by omega]
      rfl
theorem cut_take (l : List Dv) (k : Nat) : cutD l none (some (k : Int)) = l.take k := by
  unfold cutD
  rw [HT.sIx_none, HT.sIx_nat]
  simp only [List.drop_zero, Nat.sub_zero]
  rw [List.take_eq_take_iff]; omega
theorem p_heaviest : ∀ ds M Pd X, MemOk M → S_heaviest ds M Pd X → t_heaviest (dkOf M.length Pd X) (startD N_heaviest ds) M := by
  rintro _ M Pd X - ⟨c, w, cs, ws, rfl, ⟨hc, hw, hl, hz, sc, sw⟩, h⟩
  show t_heaviest (dkOf M.length Pd X) [some c, some w, none, none, none] M
  unfold t_heaviest
  refine seq_step fun C1 hC1 => ?_
  simp [hw]
  refine ⟨le_size (by rw [enumF_length]; simp; omega), ?_⟩
  have ee : enumD (nms ws) = (List.range cs.length).map fun (k : Nat) => Dv.tup [.int (k : Int), .int (at' ws k)] := by
    show enumF 0 (nms ws) = _
    rw [enum_rng, hl]
    apply List.map_congr_left
    intro k _
    rw [Int.zero_add]
  rw [ee]
  refine loopC_pure (fun d => match d with | .tup [.int k, _] => decide (0 < at' cs k.toNat) | _ => false) (fun d => match d with | .tup [.int k, .int x] => .tup [.int (0 - x), .int k] | _ => .non) (by show seqD M w = _; exact hw) ?_ ?_
  · intro d hd C1 C2 hC
    obtain ⟨k, hk, rfl⟩ := List.mem_map.mp hd
    have hk' := List.mem_range.mp hk
    simp only [s_gT, s_gsC, s_gN, s_gsN, seq_tup, s_wipe0, s_wipe1, s_test, s_op, s_var, s_c, s_tup, s_cons, s_nil]
    refine ⟨_, rfl, rfl, _, _, rfl, _, _, rfl, rfl, _, rfl, _, rfl, s_ixn hc (at_nms hk') ⟨_, rfl, ?_⟩⟩
    simp at hC ⊢
    by_cases e : 0 < at' cs k
    · rw [if_pos e] at hC ⊢; exact ⟨le_size (by decide), by simpa using hC⟩
    · rw [if_neg e] at hC ⊢; exact hC
  · refine ⟨_, (live cs).map fun (k : Nat) => (0 - at' ws k, (k : Int)), rfl, ?_, fun qs hp hq => ?_⟩
    · rw [List.nil_append, List.filter_map, List.map_map, List.map_map]; rfl
    · subst hC1
      refine seq_step fun C2 hC2 => ?_
      simp
      refine ⟨_, rfl, _, rfl, ?_⟩
      have ct : cutD (qs.map pr) none (some 2) = (qs.take 2).map pr := by
        have := cut_take (qs.map pr) 2
        rw [List.map_take]; exact this
      refine ⟨le_size (by rw [ct]; simp; omega), ?_⟩
      rw [ct]
      refine loopC_map (fun d => match d with | .tup [_, k] => k | _ => .non) rfl ?_ ?_
      · intro x hx C1 C2 hC
        obtain ⟨p, hp, rfl⟩ := List.mem_map.mp hx
        simp [pr]
        exact hC
      · have lv : ∀ q ∈ qs, ∃ k ∈ live cs, q = (0 - at' ws k, (k : Int)) := fun q hq => by
          obtain ⟨k, hk, e⟩ := List.mem_map.mp (hp.mem_iff.mp hq)
          exact ⟨k, hk, e.symm⟩
        have e1 : ((qs.take 2).map pr).map (fun d => match d with | .tup [_, k] => k | _ => Dv.non) = ((qs.take 2).map fun q => q.2.toNat).map fun (k : Nat) => Dv.int (k : Int) := by
          rw [List.map_map, List.map_map]
          apply List.map_congr_left
          intro q hq
          obtain ⟨k, _, rfl⟩ := lv q (List.mem_of_mem_take hq)
          rfl
        rw [List.nil_append, e1]
        refine ret_now (h (qs.map fun q => 0 - q.1) _ ⟨List.pairwise_map.mpr (hq.imp fun {p q} hh => by
          unfold leP at hh
          omega), ?_, ?_, ?_, ?_⟩)
        · have := hp.map fun q : Int × Int => 0 - q.1
          rw [List.map_map] at this
          refine this.trans (List.Perm.of_eq ?_)
          apply List.map_congr_left
          intro k _
          show 0 - (0 - at' ws k) = at' ws k
          omega
        · rw [List.map_map, ← List.map_take]
          apply List.map_congr_left
          intro q hq
          obtain ⟨k, _, rfl⟩ := lv q (List.mem_of_mem_take hq)
          show at' ws ((k : Int).toNat) = 0 - (0 - at' ws k)
          simp
        · have nd : (qs.map fun q => q.2.toNat).Nodup := by
            have := (hp.map fun q : Int × Int => q.2.toNat)
            rw [List.map_map] at this
            have e2 : (live cs).map ((fun q : Int × Int => q.2.toNat) ∘ fun (k : Nat) => (0 - at' ws k, (k : Int))) = live cs := by
              conv => rhs; rw [← List.map_id (live cs)]
              apply List.map_congr_left
              intro k _
              show ((k : Int)).toNat = k
              simp
            rw [e2] at this
            exact this.nodup_iff.mpr (live_nd cs)
          have : ((qs.take 2).map fun q => q.2.toNat).Sublist (qs.map fun q => q.2.toNat) := (List.take_sublist 2 qs).map _
          exact this.nodup nd
        · intro k hk
          obtain ⟨q, hq, rfl⟩ := List.mem_map.mp hk
          obtain ⟨k', hk', rfl⟩ := lv q (List.mem_of_mem_take hq)
          simpa using hk'
/-- what is enough -/
def IsDue (cs ws : List Int) (v : Int) : Prop := ∃ D, Desc D ∧ D.Perm ((live cs).map (at' ws)) ∧ v = due D
theorem due_uniq {cs ws : List Int} {v v' : Int} (h : IsDue cs ws v) (h' : IsDue cs ws v') : v = v' := by
  obtain ⟨D, h1, h2, rfl⟩ := h
  obtain ⟨D', h3, h4, rfl⟩ := h'
  rw [desc_uniq h1 h3 (h2.trans h4.symm)]
def S_enough_slack : DSp := fun ds M P _ => ∃ c w cs ws, ds = [c, w] ∧ Arg M c w cs ws ∧ ∀ v, IsDue cs ws v → P (.int v) M
theorem due_two {D : List Int} {x y : Int} (h : D.take 2 = [x, y]) : due D = x + y - 1 := by
  match D, h with
  | a :: b :: _, h => simp at h; show a + b - 1 = _; omega
theorem due_less {D : List Int} (h : (D.take 2).length ≠ 2) : due D = 0 := by
  match D, h with
  | [], _ => rfl
  | [_], _ => rfl
  | a :: b :: _, h => simp at h
theorem p_enough_slack : ∀ ds M Pd X, MemOk M → S_enough_slack ds M Pd X → t_enough_slack S_heaviest (dkOf M.length Pd X) (startD N_enough_slack ds) M := by
  rintro _ M Pd X - ⟨c, w, cs, ws, rfl, ar, h⟩
  have ar' := ar
  obtain ⟨hc, hw, hl, hz, sc, sw⟩ := ar'
  show t_enough_slack S_heaviest (dkOf M.length Pd X) [some c, some w, none] M
  have rt : ∀ d, Pd d M → (dkOf M.length Pd X).rt d M := fun d h => ret_now h
  unfold t_enough_slack
  refine seq_step fun C1 hC1 => ?_
  simp
  refine ⟨c, w, cs, ws, rfl, ar, fun D ks hv => ?_⟩
  obtain ⟨h1, h2, h3, h4, h5⟩ := hv
  subst hC1
  simp
  by_cases e : ks.length = 2
  · refine .inr ⟨by omega, ?_⟩
    match ks, e with
    | [k0, k1], _ =>
      have l0 := mem_live.mp (h5 k0 (by simp))
      have l1 := mem_live.mp (h5 k1 (by simp))
      refine s_ix (x := [.int (k0 : Int), .int (k1 : Int)]) (v := .int (k0 : Int)) rfl rfl (s_ixn hw (at_nms (by omega)) (s_ix (x := [.int (k0 : Int), .int (k1 : Int)]) (v := .int (k1 : Int)) rfl rfl (s_ixn hw (at_nms (by omega)) ?_)))
      simp
      refine rt _ (h _ ⟨D, h1, h2, ?_⟩)
      rw [due_two (x := at' ws k0) (y := at' ws k1) (by rw [← h3]; rfl)]
  · refine .inl ⟨by omega, rt _ (h _ ⟨D, h1, h2, ?_⟩)⟩
    rw [due_less]
    rw [← h3, List.length_map]; exact e
theorem p__law_enough : ∀ ds M Pd X, MemOk M → S_enough_slack ds M Pd X → t__law_enough (dkOf M.length Pd X) (startD N__law_enough ds) M := by
  rintro _ M Pd X - ⟨c, w, cs, ws, rfl, ar, h⟩
  have ar' := ar
  obtain ⟨hc, hw, hl, hz, sc, sw⟩ := ar'
  show t__law_enough (dkOf M.length Pd X) [some c, some w, none, none, none] M
  have rt : ∀ d, Pd d M → (dkOf M.length Pd X).rt d M := fun d h => ret_now h
  unfold t__law_enough
  refine seq_step fun C1 hC1 => ?_
  simp [hw, hc]
  refine ⟨le_size (by simp [zipD]; omega), ?_⟩
  rw [zip_nn, zip_rng ws cs hl]
  refine loopC_pure (fun d => match d with | .tup [_, .int k] => decide (0 < k) | _ => false) (fun d => match d with | .tup [x, _] => x | _ => .non) ⟨hw, hc⟩ ?_ ?_
  · intro d hd C1 C2 hC
    obtain ⟨p, hp, rfl⟩ := List.mem_map.mp hd
    simp only [s_gT, s_gsC, s_gN, s_gsN, seq_tup, s_wipe0, s_wipe1, s_test, s_op, s_var, s_c, s_gt]
    refine ⟨_, rfl, rfl, _, _, rfl, _, _, rfl, rfl, _, rfl, _, rfl, ?_⟩
    simp at hC ⊢
    exact hC
  · have e1 : ((((List.range cs.length).map fun k => (at' ws k, at' cs k)).map fun p : Int × Int => Dv.tup [.int p.1, .int p.2]).filter (fun d => match d with | .tup [_, .int k] => decide (0 < k) | _ => false)).map (fun d => match d with | .tup [x, _] => x | _ => Dv.non) = nms ((live cs).map (at' ws)) := by
      rw [List.filter_map, List.filter_map, List.map_map, List.map_map]
      show _ = ((live cs).map (at' ws)).map Dv.int
      rw [List.map_map]; rfl
    rw [List.nil_append, e1]
    refine ⟨_, (live cs).map (at' ws), rfl, rfl, fun ns hp hs => ?_⟩
    have hD : Desc ns.reverse := List.pairwise_reverse.mpr hs
    have pD : ns.reverse.Perm ((live cs).map (at' ws)) := (List.reverse_perm ns).trans hp
    have ct : cutD (nms ns) (some (-2)) none = nms (ns.drop (ns.length - 2)) := by
      unfold cutD
      have : HT.sIx (nms ns).length 0 (some (-2)) = ns.length - 2 := by
        simp only [HT.sIx]
        rw [if_pos (show (-2 : Int) < 0 by decide), List.length_map]; omega
      rw [this, HT.sIx_none, List.length_map]
      show _ = (ns.drop (ns.length - 2)).map Dv.int
      rw [List.map_drop, List.take_of_length_le (by simp)]
    have tk : ns.drop (ns.length - 2) = (ns.reverse.take 2).reverse := by rw [List.take_reverse, List.reverse_reverse]
    refine ⟨_, rfl, ?_⟩
    show C1 [some c, some w, some (.lst (cutD (nms ns) (some (-2)) none)), none, none] M
    rw [ct]
    generalize hq : ns.drop (ns.length - 2) = q at tk
    subst hC1
    simp
    by_cases e : q.length = 2
    · obtain ⟨x, y, rfl⟩ : ∃ x y, q = [x, y] := by
        match q, e with
        | [x, y], _ => exact ⟨x, y, rfl⟩
      refine .inr ⟨by simp, s_sum (ns := [x, y]) rfl ?_⟩
      simp
      refine rt _ (h _ ⟨_, hD, pD, ?_⟩)
      rw [due_two (x := y) (y := x) (by
        have := congrArg List.reverse tk
        rw [List.reverse_reverse] at this
        rw [← this]; rfl)]
      omega
    · refine .inl ⟨by omega, rt _ (h _ ⟨_, hD, pD, ?_⟩)⟩
      rw [due_less]
      have := congrArg List.length tk
      rw [List.length_reverse] at this
      omega
def unitR (n k : Nat) : Rw := (List.range n).map fun j => if j = k then 1 else 0
def SlackG (n : Nat) (G : Dv → Prop) (ks : List Nat) : Prop := match ks with
  | [k0, k1] => G (.tup [.int 1, tupI (unitR n k0), tupI (unitR n k1)])
  | _ => G .non
def S_slack_cut : DSp := fun ds M P _ => ∃ c w cs ws, ds = [c, w] ∧ Arg M c w cs ws ∧ ∀ D ks, Heavy cs ws D ks → SlackG cs.length (fun d => P d M) ks
theorem heavy_len {cs ws D : List Int} {ks : List Nat} (h : Heavy cs ws D ks) : ks.length ≤ 2 := by
  have := congrArg List.length h.2.2.1
  rw [List.length_map, List.length_take] at this
  omega
theorem p_slack_cut : ∀ ds M Pd X, MemOk M → S_slack_cut ds M Pd X → t_slack_cut S_heaviest (dkOf M.length Pd X) (startD N_slack_cut ds) M := by
  rintro _ M Pd X - ⟨c, w, cs, ws, rfl, ar, h⟩
  have ar' := ar
  obtain ⟨hc, hw, hl, hz, sc, sw⟩ := ar'
  show t_slack_cut S_heaviest (dkOf M.length Pd X) [some c, some w, none, none, none, none] M
  have rt : ∀ d, Pd d M → (dkOf M.length Pd X).rt d M := fun d h => ret_now h
  unfold t_slack_cut
  refine seq_step fun C1 hC1 => ?_
  simp
  refine ⟨c, w, cs, ws, rfl, ar, fun D ks hv => ?_⟩
  have h2 := heavy_len hv
  have hk := h D ks hv
  subst hC1
  refine seq_step fun C2 hC2 => ?_
  simp
  by_cases e : ks.length = 2
  · refine .inl ⟨by omega, ?_⟩
    match ks, e, hk with
    | [k0, k1], _, hk =>
      subst hC2
      refine seq_step fun C3 hC3 => ?_
      simp
      refine ⟨le_size (by decide), loopC_map (fun d => match d with | .int k => tupI (unitR cs.length k.toNat) | _ => .non) rfl ?_ ?_⟩
      · intro x hx C1 C2 hC
        obtain ⟨k, rfl⟩ : ∃ k : Nat, x = .int (k : Int) := by
          simp at hx
          rcases hx with rfl | rfl <;> exact ⟨_, rfl⟩
        simp [s_len hc]
        refine ⟨by omega, le_size (by rw [rng_nat]; simp; omega), ?_⟩
        rw [rng_nat]
        refine loopC_map (fun d => match d with | .int j => .int (if j = (k : Int) then 1 else 0) | _ => .non) trivial ?_ ?_
        · intro y hy C3 C4 hC3
          obtain ⟨j, hj, rfl⟩ := List.mem_map.mp hy
          simp at hC3 ⊢
          by_cases e : (j : Int) = (k : Int)
          · rw [if_pos e] at hC3; exact .inr ⟨e, hC3⟩
          · rw [if_neg e] at hC3; exact .inl ⟨e, hC3⟩
        · rw [s_tuple (x := nms (unitR cs.length k)) ?_]
          · exact hC
          · simp [unitR, Function.comp_def]
            intro a _
            split <;> split <;> first | rfl | omega
      · subst hC3
        simp
        refine s_ix (x := [tupI (unitR cs.length k0), tupI (unitR cs.length k1)]) (v := tupI (unitR cs.length k0)) rfl rfl (s_ix (x := [tupI (unitR cs.length k0), tupI (unitR cs.length k1)]) (v := tupI (unitR cs.length k1)) rfl rfl ⟨le_size (by decide), rt _ hk⟩)
  · refine .inr ⟨by omega, rt _ ?_⟩
    match ks, e, hk, h2 with
    | [], _, hk, _ => exact hk
    | [_], _, hk, _ => exact hk
    | _ :: _ :: _, e, _, h2 => exact absurd (by simp at h2 ⊢; omega) e
end D.k33
end

section
set_option Elab.async false
set_option linter.all false
set_option maxRecDepth 100000
set_option maxHeartbeats 2000000
set_option autoImplicit false
/-! k33: draws. -/
namespace D.k33
open PySem PySem.Spec PyProof.Rows L2 D D.P33
/-- at i the deal, at j its cells -/
structure Dl (i j : Nat) (M : Mem) (xs : List Int) (b : Int) : Prop where
  di : M[i]? = some (.lst [.ref j, .int b])
  dj : M[j]? = some (.lst (nms xs))
  ne : i ≠ j
  pos : ∀ x ∈ xs, 0 ≤ x
  len : xs.length ≤ 1000
  b0 : 0 ≤ b
  b1 : b < 2147483647
def Deal (i j : Nat) (M : Mem) : Prop := ∃ xs b, Dl i j M xs b
structure To (i j : Nat) (M M' : Mem) : Prop where
  len : M'.length = M.length
  out : ∀ p, p ≠ i → p ≠ j → M'[p]? = M[p]?
  dl : Deal i j M'
theorem To.refl {i j : Nat} {M : Mem} (h : Deal i j M) : To i j M M := ⟨rfl, fun _ _ _ => rfl, h⟩
theorem To.trans {i j : Nat} {M M1 M2 : Mem} (h : To i j M M1) (k : To i j M1 M2) : To i j M M2 := ⟨k.len.trans h.len, fun p a b => (k.out p a b).trans (h.out p a b), k.dl⟩
theorem seqD_ref {M : Mem} {i : Nat} {l : List Dv} (h : M[i]? = some (.lst l)) : seqD M (.ref i) = some l := by
  show (match M[i]? with | some (.lst l) => some l | _ => none) = _; rw [h]
theorem res_ref {M : Mem} {i : Nat} {l : List Dv} (h : M[i]? = some (.lst l)) : res M (.ref i) = .lst l := by
  show (match M[i]? with | some (.lst l) => Dv.lst l | _ => .ref i) = _; rw [h]
theorem okDs_nms (k : Nat) : ∀ xs : List Int, okDs (nms xs) k = true
  | [] => rfl
  | x :: xs => by show (true && okDs (nms xs) k) = true; rw [okDs_nms k xs]; rfl
theorem ne_nil {M : Mem} {j : Nat} {xs : List Int} {G : Dv → Prop} (h : M[j]? = some (.lst (nms xs))) (g : G (.bl (!xs.isEmpty))) : gNe (.ref j) (.lst []) M G := by
  have e : pyEq (res M (.ref j)) (res M (.lst [])) = xs.isEmpty := by
    rw [res_ref h]
    show pyEqs (nms xs) [] = _
    cases xs <;> rfl
  refine ⟨by rw [res_ref h]; exact okDs_nms 59 xs, rfl, ?_⟩
  rw [e]; exact g
theorem set_self {M : Mem} {j : Nat} {o o' : MO} (h : M[j]? = some o) : (M.set j o')[j]? = some o' := by
  rw [List.getElem?_set_self (List.getElem?_eq_some_iff.mp h).1]
theorem set_other {M : Mem} {i j : Nat} {o : MO} (h : i ≠ j) : (M.set j o)[i]? = M[i]? := List.getElem?_set_ne (Ne.symm h)
theorem Dl.cells {i j : Nat} {M : Mem} {xs ys : List Int} {b : Int} (h : Dl i j M xs b) (hp : ∀ y ∈ ys, 0 ≤ y) (hl : ys.length ≤ 1000) : Dl i j (M.set j (.lst (nms ys))) ys b := ⟨(set_other h.ne).trans h.di, set_self h.dj, h.ne, hp, hl, h.b0, h.b1⟩
theorem Dl.blend {i j : Nat} {M : Mem} {xs : List Int} {b c : Int} (h : Dl i j M xs b) (h0 : 0 ≤ c) (h1 : c < 2147483647) : Dl i j (M.set i (.lst [.ref j, .int c])) xs c := ⟨set_self h.di, (set_other (Ne.symm h.ne)).trans h.dj, h.ne, h.pos, h.len, h0, h1⟩
theorem to_cells {i j : Nat} {M : Mem} {xs ys : List Int} {b : Int} (h : Dl i j M xs b) (hp : ∀ y ∈ ys, 0 ≤ y) (hl : ys.length ≤ 1000) : To i j M (M.set j (.lst (nms ys))) := ⟨List.length_set .., fun p _ h2 => set_other h2, _, _, h.cells hp hl⟩
theorem to_blend {i j : Nat} {M : Mem} {xs : List Int} {b c : Int} (h : Dl i j M xs b) (h0 : 0 ≤ c) (h1 : c < 2147483647) : To i j M (M.set i (.lst [.ref j, .int c])) := ⟨List.length_set .., fun p h1 _ => set_other h1, _, _, h.blend h0 h1⟩
def S__law_any : DSp := fun ds M P _ => ∃ (i j : Nat) (bound : Int), ds = [.ref i, .int bound] ∧ Deal i j M ∧ 0 < bound ∧ Sm bound ∧ ∀ r M', 0 ≤ r → r < bound → To i j M M' → P (.int r) M'
theorem nms_last {xs : List Int} {x : Int} : nms (xs ++ [x]) = nms xs ++ [.int x] := by simp
theorem atI_last (ys : List Int) (x : Int) : atI (nms (ys ++ [x])) (-1) = some (.int x) := by
  have hl : (nms (ys ++ [x])).length = ys.length + 1 := by simp
  have e : ixN (nms (ys ++ [x])).length (-1) = some ys.length := by
    unfold ixN
    rw [hl, if_neg (by decide), if_pos (by omega)]
    congr 1
    omega
  unfold atI
  rw [e]
  show (nms (ys ++ [x]))[ys.length]? = _
  simp
theorem nil_or_last {α : Type} (l : List α) : l = [] ∨ ∃ ys x, l = ys ++ [x] := by
  by_cases h : l = []
  · exact .inl h
  · exact .inr ⟨l.dropLast, l.getLast h, (List.dropLast_concat_getLast h).symm⟩
theorem p__law_any : ∀ ds M Pd X, MemOk M → S__law_any ds M Pd X → t__law_any (dkOf M.length Pd X) (startD N__law_any ds) M := by
  rintro _ M Pd X - ⟨i, j, bound, rfl, hd, hb, sb, h⟩
  show t__law_any (dkOf M.length Pd X) [some (.ref i), some (.int bound), none] M
  have rt : ∀ d M', Pd d M' → (dkOf M.length Pd X).rt d M' := fun d M' h => ret_now h
  have lb := sm_log sb
  unfold t__law_any
  refine seq_step fun C1 hC1 => ?_
  refine ⟨fun q l M' => l = [some (.ref i), some (.int bound), none] ∧ ∃ xs b, Dl i j M' xs b ∧ To i j M M' ∧ q = xs.length, ?_, ?_⟩
  · obtain ⟨xs, b, hdl⟩ := hd
    exact ⟨xs.length, rfl, xs, b, hdl, To.refl ⟨xs, b, hdl⟩, rfl⟩
  · rintro q l M' ⟨rfl, xs, b, hdl, to, rfl⟩
    have s1 := seqD_ref hdl.di
    have s2 := seqD_ref hdl.dj
    -- the loop's end
    have fin : C1 [some (.ref i), some (.int bound), none] M' := by
      subst hC1
      refine seq_step fun C2 hC2 => ?_
      simp
      refine s_ix (v := .ref j) s1 rfl (ne_nil hdl.dj ?_)
      rcases nil_or_last xs with rfl | ⟨ys, x, rfl⟩
      · simp
        subst hC2
        refine seq_step fun C3 hC3 => ?_
        simp
        refine s_ix (v := .int b) s1 rfl ?_
        simp
        have n0 := Int.emod_nonneg (b * 40693 + 71) (show (2147483647 : Int) ≠ 0 by decide)
        have n1 := Int.emod_lt_of_pos (b * 40693 + 71) (show (0 : Int) < 2147483647 by decide)
        refine ⟨?_, _, hdl.di, 1, rfl, ?_⟩
        · have : b.natAbs.log2 < 31 := log_lt (by have := hdl.b0; have := hdl.b1; omega) (by decide)
          have : (40693 : Nat).log2 < 20 := by decide
          omega
        · subst hC3
          have hd2 := hdl.blend n0 n1
          simp
          refine s_ix (v := .int ((b * 40693 + 71) % 2147483647)) (seqD_ref hd2.di) rfl ?_
          simp
          exact ⟨by decide, hb, rt _ _ (h _ _ (Int.emod_nonneg _ (by omega)) (Int.emod_lt_of_pos _ hb) (to.trans (to_blend hdl n0 n1)))⟩
      · have hx : 0 ≤ x := hdl.pos x (by simp)
        have hys : ∀ y ∈ ys, 0 ≤ y := fun y hy => hdl.pos y (by simp [hy])
        have hlen : ys.length ≤ 999 := by have := hdl.len; simp at this; omega
        simp
        have d1 := hdl.cells (ys := ys) hys (by omega)
        have t1 := to_cells hdl (ys := ys) hys (by omega)
        have ed : (nms (ys ++ [x])).dropLast = nms ys := by simp
        refine s_ix (v := .ref j) s1 rfl ⟨j, rfl, _, hdl.dj, .int x, by simp, ?_⟩
        rw [ed]
        simp
        refine s_ix (v := .ref j) (seqD_ref d1.di) rfl ⟨j, rfl, ⟨_, d1.dj⟩, ⟨hb, by omega⟩, _, d1.dj, by rw [sizeLine_eq]; simp; omega, ?_⟩
        simp
        have hq : 0 ≤ x / bound := Int.ediv_nonneg hx (by omega)
        refine ⟨hb, rt _ _ (h _ _ (Int.emod_nonneg _ (by omega)) (Int.emod_lt_of_pos _ hb) ?_)⟩
        have := to_cells hdl (ys := ys ++ [x / bound]) (fun y hy => by
          rcases List.mem_append.mp hy with hy | hy
          · exact hys y hy
          · have : y = x / bound := by simpa using hy
            subst this; exact hq) (by simp; omega)
        rw [nms_last] at this
        exact to.trans this
    simp
    refine s_ix (v := .ref j) s1 rfl (ne_nil hdl.dj ?_)
    rcases nil_or_last xs with rfl | ⟨ys, x, rfl⟩
    · simp
      exact fin
    · simp
      refine s_ix (v := .ref j) s1 rfl (s_ix (v := .int x) s2 (atI_last ys x) ?_)
      · simp
        by_cases e : x = 0
        · refine .inr ⟨e, ?_⟩
          have hys : ∀ y ∈ ys, 0 ≤ y := fun y hy => hdl.pos y (by simp [hy])
          have hlen : ys.length ≤ 999 := by have := hdl.len; simp at this; omega
          refine ⟨fun l M2 => l = [some (.ref i), some (.int bound), none] ∧ M2 = M'.set j (.lst (nms ys)), ?_, s_ix (v := .ref j) s1 rfl ⟨j, rfl, _, hdl.dj, ⟨.int x, by simp⟩, rfl, by simp⟩⟩
          rintro l' M2 ⟨rfl, rfl⟩
          exact ⟨ys.length, by omega, rfl, ys, ⟨b, hdl.cells hys (by omega)⟩, to.trans (to_cells hdl hys (by omega)), rfl⟩
        · exact .inl ⟨e, fin⟩
def S__law_of : DSp := fun ds M P _ => ∃ (i j : Nat) (l : List Dv), ds = [.ref i, .lst l] ∧ Deal i j M ∧ 0 < l.length ∧ l.length ≤ 1000 ∧ ∀ d M', d ∈ l → To i j M M' → P d M'
theorem sm_le {i : Int} (h : i.natAbs ≤ 10 ^ 40) : Sm i := by
  unfold Sm
  have : (10 : Nat) ^ 40 < 2 ^ 300 := by decide
  omega
theorem p__law_of : ∀ ds M Pd X, MemOk M → S__law_of ds M Pd X → t__law_of S__law_any (dkOf M.length Pd X) (startD N__law_of ds) M := by
  rintro _ M Pd X - ⟨i, j, l, rfl, hd, h0, h1, h⟩
  show t__law_of S__law_any (dkOf M.length Pd X) [some (.ref i), some (.lst l)] M
  unfold t__law_of
  simp
  refine ⟨i, j, (l.length : Int), rfl, hd, by omega, sm_le (by omega), fun r M' r0 r1 to => ?_⟩
  obtain ⟨k, rfl⟩ := Int.eq_ofNat_of_zero_le r0
  have hk : k < l.length := by omega
  exact s_ixn (x := l) rfl (List.getElem?_eq_getElem hk) (ret_now (h _ _ (List.getElem_mem hk) to))
def S__law_great : DSp := fun ds M P _ => ∃ (i j : Nat) (bound : Int), ds = [.ref i, .int bound] ∧ Deal i j M ∧ 0 < bound ∧ ∀ r M', 0 ≤ r → r < bound → To i j M M' → P (.int r) M'
theorem p__law_great : ∀ ds M Pd X, MemOk M → S__law_great ds M Pd X → t__law_great S__law_any (dkOf M.length Pd X) (startD N__law_great ds) M := by
  rintro _ M Pd X - ⟨i, j, bound, rfl, hd, hb, h⟩
  show t__law_great S__law_any (dkOf M.length Pd X) [some (.ref i), some (.int bound), none, none] M
  unfold t__law_great
  refine seq_step fun C1 hC1 => ?_
  simp
  subst hC1
  refine seq_step fun C2 hC2 => ?_
  simp
  refine loopS_ix (fun k l M' => To i j M M' ∧ ∃ (n : Int) (o : Option Dv), l = [some (.ref i), some (.int bound), some (.int n), o] ∧ 0 ≤ n ∧ n < 100000 ^ k) (fun _ _ _ _ => trivial) ⟨To.refl hd, 0, none, rfl, by omega, by simp⟩ ?_ ?_
  · rintro k x l M' hx ⟨to, n, o, rfl, n0, n1⟩ C hC
    have hk : k < 6 := by
      have := (List.getElem?_eq_some_iff.mp hx).1
      simp [rngD] at this; exact this
    simp
    have ln : n.natAbs.log2 < 120 := by
      refine log_lt ?_ (by decide)
      have e : (100000 : Int) ^ k ≤ 10 ^ 30 := by
        have : k = 0 ∨ k = 1 ∨ k = 2 ∨ k = 3 ∨ k = 4 ∨ k = 5 := by omega
        rcases this with rfl | rfl | rfl | rfl | rfl | rfl <;> decide
      have : (10 : Int) ^ 30 < 2 ^ 120 := by decide
      have e2 : (n.natAbs : Int) = n := by omega
      have : (n.natAbs : Int) < 2 ^ 120 := by omega
      exact_mod_cast this
    have l5 : (100000 : Nat).log2 < 20 := by decide
    refine ⟨by omega, i, j, 100000, rfl, to.dl, by decide, sm_le (by decide), fun r M2 r0 r1 to2 => ?_⟩
    simp
    refine hC _ _ ⟨to.trans to2, _, _, rfl, by omega, ?_⟩
    rw [Int.pow_succ]
    omega
  · rintro l M' ⟨to, n, o, rfl, n0, n1⟩
    subst hC2
    simp
    exact ⟨hb, ret_now (h _ _ (Int.emod_nonneg _ (by omega)) (Int.emod_lt_of_pos _ hb) to)⟩
def S__law_draw (K : PySem.W.Frag) : DSp := fun ds M P _ => ∃ (d : Dv) (ns : List Int) (salt : Int), ds = [d, .int salt] ∧ ScrD K d ns ∧ ns.length ≤ 63 ∧ 0 ≤ salt ∧ salt ≤ 1000 ∧
  ∀ (xs : List Int) (b : Int), (∀ x ∈ xs, 0 ≤ x) → xs.length ≤ 63 → 0 ≤ b → b < 2147483647 → P (.ref (M.length + 1)) (M ++ [.lst (nms xs), .lst [.ref M.length, .int b]])
theorem cut_nms (ns : List Int) (k : Nat) : cutD (nms ns) none (some (k : Int)) = nms (ns.take k) := by
  rw [cut_take]
  show (ns.map Dv.int).take k = (ns.take k).map Dv.int
  rw [List.map_take]
theorem p__law_draw (K : PySem.W.Frag) : ∀ ds M Pd X, MemOk M → S__law_draw K ds M Pd X → t__law_draw K (dkOf M.length Pd X) (startD N__law_draw ds) M := by
  rintro _ M Pd X - ⟨d, ns, salt, rfl, hd, hl, s0, s1, h⟩
  show t__law_draw K (dkOf M.length Pd X) [some d, some (.int salt), none, none, none] M
  unfold t__law_draw
  refine seq_step fun C1 hC1 => ?_
  simp
  refine ⟨ns, hd, le_size (by omega), ?_⟩
  have ct : cutD (nms ns) none (some 48) = nms (ns.take 48) := cut_nms ns 48
  rw [ct]
  refine ⟨le_size (by simp; omega), loopC_map (fun d => match d with | .int i => .int (i.natAbs : Nat) | _ => .non) rfl ?_ ?_⟩
  · intro x hx C1 C2 hC
    obtain ⟨i, _, rfl⟩ := List.mem_map.mp hx
    simp
    exact hC
  · have e1 : (nms (ns.take 48)).map (fun d => match d with | .int i => .int (i.natAbs : Nat) | _ => Dv.non) = nms ((ns.take 48).map fun i => (i.natAbs : Int)) := by
      rw [List.map_map]
      show _ = List.map Dv.int (List.map _ _)
      rw [List.map_map]; rfl
    rw [List.nil_append, e1]
    generalize hcs : (ns.take 48).map (fun i => (i.natAbs : Int)) = cs
    have cl : cs.length ≤ 48 := by rw [← hcs]; simp; omega
    have cp : ∀ x ∈ cs, 0 ≤ x := by
      rw [← hcs]; intro x hx
      obtain ⟨i, _, rfl⟩ := List.mem_map.mp hx
      omega
    subst hC1
    refine seq_step fun C2 hC2 => ?_
    simp
    have l1 : (104729 : Nat).log2 < 20 := by decide
    have l2 : salt.natAbs.log2 < 20 := log_lt (by omega) (by decide)
    refine ⟨by omega, ?_⟩
    subst hC2
    refine seq_step fun C3 hC3 => ?_
    simp
    refine loopS_ix (fun k l M' => M' = M ∧ ∃ (b : Int) (o : Option Dv), l = [some d, some (.int salt), some (.lst (nms cs)), some (.int b), o] ∧ 0 ≤ b ∧ b < 2147483647) (fun k l M' ⟨e, _⟩ => by subst e; rfl) ⟨rfl, _, none, rfl, by omega, by omega⟩ ?_ ?_
    · rintro k x l M' hx ⟨rfl, b, o, rfl, b0, b1⟩ C hC
      obtain ⟨i, hi, rfl⟩ : ∃ i ∈ cs, x = .int i := by
        have := List.mem_of_getElem? hx
        obtain ⟨i, hi, rfl⟩ := List.mem_map.mp this
        exact ⟨i, hi, rfl⟩
      simp
      have l3 : (48271 : Nat).log2 < 20 := by decide
      have l4 : b.natAbs.log2 < 31 := log_lt (by omega) (by decide)
      refine ⟨by omega, hC _ _ ⟨rfl, _, _, rfl, Int.emod_nonneg _ (by decide), Int.emod_lt_of_pos _ (by decide)⟩⟩
    · rintro l M' ⟨rfl, b, o, rfl, b0, b1⟩
      subst hC3
      simp
      refine ⟨le_size (by omega), loopC_pure (fun d => match d with | .int i => decide (10 ^ 18 ≤ i) | _ => false) id (show chkD (.lst (nms cs)) (nms cs) M' from rfl) ?_ ?_⟩
      · intro x hx C1 C2 hC
        obtain ⟨i, _, rfl⟩ := List.mem_map.mp hx
        simp at hC ⊢
        by_cases e : 1000000000000000000 ≤ i
        · rw [if_pos e] at hC; exact .inr ⟨e, hC⟩
        · rw [if_neg e] at hC; exact .inl ⟨by omega, hC⟩
      · have e2 : ([] ++ ((nms cs).filter (fun d : Dv => match d with | .int i => decide (10 ^ 18 ≤ i) | _ => false)).map id).reverse = nms (cs.filter fun i => decide (10 ^ 18 ≤ i)).reverse := by
          rw [List.nil_append, List.map_id, List.filter_map]
          show _ = List.map Dv.int (List.reverse _)
          rw [List.map_reverse]; rfl
        rw [e2]
        refine ⟨le_size (by decide), ret_now ?_⟩
        have := h (cs.filter fun i => decide (10 ^ 18 ≤ i)).reverse b (fun x hx => cp x (List.mem_filter.mp (List.mem_reverse.mp hx)).1) (by
          have := List.length_filter_le (fun i => decide ((10 : Int) ^ 18 ≤ i)) cs
          rw [List.length_reverse]; omega) b0 b1
        simpa using this
end D.k33
end

section
set_option Elab.async false
set_option linter.all false
set_option maxRecDepth 100000
set_option maxHeartbeats 2000000
set_option autoImplicit false
/-! k33: all rows, rows that are reached. -/
namespace D.k33
open PySem PySem.Spec PyProof.Rows L2 D D.P33
abbrev rowsD (rs : List Rw) : Dv := .lst (rs.map tupI)
def rowsL (cs ws : List Int) (lo hi : Int) : List Rw := (allR cs).filter fun r => decide (lo ≤ wsum ws r) && decide (wsum ws r ≤ hi)
theorem mem_rowsL {cs ws : List Int} {lo hi : Int} {r : Rw} : r ∈ rowsL cs ws lo hi ↔ InR cs ws lo hi r := by
  unfold rowsL InR
  rw [List.mem_filter, (allR_ok _ cs rfl).1 r]
  simp
theorem rowsL_nd (cs ws : List Int) (lo hi : Int) : (rowsL cs ws lo hi).Nodup := List.Pairwise.filter _ (allR_ok _ cs rfl).2
def S__law_rows : DSp := fun ds M P _ => ∃ c w lo hi cs ws, ds = [c, w, .int lo, .int hi] ∧ Arg M c w cs ws ∧ cs.length ≤ 3 ∧ (∀ x ∈ cs, 0 ≤ x ∧ x ≤ 5) ∧ P (rowsD (rowsL cs ws lo hi)) M
theorem rng_upto (c : Int) : rngD 0 (c + 1) = (upto c).map Dv.int := by
  unfold rngD upto
  rw [List.map_map, Int.sub_zero]
  apply List.map_congr_left
  intro i _
  show Dv.int (0 + (i : Int)) = Dv.int (i : Int)
  rw [Int.zero_add]
theorem allR_len : ∀ (cs : List Int), (∀ x ∈ cs, 0 ≤ x ∧ x ≤ 5) → (allR cs).length ≤ 6 ^ cs.length := by
  intro cs
  induction h : cs.length generalizing cs with
  | zero =>
    intro _
    have : cs = [] := List.length_eq_zero_iff.mp h
    subst this; simp [allR]
  | succ n ih =>
    intro hc
    obtain ⟨cs', c, rfl⟩ : ∃ cs' c, cs = cs' ++ [c] := ⟨cs.dropLast, cs.getLast (by intro e; rw [e] at h; simp at h), (List.dropLast_concat_getLast _).symm⟩
    have := ih cs' (by simpa using h) fun x hx => hc x (by simp [hx])
    rw [allR_snoc]
    have hcc := hc c (by simp)
    have w := wider_len (c := c) (m := 6) (by omega) (allR cs')
    rw [Nat.pow_succ]
    omega
theorem take_snoc {α : Type} {l : List α} {k : Nat} {x : α} (h : l[k]? = some x) : l.take (k + 1) = l.take k ++ [x] := by
  rw [List.take_add_one, h]; rfl
theorem p__law_rows : ∀ ds M Pd X, MemOk M → S__law_rows ds M Pd X → t__law_rows S_weighed (dkOf M.length Pd X) (startD N__law_rows ds) M := by
  rintro _ M Pd X - ⟨c, w, lo, hi, cs, ws, rfl, ⟨hc, hw, hl, hz, sc, sw⟩, h3, h5, h⟩
  show t__law_rows S_weighed (dkOf M.length Pd X) [some c, some w, some (.int lo), some (.int hi), none, none, none, none, none] M
  have len216 : ∀ k, (allR (cs.take k)).length ≤ 216 := fun k => by
    have l1 := allR_len (cs.take k) fun x hx => h5 x (List.mem_of_mem_take hx)
    have l2 : (cs.take k).length ≤ 3 := by rw [List.length_take]; omega
    have := Nat.pow_le_pow_right (n := 6) (by omega) l2
    omega
  unfold t__law_rows
  refine seq_step fun C1 hC1 => ?_
  simp
  refine ⟨le_size (by decide), ?_⟩
  subst hC1
  refine seq_step fun C2 hC2 => ?_
  simp [hc]
  refine loopS_ix (fun k l M' => M' = M ∧ ∃ (o5 o6 o7 : Option Dv), l = [some c, some w, some (.int lo), some (.int hi), some (rowsD (allR (cs.take k))), o5, o6, o7, none]) (fun k l M' ⟨e, _⟩ => by subst e; exact hc) ⟨rfl, none, none, none, rfl⟩ ?_ ?_
  · rintro k x l M' hx ⟨rfl, o5, o6, o7, rfl⟩ C hC
    obtain ⟨cap, hcap, rfl⟩ : ∃ cap, cs[k]? = some cap ∧ x = .int cap := by
      have hx' : (cs.map Dv.int)[k]? = some x := hx
      rw [List.getElem?_map] at hx'
      cases e : cs[k]? with
      | none => rw [e] at hx'; cases hx'
      | some y => rw [e] at hx'; cases hx'; exact ⟨y, rfl, rfl⟩
    have hcb := h5 cap (List.mem_of_getElem? hcap)
    simp
    have fl := len216 k
    generalize hf : allR (cs.take k) = f at *
    refine loopS_ix (fun q l M2 => M2 = M' ∧ ∃ (o7 : Option Dv), l = [some c, some w, some (.int lo), some (.int hi), some (rowsD f), some (.int cap), some (rowsD (wider cap (f.take q))), o7, none]) (fun k l M' ⟨e, _⟩ => by subst e; rfl) ⟨rfl, o7, rfl⟩ ?_ ?_
    · rintro q y l M2 hy ⟨rfl, o7, rfl⟩ C5 hC5
      obtain ⟨r, hr, rfl⟩ : ∃ r, f[q]? = some r ∧ y = tupI r := by
        rw [List.getElem?_map] at hy
        cases e : f[q]? with
        | none => rw [e] at hy; cases hy
        | some y => rw [e] at hy; cases hy; exact ⟨y, rfl, rfl⟩
      have hrl : r.length ≤ 3 := by
        have : r ∈ allR (cs.take k) := by rw [hf]; exact List.mem_of_getElem? hr
        have := fit_len (((allR_ok _ _ rfl).1 r).mp this)
        rw [List.length_take] at this; omega
      simp
      rw [rng_upto]
      have ul : (upto cap).length ≤ 6 := by simp [upto]; omega
      refine ⟨by omega, by omega, le_size (by simp; omega), loopC_map (fun d => match d with | .int v => tupI (r ++ [v]) | _ => .non) trivial ?_ ?_⟩
      · intro z hz' C6 C7 hC6
        obtain ⟨v, _, rfl⟩ := List.mem_map.mp hz'
        simp at hC6 ⊢
        refine ⟨le_size (by decide), le_size (by omega), ?_⟩
        have e : Dv.tup (r.map Dv.int ++ [Dv.int v]) = tupI (r ++ [v]) := by simp
        rw [e]; exact hC6
      · rw [s_add_l]
        have wl : (wider cap (f.take q)).length ≤ 6 * 216 := by
          have := wider_len (c := cap) (m := 6) (by omega) (f.take q)
          rw [List.length_take] at this; omega
        refine ⟨by rw [sizeLine_eq]; simp; omega, hC5 _ _ ⟨rfl, some (tupI r), ?_⟩⟩
        rw [take_snoc hr]
        have : wider cap (f.take q ++ [r]) = wider cap (f.take q) ++ (upto cap).map fun v => r ++ [v] := by
          unfold wider; rw [List.flatMap_append]; simp
        rw [this]
        simp [Function.comp_def]
    · rintro l M2 ⟨rfl, o7, rfl⟩
      have tl : f.take (f.map tupI).length = f := by rw [List.length_map]; exact List.take_length
      rw [tl]
      simp
      refine hC _ _ ⟨rfl, some (.int cap), some (rowsD (wider cap f)), o7, ?_⟩
      rw [take_snoc hcap, allR_snoc, hf]
  · rintro l M' ⟨rfl, o5, o6, o7, rfl⟩
    have tl : cs.take (nms cs).length = cs := by rw [List.length_map]; exact List.take_length
    rw [tl]
    have fl := len216 cs.length
    rw [List.take_length] at fl
    subst hC2
    simp
    refine ⟨le_size (by omega), loopC_pure (fun d => match d with | .tup q => (match numsOf q with | some r => decide (lo ≤ wsum ws r) && decide (wsum ws r ≤ hi) | none => false) | _ => false) id (show chkD (rowsD (allR cs)) ((allR cs).map tupI) M' from rfl) ?_ ?_⟩
    · intro x hx C1 C2 hC
      obtain ⟨r, hr, rfl⟩ := List.mem_map.mp hx
      have hfit := ((allR_ok _ cs rfl).1 r).mp hr
      simp only [numsOf_nms] at hC
      simp
      refine ⟨w, tupI r, ws, r, rfl, hw, rfl, by omega, sw, sm_row sc hfit, ?_⟩
      by_cases b1 : lo ≤ wsum ws r
      · by_cases b2 : wsum ws r ≤ hi
        · simp [b1, b2] at hC ⊢; exact hC
        · simp [b1, b2] at hC ⊢; exact hC
      · simp [b1] at hC ⊢; exact hC
    · have e : [] ++ (((allR cs).map tupI).filter (fun d : Dv => match d with | .tup q => (match numsOf q with | some r => decide (lo ≤ wsum ws r) && decide (wsum ws r ≤ hi) | none => false) | _ => false)).map id = (rowsL cs ws lo hi).map tupI := by
        rw [List.nil_append, List.map_id, List.filter_map]
        unfold rowsL
        congr 1
        apply List.filter_congr
        intro r _
        show (match numsOf (nms r) with | some r => decide (lo ≤ wsum ws r) && decide (wsum ws r ≤ hi) | none => false) = _
        rw [numsOf_nms]
      rw [e]
      exact ret_now h
/-! rows that are reached -/
theorem pyEqs_nms : ∀ r s : List Int, pyEqs (nms r) (nms s) = decide (r = s)
  | [], [] => rfl
  | [], _ :: _ => rfl
  | _ :: _, [] => rfl
  | x :: r, y :: s => by
    show ((x == y) && pyEqs (nms r) (nms s)) = _
    rw [pyEqs_nms r s, Bool.eq_iff_iff]
    simp
theorem pyEq_row (r s : Rw) : pyEq (tupI r) (tupI s) = decide (r = s) := pyEqs_nms r s
theorem okD_row (r : Rw) : okD (tupI r) 60 = true := okDs_nms 59 r
theorem okD_row59 (r : Rw) : okD (tupI r) 59 = true := okDs_nms 58 r
theorem okDs_rows : ∀ rs : List Rw, okDs (rs.map tupI) 59 = true
  | [] => rfl
  | r :: rs => by show (okD (tupI r) 59 && okDs (rs.map tupI) 59) = true; rw [okD_row59, okDs_rows rs]; rfl
theorem eq_rows_nil {M : Mem} {rs : List Rw} {G : Dv → Prop} (g : G (.bl rs.isEmpty)) : gEq (rowsD rs) (.lst []) M G := by
  refine ⟨okDs_rows rs, rfl, ?_⟩
  have : pyEq (res M (rowsD rs)) (res M (.lst [])) = rs.isEmpty := by cases rs <;> rfl
  rw [this]; exact g
theorem ne_rows_nil {M : Mem} {rs : List Rw} {G : Dv → Prop} (g : G (.bl (!rs.isEmpty))) : gNe (rowsD rs) (.lst []) M G := by
  refine ⟨okDs_rows rs, rfl, ?_⟩
  have : pyEq (res M (rowsD rs)) (res M (.lst [])) = rs.isEmpty := by cases rs <;> rfl
  rw [this]; exact g
theorem ne_rows {M : Mem} {r s : Rw} {G : Dv → Prop} (g : G (.bl (!decide (r = s)))) : gNe (tupI r) (tupI s) M G := by
  refine ⟨okD_row r, okD_row s, ?_⟩
  have : pyEq (res M (tupI r)) (res M (tupI s)) = decide (r = s) := pyEq_row r s
  rw [this]; exact g
theorem pyIn_rows (r : Rw) : ∀ rs : List Rw, pyIn (tupI r) (rs.map tupI) = decide (r ∈ rs)
  | [] => by simp [pyIn]
  | s :: rs => by
    show (pyEq (tupI s) (tupI r) || pyIn (tupI r) (rs.map tupI)) = _
    rw [pyEq_row, pyIn_rows r rs]
    by_cases e : s = r
    · subst e; simp
    · have e' : ¬ r = s := fun z => e z.symm
      simp [e, e']
theorem in_rows {M : Mem} {r : Rw} {rs : List Rw} {neg : Bool} {G : Dv → Prop} (g : G (.bl (if neg then !decide (r ∈ rs) else decide (r ∈ rs)))) : gIn neg (tupI r) (rowsD rs) M G := by
  refine ⟨rs.map tupI, okD_row r, rfl, okDs_rows rs, ?_⟩
  show G (.bl (if neg then !pyIn (tupI r) (rs.map tupI) else pyIn (tupI r) (rs.map tupI)))
  rw [pyIn_rows]; exact g
def S__law_reached : DSp := fun ds M P _ => ∃ (rs : List Rw) (o : Rw) (n : Nat), ds = [rowsD rs, tupI o] ∧ rs.length ≤ 1000 ∧ n ≤ 1000 ∧ (∀ r, (r = o ∨ r ∈ rs) → r.length = n) ∧ ∀ found, Done rs o found → (∀ r ∈ found, r.length = n) → found.length ≤ 1001 → P (rowsD found) M
theorem mem_map_row {rs : List Rw} {x : Dv} (h : x ∈ rs.map tupI) : ∃ r ∈ rs, x = tupI r := by
  obtain ⟨r, hr, rfl⟩ := List.mem_map.mp h
  exact ⟨r, hr, rfl⟩
def rowD : Dv → Rw
  | .tup l => (numsOf l).getD []
  | _ => []
theorem rowD_tup (r : Rw) : rowD (tupI r) = r := by show (numsOf (nms r)).getD [] = r; rw [numsOf_nms]; rfl
theorem filter_rows (p : Rw → Bool) (rs : List Rw) : ((rs.map tupI).filter fun d => p (rowD d)).map id = (rs.filter p).map tupI := by
  rw [List.map_id, List.filter_map]
  congr 1
  apply List.filter_congr
  intro r _
  show p (rowD (tupI r)) = p r
  rw [rowD_tup]
theorem p__law_reached : ∀ ds M Pd X, MemOk M → S__law_reached ds M Pd X → t__law_reached (dkOf M.length Pd X) (startD N__law_reached ds) M := by
  rintro _ M Pd X - ⟨rs, o, n, rfl, hr, hn, hl, h⟩
  show t__law_reached (dkOf M.length Pd X) [some (rowsD rs), some (tupI o), none, none, none, none, none, none, none] M
  have hl2 : ∀ r s, (r = o ∨ r ∈ rs) → (s = o ∨ s ∈ rs) → r.length = s.length := fun r s h1 h2 => by rw [hl r h1, hl s h2]
  have fl : (rs.filter fun r => decide (r ≠ o)).length ≤ rs.length := List.length_filter_le ..
  -- the end
  have fin : ∀ {l : Loc} {found fresh left : List Rw}, l[2]? = some (some (rowsD found)) → Bfs rs o found fresh left → (fresh = [] ∨ left = []) → (dSeq (dRet (dVar 2)) dNext) (dkOf M.length Pd X) l M := fun {l found fresh left} e b hd => by
    refine ⟨_, e, ?_⟩
    refine ret_now (h found ⟨fresh, left, b, hd⟩ (fun r hr => hl r (b.frs r hr)) ?_)
    have := b.cnt; omega
  unfold t__law_reached
  refine seq_step fun C1 hC1 => ?_
  simp only [s_asg, s_tup, s_cons, s_lst, s_nil, s_var, s_comp, s_iSeq]
  refine ⟨_, rfl, le_size (by simp), _, rfl, le_size (by simp), _, rfl, _, rfl, le_size (by simp; omega), loopC_pure (fun d => (fun r => decide (r ≠ o)) (rowD d)) id (show chkD (rowsD rs) (rs.map tupI) M from rfl) ?_ ?_⟩
  · intro x hx D1 D2 hD
    obtain ⟨r, hr, rfl⟩ := mem_map_row hx
    simp only [s_gN, s_wipe0, s_wipe1, s_test, s_op, s_var]
    refine ⟨_, rfl, _, rfl, ne_rows ⟨_, rfl, ?_⟩⟩
    simp only [rowD_tup] at hD
    by_cases e : r = o
    · simp [e] at hD ⊢; exact hD
    · simp [e] at hD ⊢; exact hD
  · have e0 : List.map id (List.filter (fun d => (fun r => decide (r ≠ o)) (rowD d)) (rs.map tupI)) = (rs.filter fun r => decide (r ≠ o)).map tupI := filter_rows (fun r => decide (r ≠ o)) rs
    rw [List.nil_append, e0]
    simp
    have ef0 : (rs.filter fun r => !decide (r = o)) = rs.filter fun r => decide (r ≠ o) := List.filter_congr fun r _ => by simp
    rw [ef0]
    refine ⟨le_size (by decide), ?_⟩
    subst hC1
    refine seq_step fun C2 hC2 => ?_
    simp
    refine ⟨by omega, ?_⟩
    refine loopS_ix (fun k l M' => M' = M ∧ ∃ (found fresh left : List Rw) (o5 o6 o7 o8 : Option Dv), l = [some (rowsD rs), some (tupI o), some (rowsD found), some (rowsD fresh), some (rowsD left), o5, o6, o7, o8] ∧ Bfs rs o found fresh left ∧ (fresh = [] ∨ left.length + k ≤ (rs.filter fun r => decide (r ≠ o)).length) ∧ fresh.length ≤ 1001) (fun _ _ _ _ => trivial) ⟨rfl, [o], [o], rs.filter fun r => decide (r ≠ o), none, none, none, none, by rw [← ef0]; rfl, bfs_start, .inr (Nat.le_refl _), by simp⟩ ?_ ?_
    · rintro k x l M' hx ⟨rfl, found, fresh, left, o5, o6, o7, o8, rfl, b, hk, frl⟩ C hC
      have ll : left.length ≤ 1000 := by have := b.cnt; have : 0 < found.length := List.length_pos_of_mem b.og; omega
      have fll : found.length ≤ 1001 := by have := b.cnt; omega
      simp only [s_gN]
      refine seq_step fun C3 hC3 => ?_
      simp only [s_ifS, s_test, s_op, s_var, s_lst, s_nil]
      refine ⟨_, rfl, le_size (by decide), eq_rows_nil ⟨_, rfl, ?_⟩⟩
      by_cases ef : fresh = []
      · subst ef
        simp
        subst hC2
        exact fin rfl b (.inl rfl)
      · have e1 : fresh.isEmpty = false := by cases fresh <;> first | rfl | exact absurd rfl ef
        rw [e1, if_neg (by decide)]
        simp
        subst hC3
        refine seq_step fun C4 hC4 => ?_
        simp only [s_set, s_comp, s_iSeq, s_var]
        refine ⟨_, rfl, _, rfl, le_size (by simp; omega), loopC_pure (fun d => (fun r => !(fresh.filter fun f => decide (Near r f)).isEmpty) (rowD d)) id (show chkD (rowsD left) (left.map tupI) M' from rfl) ?_ ?_⟩
        · intro x hx D1 D2 hD
          obtain ⟨r, hr, rfl⟩ := mem_map_row hx
          have lr := hl r (.inr (b.sub r hr).1)
          simp only [s_gN, s_wipe0, s_wipe1, s_test, s_op, s_comp, s_iSeq, s_var, s_lst, s_nil]
          have ffl : (fresh.map tupI).length ≤ sizeLine := by rw [List.length_map, sizeLine_eq]; omega
          refine ⟨_, rfl, _, rfl, ffl, loopC_pure (fun d => (fun f => decide (Near r f)) (rowD d)) id (show chkD (rowsD fresh) (fresh.map tupI) M' from rfl) ?_ ?_⟩
          · intro y hy D3 D4 hD3
            obtain ⟨f, hf, rfl⟩ := mem_map_row hy
            have lf := hl f (b.frs f (b.fr f hf))
            simp only [s_gN, s_wipe0, s_wipe1, s_test, s_op, s_cb, s_cons, s_nil, s_comp, s_iR1, s_var, s_c]
            refine ⟨_, rfl, ?_⟩
            rw [s_len (e := tupI r) (x := nms r) rfl]
            have er : ((nms r).length : Int) = (r.length : Int) := by simp
            rw [er]
            refine ⟨_, rfl, by omega, by omega, le_size (by rw [rng_nat]; simp; omega), ?_⟩
            rw [rng_nat]
            refine loopC_pure (fun d => match d with | .int k => at' r k.toNat != at' f k.toNat | _ => false) id trivial ?_ ?_
            · intro z hz D5 D6 hD5
              obtain ⟨k, hk, rfl⟩ := List.mem_map.mp hz
              have hk' := List.mem_range.mp hk
              simp only [s_gN, s_wipe0, s_wipe1, s_test, s_op, s_var]
              refine ⟨_, rfl, _, rfl, s_ixn (e := tupI r) rfl (at_nms (by omega)) ⟨_, rfl, _, rfl, s_ixn (e := tupI f) rfl (at_nms (by omega)) ?_⟩⟩
              rw [s_ne_i]
              refine ⟨_, rfl, ?_⟩
              simp at hD5 ⊢
              by_cases e : at' r k = at' f k
              · simp [e] at hD5 ⊢; exact hD5
              · simp [e] at hD5 ⊢; exact hD5
            · have e2 : [] ++ (((List.range r.length).map fun (k : Nat) => Dv.int (k : Int)).filter (fun d : Dv => match d with | .int k => at' r k.toNat != at' f k.toNat | _ => false)).map id = (diffKs r f).map fun (k : Nat) => Dv.int (k : Int) := by
                rw [List.nil_append, List.map_id, List.filter_map]; rfl
              rw [e2, s_len_l, List.length_map, s_eq_i]
              refine ⟨_, rfl, ?_⟩
              simp only [rowD_tup] at hD3
              by_cases e : Near r f
              · have : ((diffKs r f).length : Int) = 1 := by have : (diffKs r f).length = 1 := e; omega
                simp [e] at hD3
                simp [this]; exact hD3
              · have : ¬ ((diffKs r f).length : Int) = 1 := fun z => e (by show (diffKs r f).length = 1; omega)
                simp [e] at hD3
                simp [this]; exact hD3
          · have e3 : List.map id (List.filter (fun d => (fun f => decide (Near r f)) (rowD d)) (fresh.map tupI)) = (fresh.filter fun f => decide (Near r f)).map tupI := filter_rows (fun f => decide (Near r f)) fresh
            rw [List.nil_append, e3]
            refine ⟨le_size (by simp), ne_rows_nil ⟨_, rfl, ?_⟩⟩
            simp only [rowD_tup] at hD
            cases e : (fresh.filter fun f => decide (Near r f)).isEmpty with
            | true => rw [e] at hD; simp at hD ⊢; exact hD
            | false => rw [e] at hD; simp at hD ⊢; exact hD
        · have e4 : List.map id (List.filter (fun d => (fun r => !(fresh.filter fun f => decide (Near r f)).isEmpty) (rowD d)) (left.map tupI)) = (nextF fresh left).map tupI := filter_rows (fun r => !(fresh.filter fun f => decide (Near r f)).isEmpty) left
          rw [List.nil_append, e4]
          simp
          subst hC4
          have nfl := len_next fresh left
          refine seq_step fun C5 hC5 => ?_
          simp only [s_set, s_comp, s_iSeq, s_var]
          refine ⟨_, rfl, _, rfl, le_size (by simp; omega), loopC_pure (fun d => (fun r => !decide (r ∈ nextF fresh left)) (rowD d)) id (show chkD (rowsD left) (left.map tupI) M' from rfl) ?_ ?_⟩
          · intro x hx D1 D2 hD
            obtain ⟨r, hr, rfl⟩ := mem_map_row hx
            simp only [s_gN, s_wipe0, s_wipe1, s_test, s_op, s_var]
            refine ⟨_, rfl, _, rfl, in_rows ⟨_, rfl, ?_⟩⟩
            simp only [rowD_tup] at hD
            by_cases e : r ∈ nextF fresh left
            · simp [e] at hD ⊢; exact hD
            · simp [e] at hD ⊢; exact hD
          · have e5 : List.map id (List.filter (fun d => (fun r => !decide (r ∈ nextF fresh left)) (rowD d)) (left.map tupI)) = (nextL fresh left).map tupI := filter_rows (fun r => !decide (r ∈ nextF fresh left)) left
            rw [List.nil_append, e5]
            simp
            subst hC5
            simp
            rw [s_add_l]
            refine ⟨by rw [sizeLine_eq]; simp; omega, hC _ _ ⟨rfl, found ++ nextF fresh left, nextF fresh left, nextL fresh left, some x, o6, o7, o8, ?_, b.next hl2, ?_, by omega⟩⟩
            · rw [show rowsD (found ++ nextF fresh left) = Dv.lst (found.map tupI ++ (nextF fresh left).map tupI) from congrArg Dv.lst (List.map_append)]
            · rcases hk with hk | hk
              · exact absurd hk ef
              · by_cases en : nextF fresh left = []
                · exact .inl en
                · have := List.length_pos_iff.mpr en
                  exact .inr (by omega)
    · rintro l M' ⟨rfl, found, fresh, left, o5, o6, o7, o8, rfl, b, hk, _⟩
      subst hC2
      refine fin rfl b ?_
      rcases hk with hk | hk
      · exact .inl hk
      · refine .inr (List.length_eq_zero_iff.mp ?_)
        have : (rngD 0 (rs.length : Int)).length = rs.length := by rw [rng_nat]; simp
        omega
end D.k33
end

section
set_option Elab.async false
set_option linter.all false
set_option maxRecDepth 100000
set_option maxHeartbeats 2000000
set_option autoImplicit false
set_option exponentiation.threshold 600
/-! k33: two keys, slack. -/
namespace D.k33
open PySem PySem.Spec PyProof.Rows L2 D D.P33
theorem okVs_nms : ∀ r : List Int, okVs (nms r) = true
  | [] => rfl
  | x :: r => by show (true && okVs (nms r)) = true; rw [okVs_nms r]; rfl
theorem okV_row (r : Rw) : okV (tupI r) = true := okVs_nms r
theorem okV_pair {a b : Dv} (ha : okV a = true) (hb : okV b = true) : okV (.tup [a, b]) = true := by
  show (okV a && (okV b && true)) = true
  rw [ha, hb]; rfl
theorem cutB_rows {cs ws : List Int} {lo hi : Int} {x y : Rw} (hx : InR cs ws lo hi x) (hy : InR cs ws lo hi y) (h : cut2 cs.length ws lo hi x y = true) : cutB cs ws lo hi (.tup [tupI x, tupI y]) = true := by
  rw [cutB_pair]
  have e1 : rowOf (tupI x) = some x := numsOf_nms x
  have e2 : rowOf (tupI y) = some y := numsOf_nms y
  unfold allowB
  rw [e1, e2]
  simp only [h, decide_eq_true hx, decide_eq_true hy]; rfl
/-- what two keys' laws ask -/
def Law2 (a b c0 c1 : Int) : Prop := 0 < a ∧ 0 < b ∧ 0 ≤ c0 ∧ 0 ≤ c1 ∧ Sm a ∧ Sm b ∧ Sm c0 ∧ Sm c1
theorem Law2.two {a b c0 c1 : Int} {M : Mem} {c w : Dv} (h : Law2 a b c0 c1) (hc : seqD M c = some (nms [c0, c1])) (hw : seqD M w = some (nms [a, b])) : Two M c w a b c0 c1 := by
  obtain ⟨h1, h2, h3, h4, h5, h6, h7, h8⟩ := h
  exact ⟨hc, hw, h1, h2, h3, h4, h5, h6, h7, h8⟩
theorem mem_two {p : Int → Prop} {x y : Int} (hx : p x) (hy : p y) : ∀ i ∈ [x, y], p i := fun i hi => by
  simp at hi
  rcases hi with rfl | rfl <;> assumption
theorem Law2.arg {a b c0 c1 : Int} {M : Mem} {c w : Dv} (h : Law2 a b c0 c1) (hc : seqD M c = some (nms [c0, c1])) (hw : seqD M w = some (nms [a, b])) : Arg M c w [c0, c1] [a, b] := by
  obtain ⟨h1, h2, h3, h4, h5, h6, h7, h8⟩ := h
  exact ⟨hc, hw, rfl, by simp, mem_two h7 h8, mem_two h5 h6⟩
def S__law_two (n : Nat) : DSp := fun ds M P _ => ∃ (a b c0 c1 lo hi : Int) (j : Nat) (joined : Bool), ds = [.lst (nms [c0, c1]), .lst (nms [a, b]), .int lo, .int hi, .bl joined] ∧ Law2 a b c0 c1 ∧ a < 2 ^ j ∧ j ≤ 300 ∧ 2 * j + 1 ≤ n ∧
  (joined = true ↔ Conn (InR [c0, c1] [a, b] lo hi)) ∧ P (.bl true) M
theorem p__law_two (n : Nat) : ∀ ds M Pd X, MemOk M → S__law_two n ds M Pd X → t__law_two S_is_cut S_is_cut (S_two_cut n) (dkOf M.length Pd X) (startD N__law_two ds) M := by
  rintro _ M Pd X - ⟨a, b, c0, c1, lo, hi, j, joined, rfl, l2, hj, hj3, hn, hjo, h⟩
  show t__law_two S_is_cut S_is_cut (S_two_cut n) (dkOf M.length Pd X) [some (.lst (nms [c0, c1])), some (.lst (nms [a, b])), some (.int lo), some (.int hi), some (.bl joined), none, none] M
  have rt : ∀ d, Pd d M → (dkOf M.length Pd X).rt d M := fun d h => ret_now h
  unfold t__law_two
  refine seq_step fun C1 hC1 => ?_
  simp only [s_for, s_iR1, s_cons, s_nil, s_c]
  refine ⟨_, rfl, by decide, by decide, ?_⟩
  refine loopS_ix (fun k l M' => M' = M ∧ ∃ (o5 o6 : Option Dv), l = [some (.lst (nms [c0, c1])), some (.lst (nms [a, b])), some (.int lo), some (.int hi), some (.bl joined), o5, o6]) (fun _ _ _ _ => trivial) ⟨rfl, none, none, rfl⟩ ?_ ?_
  · rintro k x l M' hx ⟨rfl, o5, o6, rfl⟩ C hC
    obtain ⟨i, rfl⟩ : ∃ i : Int, x = .int i := by
      have := List.mem_of_getElem? hx
      unfold rngD at this
      obtain ⟨i, _, rfl⟩ := List.mem_map.mp this
      exact ⟨_, rfl⟩
    simp only [s_gN]
    refine seq_step fun C3 hC3 => ?_
    -- behind told
    have tail : ∀ told : Dv, ((told = .non ∧ joined = true) ∨ (joined = false ∧ ∃ x y, told = .tup [tupI x, tupI y] ∧ InR [c0, c1] [a, b] lo hi x ∧ InR [c0, c1] [a, b] lo hi y ∧ cut2 2 [a, b] lo hi x y = true)) →
        C3 [some (.lst (nms [c0, c1])), some (.lst (nms [a, b])), some (.int lo), some (.int hi), some (.bl joined), some (.int i), some told] M' := fun told ht => by
      subst hC3
      rcases ht with ⟨rfl, rfl⟩ | ⟨rfl, x, y, rfl, hx, hy, hc⟩
      · simp
        exact hC _ _ ⟨rfl, _, _, rfl⟩
      · have cb := cutB_rows hx hy hc
        simp
        refine ⟨_, _, lo, hi, _, [c0, c1], [a, b], rfl, l2.arg rfl rfl, okV_pair (okV_row x) (okV_row y), ?_⟩
        rw [cb]
        simp
        refine ⟨_, _, lo, hi, _, [c0, c1], [a, b], rfl, l2.arg rfl rfl, okV_pair (okV_row x) (okV_row y), ?_⟩
        rw [cb]
        simp
        exact hC _ _ ⟨rfl, _, _, rfl⟩
    have told : ∀ c w : Dv, seqD M' c = some (nms [c0, c1]) → seqD M' w = some (nms [a, b]) → S_two_cut n [c, w, .int lo, .int hi] M' (fun d M1 => C3 [some (.lst (nms [c0, c1])), some (.lst (nms [a, b])), some (.int lo), some (.int hi), some (.bl joined), some (.int i), some d] M1) (fun C d M1 => (dkOf M'.length Pd X).xc C d [some (.lst (nms [c0, c1])), some (.lst (nms [a, b])), some (.int lo), some (.int hi), some (.bl joined), some (.int i), o6] M1) := fun c w hc hw =>
      ⟨c, w, a, b, c0, c1, lo, hi, j, rfl, l2.two hc hw, hj, hj3, hn, fun hco => tail _ (.inl ⟨rfl, hjo.mpr hco⟩), fun x y hx hy hc hnc => tail _ (.inr ⟨by
        cases joined with
        | false => rfl
        | true => exact absurd (hjo.mp rfl) hnc, x, y, rfl, hx, hy, hc⟩)⟩
    simp only [s_set, s_if, s_test, s_op, s_var, s_c, s_call, s_callK, s_cons, s_nil, s_cb]
    refine ⟨_, rfl, ?_⟩
    rw [s_eq_i]
    refine ⟨_, rfl, ?_⟩
    by_cases e : i = 0
    · rw [decide_eq_true e, if_pos rfl]
      refine ⟨_, rfl, ?_⟩
      rw [s_tuple (e := .lst (nms [c0, c1])) (x := nms [c0, c1]) rfl]
      exact ⟨_, rfl, _, rfl, _, rfl, told _ _ rfl rfl⟩
    · rw [decide_eq_false e, if_neg (by decide)]
      refine ⟨_, rfl, _, rfl, _, rfl, ?_⟩
      rw [s_tuple (e := .lst (nms [a, b])) (x := nms [a, b]) rfl]
      refine ⟨_, rfl, ?_⟩
      rw [s_list (e := .lst (nms [c0, c1])) (x := nms [c0, c1]) rfl]
      exact ⟨rfl, rfl, told _ _ rfl rfl⟩
  · rintro l M' ⟨rfl, o5, o6, rfl⟩
    subst hC1
    simp
    exact rt _ h
/-! slack -/
theorem char_lt (c : Char) : c.toNat < 0x110000 := by
  rcases c.valid with h | ⟨_, h⟩
  · exact Nat.lt_trans h (by decide)
  · exact h
theorem strOk_of (s : String) : PyData.strOk (Str.ofString s) = true := by
  rw [Str.ofString_eq_toList]
  unfold PyData.strOk
  simp
  intro c _
  exact char_lt c
theorem repr_int {M : Mem} {v : Int} {G : Dv → Prop} (h : v.natAbs.log2 < 1920) (g : G (.str (toString v))) : gRepr [.int v] M G :=
  ⟨.int v, rfl, rfl, decide_eq_true h, int_text_fits h, g⟩
theorem repr_bl {M : Mem} {b : Bool} {G : Dv → Prop} (g : G (.str (if b then "True" else "False"))) : gRepr [.bl b] M G :=
  ⟨.bl b, rfl, rfl, rfl, by cases b with
    | true => exact le_size (show ("True" : Str).length ≤ 1000 by decide)
    | false => exact le_size (show ("False" : Str).length ≤ 1000 by decide), g⟩
theorem ne_str {M : Mem} {s : String} {G : Dv → Prop} (g : G (.bl false)) : gNe (.str (Str.ofString s)) (.str (Str.ofString s)) M G := by
  refine ⟨strOk_of s, strOk_of s, ?_⟩
  have : pyEq (res M (.str (Str.ofString s))) (res M (.str (Str.ofString s))) = true := by
    show ((Str.ofString s) == (Str.ofString s)) = true
    simp
  rw [this]; exact g
theorem unit_ok : ∀ (n : Nat) (cs ws : List Int) (k : Nat), cs.length = n → ws.length = n → (∀ i, i < n → 0 ≤ at' cs i) → k < n → 1 ≤ at' cs k → fit cs (unitR n k) ∧ wsum ws (unitR n k) = at' ws k := by
  have zero : ∀ (cs ws : List Int) (f : Nat → Nat), ws.length = cs.length → (∀ i, i < cs.length → 0 ≤ at' cs i) → ∀ k, (∀ i, i < cs.length → f i ≠ k) → fit cs ((List.range cs.length).map fun j => if f j = k then (1 : Int) else 0) ∧ wsum ws ((List.range cs.length).map fun j => if f j = k then (1 : Int) else 0) = 0 := by
    intro cs
    induction cs with
    | nil => intro ws f hl _ k _; exact ⟨trivial, by cases ws <;> rfl⟩
    | cons c cs ih =>
      intro ws f hl h0 k hk
      cases ws with
      | nil => simp at hl
      | cons w ws =>
        have := ih ws (fun i => f (i + 1)) (by simpa using hl) (fun i hi => h0 (i + 1) (by simpa using hi)) k (fun i hi => hk (i + 1) (by simpa using hi))
        rw [List.length_cons, List.range_succ_eq_map, List.map_cons, List.map_map]
        have e0 : (if f 0 = k then (1 : Int) else 0) = 0 := if_neg (hk 0 (by simp))
        rw [e0]
        refine ⟨⟨⟨Int.le_refl _, h0 0 (by simp)⟩, this.1⟩, ?_⟩
        show w * 0 + wsum ws _ = 0
        have e := this.2
        rw [Int.mul_zero, Int.zero_add]
        exact e
  intro n cs
  induction cs generalizing n with
  | nil => intro ws k h _ _ hk; simp at h; omega
  | cons c cs ih =>
    intro ws k hn hl h0 hk h1
    cases ws with
    | nil => simp at hl; simp at hn; omega
    | cons w ws =>
      simp at hn hl
      subst hn
      unfold unitR
      rw [List.range_succ_eq_map, List.map_cons, List.map_map]
      cases k with
      | zero =>
        have z := zero cs ws (fun i => i + 1) (by omega) (fun i hi => h0 (i + 1) (by omega)) 0 (fun i _ => by omega)
        have h1' : 1 ≤ c := h1
        refine ⟨⟨⟨by simp, by simpa using h1'⟩, z.1⟩, ?_⟩
        show w * (if 0 = 0 then 1 else 0) + wsum ws _ = w
        rw [if_pos rfl, Int.mul_one]
        have e := z.2
        have : wsum ws (List.map ((fun j => if j = 0 then (1 : Int) else 0) ∘ Nat.succ) (List.range cs.length)) = 0 := e
        rw [this]; omega
      | succ k =>
        have := ih cs.length ws k rfl (by omega) (fun i hi => h0 (i + 1) (by omega)) (by omega) h1
        have hc : 0 ≤ c := h0 0 (by omega)
        have e : (List.map ((fun j => if j = k + 1 then (1 : Int) else 0) ∘ Nat.succ) (List.range cs.length)) = unitR cs.length k := by
          unfold unitR
          apply List.map_congr_left
          intro j _
          show (if j + 1 = k + 1 then (1 : Int) else 0) = if j = k then 1 else 0
          by_cases q : j = k
          · rw [if_pos q, if_pos (by omega)]
          · rw [if_neg q, if_neg (by omega)]
        rw [e]
        refine ⟨⟨⟨by simp, by simpa using hc⟩, this.1⟩, ?_⟩
        show w * (if 0 = k + 1 then 1 else 0) + wsum ws _ = at' ws k
        rw [if_neg (by omega), Int.mul_zero, Int.zero_add]
        exact this.2
theorem at_unit {n k j : Nat} (h : j < n) : at' (unitR n k) j = if j = k then 1 else 0 := by
  unfold unitR at'
  simp [List.getD, h]
theorem ups_unit {n k0 k1 : Nat} (h0 : k0 < n) (h1 : k1 < n) (hne : k0 ≠ k1) : ups n (unitR n k0) (unitR n k1) = [k1] := by
  have hm : ∀ j, j ∈ ups n (unitR n k0) (unitR n k1) ↔ j = k1 := fun j => by
    rw [mem_ups]
    constructor
    · rintro ⟨hj, hlt⟩
      rw [at_unit hj, at_unit hj] at hlt
      split at hlt <;> split at hlt <;> omega
    · rintro rfl
      refine ⟨h1, ?_⟩
      rw [at_unit h1, at_unit h1, if_neg (Ne.symm hne), if_pos rfl]; decide
  have hn : (ups n (unitR n k0) (unitR n k1)).Nodup := List.Pairwise.filter _ List.nodup_range
  generalize ups n (unitR n k0) (unitR n k1) = l at hm hn
  cases l with
  | nil => exact absurd ((hm k1).mpr rfl) (by simp)
  | cons a t =>
    have ha : a = k1 := (hm a).mp List.mem_cons_self
    subst ha
    cases t with
    | nil => rfl
    | cons b t =>
      have hb : b = a := (hm b).mp (by simp)
      subst hb
      simp at hn
def S__law_slack : DSp := fun ds M P _ => ∃ (cs ws : List Int), ds = [.lst (nms cs), .lst (nms ws)] ∧ ws.length = cs.length ∧ cs.length ≤ 1000 ∧ (∀ i ∈ cs, Sm i) ∧ (∀ i ∈ ws, Sm i) ∧ (∀ i, i < cs.length → 0 ≤ at' cs i) ∧ (∀ i, i < ws.length → 1 ≤ at' ws i) ∧ P (.bl true) M
theorem due_sm {cs ws : List Int} {v : Int} (hl : ws.length = cs.length) (sw : ∀ i ∈ ws, Sm i) (h : IsDue cs ws v) : v.natAbs.log2 < 1920 := by
  obtain ⟨D, _, hp, rfl⟩ := h
  have all : ∀ x ∈ D, Sm x := fun x hx => by
    obtain ⟨k, hk, rfl⟩ := List.mem_map.mp (hp.mem_iff.mp hx)
    have hk' := (mem_live.mp hk).1
    have : at' ws k = ws[k]'(by omega) := by simp [at', show k < ws.length by omega]
    rw [this]; exact sw _ (List.getElem_mem _)
  refine Nat.lt_trans (log_lt (k := 400) ?_ (by decide)) (by decide)
  match D, all with
  | [], _ => show (0 : Int).natAbs < _; decide
  | [_], _ => show (0 : Int).natAbs < _; decide
  | x :: y :: _, all =>
    have h1 := all x (by simp)
    have h2 := all y (by simp)
    unfold Sm at h1 h2
    show (x + y - 1).natAbs < 2 ^ 400
    have e : (2 : Nat) ^ 400 = 2 ^ 300 * 2 ^ 100 := by rw [← Nat.pow_add]
    have : (2 : Nat) ^ 100 = 1267650600228229401496703205376 := by decide
    rw [e, this]
    omega
/-- what slack_cut tells -/
def Told (cs ws : List Int) (v : Int) (d : Dv) : Prop := (d = .non ∧ v = 0) ∨ ∃ k0 k1, d = .tup [.int 1, tupI (unitR cs.length k0), tupI (unitR cs.length k1)] ∧ k0 ∈ live cs ∧ k1 ∈ live cs ∧ k0 ≠ k1 ∧ v = at' ws k0 + at' ws k1 - 1
theorem told_of {cs ws : List Int} {v : Int} {G : Dv → Prop} (hv : IsDue cs ws v) (h : ∀ d, Told cs ws v d → G d) : ∀ D ks, Heavy cs ws D ks → SlackG cs.length G ks := fun D ks hk => by
  have e : v = due D := due_uniq hv ⟨D, hk.1, hk.2.1, rfl⟩
  have no : ks.length ≠ 2 → G .non := fun hn => h _ (.inl ⟨rfl, by
    rw [e, due_less]
    rw [← hk.2.2.1, List.length_map]; exact hn⟩)
  have h2 := heavy_len hk
  match ks, hk, no, h2 with
  | [k0, k1], hk, _, _ =>
    refine h _ (.inr ⟨k0, k1, rfl, hk.2.2.2.2 k0 (by simp), hk.2.2.2.2 k1 (by simp), ?_, ?_⟩)
    · have := hk.2.2.2.1
      simp at this; exact this
    · rw [e, due_two (x := at' ws k0) (y := at' ws k1) (by rw [← hk.2.2.1]; rfl)]
  | [], _, no, _ => exact no (by simp)
  | [_], _, no, _ => exact no (by simp)
  | _ :: _ :: _ :: _, _, _, h2 => simp at h2
theorem p__law_slack : ∀ ds M Pd X, MemOk M → S__law_slack ds M Pd X → t__law_slack S_slack_cut S_is_cut S_enough_slack S_enough_slack (dkOf M.length Pd X) (startD N__law_slack ds) M := by
  rintro _ M Pd X - ⟨cs, ws, rfl, hl, hz, sc, sw, c0, w1, h⟩
  show t__law_slack S_slack_cut S_is_cut S_enough_slack S_enough_slack (dkOf M.length Pd X) [some (.lst (nms cs)), some (.lst (nms ws)), none, none, none, none, none] M
  have rt : ∀ d, Pd d M → (dkOf M.length Pd X).rt d M := fun d h => ret_now h
  have ar : ∀ {c w : Dv}, seqD M c = some (nms cs) → seqD M w = some (nms ws) → Arg M c w cs ws := fun h1 h2 => ⟨h1, h2, hl, hz, sc, sw⟩
  unfold t__law_slack
  refine seq_step fun C1 hC1 => ?_
  simp only [s_set, s_call, s_cons, s_nil, s_var]
  refine ⟨_, rfl, _, rfl, _, _, cs, ws, rfl, ar rfl rfl, fun v hv => ?_⟩
  have lv := due_sm hl sw hv
  subst hC1
  refine seq_step fun C2 hC2 => ?_
  simp only [s_ifS, s_or, s_test, s_op, s_cb, s_call, s_callK, s_cons, s_nil, s_var]
  refine ⟨_, rfl, _, rfl, _, _, cs, ws, rfl, ar rfl rfl, fun v2 hv2 => ?_⟩
  rw [due_uniq hv2 hv]
  refine repr_int lv ⟨_, rfl, repr_int lv (ne_str ⟨_, rfl, ?_⟩)⟩
  rw [if_neg (by decide)]
  refine ⟨_, rfl, ?_⟩
  rw [s_tuple (e := .lst (nms ws)) (x := nms ws) rfl]
  refine ⟨_, rfl, ?_⟩
  rw [s_tuple (e := .lst (nms cs)) (x := nms cs) rfl]
  refine ⟨rfl, rfl, .tup (nms cs), .tup (nms ws), cs, ws, rfl, ar rfl rfl, fun v3 hv3 => ?_⟩
  rw [due_uniq hv3 hv]
  refine repr_int lv ⟨_, rfl, repr_int lv (ne_str ⟨_, rfl, ?_⟩)⟩
  rw [if_neg (by decide)]
  simp only [s_next]
  subst hC2
  refine seq_step fun C3 hC3 => ?_
  have turns : ∀ t1 t2 : Dv, Told cs ws v t1 → Told cs ws v t2 → ∀ o3 : Option Dv, loopS (gN 3) (dSeq (dIfS (dTest (dOp gEq (dVar 2) (dC (.int 0)))) (dSeq (dIfS (dTest (dOp (gIs true) (dVar 3) (dC .non))) (dSeq (dRet (dC (.bl false))) dNext) dNext) dNext) (dSeq (dIfS (dOr (dNot (dTru (dCB gIsi (dCons (dVar 3) (dCons (dC (.ty "tuple")) dNil))))) (dTest (dOp gNe (dCB gLen (dCons (dVar 3) dNil)) (dC (.int 3))))) (dSeq (dRet (dC (.bl false))) dNext) dNext) (dSeq (dAsg (dVar 3) (gT 3 (gsCons (gN 4) (gsCons (gN 5) (gsCons (gN 6) gsNil))))) (dSeq (dIfS (dOr (dNot (dTru (dCB gIsi (dCons (dVar 4) (dCons (dC (.ty "int")) dNil))))) (dOr (dTru (dCB gIsi (dCons (dVar 4) (dCons (dC (.ty "bool")) dNil)))) (dTest (dOp gLt (dVar 4) (dC (.int 0)))))) (dSeq (dRet (dC (.bl false))) dNext) dNext) (dSeq (dIfS (dNot (dTru (dCall S_is_cut (dCons (dVar 0) (dCons (dVar 1) (dCons (dVar 4) (dCons (dOp gSub' (dOp gAdd (dVar 4) (dVar 2)) (dC (.int 1))) (dCons (dTup (dCons (dVar 5) (dCons (dVar 6) dNil))) dNil)))))))) (dSeq (dRet (dC (.bl false))) dNext) dNext) dNext))))) dNext)
      { dkOf M.length Pd X with nx := C3 } (chkD (.lst [t1, t2]) [t1, t2]) [t1, t2] [some (.lst (nms cs)), some (.lst (nms ws)), some (.int v), o3, none, none, none] M := fun t1 t2 h1 h2 o3 => by
    refine loopS_ix (fun k l M' => M' = M ∧ ∃ (o3 o4 o5 o6 : Option Dv), l = [some (.lst (nms cs)), some (.lst (nms ws)), some (.int v), o3, o4, o5, o6]) (fun k l M' ⟨e, _⟩ => by subst e; rfl) ⟨rfl, _, _, _, _, rfl⟩ ?_ ?_
    · rintro k x l M' hx ⟨rfl, o3, o4, o5, o6, rfl⟩ C hC
      have ht : Told cs ws v x := by
        have := List.mem_of_getElem? hx
        simp at this
        rcases this with rfl | rfl <;> assumption
      rcases ht with ⟨rfl, rfl⟩ | ⟨k0, k1, rfl, m0, m1, hne, rfl⟩
      · simp
        exact hC _ _ ⟨rfl, _, _, _, _, rfl⟩
      · obtain ⟨b0, l0⟩ := mem_live.mp m0
        obtain ⟨b1, l1⟩ := mem_live.mp m1
        have w0 := w1 k0 (by omega)
        have w1' := w1 k1 (by omega)
        obtain ⟨f0, s0⟩ := unit_ok cs.length cs ws k0 rfl hl c0 b0 (by omega)
        obtain ⟨f1, s1⟩ := unit_ok cs.length cs ws k1 rfl hl c0 b1 (by omega)
        have cb : cutB cs ws 1 (1 + (at' ws k0 + at' ws k1 - 1) - 1) (.tup [tupI (unitR cs.length k0), tupI (unitR cs.length k1)]) = true := by
          refine cutB_rows ⟨f0, by omega, by omega⟩ ⟨f1, by omega, by omega⟩ ?_
          unfold cut2
          rw [ups_unit b0 b1 hne, ups_unit b1 b0 (Ne.symm hne)]
          simp only
          rw [s0, decide_eq_true (by omega), decide_eq_true (by omega)]; rfl
        have okt : okV (.tup [.int 1, tupI (unitR cs.length k0), tupI (unitR cs.length k1)]) = true := by
          show (true && (okV (tupI _) && (okV (tupI _) && true))) = true
          rw [okV_row, okV_row]; rfl
        have nz : ¬ (at' ws k0 + at' ws k1 - 1 = 0) := by omega
        have i1 : okV (.int 1) = true := rfl
        have tt := isi_tup okt
        simp [nz, s_isi okt, tt, isTup, s_isi i1, isi_ib i1, isi_bool i1, isIB, isBool]
        refine ⟨le_size (by decide), _, _, 1, _, _, cs, ws, rfl, ar rfl rfl, okV_pair (okV_row _) (okV_row _), ?_⟩
        rw [cb]
        simp
        exact hC _ _ ⟨rfl, _, _, _, _, rfl⟩
    · rintro l M' ⟨rfl, o3, o4, o5, o6, rfl⟩
      subst hC3
      simp
      exact rt _ h
  simp only [s_for, s_iSeq, s_lst, s_cons, s_nil, s_call, s_callK, s_var, s_cb]
  refine ⟨_, rfl, _, rfl, _, _, cs, ws, rfl, ar rfl rfl, told_of hv fun d1 h1 => ?_⟩
  refine ⟨_, rfl, ?_⟩
  rw [s_tuple (e := .lst (nms ws)) (x := nms ws) rfl]
  refine ⟨_, rfl, ?_⟩
  rw [s_tuple (e := .lst (nms cs)) (x := nms cs) rfl]
  exact ⟨rfl, rfl, .tup (nms cs), .tup (nms ws), cs, ws, rfl, ar rfl rfl, told_of hv fun d2 h2 => ⟨le_size (by simp), _, rfl, turns d1 d2 h1 h2 _⟩⟩
end D.k33
end

section
set_option Elab.async false
set_option linter.all false
set_option maxRecDepth 100000
set_option maxHeartbeats 2000000
set_option autoImplicit false
set_option exponentiation.threshold 600
/-! k33: values near cuts. -/
namespace D.k33
open PySem PySem.Spec PyProof.Rows L2 D D.P33
theorem okVs_app {a b : List Dv} (ha : okVs a = true) (hb : okVs b = true) : okVs (a ++ b) = true := okVs_of fun d hd => by
  rcases List.mem_append.mp hd with h | h
  · exact okV_mem ha d h
  · exact okV_mem hb d h
theorem okVs_cut {l : List Dv} {lo hi : Option Int} (h : okVs l = true) : okVs (cutD l lo hi) = true := okVs_of fun d hd => okV_mem h d (List.mem_of_mem_drop (List.mem_of_mem_take hd))
theorem cut_le {l : List Dv} {lo hi : Option Int} : (cutD l lo hi).length ≤ l.length := by
  unfold cutD
  rw [List.length_take, List.length_drop]; omega
theorem s_slt {l : List Dv} {lo hi : Option Int} {M : Mem} {G : Dv → Prop} : gSl (.tup l) lo hi M G = G (.tup (cutD l lo hi)) := rfl
def S__law_near : DSp := fun ds M P _ => ∃ (i j : Nat) (rs : List Rw) (cs : List Int) (x y : Rw), ds = [.ref i, rowsD rs, .lst (nms cs), .tup [tupI x, tupI y]] ∧ Deal i j M ∧ 0 < rs.length ∧ rs.length ≤ 1000 ∧ 0 < x.length ∧ x.length = cs.length ∧ cs.length ≤ 1000 ∧ y.length ≤ 1000 ∧
  ∀ v M', okV v = true → To i j M M' → P v M'
theorem p__law_near : ∀ ds M Pd X, MemOk M → S__law_near ds M Pd X → t__law_near S__law_of S__law_any (dkOf M.length Pd X) (startD N__law_near ds) M := by
  rintro _ M Pd X - ⟨i, j, rs, cs, x, y, rfl, hd, r0, r1, x0, xl, cl, yl, h⟩
  show t__law_near S__law_of S__law_any (dkOf M.length Pd X) [some (.ref i), some (rowsD rs), some (.lst (nms cs)), some (.tup [tupI x, tupI y]), none, none, none, none, none] M
  unfold t__law_near
  refine seq_step fun C1 hC1 => ?_
  simp
  subst hC1
  refine seq_step fun C2 hC2 => ?_
  simp
  refine ⟨i, j, x.length, rfl, hd, by omega, sm_le (by omega), fun r M1 q0 q1 to1 => ?_⟩
  obtain ⟨k, rfl⟩ := Int.eq_ofNat_of_zero_le q0
  have hk : k < x.length := by omega
  subst hC2
  refine seq_step fun C3 hC3 => ?_
  have ax := at_nms hk
  have ac := at_nms (r := cs) (k := k) (by omega)
  simp only [s_set, s_op, s_sl, s_var, s_noP, s_part, s_tup, s_cons, s_nil, s_call, s_lst, s_c]
  refine ⟨_, rfl, _, rfl, _, rfl, ?_⟩
  show ∃ d, _
  refine ⟨_, rfl, _, rfl, _, rfl, s_ixn (x := nms x) rfl ax ?_⟩
  simp only [s_add_i]
  refine ⟨_, rfl, _, rfl, s_ixn (x := nms x) rfl ax ?_⟩
  simp only [s_sub]
  refine ⟨_, rfl, _, rfl, s_ixn (x := nms cs) rfl ac ?_⟩
  simp only [s_add_i]
  refine ⟨le_size (by simp), i, j, _, rfl, to1.dl, by simp, by simp, fun b M2 hb to2 => ?_⟩
  have ob : okV b = true := by
    refine okV_mem (l := [.int (at' x k + 1), .int (at' x k - 1), .non, .str "0", .bl true, .int (at' cs k + 1)]) rfl b hb
  refine ⟨le_size (by simp), ?_⟩
  have cl1 : (cutD (List.map Dv.int x) none (some (k : Int))).length ≤ 1000 := by have := cut_le (l := List.map Dv.int x) (lo := none) (hi := some (k : Int)); rw [List.length_map] at this; omega
  have cl2 : (cutD (List.map Dv.int x) (some ((k : Int) + 1)) none).length ≤ 1000 := by have := cut_le (l := List.map Dv.int x) (lo := some ((k : Int) + 1)) (hi := none); rw [List.length_map] at this; omega
  have ox : okVs (List.map Dv.int x) = true := okVs_nms x
  simp only [s_add_t]
  refine ⟨by rw [sizeLine_eq]; simp only [List.length_cons, List.length_nil]; omega, _, rfl, _, rfl, _, rfl, ?_⟩
  rw [s_slt, s_add_t]
  refine ⟨by rw [sizeLine_eq]; simp only [List.length_append, List.length_cons, List.length_nil]; omega, ?_⟩
  have obt : okV (.tup (cutD (List.map Dv.int x) none (some (k : Int)) ++ [b] ++ cutD (List.map Dv.int x) (some ((k : Int) + 1)) none)) = true := okVs_app (okVs_app (okVs_cut ox) (by show (okV b && true) = true; rw [ob]; rfl)) (okVs_cut ox)
  generalize Dv.tup (cutD (List.map Dv.int x) none (some (k : Int)) ++ [b] ++ cutD (List.map Dv.int x) (some ((k : Int) + 1)) none) = bent at obt
  show C3 [some (.ref i), some (rowsD rs), some (.lst (nms cs)), some (.tup [tupI x, tupI y]), some (tupI x), some (tupI y), some (.int k), some bent, none] M2
  subst hC3
  refine seq_step fun C4 hC4 => ?_
  simp only [s_set, s_lst, s_tup, s_cons, s_nil, s_cb, s_var, s_c]
  refine ⟨_, rfl, _, rfl, le_size (by simp), _, rfl, le_size (by simp), _, rfl, _, rfl, _, rfl, le_size (by simp), _, rfl, ?_⟩
  rw [s_list (e := tupI x) (x := nms x) rfl]
  refine ⟨_, rfl, le_size (by simp), _, rfl, _, rfl, ?_⟩
  rw [s_list (e := tupI y) (x := nms y) rfl]
  refine ⟨le_size (by simp), _, rfl, _, rfl, le_size (by simp), _, rfl, _, rfl, le_size (by simp), _, rfl, _, rfl, le_size (by simp), le_size (by simp), ?_⟩
  have oX := okV_row x
  have oY := okV_row y
  have oLX : okV (.lst (nms x)) = true := okVs_nms x
  have oLY : okV (.lst (nms y)) = true := okVs_nms y
  generalize hS : ([Dv.lst [tupI x, tupI y], .tup [tupI x], .tup [tupI x, tupI y, tupI y], .tup [.lst (nms x), tupI y], .tup [tupI x, .lst (nms y)], .tup [bent, tupI y], .tup [tupI y, bent], .non, .int 3, .tup [tupI x, tupI x]] : List Dv) = some10
  have oS : okVs some10 = true := by
    subst hS
    simp [okVs, okV, oX, oY, oLX, oLY, obt, okVs_nms]
  have lS : some10.length = 10 := by subst hS; rfl
  subst hC4
  simp only [s_seq, s_ret, s_call, s_cons, s_nil, s_op, s_var, s_lst, s_tup, s_c]
  refine ⟨_, rfl, _, rfl, _, rfl, _, rfl, le_size (by simp), _, rfl, _, rfl, le_size (by simp), _, rfl, _, rfl, _, rfl, i, j, rs.map tupI, rfl, (to1.trans to2).dl, by simpa using r0, by simpa using r1, fun d M3 hd' to3 => ?_⟩
  obtain ⟨q, hq, rfl⟩ := mem_map_row hd'
  have oq := okV_row q
  refine ⟨le_size (by simp), _, rfl, le_size (by simp), ?_⟩
  rw [s_add_t]
  refine ⟨by rw [sizeLine_eq]; simp; omega, _, rfl, le_size (by simp), le_size (by simp), ?_⟩
  rw [s_add_l]
  refine ⟨by rw [sizeLine_eq]; simp only [List.length_cons, List.length_nil]; omega, i, j, _, rfl, ((to1.trans to2).trans to3).dl, by simp, by simp only [List.length_append, List.length_cons, List.length_nil]; omega, fun v M4 hv to4 => ret_now (h v M4 ?_ (((to1.trans to2).trans to3).trans to4))⟩
  refine okV_mem (okVs_app oS ?_) v hv
  have oX1 : okVs (List.map Dv.int x ++ [.int 0]) = true := okVs_app ox rfl
  simp [okVs, okV, oX, oY, oq, obt, oX1, okVs_nms]
end D.k33
end

section
set_option Elab.async false
set_option linter.all false
set_option maxRecDepth 100000
set_option maxHeartbeats 2000000
set_option autoImplicit false
set_option exponentiation.threshold 600
/-! k33: near cuts. -/
namespace D.k33
open PySem PySem.Spec PyProof.Rows L2 D D.P33
/-- few keys of few values -/
def Small (cs ws : List Int) : Prop := ws.length = cs.length ∧ 1 ≤ cs.length ∧ cs.length ≤ 3 ∧ (∀ x ∈ cs, 0 ≤ x ∧ x ≤ 5) ∧ (∀ x ∈ ws, Sm x)
theorem Small.arg {cs ws : List Int} (h : Small cs ws) {M : Mem} {c w : Dv} (hc : seqD M c = some (nms cs)) (hw : seqD M w = some (nms ws)) : Arg M c w cs ws :=
  ⟨hc, hw, h.1, by have := h.2.2.1; omega, fun i hi => sm_le (by have := h.2.2.2.1 i hi; omega), h.2.2.2.2⟩
theorem rowsL_len {cs ws : List Int} {lo hi : Int} (h3 : cs.length ≤ 3) (h5 : ∀ x ∈ cs, 0 ≤ x ∧ x ≤ 5) : (rowsL cs ws lo hi).length ≤ 216 := by
  have l1 := allR_len cs h5
  have l2 : (rowsL cs ws lo hi).length ≤ (allR cs).length := List.length_filter_le ..
  have := Nat.pow_le_pow_right (n := 6) (by omega) h3
  omega
/-- len([key for key in range(len(row)) if row[key] != one[key]]) in a comprehension's test -/
theorem diff_go {r o : Rw} {l : Loc} {M : Mem} {i : Nat} {tt : DT} {P : List Dv → Mem → Prop} (hi : i < l.length) (hl : r.length ≤ o.length)
    (ht : ∀ (k : Nat) (Q : Bool → Mem → Prop), k < r.length → Q (!decide (at' r k = at' o k)) M → tt (l.set i (some (.int (k : Int)))) M Q noX) (h : P ((diffKs r o).map fun (k : Nat) => .int (k : Int)) M) :
    loopC (gN i) tt (dVar i) [i] (fun _ => True) (rngD 0 (r.length : Int)) [] l M P := by
  rw [rng_nat]
  refine loopC_pure (fun d => match d with | .int k => at' r k.toNat != at' o k.toNat | _ => false) id trivial ?_ ?_
  · intro z hz D5 D6 hD5
    obtain ⟨k, hk, rfl⟩ := List.mem_map.mp hz
    have hk' := List.mem_range.mp hk
    simp only [s_gN, s_wipe0, s_wipe1, List.set_set]
    refine ht k _ hk' ?_
    simp at hD5 ⊢
    by_cases e : at' r k = at' o k
    · simp [e] at hD5 ⊢; exact hD5
    · simp [e] at hD5 ⊢; exact ⟨_, by simp [hi], hD5⟩
  · have e2 : [] ++ (((List.range r.length).map fun (k : Nat) => Dv.int (k : Int)).filter (fun d : Dv => match d with | .int k => at' r k.toNat != at' o k.toNat | _ => false)).map id = (diffKs r o).map fun (k : Nat) => Dv.int (k : Int) := by
      rw [List.nil_append, List.map_id, List.filter_map]; rfl
    rw [e2]; exact h
def S__law_near_cuts : DSp := fun ds M P _ => ∃ (i j : Nat) (cs ws : List Int) (lo hi : Int), ds = [.ref i, .lst (nms cs), .lst (nms ws), .int lo, .int hi] ∧ Deal i j M ∧ Small cs ws ∧ ∀ M', To i j M M' → P (.bl true) M'
theorem ne_strb {M : Mem} {b : Bool} {G : Dv → Prop} (g : G (.bl false)) : gNe (.str (if b then "True" else "False")) (.str (if b then "True" else "False")) M G := by
  cases b with
  | true => exact ne_str (s := "True") g
  | false => exact ne_str (s := "False") g
theorem str_bool (b : Bool) : (if b then ("True" : Str) else "False") = Str.ofString (if b then "True" else "False") := by cases b <;> rfl
theorem p__law_near_cuts : ∀ ds M Pd X, MemOk M → S__law_near_cuts ds M Pd X → t__law_near_cuts S__law_near S_is_cut S_is_cut S__law_of S__law_rows (dkOf M.length Pd X) (startD N__law_near_cuts ds) M := by
  rintro _ M Pd X - ⟨i, j, cs, ws, lo, hi, rfl, hd, sm, h⟩
  show t__law_near_cuts S__law_near S_is_cut S_is_cut S__law_of S__law_rows (dkOf M.length Pd X) [some (.ref i), some (.lst (nms cs)), some (.lst (nms ws)), some (.int lo), some (.int hi), none, none, none, none, none, none, none, none, none] M
  have sm' := sm
  obtain ⟨hl, n1, n3, h5, sw⟩ := sm'
  have rt : ∀ d M', Pd d M' → (dkOf M.length Pd X).rt d M' := fun d M' h => ret_now h
  unfold t__law_near_cuts
  refine seq_step fun C1 hC1 => ?_
  simp only [s_set, s_call, s_cons, s_nil, s_var]
  refine ⟨_, rfl, _, rfl, _, rfl, _, rfl, _, _, lo, hi, cs, ws, rfl, sm.arg rfl rfl, n3, h5, ?_⟩
  have rl := rowsL_len (ws := ws) (lo := lo) (hi := hi) n3 h5
  have rr : ∀ r ∈ rowsL cs ws lo hi, r.length = cs.length := fun r hr => fit_len (mem_rowsL.mp hr).1
  generalize hrs : rowsL cs ws lo hi = rs at *
  subst hC1
  refine seq_step fun C2 hC2 => ?_
  have fin : ∀ {l : Loc} {M' : Mem}, To i j M M' → C2 l M' := fun {l M'} to => by
    subst hC2
    simp
    exact rt _ _ (h _ to)
  simp only [s_for, s_iR1, s_cons, s_nil, s_if, s_test, s_op, s_var, s_lst, s_c]
  refine ⟨_, rfl, le_size (by simp), ne_rows_nil ⟨_, rfl, ?_⟩⟩
  by_cases en : rs = []
  · subst en
    simp
    exact ⟨trivial, fin (To.refl hd)⟩
  · have e1 : rs.isEmpty = false := by cases rs <;> first | rfl | exact absurd rfl en
    have r0 := List.length_pos_iff.mpr en
    rw [e1]
    simp only [Bool.not_false, if_true]
    refine ⟨_, rfl, by decide, by decide, ?_⟩
    refine loopS_ix (fun k l M' => To i j M M' ∧ ∃ (o6 o7 o8 o9 o10 o11 o12 o13 : Option Dv), l = [some (.ref i), some (.lst (nms cs)), some (.lst (nms ws)), some (.int lo), some (.int hi), some (rowsD rs), o6, o7, o8, o9, o10, o11, o12, o13]) (fun _ _ _ _ => trivial) ⟨To.refl hd, none, none, none, none, none, none, none, none, rfl⟩ ?_ ?_
    · rintro k x l M' hx ⟨to, o6, o7, o8, o9, o10, o11, o12, o13, rfl⟩ C hC
      simp only [s_gN]
      refine seq_step fun C3 hC3 => ?_
      simp only [s_set, s_call, s_cons, s_nil, s_var]
      refine ⟨_, rfl, _, rfl, i, j, rs.map tupI, rfl, to.dl, by simpa using r0, by simpa using (by omega : rs.length ≤ 1000), fun d M2 hd' to2 => ?_⟩
      obtain ⟨o, ho, rfl⟩ := mem_map_row hd'
      have lo' := rr o ho
      subst hC3
      refine seq_step fun C4 hC4 => ?_
      simp only [s_set, s_comp, s_iSeq, s_var]
      refine ⟨_, rfl, _, rfl, le_size (by simp; omega), loopC_pure (fun d => (fun r => decide ((diffKs r o).length = 2)) (rowD d)) id (show chkD (rowsD rs) (rs.map tupI) M2 from rfl) ?_ ?_⟩
      · intro y hy D1 D2 hD
        obtain ⟨r, hr, rfl⟩ := mem_map_row hy
        have lr := rr r hr
        simp only [s_gN, s_wipe0, s_wipe1, s_test, s_op, s_cb, s_cons, s_nil, s_comp, s_iR1, s_var, s_c]
        refine ⟨_, rfl, ?_⟩
        rw [s_len (e := tupI r) (x := nms r) rfl]
        have er : ((nms r).length : Int) = (r.length : Int) := by simp
        rw [er]
        refine ⟨_, rfl, by omega, by omega, le_size (by rw [rng_nat]; simp; omega), diff_go (r := r) (o := o) (by simp) (by omega) (fun k Q hk hQ => ?_) ?_⟩
        · exact ⟨_, rfl, _, rfl, s_ixn (e := tupI r) rfl (at_nms (by omega)) ⟨_, rfl, _, rfl, s_ixn (e := tupI o) rfl (at_nms (by omega)) (by show gNe (.int (at' r k)) (.int (at' o k)) _ _; rw [s_ne_i]; exact ⟨_, rfl, hQ⟩)⟩⟩
        · rw [s_len_l, List.length_map, s_eq_i]
          refine ⟨_, rfl, ?_⟩
          simp only [rowD_tup] at hD
          by_cases e : (diffKs r o).length = 2
          · have : ((diffKs r o).length : Int) = 2 := by omega
            simp [e] at hD
            simp [this]; exact hD
          · have : ¬ ((diffKs r o).length : Int) = 2 := by omega
            simp [e] at hD
            simp [this]; exact hD
      · have e3 : List.map id (List.filter (fun d => (fun r => decide ((diffKs r o).length = 2)) (rowD d)) (rs.map tupI)) = (rs.filter fun r => decide ((diffKs r o).length = 2)).map tupI := filter_rows (fun r => decide ((diffKs r o).length = 2)) rs
        rw [List.nil_append, e3]
        have cl : (rs.filter fun r => decide ((diffKs r o).length = 2)).length ≤ rs.length := List.length_filter_le ..
        have cm : ∀ r ∈ rs.filter (fun r => decide ((diffKs r o).length = 2)), r ∈ rs := fun r hr => (List.mem_filter.mp hr).1
        generalize rs.filter (fun r => decide ((diffKs r o).length = 2)) = cu at cl cm
        subst hC4
        refine seq_step fun C5 hC5 => ?_
        simp only [s_set, s_comp, s_iSeq, s_var]
        refine ⟨_, rfl, _, rfl, le_size (by simp; omega), loopC_pure (fun d => (fun r => cutB cs ws lo hi (.tup [tupI o, tupI r])) (rowD d)) id (show chkD (rowsD cu) (cu.map tupI) M2 from rfl) ?_ ?_⟩
        · intro y hy D1 D2 hD
          obtain ⟨r, hr, rfl⟩ := mem_map_row hy
          simp only [s_gN, s_wipe0, s_wipe1, s_tru, s_call, s_cons, s_nil, s_tup, s_var]
          refine ⟨_, rfl, _, rfl, _, rfl, _, rfl, _, rfl, _, rfl, le_size (by simp), _, _, lo, hi, _, cs, ws, rfl, sm.arg rfl rfl, okV_pair (okV_row _) (okV_row _), _, rfl, ?_⟩
          simp only [rowD_tup] at hD
          cases e : cutB cs ws lo hi (.tup [tupI o, tupI r]) with
          | true => rw [e] at hD; rw [if_pos rfl] at hD ⊢; exact ⟨_, rfl, hD⟩
          | false => rw [e] at hD; rw [if_neg (by decide)] at hD ⊢; exact hD
        · have e4 : List.map id (List.filter (fun d => (fun r => cutB cs ws lo hi (.tup [tupI o, tupI r])) (rowD d)) (cu.map tupI)) = (cu.filter fun r => cutB cs ws lo hi (.tup [tupI o, tupI r])).map tupI := filter_rows (fun r => cutB cs ws lo hi (.tup [tupI o, tupI r])) cu
          rw [List.nil_append, e4]
          have cl2 : (cu.filter fun r => cutB cs ws lo hi (.tup [tupI o, tupI r])).length ≤ cu.length := List.length_filter_le ..
          have cm2 : ∀ r ∈ cu.filter (fun r => cutB cs ws lo hi (.tup [tupI o, tupI r])), r ∈ rs := fun r hr => cm r (List.mem_filter.mp hr).1
          generalize cu.filter (fun r => cutB cs ws lo hi (.tup [tupI o, tupI r])) = cv at cl2 cm2
          subst hC5
          refine seq_step fun C6 hC6 => ?_
          have cont : ∀ (y : Rw) (M3 : Mem), y ∈ rs → To i j M M3 → C6 [some (.ref i), some (.lst (nms cs)), some (.lst (nms ws)), some (.int lo), some (.int hi), some (rowsD rs), some x, some (tupI o), some (rowsD cv), some (tupI y), o10, o11, o12, o13] M3 := fun y M3 hy to3 => by
            subst hC6
            refine seq_step fun C7 hC7 => ?_
            simp only [s_for, s_iSeq, s_lst, s_tup, s_cons, s_nil, s_call, s_var]
            refine ⟨_, rfl, _, rfl, le_size (by simp), _, rfl, _, rfl, _, rfl, _, rfl, _, rfl, le_size (by simp), i, j, rs, cs, o, y, rfl, to3.dl, r0, by omega, by omega, by omega, by omega, by have := rr y hy; omega, fun v M4 hv to4 => ⟨le_size (by simp), _, rfl, ?_⟩⟩
            refine loopS_ix (fun k l M' => M' = M4 ∧ ∃ (o10 o11 o12 o13 : Option Dv), l = [some (.ref i), some (.lst (nms cs)), some (.lst (nms ws)), some (.int lo), some (.int hi), some (rowsD rs), some x, some (tupI o), some (rowsD cv), some (tupI y), o10, o11, o12, o13]) (fun k l M' ⟨e, _⟩ => by subst e; rfl) ⟨rfl, _, _, _, _, rfl⟩ ?_ ?_
            · rintro k z l M5 hz ⟨rfl, o10, o11, o12, o13, rfl⟩ C8 hC8
              have oz : okV z = true := by
                have := List.mem_of_getElem? hz
                simp at this
                rcases this with rfl | rfl
                · exact okV_pair (okV_row _) (okV_row _)
                · exact hv
              simp only [s_gN]
              refine seq_step fun C9 hC9 => ?_
              simp only [s_set, s_cb, s_call, s_cons, s_nil, s_var]
              refine ⟨_, rfl, _, rfl, _, rfl, _, rfl, _, rfl, _, _, lo, hi, z, cs, ws, rfl, sm.arg rfl rfl, oz, repr_bl ?_⟩
              subst hC9
              simp only [s_seq, s_ifS, s_or, s_test, s_op, s_cb, s_call, s_cons, s_nil, s_var]
              refine ⟨_, rfl, _, rfl, _, rfl, _, rfl, _, rfl, _, _, lo, hi, z, cs, ws, rfl, sm.arg rfl rfl, oz, repr_bl ⟨_, rfl, ne_strb ⟨_, rfl, ?_⟩⟩⟩
              rw [if_neg (by decide)]
              refine ⟨_, rfl, _, rfl, _, rfl, _, rfl, _, rfl, _, _, lo, hi, z, cs, ws, rfl, sm.arg rfl rfl, oz, repr_bl ⟨_, rfl, ne_strb ⟨_, rfl, ?_⟩⟩⟩
              rw [if_neg (by decide)]
              simp only [s_next]
              exact hC8 _ _ ⟨rfl, _, _, _, _, rfl⟩
            · rintro l M5 ⟨rfl, o10, o11, o12, o13, rfl⟩
              subst hC7
              simp only [s_next]
              exact hC _ _ ⟨to3.trans to4, _, _, _, _, _, _, _, _, rfl⟩
          simp only [s_set, s_if, s_test, s_op, s_call, s_cons, s_nil, s_var, s_lst]
          refine ⟨_, rfl, le_size (by simp), ne_rows_nil ⟨_, rfl, ?_⟩⟩
          cases ev : cv.isEmpty with
          | true =>
            simp only [Bool.not_true, Bool.false_eq_true, if_false]
            refine ⟨_, rfl, _, rfl, i, j, rs.map tupI, rfl, to2.dl, by simpa using r0, by simpa using (by omega : rs.length ≤ 1000), fun d M3 hd3 to3 => ?_⟩
            obtain ⟨y, hy, rfl⟩ := mem_map_row hd3
            exact cont y M3 hy ((to.trans to2).trans to3)
          | false =>
            simp only [Bool.not_false, if_true]
            have cv0 : 0 < cv.length := by
              cases cv with
              | nil => cases ev
              | cons _ _ => exact Nat.succ_pos _
            refine ⟨_, rfl, _, rfl, i, j, cv.map tupI, rfl, to2.dl, by simpa using cv0, by simpa using (by omega : cv.length ≤ 1000), fun d M3 hd3 to3 => ?_⟩
            obtain ⟨y, hy, rfl⟩ := mem_map_row hd3
            exact cont y M3 (cm2 y hy) ((to.trans to2).trans to3)
    · rintro l M' ⟨to, _⟩
      exact fin to
end D.k33
end

section
set_option Elab.async false
set_option linter.all false
set_option maxRecDepth 100000
set_option maxHeartbeats 2000000
set_option autoImplicit false
set_option exponentiation.threshold 600
/-! k33: small stores of two keys. -/
namespace D.k33
open PySem PySem.Spec PyProof.Rows L2 D D.P33
theorem conn_congr {R R' : Rw → Prop} (h : ∀ r, R r ↔ R' r) : Conn R ↔ Conn R' := by
  have : R = R' := funext fun r => propext (h r)
  rw [this]
/-- all by t, and less than t apart: the same rows -/
theorem scaled {a b c0 c1 lo hi t g g' : Int} (ha : 0 ≤ a) (hb : 0 ≤ b) (ht : 0 < t) (g0 : 0 ≤ g) (g1 : g < t) (k0 : 0 ≤ g') (k1 : g' < t) (r : Rw) : InR [c0, c1] [a * t, b * t] (max 0 (lo * t - g)) (hi * t + g') r ↔ InR [c0, c1] [a, b] lo hi r := by
  constructor
  · intro h
    obtain ⟨x, y, rfl⟩ := in2_ex h
    obtain ⟨hx, hy, l, u⟩ := in2.mp h
    refine in2.mpr ⟨hx, hy, ?_, ?_⟩
    · apply Int.not_lt.mp
      intro hlt
      have e : t * (a * x + b * y) ≤ t * (lo - 1) := Int.mul_le_mul_of_nonneg_left (by omega) (by omega)
      rw [Int.mul_add, Int.mul_sub, Int.mul_one, ← Int.mul_assoc, ← Int.mul_assoc, Int.mul_comm t a, Int.mul_comm t b, Int.mul_comm t lo] at e
      omega
    · apply Int.not_lt.mp
      intro hlt
      have e : t * (hi + 1) ≤ t * (a * x + b * y) := Int.mul_le_mul_of_nonneg_left (by omega) (by omega)
      rw [Int.mul_add t hi 1, Int.mul_add t (a * x) (b * y), Int.mul_one, ← Int.mul_assoc, ← Int.mul_assoc, Int.mul_comm t a, Int.mul_comm t b, Int.mul_comm t hi] at e
      omega
  · intro h
    obtain ⟨x, y, rfl⟩ := in2_ex h
    obtain ⟨hx, hy, l, u⟩ := in2.mp h
    have e1 : t * lo ≤ t * (a * x + b * y) := Int.mul_le_mul_of_nonneg_left l (by omega)
    have e2 : t * (a * x + b * y) ≤ t * hi := Int.mul_le_mul_of_nonneg_left u (by omega)
    have e3 : 0 ≤ t * (a * x + b * y) := Int.mul_nonneg (by omega) (by
      have := Int.mul_nonneg ha hx.1
      have := Int.mul_nonneg hb hy.1
      omega)
    rw [Int.mul_add, ← Int.mul_assoc, ← Int.mul_assoc, Int.mul_comm t a, Int.mul_comm t b] at e1 e2 e3
    rw [Int.mul_comm t lo] at e1
    rw [Int.mul_comm t hi] at e2
    exact in2.mpr ⟨hx, hy, by omega, by omega⟩
def S__law_small (n : Nat) : DSp := fun ds M P _ => ∃ (i j : Nat), ds = [.ref i] ∧ Deal i j M ∧ 201 ≤ n ∧ ∀ M', To i j M M' → P (.bl true) M'
theorem pow_big : (7 : Int) * 10 ^ 28 + 7 < 2 ^ 100 := by decide
theorem p__law_small (n : Nat) : ∀ ds M Pd X, MemOk M → S__law_small n ds M Pd X → t__law_small (S__law_two n) S__law_great S__law_reached S__law_rows S__law_any S_weighed (dkOf M.length Pd X) (startD N__law_small ds) M := by
  rintro _ M Pd X - ⟨i, j, rfl, hd, hn, h⟩
  show t__law_small (S__law_two n) S__law_great S__law_reached S__law_rows S__law_any S_weighed (dkOf M.length Pd X) [some (.ref i), none, none, none, none, none, none, none, none, none, none] M
  have rt : ∀ d M', Pd d M' → (dkOf M.length Pd X).rt d M' := fun d M' h => ret_now h
  unfold t__law_small
  refine seq_step fun C1 hC1 => ?_
  simp only [s_par, s_lst, s_cons, s_nil, s_call, s_op, s_var, s_c]
  refine ⟨_, rfl, i, j, 6, rfl, hd, by decide, sm_le (by decide), fun c0 M1 p0 p1 to1 => ?_⟩
  refine ⟨_, rfl, i, j, 6, rfl, to1.dl, by decide, sm_le (by decide), fun c1 M2 p2 p3 to2 => ⟨le_size (by simp), ?_⟩⟩
  refine ⟨_, rfl, i, j, 7, rfl, to2.dl, by decide, sm_le (by decide), fun a0 M3 p4 p5 to3 => ?_⟩
  simp only [s_add_i]
  refine ⟨_, rfl, i, j, 7, rfl, to3.dl, by decide, sm_le (by decide), fun b0 M4 p6 p7 to4 => ?_⟩
  simp only [s_add_i]
  have to : To i j M M4 := ((to1.trans to2).trans to3).trans to4
  generalize ea : 1 + a0 = a
  generalize eb : 1 + b0 = b
  refine ⟨le_size (by simp), _, _, rfl, ?_⟩
  have l2 : Law2 a b c0 c1 := ⟨by omega, by omega, p0, p2, sm_le (by omega), sm_le (by omega), sm_le (by omega), sm_le (by omega)⟩
  have ma : a * c0 ≤ 7 * 5 := Int.mul_le_mul (by omega) (by omega) p0 (by decide)
  have mb : b * c1 ≤ 7 * 5 := Int.mul_le_mul (by omega) (by omega) p2 (by decide)
  have na : 0 ≤ a * c0 := Int.mul_nonneg (by omega) p0
  have nb : 0 ≤ b * c1 := Int.mul_nonneg (by omega) p2
  have ew : wsum [a, b] [c0, c1] = a * c0 + b * c1 := by show a * c0 + (b * c1 + 0) = _; omega
  subst hC1
  refine seq_step fun C2 hC2 => ?_
  simp only [s_set, s_lst, s_cons, s_nil, s_call, s_op, s_var, s_c]
  refine ⟨_, rfl, _, rfl, _, rfl, _, _, [a, b], [c0, c1], rfl, rfl, rfl, by simp, mem_two l2.2.2.2.2.1 l2.2.2.2.2.2.1, mem_two l2.2.2.2.2.2.2.1 l2.2.2.2.2.2.2.2, ?_⟩
  simp only [s_add_i, ew]
  refine ⟨i, j, _, rfl, to4.dl, by omega, sm_le (by omega), fun lo M5 q0 q1 to5 => ?_⟩
  subst hC2
  refine seq_step fun C3 hC3 => ?_
  simp only [s_set, s_cb, s_cons, s_nil, s_call, s_op, s_var, s_c]
  refine ⟨_, rfl, _, rfl, _, rfl, s_sum (ns := [a, b]) rfl ?_⟩
  have es : [a, b].sum = a + b := by simp
  simp only [s_add_i, es]
  refine ⟨i, j, _, rfl, to5.dl, by omega, sm_le (by omega), fun h0 M6 q2 q3 to6 => ?_⟩
  simp only [s_add_i]
  generalize eh : lo + h0 = hi
  subst hC3
  refine seq_step fun C4 hC4 => ?_
  simp only [s_set, s_cons, s_nil, s_call, s_var]
  have sm : Small [c0, c1] [a, b] := ⟨rfl, by simp, by simp, fun x hx => by
    simp at hx
    rcases hx with rfl | rfl <;> omega, mem_two l2.2.2.2.2.1 l2.2.2.2.2.2.1⟩
  refine ⟨_, rfl, _, rfl, _, rfl, _, rfl, _, _, lo, hi, [c0, c1], [a, b], rfl, sm.arg rfl rfl, sm.2.2.1, sm.2.2.2.1, ?_⟩
  have rl := rowsL_len (ws := [a, b]) (lo := lo) (hi := hi) sm.2.2.1 sm.2.2.2.1
  have rr : ∀ r ∈ rowsL [c0, c1] [a, b] lo hi, r.length = 2 := fun r hr => fit_len (mem_rowsL.mp hr).1
  have rm : ∀ r, r ∈ rowsL [c0, c1] [a, b] lo hi ↔ InR [c0, c1] [a, b] lo hi r := fun r => mem_rowsL
  have rn := rowsL_nd [c0, c1] [a, b] lo hi
  generalize rowsL [c0, c1] [a, b] lo hi = rs at *
  subst hC4
  refine seq_step fun C5 hC5 => ?_
  -- behind joined
  have cont : ∀ joined : Bool, (joined = true ↔ Conn (InR [c0, c1] [a, b] lo hi)) → C5 [some (.ref i), some (.lst (nms [c0, c1])), some (.lst (nms [a, b])), some (.int lo), some (.int hi), some (rowsD rs), some (.bl joined), none, none, none, none] M6 := fun joined hj => by
    subst hC5
    refine seq_step fun C6 hC6 => ?_
    simp only [s_ifS, s_not, s_tru, s_cons, s_nil, s_call, s_var]
    refine ⟨_, rfl, _, rfl, _, rfl, _, rfl, _, rfl, a, b, c0, c1, lo, hi, 100, joined, rfl, l2, by have := pow_big; omega, by decide, by omega, hj, _, rfl, ?_⟩
    simp only [Bool.not_true, Bool.false_eq_true, if_false, s_next]
    subst hC6
    refine seq_step fun C7 hC7 => ?_
    simp only [s_set, s_cons, s_nil, s_call, s_op, s_var, s_c]
    refine ⟨_, rfl, ?_⟩
    simp only [s_pow]
    refine ⟨by decide, i, j, _, rfl, to6.dl, by decide, fun t0 M7 q4 q5 to7 => ?_⟩
    simp only [s_add_i]
    have t28 : t0 < 10 ^ 28 := q5
    generalize et : 1 + t0 = t
    have tp : 0 < t := by omega
    subst hC7
    refine seq_step fun C8 hC8 => ?_
    simp only [s_par, s_cb, s_cons, s_nil, s_call, s_op, s_var, s_c]
    have lt : t.natAbs.log2 < 200 := log_lt (by omega) (by decide)
    have llo : lo.natAbs.log2 < 200 := log_lt (by omega) (by decide)
    have lhi : hi.natAbs.log2 < 200 := log_lt (by omega) (by decide)
    refine ⟨_, rfl, _, rfl, ?_⟩
    simp only [s_mul]
    refine ⟨by omega, _, rfl, _, rfl, i, j, t, rfl, to7.dl, tp, fun g M8 g0 g1 to8 => ?_⟩
    simp only [s_sub, s_max2]
    refine ⟨_, rfl, _, rfl, ?_⟩
    simp only [s_mul]
    refine ⟨by omega, _, rfl, _, rfl, i, j, t, rfl, to8.dl, tp, fun g' M9 k0 k1 to9 => ?_⟩
    simp only [s_add_i]
    refine ⟨_, _, rfl, ?_⟩
    subst hC8
    simp only [s_seq, s_ret, s_call, s_cons, s_nil, s_var, s_comp, s_iSeq]
    refine ⟨_, rfl, _, rfl, _, rfl, le_size (by simp), loopC_map (fun d => match d with | .int w => .int (w * t) | _ => .non) rfl ?_ ?_⟩
    · intro x hx D1 D2 hD
      obtain ⟨w, hw, rfl⟩ : ∃ w, (w = a ∨ w = b) ∧ x = .int w := by
        simp at hx
        rcases hx with rfl | rfl
        · exact ⟨a, .inl rfl, rfl⟩
        · exact ⟨b, .inr rfl, rfl⟩
      simp
      refine ⟨?_, hD⟩
      have : w.natAbs.log2 < 200 := log_lt (by rcases hw with rfl | rfl <;> omega) (by decide)
      omega
    · refine ⟨_, rfl, _, rfl, _, rfl, a * t, b * t, c0, c1, _, _, 100, joined, rfl, ?_, ?_, by decide, by omega, ?_, ?_⟩
      · have xa : a * t ≤ 7 * (10 ^ 28 + 1) := Int.mul_le_mul (by omega) (by omega) (by omega) (by decide)
        have xb : b * t ≤ 7 * (10 ^ 28 + 1) := Int.mul_le_mul (by omega) (by omega) (by omega) (by decide)
        have ya : 0 < a * t := Int.mul_pos (by omega) tp
        have yb : 0 < b * t := Int.mul_pos (by omega) tp
        exact ⟨ya, yb, p0, p2, sm_le (by omega), sm_le (by omega), sm_le (by omega), sm_le (by omega)⟩
      · have xa : a * t ≤ 7 * 10 ^ 28 := Int.mul_le_mul (by omega) (by omega) (by omega) (by decide)
        have := pow_big
        omega
      · rw [hj]
        exact conn_congr fun r => (scaled (by omega) (by omega) tp g0 g1 k0 k1 r).symm
      · exact rt _ _ (h _ (((((to.trans to5).trans to6).trans to7).trans to8).trans to9))
  simp only [s_set, s_orV, s_op, s_cb, s_lst, s_cons, s_nil, s_call, s_var, s_c]
  refine ⟨_, rfl, le_size (by simp), eq_rows_nil ⟨_, rfl, ?_⟩⟩
  by_cases en : rs = []
  · subst en
    rw [if_pos (by rfl)]
    exact cont true ⟨fun _ r s hr _ => absurd ((rm r).mpr hr) (by simp), fun _ => rfl⟩
  · have e1 : rs.isEmpty = false := by cases rs <;> first | rfl | exact absurd rfl en
    rw [e1, if_neg (by decide)]
    obtain ⟨r0, tl, rfl⟩ : ∃ r0 tl, rs = r0 :: tl := by
      cases rs with
      | nil => exact absurd rfl en
      | cons x t => exact ⟨x, t, rfl⟩
    refine ⟨_, rfl, _, rfl, s_ix (x := (r0 :: tl).map tupI) (v := tupI r0) rfl (atI_nat (j := 0) rfl) ⟨r0 :: tl, r0, 2, rfl, by omega, by decide, fun r hr => by
      rcases hr with rfl | hr
      · exact rr _ List.mem_cons_self
      · exact rr r hr, fun found hf hl hz => ?_⟩⟩
    simp only [s_len_l]
    refine ⟨_, rfl, ?_⟩
    simp only [s_len_l, s_eq_i]
    have dc := hf.conn (fun r s h1 h2 => by
      have f : ∀ q, (q = r0 ∨ q ∈ r0 :: tl) → q.length = 2 := fun q hq => by
        rcases hq with rfl | hq
        · exact rr _ List.mem_cons_self
        · exact rr q hq
      rw [f r h1, f s h2]) rn List.mem_cons_self
    refine cont _ ?_
    rw [decide_eq_true_iff, ← conn_congr rm, ← dc]
    simp only [List.length_map]
    omega
end D.k33
end

section
set_option Elab.async false
set_option linter.all false
set_option maxRecDepth 100000
set_option maxHeartbeats 2000000
set_option autoImplicit false
set_option exponentiation.threshold 600
/-! k33: wide stores of two keys. -/
namespace D.k33
open PySem PySem.Spec PyProof.Rows L2 D D.P33
theorem of_great {i j : Nat} {M : Mem} {l : List Dv} {B : Int} {P : PD} {Y Y' : PX} (hd : Deal i j M) (h0 : 0 < l.length) (h1 : l.length ≤ 1000) (hl : ∀ d ∈ l, ∃ n : Int, d = .int n ∧ 0 < n ∧ n ≤ B) (h : ∀ r M', 0 ≤ r → r < B → To i j M M' → P (.int r) M') :
    S__law_of [.ref i, .lst l] M (fun d M1 => S__law_great [.ref i, d] M1 P Y) Y' := ⟨i, j, l, rfl, hd, h0, h1, fun d M1 hdm to1 => by
  obtain ⟨n, rfl, hn, hB⟩ := hl d hdm
  exact ⟨i, j, n, rfl, to1.dl, hn, fun r M2 r0 r1 to2 => h r M2 r0 (by omega) (to1.trans to2)⟩⟩
theorem Deal.lt {i j : Nat} {M : Mem} (h : Deal i j M) : i < M.length ∧ j < M.length := by
  obtain ⟨xs, b, d⟩ := h
  exact ⟨(List.getElem?_eq_some_iff.mp d.di).1, (List.getElem?_eq_some_iff.mp d.dj).1⟩
theorem Deal.app {i j : Nat} {M : Mem} (h : Deal i j M) (o : MO) : Deal i j (M ++ [o]) := by
  have hl := h.lt
  obtain ⟨xs, b, d⟩ := h
  exact ⟨xs, b, by rw [List.getElem?_append_left hl.1]; exact d.di, by rw [List.getElem?_append_left hl.2]; exact d.dj, d.ne, d.pos, d.len, d.b0, d.b1⟩
theorem Deal.take {i j n : Nat} {M : Mem} (h : Deal i j M) (hi : i < n) (hj : j < n) : Deal i j (M.take n) := by
  obtain ⟨xs, b, d⟩ := h
  exact ⟨xs, b, by rw [List.getElem?_take_of_lt hi]; exact d.di, by rw [List.getElem?_take_of_lt hj]; exact d.dj, d.ne, d.pos, d.len, d.b0, d.b1⟩
theorem Deal.set {i j n : Nat} {M : Mem} {o : MO} (h : Deal i j M) (hi : i ≠ n) (hj : j ≠ n) : Deal i j (M.set n o) := by
  obtain ⟨xs, b, d⟩ := h
  exact ⟨xs, b, by rw [set_other hi]; exact d.di, by rw [set_other hj]; exact d.dj, d.ne, d.pos, d.len, d.b0, d.b1⟩
theorem cls_nms (n : Nat) : ∀ xs : List Int, cls n (nms xs) = true
  | [] => rfl
  | x :: xs => by show (true && cls n (nms xs)) = true; rw [cls_nms n xs]; rfl
/-- behind a def that made one list more -/
theorem ret_less {i j : Nat} {M Mf : Mem} {P : PD} (mo : MemOk M) (hd : Deal i j M) (hl : Mf.length = M.length + 1) (hout : ∀ p, p < M.length → p ≠ i → p ≠ j → Mf[p]? = M[p]?) (hd' : Deal i j Mf) (h : ∀ M', To i j M M' → P (.bl true) M') : Ret M.length P (.bl true) Mf := by
  have hlt := hd.lt
  have hln : (Mf.take M.length).length = M.length := by rw [List.length_take]; omega
  refine .inr ⟨by omega, fun o ho => ?_, .inl ⟨rfl, h _ ⟨hln, fun p h1 h2 => ?_, hd'.take hlt.1 hlt.2⟩⟩⟩
  · obtain ⟨p, hp⟩ := List.mem_iff_getElem?.mp ho
    have hpl : p < M.length := by have := (List.getElem?_eq_some_iff.mp hp).1; omega
    rw [List.getElem?_take_of_lt hpl] at hp
    obtain ⟨xs, b, d⟩ := hd'
    by_cases e1 : p = i
    · subst e1
      rw [d.di] at hp; cases hp
      show (decide (j < M.length) && true) = true
      rw [decide_eq_true hlt.2]; rfl
    · by_cases e2 : p = j
      · subst e2
        rw [d.dj] at hp; cases hp
        exact cls_nms _ xs
      · rw [hout p hpl e1 e2] at hp
        exact mo o (List.mem_of_getElem? hp)
  · by_cases hp : p < M.length
    · rw [List.getElem?_take_of_lt hp]; exact hout p hp h1 h2
    · rw [List.getElem?_eq_none (by omega), List.getElem?_eq_none (by omega)]
def S__law_wide (n : Nat) : DSp := S__law_small n
theorem p__law_wide (n : Nat) : ∀ ds M Pd X, MemOk M → S__law_wide n ds M Pd X → t__law_wide (S__law_two n) S__law_great S__law_of S_is_cut S_weighed (dkOf M.length Pd X) (startD N__law_wide ds) M := by
  rintro _ M Pd X mo ⟨i, j, rfl, hd, hn, h⟩
  show t__law_wide (S__law_two n) S__law_great S__law_of S_is_cut S_weighed (dkOf M.length Pd X) [some (.ref i), none, none, none, none, none, none, none, none] M
  have hlt := hd.lt
  unfold t__law_wide
  refine seq_step fun C1 hC1 => ?_
  simp only [s_set, s_comp, s_iR1, s_cons, s_nil, s_c]
  refine ⟨_, rfl, by decide, by decide, le_size (by decide), trivial, ?_⟩
  simp only [s_gN, s_yes, s_op, s_call, s_cons, s_nil, s_var, s_lst, s_c, s_pow, if_true]
  refine ⟨_, rfl, _, rfl, by decide, by decide, le_size (by simp), of_great (B := 10 ^ 14) hd (by simp) (by simp) (fun d hd => by
    simp at hd; rcases hd with rfl | rfl | rfl <;> exact ⟨_, rfl, by decide, by decide⟩) fun a0 M1 p0 p1 to1 => ?_⟩
  simp only [s_add_i]
  refine ⟨trivial, ?_⟩
  simp only [s_gN, s_yes, s_op, s_call, s_cons, s_nil, s_var, s_lst, s_c, s_pow, if_true]
  refine ⟨_, rfl, _, rfl, by decide, by decide, le_size (by simp), of_great (B := 10 ^ 14) to1.dl (by simp) (by simp) (fun d hd => by
    simp at hd; rcases hd with rfl | rfl | rfl <;> exact ⟨_, rfl, by decide, by decide⟩) fun b0 M2 p2 p3 to2 => ?_⟩
  simp only [s_add_i]
  refine ⟨trivial, ?_⟩
  generalize ea : 1 + a0 = a
  generalize eb : 1 + b0 = b
  have to : To i j M M2 := to1.trans to2
  show C1 [some (.ref i), some (.lst (nms [a, b])), none, none, none, none, none, none, none] M2
  subst hC1
  refine seq_step fun C2 hC2 => ?_
  simp only [s_set, s_compM, s_iR1, s_cons, s_nil, s_c]
  refine ⟨_, rfl, by decide, by decide, le_size (by decide), trivial, ?_⟩
  simp only [s_gN, s_yes, s_op, s_call, s_cons, s_nil, s_var, s_lst, s_c, s_pow, if_true]
  refine ⟨_, rfl, _, rfl, by decide, le_size (by simp), of_great (B := 10 ^ 15) to2.dl (by simp) (by simp) (fun d hd => by
    simp at hd; rcases hd with rfl | rfl | rfl <;> exact ⟨_, rfl, by decide, by decide⟩) fun x M3 p4 p5 to3 => ?_⟩
  refine ⟨trivial, ?_⟩
  simp only [s_gN, s_yes, s_op, s_call, s_cons, s_nil, s_var, s_lst, s_c, s_pow, if_true]
  refine ⟨_, rfl, _, rfl, by decide, le_size (by simp), of_great (B := 10 ^ 15) to3.dl (by simp) (by simp) (fun d hd => by
    simp at hd; rcases hd with rfl | rfl | rfl <;> exact ⟨_, rfl, by decide, by decide⟩) fun y0 M4 p6 p7 to4 => ?_⟩
  refine ⟨trivial, ?_⟩
  have to' : To i j M M4 := (to.trans to3).trans to4
  have l4 : M4.length = M.length := to'.len
  show C2 [some (.ref i), some (.lst (nms [a, b])), some (.ref M4.length), none, none, none, none, none, none] (M4 ++ [.lst (nms [x, y0])])
  rw [l4]
  have at4 : (M4 ++ [MO.lst (nms [x, y0])])[M.length]? = some (.lst (nms [x, y0])) := by rw [← l4]; simp
  subst hC2
  refine seq_step fun C3 hC3 => ?_
  simp only [s_asg, s_op, s_var, s_c, s_gSub]
  refine ⟨_, rfl, s_ix (x := nms [x, y0]) (v := .int y0) (seqD_ref at4) (atI_nat (j := 1) rfl) ?_⟩
  simp only [s_add_i]
  refine ⟨_, rfl, M.length, 1, nms [x, y0], 1, rfl, rfl, at4, rfl, ?_⟩
  generalize ey : y0 + 1 = y
  have hM5 : ∃ M5, M5 = (M4 ++ [MO.lst (nms [x, y0])]).set M.length (.lst (nms [x, y])) := ⟨_, rfl⟩
  obtain ⟨M5, eM5⟩ := hM5
  have at5 : M5[M.length]? = some (.lst (nms [x, y])) := by rw [eM5]; exact set_self at4
  have l5 : M5.length = M.length + 1 := by rw [eM5, List.length_set, List.length_append, l4]; rfl
  have d5 : Deal i j M5 := by rw [eM5]; exact (to'.dl.app _).set (by omega) (by omega)
  have o5 : ∀ p, p < M.length → p ≠ i → p ≠ j → M5[p]? = M[p]? := fun p hp h1 h2 => by
    rw [eM5, set_other (by omega), List.getElem?_append_left (by omega)]; exact to'.out p h1 h2
  show C3 [some (.ref i), some (.lst (nms [a, b])), some (.ref M.length), none, none, none, none, none, none] ((M4 ++ [MO.lst (nms [x, y0])]).set M.length (.lst (nms [x, y])))
  rw [← eM5]
  -- the list of the row stands, whatever is drawn
  have keep : ∀ {M' M'' : Mem}, To i j M' M'' → M'[M.length]? = some (.lst (nms [x, y])) → M''[M.length]? = some (.lst (nms [x, y])) := fun {M' M''} t e => (t.out _ (by omega) (by omega)).trans e
  subst hC3
  refine seq_step fun C4 hC4 => ?_
  simp only [s_set, s_op, s_call, s_cons, s_nil, s_var, s_lst, s_c]
  refine ⟨_, rfl, s_ix (x := nms [x, y]) (v := .int x) (seqD_ref at5) (atI_nat (j := 0) rfl) ?_⟩
  simp only [s_add_i, s_pow]
  refine ⟨_, rfl, _, rfl, by decide, le_size (by simp), of_great (B := 10 ^ 15) d5 (by simp) (by simp) (fun d hd => by
    simp at hd; rcases hd with rfl | rfl | rfl <;> exact ⟨_, rfl, by decide, by decide⟩) fun u M6 p8 p9 to6 => ?_⟩
  simp only [s_add_i]
  have at6 := keep to6 at5
  refine ⟨_, rfl, s_ix (x := nms [x, y]) (v := .int y) (seqD_ref at6) (atI_nat (j := 1) rfl) ?_⟩
  refine ⟨_, rfl, _, rfl, by decide, le_size (by simp), of_great (B := 10 ^ 15) to6.dl (by simp) (by simp) (fun d hd => by
    simp at hd; rcases hd with rfl | rfl | rfl <;> exact ⟨_, rfl, by decide, by decide⟩) fun v M7 p10 p11 to7 => ?_⟩
  simp only [s_add_i]
  refine ⟨le_size (by simp), ?_⟩
  have at7 := keep to7 at6
  have to57 : To i j M5 M7 := to6.trans to7
  generalize ec0 : x + 1 + u = c0
  generalize ec1 : y + v = c1
  have la : Law2 a b c0 c1 := ⟨by omega, by omega, by omega, by omega, sm_le (by omega), sm_le (by omega), sm_le (by omega), sm_le (by omega)⟩
  have lb : Law2 b a c1 c0 := ⟨by omega, by omega, by omega, by omega, sm_le (by omega), sm_le (by omega), sm_le (by omega), sm_le (by omega)⟩
  show C4 [some (.ref i), some (.lst (nms [a, b])), some (.ref M.length), some (.lst (nms [c0, c1])), none, none, none, none, none] M7
  subst hC4
  refine seq_step fun C5 hC5 => ?_
  simp only [s_par, s_op, s_call, s_cons, s_nil, s_var, s_lst, s_c]
  refine ⟨_, rfl, _, rfl, _, _, [a, b], [x, y], rfl, rfl, seqD_ref at7, by simp, mem_two (sm_le (by omega)) (sm_le (by omega)), mem_two (sm_le (by omega)) (sm_le (by omega)), ?_⟩
  refine ⟨_, rfl, _, rfl, s_ix (x := nms [x, y]) (v := .int x) (seqD_ref at7) (atI_nat (j := 0) rfl) ?_⟩
  simp only [s_add_i]
  refine ⟨_, rfl, s_ix (x := nms [x, y]) (v := .int y) (seqD_ref at7) (atI_nat (j := 1) rfl) ?_⟩
  simp only [s_sub]
  refine ⟨le_size (by simp), _, _, [a, b], [x + 1, y - 1], rfl, rfl, rfl, by simp, mem_two (sm_le (by omega)) (sm_le (by omega)), mem_two (sm_le (by omega)) (sm_le (by omega)), _, _, rfl, ?_⟩
  have et : wsum [a, b] [x, y] = a * x + b * y := by show a * x + (b * y + 0) = _; omega
  have em : wsum [a, b] [x + 1, y - 1] = a * x + b * y + a - b := by
    show a * (x + 1) + (b * (y - 1) + 0) = _
    rw [Int.mul_add, Int.mul_sub, Int.mul_one, Int.mul_one]; omega
  rw [et, em]
  generalize eT : a * x + b * y = T
  subst hC5
  refine seq_step fun C6 hC6 => ?_
  simp only [s_set, s_op, s_call, s_cons, s_nil, s_var, s_cb, s_c]
  refine ⟨_, rfl, _, rfl, ?_⟩
  simp only [s_min2]
  refine ⟨_, rfl, _, rfl, _, rfl, ?_⟩
  simp only [s_min2]
  refine ⟨_, rfl, _, rfl, s_ix (x := nms [a, b]) (v := .int b) rfl (atI_nat (j := 1) rfl) ?_⟩
  simp only [s_sub, s_add_i]
  refine ⟨i, j, _, rfl, to57.dl, by omega, fun g M8 g0 g1 to8 => ?_⟩
  simp only [s_sub]
  generalize elo : min T (T + a - b) - g = lo
  subst hC6
  refine seq_step fun C7 hC7 => ?_
  simp only [s_set, s_op, s_call, s_cons, s_nil, s_var, s_cb, s_c]
  refine ⟨_, rfl, _, rfl, ?_⟩
  simp only [s_max2]
  refine ⟨_, rfl, _, rfl, _, rfl, s_ix (x := nms [a, b]) (v := .int a) rfl (atI_nat (j := 0) rfl) ?_⟩
  simp only [s_sub, s_add_i]
  refine ⟨_, rfl, _, rfl, ?_⟩
  simp only [s_max2, s_sub, s_add_i]
  refine ⟨i, j, _, rfl, to8.dl, by omega, fun g' M9 k0 k1 to9 => ?_⟩
  simp only [s_add_i]
  generalize ehi : max T (T + a - b) + g' = hi
  have at9 := keep to9 (keep to8 at7)
  have to59 : To i j M5 M9 := (to57.trans to8).trans to9
  have inx : InR [c0, c1] [a, b] lo hi [x, y] := in2.mpr ⟨by omega, by omega, by omega, by omega⟩
  have em2 : a * (x + 1) + b * (y - 1) = T + a - b := by rw [Int.mul_add, Int.mul_sub, Int.mul_one, Int.mul_one]; omega
  have iny : InR [c0, c1] [a, b] lo hi [x + 1, y - 1] := in2.mpr ⟨by omega, by omega, by omega, by omega⟩
  have cc := cut2_of (a := a) (b := b) (lo := lo) (hi := hi) (x := x) (y := y) (xo := x + 1) (yo := y - 1) (by omega) (by omega) (by omega) (by omega)
  have cb := cutB_rows inx iny cc
  have nc := cut_a (c0 := c0) (c1 := c1) (by omega) (by omega) inx iny (by omega) (by omega) (show x < x + 1 by omega)
  have inx' : InR [c1, c0] [b, a] lo hi [y, x] := in2.mpr ⟨by omega, by omega, by omega, by omega⟩
  have iny' : InR [c1, c0] [b, a] lo hi [y - 1, x + 1] := in2.mpr ⟨by omega, by omega, by omega, by omega⟩
  have nc' := cut_b (by omega) (by omega) inx' iny' (by omega) (by omega) (show x < x + 1 by omega)
  have p50 : (10 : Int) ^ 14 + 1 < 2 ^ 50 := by decide
  subst hC7
  refine seq_step fun C8 hC8 => ?_
  simp only [s_ifS, s_not, s_tru, s_op, s_call, s_cons, s_nil, s_var, s_cb, s_c, s_tup]
  refine ⟨_, rfl, _, rfl, _, rfl, _, rfl, _, rfl, ?_⟩
  rw [s_tuple (x := nms [x, y]) (seqD_ref at9)]
  refine ⟨_, rfl, s_ix (x := nms [x, y]) (v := .int x) (seqD_ref at9) (atI_nat (j := 0) rfl) ?_⟩
  simp only [s_add_i]
  refine ⟨_, rfl, s_ix (x := nms [x, y]) (v := .int y) (seqD_ref at9) (atI_nat (j := 1) rfl) ?_⟩
  simp only [s_sub]
  refine ⟨le_size (by simp), le_size (by simp), _, _, lo, hi, .tup [tupI [x, y], tupI [x + 1, y - 1]], [c0, c1], [a, b], rfl, la.arg rfl rfl, okV_pair (okV_row _) (okV_row _), _, rfl, ?_⟩
  rw [cb]
  simp only [Bool.not_true, Bool.false_eq_true, if_false, s_next]
  subst hC8
  refine seq_step fun C9 hC9 => ?_
  simp only [s_ifS, s_or, s_not, s_tru, s_call, s_cons, s_nil, s_var, s_c, s_rev]
  refine ⟨_, rfl, _, rfl, _, rfl, _, rfl, a, b, c0, c1, lo, hi, 50, false, rfl, la, by omega, by decide, by omega, ⟨fun z => (by cases z), fun z => absurd z nc⟩, _, rfl, ?_⟩
  simp only [Bool.not_true, Bool.false_eq_true, if_false]
  refine ⟨_, rfl, _, rfl, _, rfl, _, rfl, _, rfl, _, rfl, b, a, c1, c0, lo, hi, 50, false, rfl, lb, by omega, by decide, by omega, ⟨fun z => (by cases z), fun z => absurd z nc'⟩, _, rfl, ?_⟩
  simp only [Bool.not_true, Bool.false_eq_true, if_false, s_next]
  subst hC9
  simp only [s_seq, s_ret, s_op, s_call, s_cons, s_nil, s_var, s_cb, s_c, s_lst, s_pow]
  refine ⟨_, rfl, _, rfl, _, rfl, _, rfl, _, rfl, s_sum (ns := [a, b]) rfl ?_⟩
  have es : [a, b].sum = a + b := by simp
  simp only [s_add_i, s_sub, es]
  refine ⟨_, rfl, _, rfl, by decide, le_size (by simp), of_great (B := 10 ^ 14) to59.dl (by simp) (by simp) (fun d hd => by
    simp at hd; rcases hd with rfl | rfl <;> exact ⟨_, rfl, by decide, by decide⟩) fun s M10 q0 q1 to10 => ?_⟩
  simp only [s_add_i]
  refine ⟨a, b, c0, c1, lo, _, 50, true, rfl, la, by omega, by decide, by omega, ⟨fun _ => ?_, fun _ => rfl⟩, ?_⟩
  · refine slack_conn rfl (fun k hk => ?_) fun u d hu hd' hne => ?_
    · have : k = 0 ∨ k = 1 := by simp at hk; omega
      rcases this with rfl | rfl
      · show 0 ≤ a; omega
      · show 0 ≤ b; omega
    · have h1 : u = 0 ∨ u = 1 := by simp at hu; omega
      have h2 : d = 0 ∨ d = 1 := by simp at hd'; omega
      rcases h1 with rfl | rfl <;> rcases h2 with rfl | rfl
      · exact absurd rfl hne
      · show a + b - 1 ≤ _; omega
      · show b + a - 1 ≤ _; omega
      · exact absurd rfl hne
  · have tf : To i j M5 M10 := to59.trans to10
    refine ret_less mo hd (by rw [tf.len, l5]) (fun p hp h1 h2 => (tf.out p h1 h2).trans (o5 p hp h1 h2)) tf.dl h
end D.k33
end

section
set_option Elab.async false
set_option linter.all false
set_option maxRecDepth 100000
set_option maxHeartbeats 2000000
set_option autoImplicit false
set_option exponentiation.threshold 600
/-! k33: the law. -/
namespace D.k33
open PySem PySem.Spec PyProof.Rows L2 D D.P33
/-- keys that pass a test -/
theorem key_go {ks : List Nat} {q : Nat → Bool} {tt : DT} {l : Loc} {M : Mem} {chk : Mem → Prop} {P : List Dv → Mem → Prop} (hc : chk M) (hi : 10 < l.length) (ht : ∀ k (Q : Bool → Mem → Prop), k ∈ ks → Q (q k) M → tt (l.set 10 (some (.int (k : Nat)))) M Q noX) (h : P ((ks.filter q).map fun (k : Nat) => Dv.int (k : Int)) M) :
    loopC (gN 10) tt (dVar 10) [10] chk (ks.map fun (k : Nat) => Dv.int (k : Int)) [] l M P := by
  refine loopC_pure (fun d => match d with | .int k => q k.toNat | _ => false) id hc ?_ ?_
  · intro z hz D5 D6 hD5
    obtain ⟨k, hk, rfl⟩ := List.mem_map.mp hz
    simp only [s_gN, s_wipe0, s_wipe1, List.set_set]
    refine ht k _ hk ?_
    simp at hD5 ⊢
    cases e : q k with
    | true => simp [e] at hD5 ⊢; exact ⟨_, by simp [hi], hD5⟩
    | false => simp [e] at hD5 ⊢; exact hD5
  · have e2 : [] ++ ((ks.map fun (k : Nat) => Dv.int (k : Int)).filter (fun d : Dv => match d with | .int k => q k.toNat | _ => false)).map id = (ks.filter q).map fun (k : Nat) => Dv.int (k : Int) := by
      rw [List.nil_append, List.map_id, List.filter_map]; rfl
    rw [e2]; exact h
theorem wsum_small : ∀ {ws cs : List Int}, (∀ x ∈ cs, 0 ≤ x ∧ x ≤ 3) → (∀ w ∈ ws, 1 ≤ w ∧ w ≤ 5) → 0 ≤ wsum ws cs ∧ wsum ws cs ≤ 15 * ws.length
  | [], cs, _, _ => by cases cs <;> exact ⟨by show (0 : Int) ≤ 0; decide, by show (0 : Int) ≤ 15 * 0; decide⟩
  | w :: ws, [], _, _ => ⟨by show (0 : Int) ≤ 0; decide, by show (0 : Int) ≤ _; omega⟩
  | w :: ws, c :: cs, hc, hw => by
    have ih := wsum_small (ws := ws) (cs := cs) (fun x h => hc x (List.mem_cons_of_mem _ h)) (fun x h => hw x (List.mem_cons_of_mem _ h))
    have c1 := hc c List.mem_cons_self
    have w1 := hw w List.mem_cons_self
    have m1 : w * c ≤ 5 * 3 := Int.mul_le_mul (by omega) (by omega) (by omega) (by decide)
    have m0 : 0 ≤ w * c := Int.mul_nonneg (by omega) (by omega)
    show 0 ≤ w * c + wsum ws cs ∧ w * c + wsum ws cs ≤ 15 * ((ws.length + 1 : Nat) : Int)
    omega
theorem sum_small : ∀ {ws : List Int}, (∀ w ∈ ws, 1 ≤ w ∧ w ≤ 5) → 0 ≤ ws.sum ∧ ws.sum ≤ 5 * ws.length
  | [], _ => ⟨by decide, by decide⟩
  | w :: ws, hw => by
    have ih := sum_small (ws := ws) (fun x h => hw x (List.mem_cons_of_mem _ h))
    have w1 := hw w List.mem_cons_self
    rw [List.sum_cons, List.length_cons]
    omega
theorem at_mem {l : List Int} {k : Nat} (h : k < l.length) : at' l k ∈ l := by
  unfold at'
  rw [List.getD_eq_getElem?_getD, List.getElem?_eq_getElem h]
  exact List.getElem_mem h
/-- one row of the slack reaches the other, the keys that agree held -/
theorem held {cs ws : List Int} {lo v : Int} {o p : Rw} (hl : ws.length = cs.length) (h0 : ∀ w ∈ ws, 1 ≤ w) (hv : IsDue cs ws v) (ho : InR cs ws lo (lo + v) o) (hp : InR cs ws lo (lo + v) p) :
    Path (fun t => InR cs ws lo (lo + v) t ∧ ∀ k, k < ws.length → at' o k = at' p k → at' t k = at' p k) o p := by
  refine slack_path hl (fun k hk => by have := h0 _ (at_mem hk); omega) hp _ o rfl ho fun u d hu hd hud nu nd => ?_
  obtain ⟨D, hD, hperm, rfl⟩ := hv
  have lo' := fit_len ho.1
  have lp' := fit_len hp.1
  have lv : ∀ k, k < ws.length → at' o k ≠ at' p k → k ∈ live cs := fun k hk hn => by
    have f1 := fit_at ho.1 (k := k) (by omega)
    have f2 := fit_at hp.1 (k := k) (by omega)
    exact mem_live.mpr ⟨by omega, by omega⟩
  have := due_pair hD hperm (lv u hu nu) (lv d hd nd) hud
  omega
theorem p_law (K : PySem.W.Frag) (n : Nat) (hn : 201 ≤ n) : ∀ ds M Pd X, MemOk M → SLaw K 63 ds M Pd X → t_law S__law_slack S__law_great S__law_of S__law_any S__law_reached S__law_rows S_enough_slack S__law_near_cuts S_weighed (S__law_wide n) (S__law_small n) (S__law_draw K) (dkOf M.length Pd X) (startD N_law ds) M := by
  rintro _ M0 Pd X - ⟨d, ns, rfl, hs, hz, h⟩
  show t_law S__law_slack S__law_great S__law_of S__law_any S__law_reached S__law_rows S_enough_slack S__law_near_cuts S_weighed (S__law_wide n) (S__law_small n) (S__law_draw K) (dkOf M0.length Pd X) [some d, none, none, none, none, none, none, none, none, none, none, none, none] M0
  have rt : ∀ M', (dkOf M0.length Pd X).rt (.bl true) M' := fun M' => ret_now (h M')
  generalize dkOf M0.length Pd X = E at rt ⊢
  unfold t_law
  refine seq_step fun C1 hC1 => ?_
  simp only [s_set, s_call, s_cons, s_nil, s_var, s_c]
  refine ⟨_, rfl, d, ns, 33, rfl, hs, hz, by decide, by decide, fun xs b hx hxl hb0 hb1 => ?_⟩
  have hd0 : Deal (M0.length + 1) M0.length (M0 ++ [.lst (nms xs), .lst [.ref M0.length, .int b]]) := ⟨xs, b, by simp, by simp, by omega, hx, by omega, hb0, hb1⟩
  generalize M0 ++ [.lst (nms xs), .lst [.ref M0.length, .int b]] = M at hd0
  generalize M0.length + 1 = i at hd0
  generalize M0.length = j at hd0
  show C1 [some d, some (.ref i), none, none, none, none, none, none, none, none, none, none, none] M
  subst hC1
  refine seq_step fun C2 hC2 => ?_
  simp only [s_ifS, s_or, s_not, s_tru, s_call, s_cons, s_nil, s_var, s_c]
  refine ⟨_, rfl, i, j, rfl, hd0, hn, fun M1 to1 => ⟨_, rfl, ?_⟩⟩
  simp only [Bool.not_true, Bool.false_eq_true, if_false]
  refine ⟨_, rfl, i, j, rfl, to1.dl, hn, fun M2 to2 => ⟨_, rfl, ?_⟩⟩
  simp only [Bool.not_true, Bool.false_eq_true, if_false, s_next]
  have d2 := to2.dl
  clear to1 to2 hd0
  subst hC2
  refine seq_step fun C3 hC3 => ?_
  -- the caps
  simp only [s_set, s_comp, s_iR1, s_call, s_cons, s_nil, s_var, s_c, s_lst]
  refine ⟨_, rfl, le_size (by simp), i, j, _, rfl, d2, by simp, by simp, fun q M3 hq to3 => ?_⟩
  obtain ⟨m, rfl, hm0, hm1⟩ : ∃ m : Int, q = .int m ∧ 1 ≤ m ∧ m ≤ 3 := by
    simp at hq
    rcases hq with rfl | rfl | rfl
    · exact ⟨_, rfl, by decide, by decide⟩
    · exact ⟨_, rfl, by decide, by decide⟩
    · exact ⟨_, rfl, by decide, by decide⟩
  obtain ⟨m, rfl⟩ := Int.eq_ofNat_of_zero_le (show 0 ≤ m by omega)
  refine ⟨_, rfl, by omega, by omega, le_size (by rw [rng_nat]; simp; omega), ?_⟩
  refine loopC_inv (fun pre acc M' => Deal i j M' ∧ ∃ cs : List Int, acc = nms cs ∧ cs.length = pre.length ∧ ∀ x ∈ cs, 0 ≤ x ∧ x ≤ 3) (fun _ _ _ _ => trivial) (pre := []) ⟨to3.dl, [], rfl, rfl, by simp⟩ ?_ ?_
  · rintro pre x acc M' - ⟨hd', cs, rfl, hl, hc⟩ D1 D2 hD - 
    simp only [s_gN, s_yes, s_call, s_cons, s_nil, s_var, s_c, s_lst, if_true]
    refine ⟨_, rfl, le_size (by simp), i, j, _, rfl, hd', by simp, by simp, fun q M4 hq to4 => ?_⟩
    obtain ⟨c, rfl, hc0, hc1⟩ : ∃ c : Int, q = .int c ∧ 0 ≤ c ∧ c ≤ 3 := by
      simp at hq
      rcases hq with rfl | rfl | rfl | rfl
      · exact ⟨_, rfl, by decide, by decide⟩
      · exact ⟨_, rfl, by decide, by decide⟩
      · exact ⟨_, rfl, by decide, by decide⟩
      · exact ⟨_, rfl, by decide, by decide⟩
    exact hD _ _ ⟨to4.dl, cs ++ [c], by simp, by simp [hl], fun x hx => by
      rcases List.mem_append.mp hx with h | h
      · exact hc x h
      · simp at h; subst h; exact ⟨hc0, hc1⟩⟩
  rintro _ M4 ⟨d4, cs, rfl, hcl, hc⟩
  have hcl : cs.length = m := by rw [hcl, List.nil_append, rng_nat]; simp
  show C3 [some d, some (.ref i), some (.lst (nms cs)), none, none, none, none, none, none, none, none, none, none] M4
  subst hC3
  refine seq_step fun C4 hC4 => ?_
  -- the weights
  simp only [s_set, s_comp, s_iSeq, s_call, s_cons, s_nil, s_var, s_c, s_op]
  refine ⟨_, rfl, _, rfl, le_size (by simp; omega), ?_⟩
  refine loopC_inv (fun pre acc M' => Deal i j M' ∧ ∃ ws : List Int, acc = nms ws ∧ ws.length = pre.length ∧ ∀ x ∈ ws, 1 ≤ x ∧ x ≤ 5) (fun _ _ M' _ => (show chkD (.lst (nms cs)) (nms cs) M' from rfl)) (pre := []) ⟨d4, [], rfl, rfl, by simp⟩ ?_ ?_
  · rintro pre x acc M' - ⟨hd', ws, rfl, hl, hc⟩ D1 D2 hD -
    simp only [s_gN, s_yes, s_call, s_cons, s_nil, s_var, s_c, s_op, if_true]
    refine ⟨_, rfl, i, j, _, rfl, hd', by decide, sm_le (by decide), fun r M5 r0 r1 to5 => ?_⟩
    simp only [s_add_i]
    exact hD _ _ ⟨to5.dl, ws ++ [1 + r], by simp, by simp [hl], fun x hx => by
      rcases List.mem_append.mp hx with h | h
      · exact hc x h
      · simp at h; subst h; omega⟩
  rintro _ M5 ⟨d5, ws, rfl, hwl, hw⟩
  have hwl : ws.length = cs.length := by rw [hwl, List.nil_append]; simp
  show C4 [some d, some (.ref i), some (.lst (nms cs)), some (.lst (nms ws)), none, none, none, none, none, none, none, none, none] M5
  have sc : ∀ x ∈ cs, Sm x := fun x hx => sm_le (by have := hc x hx; omega)
  have sw : ∀ x ∈ ws, Sm x := fun x hx => sm_le (by have := hw x hx; omega)
  have small : Small cs ws := ⟨hwl, by omega, by omega, fun x hx => by have := hc x hx; omega, sw⟩
  have wb := wsum_small hc hw
  have sb := sum_small hw
  subst hC4
  refine seq_step fun C5 hC5 => ?_
  simp only [s_ifS, s_not, s_tru, s_call, s_cons, s_nil, s_var, s_c]
  refine ⟨_, rfl, _, rfl, cs, ws, rfl, hwl, by omega, sc, sw, fun k hk => (hc _ (at_mem hk)).1, fun k hk => (hw _ (at_mem hk)).1, _, rfl, ?_⟩
  simp only [Bool.not_true, Bool.false_eq_true, if_false, s_next]
  subst hC5
  refine seq_step fun C6 hC6 => ?_
  simp only [s_set, s_call, s_cons, s_nil, s_var, s_c, s_op]
  refine ⟨_, rfl, _, rfl, _, rfl, _, _, ws, cs, rfl, rfl, rfl, by omega, sw, sc, ?_⟩
  simp only [s_add_i]
  refine ⟨i, j, _, rfl, d5, by omega, sm_le (by omega), fun lo M6 q0 q1 to6 => ?_⟩
  show C6 [some d, some (.ref i), some (.lst (nms cs)), some (.lst (nms ws)), some (.int lo), none, none, none, none, none, none, none, none] M6
  have d6 := to6.dl
  clear to6
  subst hC6
  refine seq_step fun C7 hC7 => ?_
  simp only [s_ifS, s_not, s_tru, s_call, s_cons, s_nil, s_var, s_c, s_op, s_cb]
  refine ⟨_, rfl, _, rfl, _, rfl, _, rfl, _, rfl, _, rfl, _, rfl, s_sum (ns := ws) rfl ?_⟩
  simp only [s_add_i]
  refine ⟨i, j, _, rfl, d6, by omega, sm_le (by omega), fun g M7 g0 g1 to7 => ?_⟩
  simp only [s_add_i]
  refine ⟨i, j, cs, ws, lo, lo + g, rfl, to7.dl, small, fun M8 to8 => ⟨_, rfl, ?_⟩⟩
  simp only [Bool.not_true, Bool.false_eq_true, if_false, s_next]
  have d8 := to8.dl
  clear to7 to8
  subst hC7
  refine seq_step fun C8 hC8 => ?_
  simp only [s_set, s_call, s_cons, s_nil, s_var, s_c, s_op]
  refine ⟨_, rfl, _, rfl, _, rfl, _, rfl, _, rfl, _, rfl, _, _, cs, ws, rfl, small.arg rfl rfl, fun v hv => ?_⟩
  simp only [s_add_i]
  refine ⟨_, _, lo, lo + v, cs, ws, rfl, small.arg rfl rfl, small.2.2.1, small.2.2.2.1, ?_⟩
  have rl := rowsL_len (ws := ws) (lo := lo) (hi := lo + v) small.2.2.1 small.2.2.2.1
  have rr : ∀ r ∈ rowsL cs ws lo (lo + v), r.length = cs.length := fun r hr => fit_len (mem_rowsL.mp hr).1
  have rm : ∀ r, r ∈ rowsL cs ws lo (lo + v) ↔ InR cs ws lo (lo + v) r := fun r => mem_rowsL
  generalize rowsL cs ws lo (lo + v) = rs at *
  show C8 [some d, some (.ref i), some (.lst (nms cs)), some (.lst (nms ws)), some (.int lo), some (rowsD rs), none, none, none, none, none, none, none] M8
  subst hC8
  refine seq_step fun C9 hC9 => ?_
  -- behind the rows: great caps
  have fin : ∀ a6 a7 a8 M9, Deal i j M9 → C9 [some d, some (.ref i), some (.lst (nms cs)), some (.lst (nms ws)), some (.int lo), some (rowsD rs), a6, a7, a8, none, none, none, none] M9 := fun a6 a7 a8 M9 d9 => by
    subst hC9
    refine seq_step fun C10 hC10 => ?_
    simp only [s_set, s_comp, s_iR1, s_call, s_cons, s_nil, s_var, s_c, s_op]
    refine ⟨_, rfl, i, j, 12, rfl, d9, by decide, sm_le (by decide), fun q MA qa qb toA => ?_⟩
    simp only [s_add_i]
    obtain ⟨q, rfl⟩ := Int.eq_ofNat_of_zero_le qa
    have e1 : (1 : Int) + (q : Nat) = ((1 + q : Nat) : Int) := by omega
    rw [e1]
    refine ⟨_, rfl, by omega, by omega, le_size (by rw [rng_nat]; simp; omega), ?_⟩
    refine loopC_inv (fun pre acc M' => Deal i j M' ∧ ∃ cs : List Int, acc = nms cs ∧ cs.length = pre.length ∧ ∀ x ∈ cs, 0 ≤ x ∧ x ≤ 10 ^ 30) (fun _ _ _ _ => trivial) (pre := []) ⟨toA.dl, [], rfl, rfl, by simp⟩ ?_ ?_
    · rintro pre x acc M' - ⟨hd', cs, rfl, hl, hc⟩ D1 D2 hD -
      simp only [s_gN, s_yes, s_call, s_cons, s_nil, s_var, s_c, s_lst, s_op, s_pow, if_true]
      refine ⟨_, rfl, _, rfl, by decide, i, j, _, rfl, hd', by decide, fun u MB u0 u1 toB => ⟨le_size (by simp), i, j, _, rfl, toB.dl, by simp, by simp, fun z MC hz toC => ?_⟩⟩
      have u1' : u < 10 ^ 30 := u1
      obtain ⟨c, rfl, hc0, hc1⟩ : ∃ c : Int, z = .int c ∧ 0 ≤ c ∧ c ≤ 10 ^ 30 := by
        simp at hz
        rcases hz with rfl | rfl | rfl
        · exact ⟨_, rfl, by decide, by decide⟩
        · exact ⟨_, rfl, by decide, by decide⟩
        · exact ⟨_, rfl, by omega, by omega⟩
      exact hD _ _ ⟨toC.dl, cs ++ [c], by simp, by simp [hl], fun x hx => by
        rcases List.mem_append.mp hx with h | h
        · exact hc x h
        · simp at h; subst h; exact ⟨hc0, hc1⟩⟩
    rintro _ MB ⟨dB, gs, rfl, hgl, hg⟩
    have hgl : gs.length = 1 + q := by rw [hgl, List.nil_append, rng_nat]; simp
    show C10 [some d, some (.ref i), some (.lst (nms cs)), some (.lst (nms ws)), some (.int lo), some (rowsD rs), a6, a7, a8, some (.lst (nms gs)), none, none, none] MB
    subst hC10
    simp only [s_seq, s_ret, s_comp, s_iSeq, s_call, s_cons, s_nil, s_var, s_c, s_op]
    refine ⟨_, rfl, _, rfl, _, rfl, le_size (by simp; omega), ?_⟩
    refine loopC_inv (fun pre acc M' => Deal i j M' ∧ ∃ ws : List Int, acc = nms ws ∧ ws.length = pre.length ∧ ∀ x ∈ ws, 1 ≤ x ∧ x ≤ 10 ^ 28) (fun _ _ M' _ => (show chkD (.lst (nms gs)) (nms gs) M' from rfl)) (pre := []) ⟨dB, [], rfl, rfl, by simp⟩ ?_ ?_
    · rintro pre x acc M' - ⟨hd', ws, rfl, hl, hc⟩ D1 D2 hD -
      simp only [s_gN, s_yes, s_call, s_cons, s_nil, s_var, s_c, s_lst, s_op, s_pow, if_true]
      refine ⟨_, rfl, _, rfl, by decide, le_size (by simp), of_great (B := 10 ^ 28) hd' (by simp) (by simp) (fun d hd => by
        simp at hd; rcases hd with rfl | rfl <;> exact ⟨_, rfl, by decide, by decide⟩) fun u MC u0 u1 toC => ?_⟩
      simp only [s_add_i]
      exact hD _ _ ⟨toC.dl, ws ++ [1 + u], by simp, by simp [hl], fun x hx => by
        rcases List.mem_append.mp hx with h | h
        · exact hc x h
        · simp at h; subst h; omega⟩
    rintro _ MC ⟨dC, vs, rfl, hvl, hv⟩
    have hvl : vs.length = gs.length := by rw [hvl, List.nil_append]; simp
    exact ⟨gs, vs, rfl, hvl, by omega, fun x hx => sm_le (by have := hg x hx; omega), fun x hx => sm_le (by have := hv x hx; omega), fun k hk => (hg _ (at_mem hk)).1, fun k hk => (hv _ (at_mem hk)).1, rt _⟩
  simp only [s_ifS, s_test, s_op, s_var, s_lst, s_nil]
  refine ⟨_, rfl, le_size (by simp), ne_rows_nil ⟨_, rfl, ?_⟩⟩
  by_cases en : rs = []
  · subst en
    simp only [List.isEmpty_nil, Bool.not_true, Bool.false_eq_true, if_false, s_next]
    exact fin none none none M8 d8
  have e1 : rs.isEmpty = false := by cases rs <;> first | rfl | exact absurd rfl en
  rw [e1]
  simp only [Bool.not_false, if_true]
  have rp : 0 < rs.length := List.length_pos_iff.mpr en
  refine seq_step fun C10 hC10 => ?_
  simp only [s_asg, s_tup, s_call, s_cons, s_nil, s_var]
  refine ⟨_, rfl, _, rfl, i, j, rs.map tupI, rfl, d8, by simpa using rp, by simp; omega, fun od M9 hod to9 => ?_⟩
  obtain ⟨o, ho, rfl⟩ := mem_map_row hod
  refine ⟨_, rfl, _, rfl, i, j, rs.map tupI, rfl, to9.dl, by simpa using rp, by simp; omega, fun pd MA hpd toA => ⟨le_size (by simp), ?_⟩⟩
  obtain ⟨p, hp, rfl⟩ := mem_map_row hpd
  have dA := toA.dl
  clear to9 toA
  simp only [s_gT, s_gsC, s_gN, s_gsN]
  refine ⟨_, rfl, rfl, _, _, rfl, _, _, rfl, rfl, ?_⟩
  show C10 [some d, some (.ref i), some (.lst (nms cs)), some (.lst (nms ws)), some (.int lo), some (rowsD rs), some (tupI o), some (tupI p), none, none, none, none, none] MA
  have ol := rr o ho
  have pl := rr p hp
  subst hC10
  refine seq_step fun C11 hC11 => ?_
  simp only [s_set, s_comp, s_iR1, s_cb, s_cons, s_nil, s_var]
  refine ⟨_, rfl, ?_⟩
  rw [s_len_l, List.length_map]
  refine ⟨_, rfl, by omega, by omega, le_size (by rw [rng_nat]; simp; omega), ?_⟩
  rw [rng_nat]
  refine key_go (q := fun k => at' o k == at' p k) trivial (by simp) (fun k Q hk hQ => ?_) ?_
  · have hk' := List.mem_range.mp hk
    simp only [s_test, s_op, s_var]
    refine ⟨_, rfl, _, rfl, s_ixn (e := tupI o) rfl (at_nms (by omega)) ⟨_, rfl, _, rfl, s_ixn (e := tupI p) rfl (at_nms (by omega)) (by show gEq (.int (at' o k)) (.int (at' p k)) _ _; rw [s_eq_i]; exact ⟨_, rfl, hQ⟩)⟩⟩
  have km : ∀ k, k ∈ (List.range cs.length).filter (fun k => at' o k == at' p k) ↔ k < cs.length ∧ at' o k = at' p k := fun k => by simp
  have kl : ((List.range cs.length).filter (fun k => at' o k == at' p k)).length ≤ cs.length := by
    have := List.length_filter_le (fun k => at' o k == at' p k) (List.range cs.length)
    rw [List.length_range] at this; exact this
  generalize (List.range cs.length).filter (fun k => at' o k == at' p k) = ks at km kl
  show C11 [some d, some (.ref i), some (.lst (nms cs)), some (.lst (nms ws)), some (.int lo), some (rowsD rs), some (tupI o), some (tupI p), some (.lst (ks.map fun (k : Nat) => Dv.int (k : Int))), none, none, none, none] MA
  subst hC11
  simp only [s_seq, s_ifS, s_test, s_op, s_call, s_cons, s_nil, s_var, s_comp, s_iSeq]
  refine ⟨_, rfl, _, rfl, _, rfl, le_size (by simp; omega), loopC_pure (fun d => (fun r => (ks.filter fun k => at' r k != at' o k).isEmpty) (rowD d)) id (show chkD (rowsD rs) (rs.map tupI) MA from rfl) ?_ ?_⟩
  · intro y hy D1 D2 hD
    obtain ⟨r, hr, rfl⟩ := mem_map_row hy
    have lr := rr r hr
    simp only [s_gN, s_wipe0, s_wipe1, s_test, s_op, s_cons, s_nil, s_comp, s_iSeq, s_var, s_c, s_lst]
    refine ⟨_, rfl, _, rfl, le_size (by simp; omega), key_go (q := fun k => at' r k != at' o k) (show chkD (.lst (ks.map fun (k : Nat) => Dv.int (k : Int))) (ks.map fun (k : Nat) => Dv.int (k : Int)) MA from rfl) (by simp) (fun k Q hk hQ => ?_) ?_⟩
    · have hk' := ((km k).mp hk).1
      exact ⟨_, rfl, _, rfl, s_ixn (e := tupI r) rfl (at_nms (by omega)) ⟨_, rfl, _, rfl, s_ixn (e := tupI o) rfl (at_nms (by omega)) (by show gNe (.int (at' r k)) (.int (at' o k)) _ _; rw [s_ne_i]; exact ⟨_, rfl, hQ⟩)⟩⟩
    · simp only [rowD_tup] at hD
      refine ⟨le_size (by simp), ?_⟩
      have eq0 : ∀ {zs : List Nat} {G : Dv → Prop}, G (.bl zs.isEmpty) → gEq (.lst (zs.map fun (k : Nat) => Dv.int (k : Int))) (.lst []) MA G := fun {zs G} g => by
        refine ⟨?_, rfl, ?_⟩
        · have : (zs.map fun (k : Nat) => Dv.int (k : Int)) = nms (zs.map fun (k : Nat) => (k : Int)) := by simp
          rw [this]
          exact okDs_nms 59 _
        · have : pyEq (res MA (.lst (zs.map fun (k : Nat) => Dv.int (k : Int)))) (res MA (.lst [])) = zs.isEmpty := by cases zs <;> rfl
          rw [this]; exact g
      refine eq0 ⟨_, rfl, ?_⟩
      cases e : (ks.filter fun k => at' r k != at' o k).isEmpty with
      | true => rw [e] at hD; simp at hD ⊢; exact hD
      | false => rw [e] at hD; simp at hD ⊢; exact hD
  have e4 : List.map id (List.filter (fun d => (fun r => (ks.filter fun k => at' r k != at' o k).isEmpty) (rowD d)) (rs.map tupI)) = (rs.filter fun r => (ks.filter fun k => at' r k != at' o k).isEmpty).map tupI := filter_rows (fun r => (ks.filter fun k => at' r k != at' o k).isEmpty) rs
  rw [List.nil_append, e4]
  have gm : ∀ r, r ∈ rs.filter (fun r => (ks.filter fun k => at' r k != at' o k).isEmpty) ↔ r ∈ rs ∧ ∀ k, k ∈ ks → at' r k = at' o k := fun r => by
    simp [List.isEmpty_iff, List.filter_eq_nil_iff]
  have gl : (rs.filter fun r => (ks.filter fun k => at' r k != at' o k).isEmpty).length ≤ rs.length := List.length_filter_le ..
  generalize (rs.filter fun r => (ks.filter fun k => at' r k != at' o k).isEmpty) = qs at gm gl
  have ql : ∀ r, (r = o ∨ r ∈ qs) → r.length = cs.length := fun r hr => by
    rcases hr with rfl | hr
    · exact ol
    · exact rr r ((gm r).mp hr).1
  refine ⟨_, rfl, qs, o, cs.length, rfl, by omega, by omega, ql, fun found hf _ _ => ?_⟩
  have mem : p ∈ found := hf.mem (fun r s h1 h2 => by rw [ql r h1, ql s h2]) ((held hwl (fun w h => (hw w h).1) hv ((rm o).mp ho) ((rm p).mp hp)).mono fun t ht => (gm t).mpr ⟨(rm t).mpr ht.1, fun k hk => by
    have := (km k).mp hk
    rw [ht.2 k (by omega) this.2, this.2]⟩)
  refine in_rows ⟨_, rfl, ?_⟩
  simp only [mem, decide_true, Bool.not_true, if_true, Bool.false_eq_true, if_false, s_next]
  exact fin _ _ _ MA dA
end D.k33
end

section
set_option Elab.async false
set_option linter.all false
set_option maxRecDepth 100000
set_option maxHeartbeats 0
/-! k33: each def by name, the head; printed by chain33.py. -/
namespace D.k33
open PySem PySem.Spec PyProof.Rows L2 D D.P33
def d_is_integer : He.DefD := ⟨("is_integer", none), "is_integer", "is_integer", defArgs s_is_integer, defBody s_is_integer, defScope s_is_integer, [], []⟩
def d_is_number : He.DefD := ⟨("is_number", none), "is_number", "is_number", defArgs s_is_number, defBody s_is_number, defScope s_is_number, [], []⟩
def d_is_index : He.DefD := ⟨("is_index", none), "is_index", "is_index", defArgs s_is_index, defBody s_is_index, defScope s_is_index, [], []⟩
def d_is_sequence : He.DefD := ⟨("is_sequence", none), "is_sequence", "is_sequence", defArgs s_is_sequence, defBody s_is_sequence, defScope s_is_sequence, [], []⟩
def d_is_row_below : He.DefD := ⟨("is_row_below", none), "is_row_below", "is_row_below", defArgs s_is_row_below, defBody s_is_row_below, defScope s_is_row_below, [], []⟩
def d_weighed : He.DefD := ⟨("weighed", none), "weighed", "weighed", defArgs s_weighed, defBody s_weighed, defScope s_weighed, [], []⟩
def d_is_cut : He.DefD := ⟨("is_cut", none), "is_cut", "is_cut", defArgs s_is_cut, defBody s_is_cut, defScope s_is_cut, [], []⟩
def d_first_within : He.DefD := ⟨("first_within", none), "first_within", "first_within", defArgs s_first_within, defBody s_first_within, defScope s_first_within, [], []⟩
def d_first_row : He.DefD := ⟨("first_row", none), "first_row", "first_row", defArgs s_first_row, defBody s_first_row, defScope s_first_row, [], []⟩
def d_two_cut : He.DefD := ⟨("two_cut", none), "two_cut", "two_cut", defArgs s_two_cut, defBody s_two_cut, defScope s_two_cut, [], []⟩
def d_heaviest : He.DefD := ⟨("heaviest", none), "heaviest", "heaviest", defArgs s_heaviest, defBody s_heaviest, defScope s_heaviest, [], []⟩
def d_enough_slack : He.DefD := ⟨("enough_slack", none), "enough_slack", "enough_slack", defArgs s_enough_slack, defBody s_enough_slack, defScope s_enough_slack, [], []⟩
def d_slack_cut : He.DefD := ⟨("slack_cut", none), "slack_cut", "slack_cut", defArgs s_slack_cut, defBody s_slack_cut, defScope s_slack_cut, [], []⟩
def d__law_draw : He.DefD := ⟨("_law_draw", none), "_law_draw", "_law_draw", defArgs s__law_draw, defBody s__law_draw, defScope s__law_draw, [], []⟩
def d__law_any : He.DefD := ⟨("_law_any", none), "_law_any", "_law_any", defArgs s__law_any, defBody s__law_any, defScope s__law_any, [], []⟩
def d__law_of : He.DefD := ⟨("_law_of", none), "_law_of", "_law_of", defArgs s__law_of, defBody s__law_of, defScope s__law_of, [], []⟩
def d__law_great : He.DefD := ⟨("_law_great", none), "_law_great", "_law_great", defArgs s__law_great, defBody s__law_great, defScope s__law_great, [], []⟩
def d__law_weighed : He.DefD := ⟨("_law_weighed", none), "_law_weighed", "_law_weighed", defArgs s__law_weighed, defBody s__law_weighed, defScope s__law_weighed, [], []⟩
def d__law_rows : He.DefD := ⟨("_law_rows", none), "_law_rows", "_law_rows", defArgs s__law_rows, defBody s__law_rows, defScope s__law_rows, [], []⟩
def d__law_allowed : He.DefD := ⟨("_law_allowed", none), "_law_allowed", "_law_allowed", defArgs s__law_allowed, defBody s__law_allowed, defScope s__law_allowed, [], []⟩
def d__law_cut : He.DefD := ⟨("_law_cut", none), "_law_cut", "_law_cut", defArgs s__law_cut, defBody s__law_cut, defScope s__law_cut, [], []⟩
def d__law_reached : He.DefD := ⟨("_law_reached", none), "_law_reached", "_law_reached", defArgs s__law_reached, defBody s__law_reached, defScope s__law_reached, [], []⟩
def d__law_two : He.DefD := ⟨("_law_two", none), "_law_two", "_law_two", defArgs s__law_two, defBody s__law_two, defScope s__law_two, [], []⟩
def d__law_small : He.DefD := ⟨("_law_small", none), "_law_small", "_law_small", defArgs s__law_small, defBody s__law_small, defScope s__law_small, [], []⟩
def d__law_wide : He.DefD := ⟨("_law_wide", none), "_law_wide", "_law_wide", defArgs s__law_wide, defBody s__law_wide, defScope s__law_wide, [], []⟩
def d__law_near : He.DefD := ⟨("_law_near", none), "_law_near", "_law_near", defArgs s__law_near, defBody s__law_near, defScope s__law_near, [], []⟩
def d__law_near_cuts : He.DefD := ⟨("_law_near_cuts", none), "_law_near_cuts", "_law_near_cuts", defArgs s__law_near_cuts, defBody s__law_near_cuts, defScope s__law_near_cuts, [], []⟩
def d__law_enough : He.DefD := ⟨("_law_enough", none), "_law_enough", "_law_enough", defArgs s__law_enough, defBody s__law_enough, defScope s__law_enough, [], []⟩
def d__law_slack : He.DefD := ⟨("_law_slack", none), "_law_slack", "_law_slack", defArgs s__law_slack, defBody s__law_slack, defScope s__law_slack, [], []⟩
def d_law : He.DefD := ⟨("law", none), "law", "law", defArgs s_law, defBody s_law, defScope s_law, [], []⟩
def fn : List He.DefD := [d_is_integer, d_is_number, d_is_index, d_is_sequence, d_is_row_below, d_weighed, d_is_cut, d_first_within, d_first_row, d_two_cut, d_heaviest, d_enough_slack, d_slack_cut, d__law_draw, d__law_any, d__law_of, d__law_great, d__law_weighed, d__law_rows, d__law_allowed, d__law_cut, d__law_reached, d__law_two, d__law_small, d__law_wide, d__law_near, d__law_near_cuts, d__law_enough, d__law_slack, d_law]
def fa : List He.Fa := [.glo "is_integer", .glo "is_number", .glo "is_index", .glo "is_sequence", .glo "is_row_below", .glo "weighed", .glo "is_cut", .glo "first_within", .glo "first_row", .glo "two_cut", .glo "heaviest", .glo "enough_slack", .glo "slack_cut", .glo "_law_draw", .glo "_law_any", .glo "_law_of", .glo "_law_great", .glo "_law_weighed", .glo "_law_rows", .glo "_law_allowed", .glo "_law_cut", .glo "_law_reached", .glo "_law_two", .glo "_law_small", .glo "_law_wide", .glo "_law_near", .glo "_law_near_cuts", .glo "_law_enough", .glo "_law_slack", .glo "law", .free "isinstance", .free "bool", .free "int", .free "tuple", .free "list", .free "all", .free "zip", .free "len", .free "sum", .free "range", .free "max", .free "min", .free "sorted", .free "enumerate", .free "abs", .free "repr"]
theorem fw_none {ds : List Dv} {M : Mem} {P : PD} {X : PX} : ¬ S_fw 0 ds M P X := by
  rintro ⟨step, m, lo, hi, j, _, h1, h2, h3, h4, h5, h6, h7, h8, _⟩
  have j0 : j = 0 := by omega
  subst j0
  have : m < 1 := h6
  omega
section
variable {P : Program} {w : World} {K : PySem.W.Frag} {mg : Str → Option Value} {base : Heap}
theorem fx_fw {f : Addr} {fd : FuncData} (D : FnP K "first_within" s_first_within f fd) (m : mg "first_within" = some (.ref f)) : ∀ n, Fx P w K mg base n "first_within" s_first_within ps_first_within (S_fw n)
  | 0 => ⟨f, fd, ⟨fun ds M Pd X q => (fw_none q).elim, fun A outer s H args us vs Q E hr hgu e0 hb rv ⟨f, M, ds, Pd, Y, m, r, q, k, kx⟩ => (fw_none q).elim⟩, m, D⟩
  | n + 1 => ok_first_within D m (fx_fw D m n) (by rintro _ _ _ _ ⟨_, _, _, _, _, rfl, _⟩; rfl) (p_first_within n)
end
theorem facts {P : Program} {w : World} {K : PySem.W.Frag} {h : Heap} {mg : Str → Option Value} {f : Addr} (X : K.In h) (G : h.Ns mainGlobals mg) (hfa : mg ("law" : Str) = some (.ref f)) (c : He.SaysD fa fn K) :
    ∃ fd : FuncData, (∀ (s : Shared) (v : Value), BindsTo s fd ⟨[v], []⟩ [("script", v)]) ∧ ∀ base : Heap, K.In base → base.Ns mainGlobals mg → FnG P w K mg base 206 f fd ["script"] (SLaw K 63) := by
  obtain ⟨fd_is_integer, D_is_integer⟩ := c.def_ 0 (d := d_is_integer) rfl
  have m_is_integer := He.glo_ok X G (c.fact 0 (f := .glo "is_integer") rfl)
  obtain ⟨fd_is_number, D_is_number⟩ := c.def_ 1 (d := d_is_number) rfl
  have m_is_number := He.glo_ok X G (c.fact 1 (f := .glo "is_number") rfl)
  obtain ⟨fd_is_index, D_is_index⟩ := c.def_ 2 (d := d_is_index) rfl
  have m_is_index := He.glo_ok X G (c.fact 2 (f := .glo "is_index") rfl)
  obtain ⟨fd_is_sequence, D_is_sequence⟩ := c.def_ 3 (d := d_is_sequence) rfl
  have m_is_sequence := He.glo_ok X G (c.fact 3 (f := .glo "is_sequence") rfl)
  obtain ⟨fd_is_row_below, D_is_row_below⟩ := c.def_ 4 (d := d_is_row_below) rfl
  have m_is_row_below := He.glo_ok X G (c.fact 4 (f := .glo "is_row_below") rfl)
  obtain ⟨fd_weighed, D_weighed⟩ := c.def_ 5 (d := d_weighed) rfl
  have m_weighed := He.glo_ok X G (c.fact 5 (f := .glo "weighed") rfl)
  obtain ⟨fd_is_cut, D_is_cut⟩ := c.def_ 6 (d := d_is_cut) rfl
  have m_is_cut := He.glo_ok X G (c.fact 6 (f := .glo "is_cut") rfl)
  obtain ⟨fd_first_within, D_first_within⟩ := c.def_ 7 (d := d_first_within) rfl
  have m_first_within := He.glo_ok X G (c.fact 7 (f := .glo "first_within") rfl)
  obtain ⟨fd_first_row, D_first_row⟩ := c.def_ 8 (d := d_first_row) rfl
  have m_first_row := He.glo_ok X G (c.fact 8 (f := .glo "first_row") rfl)
  obtain ⟨fd_two_cut, D_two_cut⟩ := c.def_ 9 (d := d_two_cut) rfl
  have m_two_cut := He.glo_ok X G (c.fact 9 (f := .glo "two_cut") rfl)
  obtain ⟨fd_heaviest, D_heaviest⟩ := c.def_ 10 (d := d_heaviest) rfl
  have m_heaviest := He.glo_ok X G (c.fact 10 (f := .glo "heaviest") rfl)
  obtain ⟨fd_enough_slack, D_enough_slack⟩ := c.def_ 11 (d := d_enough_slack) rfl
  have m_enough_slack := He.glo_ok X G (c.fact 11 (f := .glo "enough_slack") rfl)
  obtain ⟨fd_slack_cut, D_slack_cut⟩ := c.def_ 12 (d := d_slack_cut) rfl
  have m_slack_cut := He.glo_ok X G (c.fact 12 (f := .glo "slack_cut") rfl)
  obtain ⟨fd__law_draw, D__law_draw⟩ := c.def_ 13 (d := d__law_draw) rfl
  have m__law_draw := He.glo_ok X G (c.fact 13 (f := .glo "_law_draw") rfl)
  obtain ⟨fd__law_any, D__law_any⟩ := c.def_ 14 (d := d__law_any) rfl
  have m__law_any := He.glo_ok X G (c.fact 14 (f := .glo "_law_any") rfl)
  obtain ⟨fd__law_of, D__law_of⟩ := c.def_ 15 (d := d__law_of) rfl
  have m__law_of := He.glo_ok X G (c.fact 15 (f := .glo "_law_of") rfl)
  obtain ⟨fd__law_great, D__law_great⟩ := c.def_ 16 (d := d__law_great) rfl
  have m__law_great := He.glo_ok X G (c.fact 16 (f := .glo "_law_great") rfl)
  obtain ⟨fd__law_weighed, D__law_weighed⟩ := c.def_ 17 (d := d__law_weighed) rfl
  have m__law_weighed := He.glo_ok X G (c.fact 17 (f := .glo "_law_weighed") rfl)
  obtain ⟨fd__law_rows, D__law_rows⟩ := c.def_ 18 (d := d__law_rows) rfl
  have m__law_rows := He.glo_ok X G (c.fact 18 (f := .glo "_law_rows") rfl)
  obtain ⟨fd__law_allowed, D__law_allowed⟩ := c.def_ 19 (d := d__law_allowed) rfl
  have m__law_allowed := He.glo_ok X G (c.fact 19 (f := .glo "_law_allowed") rfl)
  obtain ⟨fd__law_cut, D__law_cut⟩ := c.def_ 20 (d := d__law_cut) rfl
  have m__law_cut := He.glo_ok X G (c.fact 20 (f := .glo "_law_cut") rfl)
  obtain ⟨fd__law_reached, D__law_reached⟩ := c.def_ 21 (d := d__law_reached) rfl
  have m__law_reached := He.glo_ok X G (c.fact 21 (f := .glo "_law_reached") rfl)
  obtain ⟨fd__law_two, D__law_two⟩ := c.def_ 22 (d := d__law_two) rfl
  have m__law_two := He.glo_ok X G (c.fact 22 (f := .glo "_law_two") rfl)
  obtain ⟨fd__law_small, D__law_small⟩ := c.def_ 23 (d := d__law_small) rfl
  have m__law_small := He.glo_ok X G (c.fact 23 (f := .glo "_law_small") rfl)
  obtain ⟨fd__law_wide, D__law_wide⟩ := c.def_ 24 (d := d__law_wide) rfl
  have m__law_wide := He.glo_ok X G (c.fact 24 (f := .glo "_law_wide") rfl)
  obtain ⟨fd__law_near, D__law_near⟩ := c.def_ 25 (d := d__law_near) rfl
  have m__law_near := He.glo_ok X G (c.fact 25 (f := .glo "_law_near") rfl)
  obtain ⟨fd__law_near_cuts, D__law_near_cuts⟩ := c.def_ 26 (d := d__law_near_cuts) rfl
  have m__law_near_cuts := He.glo_ok X G (c.fact 26 (f := .glo "_law_near_cuts") rfl)
  obtain ⟨fd__law_enough, D__law_enough⟩ := c.def_ 27 (d := d__law_enough) rfl
  have m__law_enough := He.glo_ok X G (c.fact 27 (f := .glo "_law_enough") rfl)
  obtain ⟨fd__law_slack, D__law_slack⟩ := c.def_ 28 (d := d__law_slack) rfl
  have m__law_slack := He.glo_ok X G (c.fact 28 (f := .glo "_law_slack") rfl)
  obtain ⟨fd_law, D_law⟩ := c.def_ 29 (d := d_law) rfl
  have m_law := He.glo_ok X G (c.fact 29 (f := .glo "law") rfl)
  have n_isinstance := He.free_ok X G (c.fact 30 (f := .free "isinstance") rfl)
  have n_bool := He.free_ok X G (c.fact 31 (f := .free "bool") rfl)
  have n_int := He.free_ok X G (c.fact 32 (f := .free "int") rfl)
  have n_tuple := He.free_ok X G (c.fact 33 (f := .free "tuple") rfl)
  have n_list := He.free_ok X G (c.fact 34 (f := .free "list") rfl)
  have n_all := He.free_ok X G (c.fact 35 (f := .free "all") rfl)
  have n_zip := He.free_ok X G (c.fact 36 (f := .free "zip") rfl)
  have n_len := He.free_ok X G (c.fact 37 (f := .free "len") rfl)
  have n_sum := He.free_ok X G (c.fact 38 (f := .free "sum") rfl)
  have n_range := He.free_ok X G (c.fact 39 (f := .free "range") rfl)
  have n_max := He.free_ok X G (c.fact 40 (f := .free "max") rfl)
  have n_min := He.free_ok X G (c.fact 41 (f := .free "min") rfl)
  have n_sorted := He.free_ok X G (c.fact 42 (f := .free "sorted") rfl)
  have n_enumerate := He.free_ok X G (c.fact 43 (f := .free "enumerate") rfl)
  have n_abs := He.free_ok X G (c.fact 44 (f := .free "abs") rfl)
  have n_repr := He.free_ok X G (c.fact 45 (f := .free "repr") rfl)
  have e := hfa.symm.trans m_law
  cases e
  refine ⟨fd_law, fun s v => FunD.bindsA (ps := ["script"]) D_law (fun _ _ _ _ _ _ us hl => match us, hl with | [_], _ => rfl) s [v] rfl, fun base _ _ => ?_⟩
  have F_is_integer : Fx P w K mg base 1 "is_integer" s_is_integer ps_is_integer S_is_integer := ok_is_integer D_is_integer m_is_integer  n_isinstance n_bool n_int (by rintro _ _ _ _ ⟨_, rfl, _⟩; rfl) p_is_integer
  have F_is_number : Fx P w K mg base 2 "is_number" s_is_number ps_is_number S_is_number := ok_is_number D_is_number m_is_number (F_is_integer.mono (by decide))  (by rintro _ _ _ _ ⟨_, rfl, _⟩; rfl) p_is_number
  have F_is_index : Fx P w K mg base 3 "is_index" s_is_index ps_is_index S_is_index := ok_is_index D_is_index m_is_index (F_is_number.mono (by decide))  (by rintro _ _ _ _ ⟨_, _, rfl, _⟩; rfl) p_is_index
  have F_is_sequence : Fx P w K mg base 1 "is_sequence" s_is_sequence ps_is_sequence S_is_sequence := ok_is_sequence D_is_sequence m_is_sequence  n_isinstance n_tuple n_list (by rintro _ _ _ _ ⟨_, rfl, _⟩; rfl) p_is_sequence
  have F_is_row_below : Fx P w K mg base 4 "is_row_below" s_is_row_below ps_is_row_below S_is_row_below := ok_is_row_below D_is_row_below m_is_row_below (F_is_index.mono (by decide)) (F_is_sequence.mono (by decide)) n_all n_zip n_len (by rintro _ _ _ _ ⟨_, _, _, rfl, _⟩; rfl) p_is_row_below
  have F_weighed : Fx P w K mg base 1 "weighed" s_weighed ps_weighed S_weighed := ok_weighed D_weighed m_weighed  n_sum n_zip (by rintro _ _ _ _ ⟨_, _, _, _, rfl, _⟩; rfl) p_weighed
  have F_is_cut : Fx P w K mg base 5 "is_cut" s_is_cut ps_is_cut S_is_cut := ok_is_cut D_is_cut m_is_cut (F_weighed.mono (by decide)) (F_is_row_below.mono (by decide)) n_len n_range n_isinstance n_tuple (by rintro _ _ _ _ ⟨_, _, _, _, _, _, _, rfl, _⟩; rfl) p_is_cut
  have F_first_within : Fx P w K mg base 201 "first_within" s_first_within ps_first_within (S_fw 201) := fx_fw D_first_within m_first_within 201
  have F_first_row : Fx P w K mg base 202 "first_row" s_first_row ps_first_row (S_first_row 201) := ok_first_row D_first_row m_first_row (F_first_within.mono (by decide)) n_max n_min (by rintro _ _ _ _ ⟨_, _, _, _, _, _, _, _, _, _, rfl, _⟩; rfl) (p_first_row 201)
  have F_two_cut : Fx P w K mg base 203 "two_cut" s_two_cut ps_two_cut (S_two_cut 201) := ok_two_cut D_two_cut m_two_cut (F_first_row.mono (by decide)) n_min n_max (by rintro _ _ _ _ ⟨_, _, _, _, _, _, _, _, _, rfl, _⟩; rfl) (p_two_cut 201)
  have F_heaviest : Fx P w K mg base 1 "heaviest" s_heaviest ps_heaviest S_heaviest := ok_heaviest D_heaviest m_heaviest  n_sorted n_enumerate (by rintro _ _ _ _ ⟨_, _, _, _, rfl, _⟩; rfl) p_heaviest
  have F_enough_slack : Fx P w K mg base 2 "enough_slack" s_enough_slack ps_enough_slack S_enough_slack := ok_enough_slack D_enough_slack m_enough_slack (F_heaviest.mono (by decide)) n_len (by rintro _ _ _ _ ⟨_, _, _, _, rfl, _⟩; rfl) p_enough_slack
  have F_slack_cut : Fx P w K mg base 2 "slack_cut" s_slack_cut ps_slack_cut S_slack_cut := ok_slack_cut D_slack_cut m_slack_cut (F_heaviest.mono (by decide)) n_tuple n_range n_len (by rintro _ _ _ _ ⟨_, _, _, _, rfl, _⟩; rfl) p_slack_cut
  have F__law_draw : Fx P w K mg base 1 "_law_draw" s__law_draw ps__law_draw (S__law_draw K) := ok__law_draw D__law_draw m__law_draw  n_int n_abs (by rintro _ _ _ _ ⟨_, _, _, rfl, _⟩; rfl) (p__law_draw K)
  have F__law_any : Fx P w K mg base 1 "_law_any" s__law_any ps__law_any S__law_any := ok__law_any D__law_any m__law_any  n_int (by rintro _ _ _ _ ⟨_, _, _, rfl, _⟩; rfl) p__law_any
  have F__law_of : Fx P w K mg base 2 "_law_of" s__law_of ps__law_of S__law_of := ok__law_of D__law_of m__law_of (F__law_any.mono (by decide)) n_len (by rintro _ _ _ _ ⟨_, _, _, rfl, _⟩; rfl) p__law_of
  have F__law_great : Fx P w K mg base 2 "_law_great" s__law_great ps__law_great S__law_great := ok__law_great D__law_great m__law_great (F__law_any.mono (by decide)) n_int n_range (by rintro _ _ _ _ ⟨_, _, _, rfl, _⟩; rfl) p__law_great
  have F__law_weighed : Fx P w K mg base 1 "_law_weighed" s__law_weighed ps__law_weighed S_weighed := ok__law_weighed D__law_weighed m__law_weighed  n_sum n_zip (by rintro _ _ _ _ ⟨_, _, _, _, rfl, _⟩; rfl) p__law_weighed
  have F__law_rows : Fx P w K mg base 2 "_law_rows" s__law_rows ps__law_rows S__law_rows := ok__law_rows D__law_rows m__law_rows (F__law_weighed.mono (by decide)) n_range (by rintro _ _ _ _ ⟨_, _, _, _, _, _, rfl, _⟩; rfl) p__law_rows
  have F__law_allowed : Fx P w K mg base 2 "_law_allowed" s__law_allowed ps__law_allowed S__law_allowed := ok__law_allowed D__law_allowed m__law_allowed (F__law_weighed.mono (by decide)) n_zip n_isinstance n_bool n_int n_len n_tuple (by rintro _ _ _ _ ⟨_, _, _, _, _, _, _, rfl, _⟩; rfl) p__law_allowed
  have F__law_cut : Fx P w K mg base 3 "_law_cut" s__law_cut ps__law_cut S_is_cut := ok__law_cut D__law_cut m__law_cut (F__law_weighed.mono (by decide)) (F__law_allowed.mono (by decide)) n_len n_range n_isinstance n_tuple (by rintro _ _ _ _ ⟨_, _, _, _, _, _, _, rfl, _⟩; rfl) p__law_cut
  have F__law_reached : Fx P w K mg base 1 "_law_reached" s__law_reached ps__law_reached S__law_reached := ok__law_reached D__law_reached m__law_reached  n_range n_len (by rintro _ _ _ _ ⟨_, _, _, rfl, _⟩; rfl) p__law_reached
  have F__law_two : Fx P w K mg base 204 "_law_two" s__law_two ps__law_two (S__law_two 201) := ok__law_two D__law_two m__law_two (F_is_cut.mono (by decide)) (F__law_cut.mono (by decide)) (F_two_cut.mono (by decide)) n_range n_tuple n_list (by rintro _ _ _ _ ⟨_, _, _, _, _, _, _, _, rfl, _⟩; rfl) (p__law_two 201)
  have F__law_small : Fx P w K mg base 205 "_law_small" s__law_small ps__law_small (S__law_small 201) := ok__law_small D__law_small m__law_small (F__law_two.mono (by decide)) (F__law_great.mono (by decide)) (F__law_reached.mono (by decide)) (F__law_rows.mono (by decide)) (F__law_any.mono (by decide)) (F__law_weighed.mono (by decide)) n_max n_len n_sum (by rintro _ _ _ _ ⟨_, _, rfl, _⟩; rfl) (p__law_small 201)
  have F__law_wide : Fx P w K mg base 205 "_law_wide" s__law_wide ps__law_wide (S__law_wide 201) := ok__law_wide D__law_wide m__law_wide (F__law_two.mono (by decide)) (F__law_great.mono (by decide)) (F__law_of.mono (by decide)) (F__law_cut.mono (by decide)) (F__law_weighed.mono (by decide)) n_sum n_tuple n_max n_min n_range (by rintro _ _ _ _ ⟨_, _, rfl, _⟩; rfl) (p__law_wide 201)
  have F__law_near : Fx P w K mg base 3 "_law_near" s__law_near ps__law_near S__law_near := ok__law_near D__law_near m__law_near (F__law_of.mono (by decide)) (F__law_any.mono (by decide)) n_list n_len (by rintro _ _ _ _ ⟨_, _, _, _, _, _, rfl, _⟩; rfl) p__law_near
  have F__law_near_cuts : Fx P w K mg base 6 "_law_near_cuts" s__law_near_cuts ps__law_near_cuts S__law_near_cuts := ok__law_near_cuts D__law_near_cuts m__law_near_cuts (F__law_near.mono (by decide)) (F_is_cut.mono (by decide)) (F__law_cut.mono (by decide)) (F__law_of.mono (by decide)) (F__law_rows.mono (by decide)) n_range n_repr n_len (by rintro _ _ _ _ ⟨_, _, _, _, _, _, rfl, _⟩; rfl) p__law_near_cuts
  have F__law_enough : Fx P w K mg base 1 "_law_enough" s__law_enough ps__law_enough S_enough_slack := ok__law_enough D__law_enough m__law_enough  n_len n_sum n_sorted n_zip (by rintro _ _ _ _ ⟨_, _, _, _, rfl, _⟩; rfl) p__law_enough
  have F__law_slack : Fx P w K mg base 4 "_law_slack" s__law_slack ps__law_slack S__law_slack := ok__law_slack D__law_slack m__law_slack (F_slack_cut.mono (by decide)) (F__law_cut.mono (by decide)) (F_enough_slack.mono (by decide)) (F__law_enough.mono (by decide)) n_tuple n_isinstance n_bool n_int n_len n_repr (by rintro _ _ _ _ ⟨_, _, rfl, _⟩; rfl) p__law_slack
  exact fn_d (He5.fun_of D_law) sc_law _ (by rintro _ _ _ _ ⟨_, _, rfl, _⟩; rfl) (fun _ _ _ _ _ _ _ hr hgu tk => b_law (F__law_slack.mono (by decide)) (F__law_great.mono (by decide)) (F__law_of.mono (by decide)) (F__law_any.mono (by decide)) (F__law_reached.mono (by decide)) (F__law_rows.mono (by decide)) (F__law_enough.mono (by decide)) (F__law_near_cuts.mono (by decide)) (F__law_weighed.mono (by decide)) (F__law_wide.mono (by decide)) (F__law_small.mono (by decide)) (F__law_draw.mono (by decide)) n_range n_len n_sum hr hgu tk) (p_law K 201 (by decide))
abbrev R : PySem.W.OpenRow := PySem.W.OpenLaw.row PySem.Challenge.rw_commonkeys_k33_whole_weighted_sums
abbrev hk : PySem.W.Hook := He.hookD 4 fa fn
def ob (s : PySem.W.SharedT) : He.AlD := He.obsDG 4 fa fn (HandSHeadRun.getT s)
theorem ob_eq (s : PySem.W.SharedT) : ob s = hk.obs s.abs := He.obsDG_eq (HandSHeadRun.getT_eq s)
def loose : List Str := ["is_integer", "is_number", "is_index", "is_sequence", "is_row_below", "weighed", "is_cut", "first_within", "first_row", "two_cut", "heaviest", "enough_slack", "slack_cut", "_law_draw", "_law_any", "_law_of", "_law_great", "_law_weighed", "_law_rows", "_law_allowed", "_law_cut", "_law_reached", "_law_two", "_law_small", "_law_wide", "_law_near", "_law_near_cuts", "_law_enough", "_law_slack"]
theorem run (w : World) : HandSHeadRun.RunEq R (PySem.W.view R.prog [33]) hk ob 3000 loose w := by
  intro os
  kernel_rfl
end D.k33
open PySem PySem.W PySem.Calls PyProof.Rows
theorem PySem.Challenge.cw_commonkeys_k33_whole_weighted_sums_holds : PySem.Challenge.rw_commonkeys_k33_whole_weighted_sums.Holds := by
  w_on; o_law
  refine HandSHeadRun.head_any (r := OpenLaw.row PySem.Challenge.rw_commonkeys_k33_whole_weighted_sums) (q := view (OpenLaw.row PySem.Challenge.rw_commonkeys_k33_whole_weighted_sums).prog [33]) (H := D.k33.hk) (ob := D.k33.ob) (M := 3000) (loose := D.k33.loose) (d := HandSHeadRun.topDef (OpenLaw.row PySem.Challenge.rw_commonkeys_k33_whole_weighted_sums).prog 33) (kwd := []) D.k33.ob_eq
    (by kernel_rfl) (fun s => by kernel_rfl) D.k33.run (by kernel_rfl) (by kernel_rfl) (by kernel_rfl) (by rfl) (by first | assumption | decide +kernel) (by decide +kernel) ⟨rfl, rfl, rfl, rfl, rfl, by decide +kernel⟩ ?hw ?hc
  case hw => w_witness2
  case hc =>
    refine D.walk_G (l := PySem.Challenge.rw_commonkeys_k33_whole_weighted_sums) (n := 63) (k := 206) (x := "script") rfl (by decide) (by kernel_rfl) ⟨rfl, by decide, by decide⟩ ?F
    intro w mg fa h Y G hmg0
    obtain ⟨K, KX, c⟩ := Y
    have hmg : mg ("law" : PySem.Str) = some (.ref fa) := by
      have e : (HandSHeadRun.topDef (OpenLaw.row PySem.Challenge.rw_commonkeys_k33_whole_weighted_sums).prog 33).name = ("law" : PySem.Str) := by kernel_rfl
      rw [← e]
      exact hmg0
    obtain ⟨fd, hb, hF⟩ := D.k33.facts (P := (PySem.Challenge.rw_commonkeys_k33_whole_weighted_sums).prog) (w := w) KX G hmg c
    exact ⟨K, fd, KX, hb, hF⟩
end
