import PyProof.Rows.All
import Wide.All
import OpenK.AllK
import Wide.FinOn
import KE.KStateDown
import Lean
import HandS.ForMost
import HandS.Deep
import HandS.TupAny
import HandS.TupMul
import HandS.TupLe
import HandS.IsInst
import HandS.Flow
import HandS.Style
import HandS.Zip
import HandS.Wide
import HandS.Conv
import HandS.Gcd
import HandS.SortInts
import HandS.TupSets
import KE.GoesEnum
import KE.GoesZip
import KE.GoesMore
import KE.DataMinMax
import KE.SortData
import PyProof.Claim2Refuses
import HandS.RepeatKit
import HandS.Rev
import HandS.Defaults
import HandS.HeadHook1
import HandS.HeadHook2
import HandS.Head0
import HandS.Head1
import HandS.Head2
import HandS.HeadEnd
import HandS.EndBits
import PySem.Challenge.RW_surelysound_k43_whole_meetings_and_parti
import HandS.Head3
set_option Elab.async false
set_option linter.all false
set_option maxRecDepth 100000
set_option maxHeartbeats 0
/-! PL a: data as trees, what stands for them. -/
namespace PL
open PySem PySem.Spec PyProof.Rows L2

/-- Python data as a tree -/
inductive D where
  | n | b (x : Bool) | i (x : Int) | s (x : Str) | t (xs : List D) | l (xs : List D) | r (lo hi : Int)
  /-- a list that is only read: the script -/
  | z (xs : List D)

/-- a list may hold so many -/
def SZ : Nat := 16777216
theorem SZ_eq : sizeLine = SZ := sizeLine_eq

mutual
/-- v stands for d; no list or tuple of it stands at an address of O -/
inductive Rep (K : PySem.W.Frag) (H : Hp) (O : Addr → Prop) : V → D → Prop
  | n : Rep K H O .non .n
  | b (x : Bool) : Rep K H O (.bl x) (.b x)
  | i (x : Int) : Rep K H O (.int x) (.i x)
  | s (x : Str) : Rep K H O (.str x) (.s x)
  | l {a : Addr} {xs : List V} {ds : List D} : H a = some (.lst xs) → ¬ O a → RepL K H O xs ds → Rep K H O (.ref a) (.l ds)
  | z {a : Addr} {xs : List V} {ds : List D} : Rd H a (.lst xs) → ¬ O a → RepL K H O xs ds → Rep K H O (.ref a) (.z ds)
  | zk {a : Addr} {xs : List V} {ds : List D} : (∀ G : Hp, SqL K G a xs) → RepL K H O xs ds → Rep K H O (.ref a) (.z ds)
  | t {a : Addr} {xs : List V} {ds : List D} : Rd H a (.tup xs) → ¬ O a → RepL K H O xs ds → Rep K H O (.ref a) (.t ds)
  | tk {a : Addr} {xs : List V} {ds : List D} : (∀ G : Hp, SqT K G a xs) → RepL K H O xs ds → Rep K H O (.ref a) (.t ds)
  | r {a : Addr} {lo hi : Int} : H a = some (.rng lo hi) → ¬ O a → Rep K H O (.ref a) (.r lo hi)
inductive RepL (K : PySem.W.Frag) (H : Hp) (O : Addr → Prop) : List V → List D → Prop
  | nil : RepL K H O [] []
  | cons {v : V} {vs : List V} {d : D} {ds : List D} : Rep K H O v d → RepL K H O vs ds → RepL K H O (v :: vs) (d :: ds)
end

section
variable {K : PySem.W.Frag} {H H' : Hp} {O O' : Addr → Prop}

/-- what stays: every tracked object that is not in O -/
def Kp (O : Addr → Prop) (H H' : Hp) : Prop := ∀ a o, H a = some o → ¬ O a → H' a = some o
theorem Kp.of (h : Same H H') : Kp O H H' := fun a o e _ => h a o e
theorem Kp.refl : Kp O H H := fun _ _ e _ => e
theorem rd_kp (k : Kp O H H') {a : Addr} {u : HO} (h : Rd H a u) (n : ¬ O a) : Rd H' a u := by
  rcases h with h | ⟨o, h⟩
  · exact .inl (k _ _ h n)
  · exact .inr ⟨o, k _ _ h n⟩

mutual
theorem Rep.kp (k : Kp O H H') : ∀ {v : V} {d : D}, Rep K H O v d → Rep K H' O v d
  | _, _, .n => .n
  | _, _, .b x => .b x
  | _, _, .i x => .i x
  | _, _, .s x => .s x
  | _, _, .l h n r => .l (k _ _ h n) n (RepL.kp k r)
  | _, _, .z h n r => .z (rd_kp k h n) n (RepL.kp k r)
  | _, _, .zk h r => .zk h (RepL.kp k r)
  | _, _, .t h n r => .t (rd_kp k h n) n (RepL.kp k r)
  | _, _, .tk h r => .tk h (RepL.kp k r)
  | _, _, .r h n => .r (k _ _ h n) n
theorem RepL.kp (k : Kp O H H') : ∀ {vs : List V} {ds : List D}, RepL K H O vs ds → RepL K H' O vs ds
  | _, _, .nil => .nil
  | _, _, .cons a r => .cons (Rep.kp k a) (RepL.kp k r)
end
theorem Rep.same (k : Same H H') {v : V} {d : D} (h : Rep K H O v d) : Rep K H' O v d := h.kp (Kp.of k)
theorem RepL.same (k : Same H H') {v : List V} {d : List D} (h : RepL K H O v d) : RepL K H' O v d := h.kp (Kp.of k)

mutual
/-- O may shrink; and grow by addresses at which nothing stood -/
theorem Rep.mono (m : ∀ a, O' a → O a ∨ H a = none) : ∀ {v : V} {d : D}, Rep K H O v d → Rep K H O' v d
  | _, _, .n => .n
  | _, _, .b x => .b x
  | _, _, .i x => .i x
  | _, _, .s x => .s x
  | _, _, .l h n r => .l h (fun z => by
      rcases m _ z with q | q
      · exact n q
      · rw [q] at h; cases h) (RepL.mono m r)
  | _, _, .z h n r => .z h (fun z => by
      rcases m _ z with q | q
      · exact n q
      · rcases h with h | ⟨o, h⟩ <;> (rw [q] at h; cases h)) (RepL.mono m r)
  | _, _, .zk h r => .zk h (RepL.mono m r)
  | _, _, .t h n r => .t h (fun z => by
      rcases m _ z with q | q
      · exact n q
      · rcases h with h | ⟨o, h⟩ <;> (rw [q] at h; cases h)) (RepL.mono m r)
  | _, _, .tk h r => .tk h (RepL.mono m r)
  | _, _, .r h n => .r h (fun z => by
      rcases m _ z with q | q
      · exact n q
      · rw [q] at h; cases h)
theorem RepL.mono (m : ∀ a, O' a → O a ∨ H a = none) : ∀ {vs : List V} {ds : List D}, RepL K H O vs ds → RepL K H O' vs ds
  | _, _, .nil => .nil
  | _, _, .cons a r => .cons (Rep.mono m a) (RepL.mono m r)
end
theorem Rep.less (m : ∀ a, O' a → O a) {v : V} {d : D} (h : Rep K H O v d) : Rep K H O' v d := h.mono fun a z => .inl (m a z)
theorem RepL.less (m : ∀ a, O' a → O a) {v : List V} {d : List D} (h : RepL K H O v d) : RepL K H O' v d := h.mono fun a z => .inl (m a z)

theorem RepL.length : ∀ {vs : List V} {ds : List D}, RepL K H O vs ds → vs.length = ds.length
  | _, _, .nil => rfl
  | _, _, .cons _ r => by simp [RepL.length r]
theorem RepL.get : ∀ {vs : List V} {ds : List D} {i : Nat} {d : D}, RepL K H O vs ds → ds[i]? = some d → ∃ v, vs[i]? = some v ∧ Rep K H O v d
  | _, _, _, _, .nil, e => by simp at e
  | _, _, 0, _, .cons a _, e => by
    simp at e
    subst e
    exact ⟨_, rfl, a⟩
  | _, _, i + 1, _, .cons _ r, e => by
    obtain ⟨v, h1, h2⟩ := RepL.get (i := i) r (by simpa using e)
    exact ⟨v, by simpa using h1, h2⟩
theorem RepL.getV : ∀ {vs : List V} {ds : List D} {i : Nat} {v : V}, RepL K H O vs ds → vs[i]? = some v → ∃ d, ds[i]? = some d ∧ Rep K H O v d
  | _, _, _, _, .nil, e => by simp at e
  | _, _, 0, _, .cons a _, e => by
    simp at e
    subst e
    exact ⟨_, rfl, a⟩
  | _, _, i + 1, _, .cons _ r, e => by
    obtain ⟨v, h1, h2⟩ := RepL.getV (i := i) r (by simpa using e)
    exact ⟨v, by simpa using h1, h2⟩
theorem RepL.append : ∀ {vs ws : List V} {ds es : List D}, RepL K H O vs ds → RepL K H O ws es → RepL K H O (vs ++ ws) (ds ++ es)
  | _, _, _, _, .nil, s => s
  | _, _, _, _, .cons a r, s => .cons a (RepL.append r s)
theorem RepL.take : ∀ {vs : List V} {ds : List D} (n : Nat), RepL K H O vs ds → RepL K H O (vs.take n) (ds.take n)
  | _, _, 0, _ => .nil
  | _, _, _ + 1, .nil => .nil
  | _, _, n + 1, .cons a r => .cons a (RepL.take n r)
theorem RepL.drop : ∀ {vs : List V} {ds : List D} (n : Nat), RepL K H O vs ds → RepL K H O (vs.drop n) (ds.drop n)
  | _, _, 0, r => r
  | _, _, _ + 1, .nil => .nil
  | _, _, n + 1, .cons _ r => RepL.drop n r
theorem RepL.set {v : V} {d : D} (h : Rep K H O v d) : ∀ {vs : List V} {ds : List D} (n : Nat), RepL K H O vs ds → RepL K H O (vs.set n v) (ds.set n d)
  | _, _, _, .nil => .nil
  | _, _, 0, .cons _ r => .cons h r
  | _, _, n + 1, .cons a r => .cons a (RepL.set h n r)
theorem RepL.reverse {vs : List V} {ds : List D} (h : RepL K H O vs ds) : RepL K H O vs.reverse ds.reverse := by
  induction h using RepL.rec (motive_1 := fun _ _ _ => True) with
  | nil => exact .nil
  | cons a r _ ih => rw [List.reverse_cons, List.reverse_cons]; exact ih.append (.cons a .nil)
  | _ => trivial
theorem RepL.rep {vs : List V} {ds : List D} (h : RepL K H O vs ds) : ∀ k : Nat, RepL K H O (List.replicate k vs).flatten (List.replicate k ds).flatten
  | 0 => .nil
  | k + 1 => by
    rw [List.replicate_succ, List.replicate_succ, List.flatten_cons, List.flatten_cons]
    exact h.append (RepL.rep h k)
theorem RepL.ints : ∀ {vs : List V} {ns : List Int}, RepL K H O vs (ns.map D.i) → vs = ns.map V.int
  | _, [], .nil => rfl
  | _, _ :: _, .cons (.i _) r => by rw [List.map_cons, RepL.ints r]
theorem RepL.bls : ∀ {vs : List V} {ns : List Bool}, RepL K H O vs (ns.map D.b) → vs = ns.map V.bl
  | _, [], .nil => rfl
  | _, _ :: _, .cons (.b _) r => by rw [List.map_cons, RepL.bls r]
theorem RepL.of_ints : ∀ (ns : List Int), RepL K H O (ns.map V.int) (ns.map D.i)
  | [] => .nil
  | _ :: r => .cons (.i _) (RepL.of_ints r)
end


/-! ### equality -/
mutual
def decD : (a b : D) → Decidable (a = b)
  | .n, .n => .isTrue rfl
  | .b x, .b y => if h : x = y then .isTrue (by rw [h]) else .isFalse (fun e => h (by cases e; rfl))
  | .i x, .i y => if h : x = y then .isTrue (by rw [h]) else .isFalse (fun e => h (by cases e; rfl))
  | .s x, .s y => if h : x = y then .isTrue (by rw [h]) else .isFalse (fun e => h (by cases e; rfl))
  | .t x, .t y => match decDs x y with
    | .isTrue h => .isTrue (by rw [h])
    | .isFalse h => .isFalse (fun e => h (by cases e; rfl))
  | .l x, .l y => match decDs x y with
    | .isTrue h => .isTrue (by rw [h])
    | .isFalse h => .isFalse (fun e => h (by cases e; rfl))
  | .z x, .z y => match decDs x y with
    | .isTrue h => .isTrue (by rw [h])
    | .isFalse h => .isFalse (fun e => h (by cases e; rfl))
  | .r x y, .r z w => if h : x = z ∧ y = w then .isTrue (by rw [h.1, h.2]) else .isFalse (fun e => h (by cases e; exact ⟨rfl, rfl⟩))
  | .n, .b _ => .isFalse nofun | .n, .i _ => .isFalse nofun | .n, .s _ => .isFalse nofun | .n, .t _ => .isFalse nofun | .n, .l _ => .isFalse nofun | .n, .r _ _ => .isFalse nofun | .n, .z _ => .isFalse nofun
  | .b _, .n => .isFalse nofun | .b _, .i _ => .isFalse nofun | .b _, .s _ => .isFalse nofun | .b _, .t _ => .isFalse nofun | .b _, .l _ => .isFalse nofun | .b _, .r _ _ => .isFalse nofun | .b _, .z _ => .isFalse nofun
  | .i _, .n => .isFalse nofun | .i _, .b _ => .isFalse nofun | .i _, .s _ => .isFalse nofun | .i _, .t _ => .isFalse nofun | .i _, .l _ => .isFalse nofun | .i _, .r _ _ => .isFalse nofun | .i _, .z _ => .isFalse nofun
  | .s _, .n => .isFalse nofun | .s _, .b _ => .isFalse nofun | .s _, .i _ => .isFalse nofun | .s _, .t _ => .isFalse nofun | .s _, .l _ => .isFalse nofun | .s _, .r _ _ => .isFalse nofun | .s _, .z _ => .isFalse nofun
  | .t _, .n => .isFalse nofun | .t _, .b _ => .isFalse nofun | .t _, .i _ => .isFalse nofun | .t _, .s _ => .isFalse nofun | .t _, .l _ => .isFalse nofun | .t _, .r _ _ => .isFalse nofun | .t _, .z _ => .isFalse nofun
  | .l _, .n => .isFalse nofun | .l _, .b _ => .isFalse nofun | .l _, .i _ => .isFalse nofun | .l _, .s _ => .isFalse nofun | .l _, .t _ => .isFalse nofun | .l _, .r _ _ => .isFalse nofun | .l _, .z _ => .isFalse nofun
  | .r _ _, .n => .isFalse nofun | .r _ _, .b _ => .isFalse nofun | .r _ _, .i _ => .isFalse nofun | .r _ _, .s _ => .isFalse nofun | .r _ _, .t _ => .isFalse nofun | .r _ _, .l _ => .isFalse nofun | .r _ _, .z _ => .isFalse nofun
  | .z _, .n => .isFalse nofun | .z _, .b _ => .isFalse nofun | .z _, .i _ => .isFalse nofun | .z _, .s _ => .isFalse nofun | .z _, .t _ => .isFalse nofun | .z _, .l _ => .isFalse nofun | .z _, .r _ _ => .isFalse nofun
def decDs : (a b : List D) → Decidable (a = b)
  | [], [] => .isTrue rfl
  | [], _ :: _ => .isFalse nofun
  | _ :: _, [] => .isFalse nofun
  | x :: xs, y :: ys => match decD x y with
    | .isTrue h => (match decDs xs ys with
      | .isTrue h' => .isTrue (by rw [h, h'])
      | .isFalse h' => .isFalse (fun e => h' (by cases e; rfl)))
    | .isFalse h => .isFalse (fun e => h (by cases e; rfl))
end
instance : DecidableEq D := decD

mutual
def toPy : D → PyData
  | .n => .none
  | .b x => .bool x
  | .i x => .int x
  | .s x => .str x
  | .t xs => .tuple (toPys xs)
  | .l xs => .list (toPys xs)
  | .r _ _ => .none
  | .z _ => .none
def toPys : List D → List PyData
  | [] => []
  | x :: xs => toPy x :: toPys xs
end
/-- no range within, at most k deep; what == may be asked of -/
def okD : Nat → D → Bool
  | _, .n => true
  | _, .b _ => true
  | _, .i _ => true
  | _, .s x => PyData.canLay0 (.str x)
  | 0, .t _ => false
  | 0, .l _ => false
  | k + 1, .t xs => xs.all (okD k)
  | k + 1, .l xs => xs.all (okD k)
  | _, .r _ _ => false
  | _, .z _ => false
/-- the same, without bools -/
def nbD : Nat → D → Bool
  | _, .n => true
  | _, .b _ => false
  | _, .i _ => true
  | _, .s x => PyData.canLay0 (.str x)
  | 0, .t _ => false
  | 0, .l _ => false
  | k + 1, .t xs => xs.all (nbD k)
  | k + 1, .l xs => xs.all (nbD k)
  | _, .r _ _ => false
  | _, .z _ => false
/-- Python's == -/
def eqD (a b : D) : Bool := PyData.eqv (toPy a) (toPy b)
section
variable {K : PySem.W.Frag} {H : Hp} {O : Addr → Prop}
theorem repL_dp_of {k : Nat} (ih : ∀ {v : V} {d : D}, Rep K H O v d → okD k d = true → Dp K H v (toPy d)) : ∀ {vs : List V} {ds : List D}, RepL K H O vs ds → (∀ x ∈ ds, okD k x = true) → DpAll K H vs (toPys ds)
  | _, _, .nil, _ => by rw [toPys]; exact .nil
  | _, _, .cons a r, q => by rw [toPys]; exact .cons (ih a (q _ List.mem_cons_self)) (repL_dp_of ih r fun x hx => q x (List.mem_cons_of_mem _ hx))
theorem rep_dp : ∀ (k : Nat) {v : V} {d : D}, Rep K H O v d → okD k d = true → Dp K H v (toPy d)
  | _, _, _, .n, _ => by rw [toPy]; exact .non
  | _, _, _, .b x, _ => by rw [toPy]; exact .bl x
  | _, _, _, .i x, _ => by rw [toPy]; exact .int x
  | _, _, _, .s x, _ => by rw [toPy]; exact .str x
  | 0, _, _, .l h n r, p => by rw [okD] at p; cases p
  | 0, _, _, .t h n r, p => by rw [okD] at p; cases p
  | 0, _, _, .tk h r, p => by rw [okD] at p; cases p
  | k + 1, _, _, .l (ds := ds) h n r, p => by
    rw [toPy]
    rw [okD] at p
    exact .lst (SqL.of h) (repL_dp_of (fun a b => rep_dp k a b) r (List.all_eq_true.mp p))
  | k + 1, _, _, .t (ds := ds) h n r, p => by
    rw [toPy]
    rw [okD] at p
    exact .tup (.inl h) (repL_dp_of (fun a b => rep_dp k a b) r (List.all_eq_true.mp p))
  | k + 1, _, _, .tk (ds := ds) h r, p => by
    rw [toPy]
    rw [okD] at p
    exact .tup (h _) (repL_dp_of (fun a b => rep_dp k a b) r (List.all_eq_true.mp p))
  | k, _, _, .r h n, p => by cases k <;> (rw [okD] at p; cases p)
  | k, _, _, .z h n r, p => by cases k <;> (rw [okD] at p; cases p)
  | k, _, _, .zk h r, p => by cases k <;> (rw [okD] at p; cases p)
theorem repL_dp (k : Nat) {vs : List V} {ds : List D} (r : RepL K H O vs ds) (p : ds.all (okD k) = true) : DpAll K H vs (toPys ds) :=
  repL_dp_of (fun a b => rep_dp k a b) r (List.all_eq_true.mp p)
end
theorem lay_of_ok : ∀ (k : Nat) (d : D), okD k d = true → PyData.canLay0 (toPy d) = true ∧ (toPy d).depth ≤ k
  | _, .n, _ => by rw [toPy]; exact ⟨rfl, Nat.zero_le _⟩
  | _, .b _, _ => by rw [toPy]; exact ⟨rfl, Nat.zero_le _⟩
  | _, .i _, _ => by rw [toPy]; exact ⟨rfl, Nat.zero_le _⟩
  | k, .s x, h => by rw [toPy]; cases k <;> exact ⟨by rw [okD] at h; exact h, by rw [PyData.depth]; exact Nat.zero_le _⟩
  | 0, .t _, h => by rw [okD] at h; cases h
  | 0, .l _, h => by rw [okD] at h; cases h
  | k + 1, .t xs, h => by
    rw [okD] at h
    rw [toPy, PyData.canLay0, PyData.depth]
    have q := List.all_eq_true.mp h
    clear h
    have go : ∀ (xs : List D), (∀ x ∈ xs, okD k x = true) → PyData.canLayAll0 (toPys xs) = true ∧ PyData.depthAll (toPys xs) ≤ k := by
      intro xs
      induction xs with
      | nil => intro _; rw [toPys]; exact ⟨rfl, Nat.zero_le _⟩
      | cons x xs ih =>
        intro q
        obtain ⟨a, b⟩ := lay_of_ok k x (q _ List.mem_cons_self)
        obtain ⟨c, d⟩ := ih fun y hy => q y (List.mem_cons_of_mem _ hy)
        rw [toPys, PyData.canLayAll0, PyData.depthAll, a, c]
        exact ⟨rfl, by omega⟩
    obtain ⟨a, b⟩ := go xs q
    exact ⟨a, by omega⟩
  | k + 1, .l xs, h => by
    rw [okD] at h
    rw [toPy, PyData.canLay0, PyData.depth]
    have q := List.all_eq_true.mp h
    clear h
    have go : ∀ (xs : List D), (∀ x ∈ xs, okD k x = true) → PyData.canLayAll0 (toPys xs) = true ∧ PyData.depthAll (toPys xs) ≤ k := by
      intro xs
      induction xs with
      | nil => intro _; rw [toPys]; exact ⟨rfl, Nat.zero_le _⟩
      | cons x xs ih =>
        intro q
        obtain ⟨a, b⟩ := lay_of_ok k x (q _ List.mem_cons_self)
        obtain ⟨c, d⟩ := ih fun y hy => q y (List.mem_cons_of_mem _ hy)
        rw [toPys, PyData.canLayAll0, PyData.depthAll, a, c]
        exact ⟨rfl, by omega⟩
    obtain ⟨a, b⟩ := go xs q
    exact ⟨a, by omega⟩
  | k, .r _ _, h => by cases k <;> (rw [okD] at h; cases h)
  | k, .z _, h => by cases k <;> (rw [okD] at h; cases h)
theorem shaped_ok {k : Nat} {d : D} (h : okD k d = true) (hk : k ≤ 64) : SeqAt.shaped (toPy d) = true := by
  obtain ⟨a, b⟩ := lay_of_ok k d h
  show (PyData.canLay0 (toPy d) && decide ((toPy d).depth ≤ 64)) = true
  rw [a, Bool.true_and]
  exact decide_eq_true (by omega)
theorem shaped_okL {k : Nat} {ds : List D} (h : ds.all (okD k) = true) (hk : k + 1 ≤ 64) : SeqAt.shaped (.list (toPys ds)) = true := by
  have q : okD (k + 1) (.l ds) = true := by rw [okD]; exact h
  have z := shaped_ok q hk
  rw [toPy] at z
  exact z
theorem shaped_okT {k : Nat} {ds : List D} (h : ds.all (okD k) = true) (hk : k + 1 ≤ 64) : SeqAt.shaped (.tuple (toPys ds)) = true := by
  have q : okD (k + 1) (.t ds) = true := by rw [okD]; exact h
  have z := shaped_ok q hk
  rw [toPy] at z
  exact z
theorem toPys_eq : ∀ ds : List D, toPys ds = ds.map toPy
  | [] => by rw [toPys]; rfl
  | d :: ds => by rw [toPys, toPys_eq ds]; rfl
theorem ok_of_nb : ∀ (k : Nat) (d : D), nbD k d = true → okD k d = true
  | k, .n, _ => by cases k <;> rw [okD]
  | k, .b _, h => by cases k <;> (rw [nbD] at h; cases h)
  | k, .i _, _ => by cases k <;> rw [okD]
  | k, .s x, h => by cases k <;> (rw [nbD] at h; rw [okD]; exact h)
  | 0, .t _, h => by rw [nbD] at h; cases h
  | 0, .l _, h => by rw [nbD] at h; cases h
  | k + 1, .t xs, h => by
    rw [nbD] at h
    rw [okD]
    exact List.all_eq_true.mpr fun x hx => ok_of_nb k x (List.all_eq_true.mp h x hx)
  | k + 1, .l xs, h => by
    rw [nbD] at h
    rw [okD]
    exact List.all_eq_true.mpr fun x hx => ok_of_nb k x (List.all_eq_true.mp h x hx)
  | k, .r _ _, h => by cases k <;> (rw [nbD] at h; cases h)
  | k, .z _, h => by cases k <;> (rw [nbD] at h; cases h)
/-- without bools == is equality -/
theorem eqD_nb : ∀ (k : Nat) (a b : D), nbD k a = true → nbD k b = true → eqD a b = decide (a = b) := by
  intro k
  induction k with
  | zero =>
    intro a b ha hb
    cases a <;> cases b <;> first
      | (rw [nbD] at ha; cases ha; done)
      | (rw [nbD] at hb; cases hb; done)
      | (simp [eqD, toPy, PyData.eqv]; done)
      | (simp only [eqD, toPy, PyData.eqv, D.i.injEq, D.s.injEq]; rw [Bool.eq_iff_iff]; simp)
  | succ k ih =>
    have go : ∀ (xs ys : List D), (∀ x ∈ xs, nbD k x = true) → (∀ y ∈ ys, nbD k y = true) → PyData.eqvAll (toPys xs) (toPys ys) = decide (xs = ys) := by
      intro xs
      induction xs with
      | nil =>
        intro ys _ _
        cases ys with
        | nil => simp [toPys, PyData.eqvAll]
        | cons y ys => simp [toPys, PyData.eqvAll]
      | cons x xs ihx =>
        intro ys hx hy
        cases ys with
        | nil => simp [toPys, PyData.eqvAll]
        | cons y ys =>
          have e1 := ih x y (hx _ List.mem_cons_self) (hy _ List.mem_cons_self)
          have e2 := ihx ys (fun z hz => hx z (List.mem_cons_of_mem _ hz)) (fun z hz => hy z (List.mem_cons_of_mem _ hz))
          rw [eqD] at e1
          rw [toPys, toPys, PyData.eqvAll, e1, e2]
          by_cases h1 : x = y <;> by_cases h2 : xs = ys <;> simp [h1, h2]
    intro a b ha hb
    cases a <;> cases b <;> first
      | (rw [nbD] at ha; cases ha; done)
      | (rw [nbD] at hb; cases hb; done)
      | (rename_i xs ys
         rw [nbD] at ha hb
         have e := go xs ys (List.all_eq_true.mp ha) (List.all_eq_true.mp hb)
         rw [eqD, toPy, toPy, PyData.eqv, e]
         by_cases h : xs = ys <;> simp [h])
      | (simp [eqD, toPy, PyData.eqv]; done)
      | (simp only [eqD, toPy, PyData.eqv, D.i.injEq, D.s.injEq]; rw [Bool.eq_iff_iff]; simp)
end PL
/-! PL b: cells, judgements on data. -/
namespace PL
open PySem PySem.Spec PyProof.Rows L2

/-! ### cells -/
/-- what is known of a slot: nothing, a datum, a list that the frame alone holds and may change -/
inductive Cell where
  | no | v (d : D) | o (d : D)
@[simp] def Cell.str : Cell → Option D
  | .v d => some d
  | _ => none
@[simp] def Cell.any : Cell → Option D
  | .v d => some d
  | .o d => some d
  | .no => none
@[simp] def getV : List Cell → Nat → Option D
  | [], _ => none
  | c :: _, 0 => c.str
  | _ :: r, n + 1 => getV r n
@[simp] def getB : List Cell → Nat → Option D
  | [], _ => none
  | c :: _, 0 => c.any
  | _ :: r, n + 1 => getB r n
theorem getV_some : ∀ {e : List Cell} {i : Nat} {d : D}, getV e i = some d → e[i]? = some (.v d)
  | [], _, _, h => by cases h
  | c :: _, 0, d, h => by
    have h : c.str = some d := h
    cases c with
    | v x => cases h; rfl
    | _ => cases h
  | _ :: r, n + 1, d, h => by
    have h : getV r n = some d := h
    rw [List.getElem?_cons_succ]
    exact getV_some h
theorem getB_some : ∀ {e : List Cell} {i : Nat} {d : D}, getB e i = some d → e[i]? = some (.v d) ∨ e[i]? = some (.o d)
  | [], _, _, h => by cases h
  | c :: _, 0, d, h => by
    have h : c.any = some d := h
    cases c with
    | v x => cases h; exact .inl rfl
    | o x => cases h; exact .inr rfl
    | no => cases h
  | _ :: r, n + 1, d, h => by
    have h : getB r n = some d := h
    rw [List.getElem?_cons_succ]
    exact getB_some h

def CellOk (K : PySem.W.Frag) (H : Hp) (O : Addr → Prop) (v : Option (Option V)) : Cell → Prop
  | .no => True
  | .v d => ∃ x, v = some (some x) ∧ Rep K H O x d
  | .o d => ∃ a xs ds, v = some (some (.ref a)) ∧ d = .l ds ∧ H a = some (.lst xs) ∧ RepL K H O xs ds
def RelC (K : PySem.W.Frag) (H : Hp) (O : Addr → Prop) (σ : L2.St) (env : List Cell) : Prop := env.length ≤ σ.length ∧ ∀ (i : Nat) (c : Cell), env[i]? = some c → CellOk K H O (σ[i]?) c
/-- .. or a list that the frame may change -/
def RepB (K : PySem.W.Frag) (H : Hp) (O : Addr → Prop) (v : V) (d : D) : Prop := Rep K H O v d ∨ ∃ a xs ds, v = .ref a ∧ d = .l ds ∧ H a = some (.lst xs) ∧ RepL K H O xs ds
def OkO (H : Hp) (O : Addr → Prop) : Prop := ∀ a, O a → H a ≠ none
section
variable {K : PySem.W.Frag} {H H' : Hp} {O : Addr → Prop} {σ : L2.St} {env : List Cell}
theorem OkO.same (h : OkO H O) (k : Same H H') : OkO H' O := fun a z e => h a z (k.free e)
theorem RelC.same (h : RelC K H O σ env) (k : Same H H') : RelC K H' O σ env := ⟨h.1, fun i c e => by
  have q := h.2 i c e
  cases c with
  | no => trivial
  | v d => obtain ⟨x, e1, r⟩ := q; exact ⟨x, e1, r.same k⟩
  | o d => obtain ⟨a, xs, ds, e1, e2, e3, r⟩ := q; exact ⟨a, xs, ds, e1, e2, k _ _ e3, r.same k⟩⟩
theorem RepB.same {v : V} {d : D} (h : RepB K H O v d) (k : Same H H') : RepB K H' O v d := by
  rcases h with h | ⟨a, xs, ds, e1, e2, e3, r⟩
  · exact .inl (h.same k)
  · exact .inr ⟨a, xs, ds, e1, e2, k _ _ e3, r.same k⟩
theorem RepB.lst {v : V} {ds : List D} (h : RepB K H O v (.l ds)) : ∃ a xs, v = .ref a ∧ H a = some (.lst xs) ∧ RepL K H O xs ds := by
  rcases h with h | ⟨a, xs, ds', e1, e2, e3, r⟩
  · cases h with
    | l h n r => exact ⟨_, _, rfl, h, r⟩
  · cases e2
    exact ⟨a, xs, e1, e3, r⟩
theorem RepB.frz {v : V} {ds : List D} (h : RepB K H O v (.z ds)) : ∃ a xs, v = .ref a ∧ SqL K H a xs ∧ RepL K H O xs ds := by
  rcases h with h | ⟨a, xs, ds', e1, e2, e3, r⟩
  · cases h with
    | z h n r => exact ⟨_, _, rfl, .inl h, r⟩
    | zk h r => exact ⟨_, _, rfl, h _, r⟩
  · cases e2
theorem RepB.tup {v : V} {ds : List D} (h : RepB K H O v (.t ds)) : ∃ a xs, v = .ref a ∧ SqT K H a xs ∧ RepL K H O xs ds := by
  rcases h with h | ⟨a, xs, ds', e1, e2, e3, r⟩
  · cases h with
    | t h n r => exact ⟨_, _, rfl, .inl h, r⟩
    | tk h r => exact ⟨_, _, rfl, h _, r⟩
  · cases e2
theorem RepB.int {v : V} {x : Int} (h : RepB K H O v (.i x)) : v = .int x := by
  rcases h with h | ⟨a, xs, ds', e1, e2, e3, r⟩
  · cases h; rfl
  · cases e2
theorem RepB.bl {v : V} {x : Bool} (h : RepB K H O v (.b x)) : v = .bl x := by
  rcases h with h | ⟨a, xs, ds', e1, e2, e3, r⟩
  · cases h; rfl
  · cases e2
theorem RepB.str {v : V} {x : Str} (h : RepB K H O v (.s x)) : v = .str x := by
  rcases h with h | ⟨a, xs, ds', e1, e2, e3, r⟩
  · cases h; rfl
  · cases e2
theorem RepB.non {v : V} (h : RepB K H O v .n) : v = .non := by
  rcases h with h | ⟨a, xs, ds', e1, e2, e3, r⟩
  · cases h; rfl
  · cases e2
theorem RepB.rng {v : V} {lo hi : Int} (h : RepB K H O v (.r lo hi)) : ∃ a, v = .ref a ∧ H a = some (.rng lo hi) := by
  rcases h with h | ⟨a, xs, ds', e1, e2, e3, r⟩
  · cases h with
    | r h n => exact ⟨_, rfl, h⟩
  · cases e2
/-- an object just laid -/
theorem same_new {p : Addr} {o : HO} (h : H p = none) : Same H (upd H p o) := fun b x e => by
  rw [upd_ne (ne_of_none e h)]
  exact e
theorem Rep.newL {p : Addr} {xs : List V} {ds : List D} (ok : OkO H O) (h : H p = none) (r : RepL K H O xs ds) : Rep K (upd H p (.lst xs)) O (.ref p) (.l ds) :=
  .l upd_same (fun z => ok p z h) (r.same (same_new h))
theorem Rep.newT {p : Addr} {xs : List V} {ds : List D} (ok : OkO H O) (h : H p = none) (r : RepL K H O xs ds) : Rep K (upd H p (.tup xs)) O (.ref p) (.t ds) :=
  .t (.inl upd_same) (fun z => ok p z h) (r.same (same_new h))
theorem RepB.dp {k : Nat} {v : V} {d : D} (h : RepB K H O v d) (p : okD k d = true) : Dp K H v (toPy d) := by
  rcases h with h | ⟨a, xs, ds, e1, e2, e3, r⟩
  · exact rep_dp k h p
  · subst e1 e2
    cases k with
    | zero => rw [okD] at p; cases p
    | succ k =>
      rw [okD] at p
      rw [toPy]
      exact .lst (SqL.of e3) (repL_dp k r p)
end

/-! ### the canonical readings -/
section
variable {X : Cx}
def wE (X : Cx) (e : Expr) : TE := fun σ H Q => ∀ (pins : List (Addr × Obj)) (s : Shared), Inv X pins σ H s → wpAny (model X.prog X.w) X.A (eval e X.env) (EP X pins σ Q) X.xe s
def wT (X : Cx) (e : Expr) : TT := fun σ H Q => ∀ (pins : List (Addr × Obj)) (s : Shared), Inv X pins σ H s → wpAny (model X.prog X.w) X.A (isTrue e X.env (eval e X.env)) (TP X pins σ Q) X.xe s
def wW (X : Cx) (e : Expr) : TT := fun σ H Q => ∀ (whole : Sem Value) (pins : List (Addr × Obj)) (s : Shared), Inv X pins σ H s → wpAny (model X.prog X.w) X.A (isTrue e X.env whole) (TP X pins σ Q) X.xe s
def wA (X : Cx) (es : List Expr) : TA := fun σ H Q => ∀ (pos : Pos) (pins : List (Addr × Obj)) (s : Shared), Inv X pins σ H s → wpAny (model X.prog X.w) X.A (spliced (backTo pos (starEach es X.env))) (AP X pins σ Q) X.xe s
theorem wE_pe {e : Expr} : PE X e (wE X e) := ⟨fun pins s σ H Q I h => h pins s I⟩
theorem wT_pt {e : Expr} : PT X e (wT X e) := ⟨fun pins s σ H Q I h => h pins s I⟩
theorem wW_pw {e : Expr} : PW X e (wW X e) := ⟨fun wh pins s σ H Q I h => h wh pins s I⟩
theorem wA_pa {es : List Expr} : PA X es (wA X es) := ⟨fun pos pins s σ H Q I h => h pos pins s I⟩
theorem PEw {e : Expr} {t : TE} (h : PE X e t) {σ : L2.St} {H : Hp} {Q : VK} (q : t σ H Q) : wE X e σ H Q := fun pins s I => h.run pins s σ H Q I q
theorem PTw {e : Expr} {t : TT} (h : PT X e t) {σ : L2.St} {H : Hp} {Q : Bool → Hp → Prop} (q : t σ H Q) : wT X e σ H Q := fun pins s I => h.run pins s σ H Q I q
theorem PWw {e : Expr} {t : TT} (h : PW X e t) {σ : L2.St} {H : Hp} {Q : Bool → Hp → Prop} (q : t σ H Q) : wW X e σ H Q := fun wh pins s I => h.run wh pins s σ H Q I q
theorem PAw {es : List Expr} {t : TA} (h : PA X es t) {σ : L2.St} {H : Hp} {Q : List V → Hp → Prop} (q : t σ H Q) : wA X es σ H Q := fun pos pins s I => h.run pos pins s σ H Q I q
end

/-! ### judgements on data -/
abbrev EvF := List Cell → Option D
/-- whatever f gives, e gives -/
def DE (X : Cx) (e : Expr) (f : EvF) : Prop := ∀ (σ : L2.St) (H : Hp) (O : Addr → Prop) (env : List Cell) (d : D) (Q : VK), OkO H O → RelC X.K H O σ env → f env = some d →
  (∀ v H', Same H H' → Rep X.K H' O v d → Q v H') → wE X e σ H Q
def DB (X : Cx) (e : Expr) (f : EvF) : Prop := ∀ (σ : L2.St) (H : Hp) (O : Addr → Prop) (env : List Cell) (d : D) (Q : VK), OkO H O → RelC X.K H O σ env → f env = some d →
  (∀ v H', Same H H' → RepB X.K H' O v d → Q v H') → wE X e σ H Q
def DT (X : Cx) (e : Expr) (f : List Cell → Option Bool) : Prop := ∀ (σ : L2.St) (H : Hp) (O : Addr → Prop) (env : List Cell) (d : Bool) (Q : Bool → Hp → Prop), OkO H O → RelC X.K H O σ env → f env = some d →
  (∀ H', Same H H' → Q d H') → wT X e σ H Q
def DW (X : Cx) (e : Expr) (f : List Cell → Option Bool) : Prop := ∀ (σ : L2.St) (H : Hp) (O : Addr → Prop) (env : List Cell) (d : Bool) (Q : Bool → Hp → Prop), OkO H O → RelC X.K H O σ env → f env = some d →
  (∀ H', Same H H' → Q d H') → wW X e σ H Q
def DL (X : Cx) (es : List Expr) (f : List Cell → Option (List D)) : Prop := ∀ (σ : L2.St) (H : Hp) (O : Addr → Prop) (env : List Cell) (ds : List D) (Q : List V → Hp → Prop), OkO H O → RelC X.K H O σ env → f env = some ds →
  (∀ vs H', Same H H' → RepL X.K H' O vs ds → Q vs H') → wA X es σ H Q
section
variable {X : Cx} {e a b c : Expr} {f g h : EvF} {pos : Pos}
theorem DE.db (h : DE X e f) : DB X e f := fun σ H O env d Q ok R e c => h σ H O env d Q ok R e fun v H' s r => c v H' s (.inl r)

theorem de_name {i : Nat} {x : Str} (hN : X.N[i]? = some x) (hv : Vis X.env.scope x) (hd : (x == ("__debug__" : Str)) = false) (hcd : (x == ("__classdict__" : Str)) = false) : DE X (.Name x pos) (fun env => getV env i) :=
  fun σ H O env d Q ok R e c => PEw (pe_var hN hv hd hcd) (by
    obtain ⟨x, e1, r⟩ := R.2 i _ (getV_some e)
    exact ⟨x, e1, c _ _ (Same.refl _) r⟩)
theorem db_name {i : Nat} {x : Str} (hN : X.N[i]? = some x) (hv : Vis X.env.scope x) (hd : (x == ("__debug__" : Str)) = false) (hcd : (x == ("__classdict__" : Str)) = false) : DB X (.Name x pos) (fun env => getB env i) :=
  fun σ H O env d Q ok R e c => PEw (pe_var hN hv hd hcd) (by
    rcases getB_some e with e | e
    · obtain ⟨x, e1, r⟩ := R.2 i _ e
      exact ⟨x, e1, c _ _ (Same.refl _) (.inl r)⟩
    · obtain ⟨a, xs, ds, e1, e2, e3, r⟩ := R.2 i _ e
      exact ⟨_, e1, c _ _ (Same.refl _) (.inr ⟨a, xs, ds, rfl, e2, e3, r⟩)⟩)
theorem de_int {x : Int} {j} : DE X (.Constant (.int x) j pos) (fun _ => some (.i x)) := fun σ H O env d Q ok R e c => PEw pe_int (by cases e; exact c _ _ (Same.refl _) (.i x))
theorem de_bl {x : Bool} {j} : DE X (.Constant (.bool x) j pos) (fun _ => some (.b x)) := fun σ H O env d Q ok R e c => PEw pe_bl (by cases e; exact c _ _ (Same.refl _) (.b x))
theorem de_non {j} : DE X (.Constant .none j pos) (fun _ => some .n) := fun σ H O env d Q ok R e c => PEw pe_non (by cases e; exact c _ _ (Same.refl _) .n)
theorem de_str {x : Str} {j} : DE X (.Constant (.str x) j pos) (fun _ => some (.s x)) := fun σ H O env d Q ok R e c => PEw pe_str (by cases e; exact c _ _ (Same.refl _) (.s x))

/-! ### two-place operations -/
/-- an operation's answer on data: what the rule asks follows -/
def OpD (X : Cx) (r : R2) (F : D → D → Option D) : Prop := ∀ (H : Hp) (O : Addr → Prop) (x y : V) (p q d : D) (Q : VK), OkO H O → RepB X.K H O x p → RepB X.K H O y q → F p q = some d →
  (∀ v H', Same H H' → Rep X.K H' O v d → Q v H') → r x y H Q
/-- the same, over the operation itself (with the heap's facts at hand) -/
def OpF (X : Cx) (f : Value → Value → Sem Value) (F : D → D → Option D) : Prop := ∀ (pins : List (Addr × Obj)) (s : Shared) (σ : L2.St) (H : Hp) (O : Addr → Prop) (x y : V) (u w : Value) (p q d : D) (Q : VK), Inv X pins σ H s → OkO H O →
  RelV x u → RelV y w → RepB X.K H O x p → RepB X.K H O y q → F p q = some d → (∀ v H', Same H H' → Rep X.K H' O v d → Q v H') → wpAny (model X.prog X.w) X.A (f u w) (EP X pins σ Q) X.xe s
theorem OpF.of {f' : Value → Value → Sem Value} {r : R2} {F : D → D → Option D} (ho : OpR X f' r) (hd : OpD X r F) : OpF X f' F :=
  fun pins s σ H O x y u w p q d Q I ok rx ry rp rq e c => ho pins s σ H x y u w Q I rx ry (hd H O x y p q d Q ok rp rq e c)
/-- by cases on the data -/
theorem OpF.or {f' : Value → Value → Sem Value} {F G : D → D → Option D} (h1 : OpF X f' F) (h2 : OpF X f' G) : OpF X f' (fun p q => F p q <|> G p q) :=
  fun pins s σ H O x y u w p q d Q I ok rx ry rp rq e c => by
    cases z : F p q with
    | none =>
      have e : (F p q <|> G p q) = some d := e
      rw [z] at e
      exact h2 pins s σ H O x y u w p q d Q I ok rx ry rp rq e c
    | some d' =>
      have e : (F p q <|> G p q) = some d := e
      rw [z] at e
      cases e
      exact h1 pins s σ H O x y u w p q _ Q I ok rx ry rp rq z c
@[simp] def bind2 (F : D → D → Option D) (f g : EvF) : EvF := fun env => (f env).bind fun x => (g env).bind fun y => F x y
theorem bind2_some {F : D → D → Option D} {f g : EvF} {env : List Cell} {d : D} (h : bind2 F f g env = some d) : ∃ x y, f env = some x ∧ g env = some y ∧ F x y = some d := by
  unfold bind2 at h
  cases e1 : f env with
  | none => rw [e1] at h; cases h
  | some x =>
    rw [e1] at h
    have h : (g env).bind (fun y => F x y) = some d := h
    cases e2 : g env with
    | none => rw [e2] at h; cases h
    | some y =>
      rw [e2] at h
      exact ⟨x, y, rfl, rfl, h⟩
/-- the two sides evaluated, then the operation -/
theorem go2 {F : D → D → Option D} {fv : Value → Value → Sem Value} (ho : OpF X fv F) (ha : DB X a f) (hb : DB X b g) {σ : L2.St} {H : Hp} {O : Addr → Prop} {env : List Cell} {d : D} {Q : VK} (ok : OkO H O) (R : RelC X.K H O σ env)
    (e : bind2 F f g env = some d) (c : ∀ v H', Same H H' → Rep X.K H' O v d → Q v H') {pins : List (Addr × Obj)} {s : Shared} (I : Inv X pins σ H s) :
    wpAny (model X.prog X.w) X.A (eval a X.env) (fun v s₁ => wpAny (model X.prog X.w) X.A (eval b X.env) (fun u s₂ => wpAny (model X.prog X.w) X.A (fv v u) (EP X pins σ Q) X.xe s₂) X.xe s₁) X.xe s := by
  obtain ⟨p, q, e1, e2, e3⟩ := bind2_some e
  refine bin (R := fun x y H2 => ∃ H1, RepB X.K H1 O x p ∧ RepB X.K H2 O y q ∧ Same H H1 ∧ Same H1 H2 ∧ OkO H2 O) wE_pe wE_pe I (ha σ H O env p _ ok R e1 fun x H1 s1 r1 => hb σ H1 O env q _ (ok.same s1) (R.same s1) e2 fun y H2 s2 r2 => ⟨H1, r1, r2, s1, s2, (ok.same s1).same s2⟩) ?_
  intro v u s2 x y H2 I2 rx ry ⟨H1, r1, r2, k1, k2, ok2⟩
  exact ho pins s2 σ H2 O x y v u p q d Q I2 ok2 rx ry (r1.same k2) r2 e3 fun v' H' k r => c v' H' ((k1.trans k2).trans k) r
theorem de_bin {op : Operator} {F : D → D → Option D} (ho : OpF X (binaryOp op) F) (ha : DB X a f) (hb : DB X b g) : DE X (.BinOp a op b pos) (bind2 F f g) :=
  fun σ H O env d Q ok R e c pins s I => wpAny_BinOp (go2 ho ha hb ok R e c I)
theorem de_cmp {op : CmpOp} {F : D → D → Option D} (ho : OpF X (compareOp op) F) (ha : DB X a f) (hb : DB X b g) (hm : behindInMarks op b = false) : DE X (.Compare a [op] [b] pos) (bind2 F f g) :=
  fun σ H O env d Q ok R e c pins s I => wpAny_Compare1 (go2 ho ha hb ok R e c I) hm
end
end PL
/-! PL c: operations on data. -/
namespace PL
open PySem PySem.Spec PyProof.Rows L2

/-! ### what they give -/
/-- by the natural number alone: the kernel is not to count down from big literals -/
def absLe (x : Int) (n : Nat) : Bool := Nat.ble x.natAbs n
theorem absLe_ok {x : Int} {n : Nat} (h : absLe x n = true) : -(n : Int) ≤ x ∧ x ≤ n := by
  have := Nat.le_of_ble_eq_true h
  omega
theorem absLe_of {x : Int} {n : Nat} (h : x.natAbs ≤ n) : absLe x n = true := Nat.ble_eq_true_of_le h
def smallI (x : Int) : Bool := absLe x 18446744073709551615
theorem smallI_ok {x : Int} (h : smallI x = true) : -(2 ^ 64) < x ∧ x < 2 ^ 64 := by
  have := absLe_ok h
  omega
@[simp] def addD : D → D → Option D
  | .i x, .i y => some (.i (x + y))
  | .l xs, .l ys => if xs.length + ys.length ≤ SZ then some (.l (xs ++ ys)) else none
  | .t xs, .t ys => if xs.length + ys.length ≤ SZ then some (.t (xs ++ ys)) else none
  | _, _ => none
@[simp] def subD : D → D → Option D
  | .i x, .i y => some (.i (x - y))
  | _, _ => none
@[simp] def mulD : D → D → Option D
  | .i x, .i y => if (smallI x || smallI y) = true then some (.i (x * y)) else none
  | .l xs, .i k => if 0 ≤ k ∧ absLe k 1000000 = true ∧ xs.length * k.toNat ≤ SZ then some (.l (List.replicate k.toNat xs).flatten) else none
  | .t xs, .i k => if 0 ≤ k ∧ absLe k 1000 = true ∧ xs.length ≤ 1000 then some (.t (List.replicate k.toNat xs).flatten) else none
  | _, _ => none
@[simp] def fdivD : D → D → Option D
  | .i x, .i y => if 0 < y ∧ absLe y (2 ^ 1000 - 1) = true then some (.i (x / y)) else none
  | _, _ => none
@[simp] def modD : D → D → Option D
  | .i x, .i y => if 0 < y then some (.i (x % y)) else none
  | _, _ => none
@[simp] def powD : D → D → Option D
  | .i x, .i y => if 0 ≤ y ∧ absLe y 1000000 = true ∧ smallI x = true then some (.i (x ^ y.toNat)) else none
  | _, _ => none
/-- how deep == looks here -/
def DP : Nat := 20
@[simp] def eqqD (a b : D) : Option D := if (okD DP a && okD DP b) = true then some (.b (eqD a b)) else none
@[simp] def neqD (a b : D) : Option D := if (okD DP a && okD DP b) = true then some (.b (!eqD a b)) else none
@[simp] def inD : D → D → Option D
  | a, .l xs => if (okD DP a && okD DP (.l xs)) = true then some (.b (xs.any fun x => eqD x a)) else none
  | a, .t xs => if (okD DP a && okD DP (.t xs)) = true then some (.b (xs.any fun x => eqD x a)) else none
  | _, _ => none
@[simp] def ninD : D → D → Option D
  | a, .l xs => if (okD DP a && okD DP (.l xs)) = true then some (.b (!xs.any fun x => eqD x a)) else none
  | a, .t xs => if (okD DP a && okD DP (.t xs)) = true then some (.b (!xs.any fun x => eqD x a)) else none
  | _, _ => none
def isND : D → Bool
  | .n => true
  | _ => false
@[simp] def isD : D → D → Option D
  | a, .n => some (.b (isND a))
  | .b x, .b y => some (.b (decide (x = y)))
  | _, _ => none
@[simp] def isntD : D → D → Option D
  | a, .n => some (.b (!isND a))
  | .b x, .b y => some (.b (!decide (x = y)))
  | _, _ => none

theorem any_toPys (a : PyData) : ∀ xs : List D, (toPys xs).any (fun y => PyData.eqv y a) = xs.any fun x => PyData.eqv (toPy x) a
  | [] => by rw [toPys]; rfl
  | x :: xs => by rw [toPys, List.any_cons, List.any_cons, any_toPys a xs]

section
variable {X : Cx}
theorem RepB.isN {K : PySem.W.Frag} {H : Hp} {O : Addr → Prop} {v : V} {d : D} (h : RepB K H O v d) : decide (v = .non) = isND d := by
  rcases h with h | ⟨a, xs, ds', e1, e2, e3, r⟩
  · cases h <;> first | rfl | (apply decide_eq_false; exact nofun)
  · subst e1 e2
    rfl

theorem of_add : OpF X (binaryOp .Add) addD := by
  intro pins s σ H O x y u w p q d Q I ok rx ry rp rq e c
  cases p <;> cases q <;> first
    | (cases e; done)
    | skip
  · cases e
    obtain rfl := rp.int
    obtain rfl := rq.int
    exact op_add pins s σ H _ _ u w Q I rx ry ⟨_, _, rfl, rfl, c _ _ (Same.refl _) (.i _)⟩
  · rename_i xs ys
    have e : (if xs.length + ys.length ≤ SZ then some (D.t (xs ++ ys)) else none) = some d := e
    by_cases hz : xs.length + ys.length ≤ SZ
    · rw [if_pos hz] at e
      cases e
      obtain ⟨a, vs, rfl, ha, ra⟩ := rp.tup
      obtain ⟨b, ws, rfl, hb, rb⟩ := rq.tup
      have l1 := ra.length
      have l2 := rb.length
      have keep : ∀ z, Rep X.K H O (.ref z) (.t (xs ++ ys)) → Q (.ref z) H := fun z r => c _ _ (Same.refl _) r
      refine op_catA pins s σ H _ _ u w Q I rx ry ⟨a, b, vs, ws, rfl, rfl, ha, hb, by rw [SZ_eq]; omega, fun h => ?_, fun h1 h2 => ?_, fun h1 h2 p np => ?_⟩
      · subst h
        have : xs = [] := List.length_eq_zero_iff.mp l1.symm
        subst this
        rcases rq with rq | ⟨_, _, _, _, z, _⟩
        · exact keep _ rq
        · cases z
      · subst h2
        have : ys = [] := List.length_eq_zero_iff.mp l2.symm
        subst this
        rw [List.append_nil] at keep
        rcases rp with rp | ⟨_, _, _, _, z, _⟩
        · exact keep _ rp
        · cases z
      · exact c _ _ (same_new np) (Rep.newT ok np (ra.append rb))
    · rw [if_neg hz] at e; cases e
  · rename_i xs ys
    have e : (if xs.length + ys.length ≤ SZ then some (D.l (xs ++ ys)) else none) = some d := e
    by_cases hz : xs.length + ys.length ≤ SZ
    · rw [if_pos hz] at e
      cases e
      obtain ⟨a, vs, rfl, ha, ra⟩ := rp.lst
      obtain ⟨b, ws, rfl, hb, rb⟩ := rq.lst
      have l1 := ra.length
      have l2 := rb.length
      exact op_cat pins s σ H _ _ u w Q I rx ry ⟨a, b, vs, ws, rfl, rfl, ha, hb, by rw [SZ_eq]; omega, fun p np => c _ _ (same_new np) (Rep.newL ok np (ra.append rb))⟩
    · rw [if_neg hz] at e; cases e
theorem of_sub : OpF X (binaryOp .Sub) subD := by
  intro pins s σ H O x y u w p q d Q I ok rx ry rp rq e c
  cases p <;> cases q <;> first
    | (cases e; done)
    | skip
  cases e
  obtain rfl := rp.int
  obtain rfl := rq.int
  exact op_sub pins s σ H _ _ u w Q I rx ry ⟨_, _, rfl, rfl, c _ _ (Same.refl _) (.i _)⟩
theorem of_fdiv : OpF X (binaryOp .FloorDiv) fdivD := by
  intro pins s σ H O x y u w p q d Q I ok rx ry rp rq e c
  cases p <;> cases q <;> first
    | (cases e; done)
    | skip
  rename_i i j
  have e : (if 0 < j ∧ absLe j (2 ^ 1000 - 1) = true then some (D.i (i / j)) else none) = some d := e
  by_cases hj : 0 < j ∧ absLe j (2 ^ 1000 - 1) = true
  · rw [if_pos hj] at e
    cases e
    obtain rfl := rp.int
    obtain rfl := rq.int
    have hj2 := absLe_ok hj.2
    exact op_fdivW pins s σ H _ _ u w Q I rx ry ⟨_, _, rfl, rfl, wide_div (b := 1000) hj.1 (by omega) (by decide) (by decide), c _ _ (Same.refl _) (.i _)⟩
  · rw [if_neg hj] at e; cases e
theorem of_mod : OpF X (binaryOp .Mod) modD := by
  intro pins s σ H O x y u w p q d Q I ok rx ry rp rq e c
  cases p <;> cases q <;> first
    | (cases e; done)
    | skip
  rename_i i j
  have e : (if 0 < j then some (D.i (i % j)) else none) = some d := e
  by_cases hj : 0 < j
  · rw [if_pos hj] at e
    cases e
    obtain rfl := rp.int
    obtain rfl := rq.int
    exact op_mod pins s σ H _ _ u w Q I rx ry ⟨_, _, rfl, rfl, hj, c _ _ (Same.refl _) (.i _)⟩
  · rw [if_neg hj] at e; cases e
theorem of_pow : OpF X (binaryOp .Pow) powD := by
  intro pins s σ H O x y u w p q d Q I ok rx ry rp rq e c
  cases p <;> cases q <;> first
    | (cases e; done)
    | skip
  rename_i i j
  have e : (if 0 ≤ j ∧ absLe j 1000000 = true ∧ smallI i = true then some (D.i (i ^ j.toNat)) else none) = some d := e
  by_cases hj : 0 ≤ j ∧ absLe j 1000000 = true ∧ smallI i = true
  · rw [if_pos hj] at e
    cases e
    obtain rfl := rp.int
    obtain rfl := rq.int
    have hj2 := absLe_ok hj.2.1
    have hj3 := smallI_ok hj.2.2
    exact op_pow pins s σ H _ _ u w Q I rx ry ⟨_, _, rfl, rfl, ⟨hj.1, by omega, by omega⟩, c _ _ (Same.refl _) (.i _)⟩
  · rw [if_neg hj] at e; cases e
theorem of_eq (hu : X.A.units + 65 < cLine) : OpF X (compareOp .Eq) eqqD := by
  intro pins s σ H O x y u w p q d Q I ok rx ry rp rq e c
  unfold eqqD at e
  split at e
  · rename_i hk
    rw [Bool.and_eq_true] at hk
    cases e
    exact op_eqD (by omega) pins s σ H _ _ u w Q I rx ry ⟨_, _, rp.dp hk.1, rq.dp hk.2, shaped_ok hk.1 (by decide), shaped_ok hk.2 (by decide), c _ _ (Same.refl _) (.b _)⟩
  · cases e
theorem of_ne (hu : X.A.units + 65 < cLine) : OpF X (compareOp .NotEq) neqD := by
  intro pins s σ H O x y u w p q d Q I ok rx ry rp rq e c
  unfold neqD at e
  split at e
  · rename_i hk
    rw [Bool.and_eq_true] at hk
    cases e
    exact op_neD (by omega) pins s σ H _ _ u w Q I rx ry ⟨_, _, rp.dp hk.1, rq.dp hk.2, shaped_ok hk.1 (by decide), shaped_ok hk.2 (by decide), c _ _ (Same.refl _) (.b _)⟩
  · cases e
theorem of_in (hu : X.A.units + 65 < cLine) : OpF X (compareOp .In) inD := by
  intro pins s σ H O x y u w p q d Q I ok rx ry rp rq e c
  cases q <;> first
    | (cases e; done)
    | skip
  · rename_i xs
    have e : (if (okD DP p && okD DP (.t xs)) = true then some (D.b (xs.any fun x => eqD x p)) else none) = some d := e
    split at e
    · rename_i hk
      rw [Bool.and_eq_true] at hk
      cases e
      have hd := rp.dp hk.1
      have he := rq.dp hk.2
      have sd := shaped_ok hk.1 (by decide)
      have se := shaped_ok hk.2 (by decide)
      rw [toPy] at he se
      obtain ⟨as, r1⟩ := Dp.reads I _ x u hd rx
      obtain ⟨bs, r2⟩ := Dp.reads I _ y w he ry
      refine SeqAt.in_tuple_reads r2 r1 (SeqAt.canLay_of_shaped se) (SeqAt.canLay_of_shaped sd) (room_in_shaped sd hu) ⟨.bl _, H, I, rfl, ?_⟩
      rw [any_toPys]
      exact c _ _ (Same.refl _) (.b _)
    · cases e
  · rename_i xs
    have e : (if (okD DP p && okD DP (.l xs)) = true then some (D.b (xs.any fun x => eqD x p)) else none) = some d := e
    split at e
    · rename_i hk
      rw [Bool.and_eq_true] at hk
      cases e
      have hd := rp.dp hk.1
      have he := rq.dp hk.2
      have sd := shaped_ok hk.1 (by decide)
      have se := shaped_ok hk.2 (by decide)
      rw [toPy] at he se
      obtain ⟨as, r1⟩ := Dp.reads I _ x u hd rx
      obtain ⟨bs, r2⟩ := Dp.reads I _ y w he ry
      refine SeqAt.in_list_reads r2 r1 (SeqAt.canLay_of_shaped se) (SeqAt.canLay_of_shaped sd) (room_in_shaped sd hu) ⟨.bl _, H, I, rfl, ?_⟩
      rw [any_toPys]
      exact c _ _ (Same.refl _) (.b _)
    · cases e
theorem of_nin (hu : X.A.units + 65 < cLine) : OpF X (compareOp .NotIn) ninD := by
  intro pins s σ H O x y u w p q d Q I ok rx ry rp rq e c
  cases q <;> first
    | (cases e; done)
    | skip
  · rename_i xs
    have e : (if (okD DP p && okD DP (.t xs)) = true then some (D.b (!xs.any fun x => eqD x p)) else none) = some d := e
    split at e
    · rename_i hk
      rw [Bool.and_eq_true] at hk
      cases e
      have hd := rp.dp hk.1
      have he := rq.dp hk.2
      have sd := shaped_ok hk.1 (by decide)
      have se := shaped_ok hk.2 (by decide)
      rw [toPy] at he se
      obtain ⟨as, r1⟩ := Dp.reads I _ x u hd rx
      obtain ⟨bs, r2⟩ := Dp.reads I _ y w he ry
      refine SeqAt.notIn_tuple_reads r2 r1 (SeqAt.canLay_of_shaped se) (SeqAt.canLay_of_shaped sd) (room_in_shaped sd hu) ⟨.bl _, H, I, rfl, ?_⟩
      rw [any_toPys]
      exact c _ _ (Same.refl _) (.b _)
    · cases e
  · rename_i xs
    have e : (if (okD DP p && okD DP (.l xs)) = true then some (D.b (!xs.any fun x => eqD x p)) else none) = some d := e
    split at e
    · rename_i hk
      rw [Bool.and_eq_true] at hk
      cases e
      have hd := rp.dp hk.1
      have he := rq.dp hk.2
      have sd := shaped_ok hk.1 (by decide)
      have se := shaped_ok hk.2 (by decide)
      rw [toPy] at he se
      obtain ⟨as, r1⟩ := Dp.reads I _ x u hd rx
      obtain ⟨bs, r2⟩ := Dp.reads I _ y w he ry
      refine SeqAt.notIn_list_reads r2 r1 (SeqAt.canLay_of_shaped se) (SeqAt.canLay_of_shaped sd) (room_in_shaped sd hu) ⟨.bl _, H, I, rfl, ?_⟩
      rw [any_toPys]
      exact c _ _ (Same.refl _) (.b _)
    · cases e
theorem of_is : OpF X (compareOp .Is) isD := by
  intro pins s σ H O x y u w p q d Q I ok rx ry rp rq e c
  have viaN : q = .n → d = .b (isND p) → wpAny (model X.prog X.w) X.A (compareOp .Is u w) (EP X pins σ Q) X.xe s := fun hq hd => by
    subst hq hd
    obtain rfl := rq.non
    refine op_isN pins s σ H _ _ u w Q I rx ry ⟨rfl, ?_⟩
    rw [rp.isN]
    exact c _ _ (Same.refl _) (.b _)
  cases p <;> cases q <;> first
    | (cases e; done)
    | exact viaN rfl (Option.some.inj e).symm
    | skip
  cases e
  obtain rfl := rp.bl
  obtain rfl := rq.bl
  exact op_isBl pins s σ H _ _ u w Q I rx ry ⟨_, _, rfl, rfl, c _ _ (Same.refl _) (.b _)⟩
theorem of_isnt : OpF X (compareOp .IsNot) isntD := by
  intro pins s σ H O x y u w p q d Q I ok rx ry rp rq e c
  have viaN : q = .n → d = .b (!isND p) → wpAny (model X.prog X.w) X.A (compareOp .IsNot u w) (EP X pins σ Q) X.xe s := fun hq hd => by
    subst hq hd
    obtain rfl := rq.non
    refine op_notN pins s σ H _ _ u w Q I rx ry ⟨rfl, ?_⟩
    rw [rp.isN]
    exact c _ _ (Same.refl _) (.b _)
  cases p <;> cases q <;> first
    | (cases e; done)
    | exact viaN rfl (Option.some.inj e).symm
    | skip
  cases e
  obtain rfl := rp.bl
  obtain rfl := rq.bl
  exact op_notBl pins s σ H _ _ u w Q I rx ry ⟨_, _, rfl, rfl, c _ _ (Same.refl _) (.b _)⟩
end
end PL
/-! PL d: products; tuples times ints of any size from 0 on. -/
namespace PL
open PySem PySem.Spec PyProof.Rows L2
theorem tuple_mulE (l : Addr) (items : Array Value) (n : Nat) (dd : Option Addr) (sl : Array (Option Value)) (x : Int) (u : Tok) (c0 : (decide (x < -(2 ^ 63)) || decide (x ≥ 2 ^ 63)) = false) (c1 : (items.isEmpty || x == 1) = true) :
    Meets (Builtin.«tuple.__mul__» ⟨[.ref l, .int x u], []⟩) (fun _ R s => s.heap.get? l = some { cls := .type "tuple", dict := dd, data := .seq items n, slots := sl } ∧
      R (.ok (.ret (Value.ref l))) s) :=
  .of_wp fun prog w A R s h => by
    obtain ⟨hp, g, d, tk, os⟩ := s
    obtain ⟨hl, h⟩ := h
    have f1 := AutoSeq1.idx_int
    wp_walk using wpAny_loadPart' hl
    refine wpAny_ite_false (decide_eq_false (by rw [c0]; exact Bool.false_ne_true)) ?_
    wp_walk using wpAny_loadPart' hl
    exact ⟨_, rfl, h⟩
theorem tuple_mulZ (l : Addr) (items : Array Value) (n : Nat) (dd : Option Addr) (sl : Array (Option Value)) (x : Int) (u : Tok) (c0 : (decide (x < -(2 ^ 63)) || decide (x ≥ 2 ^ 63)) = false) (c1 : (items.isEmpty || x == 1) = false) (c2 : (decide (x ≤ 0) || items.isEmpty) = true) :
    Meets (Builtin.«tuple.__mul__» ⟨[.ref l, .int x u], []⟩) (fun _ R s => s.heap.get? l = some { cls := .type "tuple", dict := dd, data := .seq items n, slots := sl } ∧
      R (.ok (.ret (Value.ref s.heap.objs.size))) { s with heap := s.heap.push { cls := Value.type "tuple", data := Data.seq #[] }, toks := s.toks }) :=
  .of_wp fun prog w A R s h => by
    obtain ⟨hp, g, d, tk, os⟩ := s
    obtain ⟨hl, h⟩ := h
    have f1 := AutoSeq1.idx_int
    wp_walk using wpAny_loadPart' hl
    refine wpAny_ite_false (decide_eq_false (by rw [c0]; exact Bool.false_ne_true)) ?_
    wp_walk using wpAny_loadPart' hl
    exact ⟨_, rfl, h⟩
/-- t * k -/
def rRepA (K : PySem.W.Frag) : R2 := fun x y H Q => ∃ l k xs, x = .ref l ∧ y = .int k ∧ SqT K H l xs ∧ 0 ≤ k ∧ k ≤ 1000 ∧ xs.length ≤ 1000 ∧
  ((xs = [] ∨ k = 1) → Q (.ref l) H) ∧ (¬ (xs = [] ∨ k = 1) → ∀ p, H p = none → Q (.ref p) (upd H p (.tup (List.replicate k.toNat xs).flatten)))
section
variable {X : Cx}
theorem op_repA : OpR X (binaryOp .Mult) (rRepA X.K) := by
  intro pins s σ H x y v u Q I rx ry h
  obtain ⟨l, k, xs, rfl, rfl, hT, h1, h2, hz, q1, q2⟩ := h
  by_cases hne : xs = [] ∨ k = 1
  · cases rx
    obtain ⟨t, rfl⟩ := ry
    obtain ⟨its, r, ⟨⟨cls, dd, data, sl⟩, ho, hc, n, hd⟩, hs⟩ := I.tuple hT
    simp only at hc hd
    subst hc hd
    have hle : its.length = xs.length := r.length.symm
    have c0 : (decide (k < -(2 ^ 63)) || decide (k ≥ 2 ^ 63)) = false := by
      rw [decide_eq_false (by omega), decide_eq_false (by omega)] <;> rfl
    have c1 : (its.toArray.isEmpty || k == 1) = true := by
      rcases hne with e | e
      · subst e
        rw [List.eq_nil_of_length_eq_zero hle]
        rfl
      · subst e
        simp
    exact wpAny_binaryOp_repeat_ref (T := "tuple") (U := "int") (by decide) ⟨_, ho, rfl⟩ (fun s' => typeIs_int s' k t) noFill_tuple_mul F.fills_int_mul F.slot_int_rmul repeat_tuple F.slot_int_index.lookup
      (call_meets F.slot_int_rmul (typeIs_int s k t) F.entry_int_rmul (F.args_int_rmul_2 _ _) (int_rmul_tuple k t l its.toArray n dd sl)
        ⟨ho, rfl, ⟨_, ho, rfl⟩, call_meets F.slot_tuple_mul ⟨_, ho, rfl⟩ F.entry_tuple_mul (F.args_tuple_mul_2 _ _) (tuple_mulE l its.toArray n dd sl k t c0 c1) ⟨ho, ⟨.ref l, H, I, rfl, q1 hne⟩⟩⟩)
  · by_cases hk : k = 0
    · subst hk
      cases rx
      obtain ⟨t, rfl⟩ := ry
      obtain ⟨its, r, ⟨⟨cls, dd, data, sl⟩, ho, hc, n, hd⟩, hs⟩ := I.tuple hT
      simp only at hc hd
      subst hc hd
      have hle : its.length = xs.length := r.length.symm
      have hn : its ≠ [] := fun e => hne (.inl (by
        rw [e] at hle
        exact List.eq_nil_of_length_eq_zero hle.symm))
      have hi : its.toArray.isEmpty = false := by
        cases its with
        | nil => exact absurd rfl hn
        | cons a b => rfl
      refine wpAny_binaryOp_repeat_ref (T := "tuple") (U := "int") (by decide) ⟨_, ho, rfl⟩ (fun s' => typeIs_int s' 0 t) noFill_tuple_mul F.fills_int_mul F.slot_int_rmul repeat_tuple F.slot_int_index.lookup
        (call_meets F.slot_int_rmul (typeIs_int s 0 t) F.entry_int_rmul (F.args_int_rmul_2 _ _) (int_rmul_tuple 0 t l its.toArray n dd sl)
          ⟨ho, rfl, ⟨_, ho, rfl⟩, call_meets F.slot_tuple_mul ⟨_, ho, rfl⟩ F.entry_tuple_mul (F.args_tuple_mul_2 _ _) (tuple_mulZ l its.toArray n dd sl 0 t (by decide) (by rw [hi]; rfl) (by rfl)) ⟨ho, ?_⟩⟩)
      refine ⟨.ref s.heap.objs.size, _, I.laid (t' := s.toks) (o := .tup []) (fun b ob q => Heap.get?_push_of_some _ q) (Nat.le_refl _) ?_, rfl, q2 hne _ (I.hok.fresh (Nat.le_refl _))⟩
      exact ⟨Nat.zero_le _, [], .nil, IsTup.new _ _⟩
    · exact op_repT pins s σ H _ _ v u Q I rx ry ⟨l, k, xs, rfl, rfl, hT, fun e => hne (.inl e), by
        have : k ≠ 1 := fun e => hne (.inr e)
        omega, h2, hz, q2 hne⟩
theorem of_mul : OpF X (binaryOp .Mult) mulD := by
  intro pins s σ H O x y u w p q d Q I ok rx ry rp rq e c
  cases p <;> cases q <;> first
    | (cases e; done)
    | skip
  · rename_i i j
    have e : (if (smallI i || smallI j) = true then some (D.i (i * j)) else none) = some d := e
    split at e
    · rename_i hk
      cases e
      obtain rfl := rp.int
      obtain rfl := rq.int
      rw [Bool.or_eq_true] at hk
      exact op_mul pins s σ H _ _ u w Q I rx ry ⟨_, _, rfl, rfl, hk.imp (fun z => smallI_ok z) (fun z => smallI_ok z), c _ _ (Same.refl _) (.i _)⟩
    · cases e
  · rename_i xs k
    have e : (if 0 ≤ k ∧ absLe k 1000 = true ∧ xs.length ≤ 1000 then some (D.t (List.replicate k.toNat xs).flatten) else none) = some d := e
    split at e
    · rename_i hk
      have hk2 := absLe_ok hk.2.1
      cases e
      obtain ⟨a, vs, rfl, ha, ra⟩ := rp.tup
      obtain rfl := rq.int
      have l1 := ra.length
      refine op_repA pins s σ H _ _ u w Q I rx ry ⟨a, k, vs, rfl, rfl, ha, hk.1, by omega, by omega, fun z => ?_, fun z p np => c _ _ (same_new np) (Rep.newT ok np (ra.rep k.toNat))⟩
      have e : (List.replicate k.toNat xs).flatten = xs := by
        rcases z with z | z
        · subst z
          have : xs = [] := List.length_eq_zero_iff.mp l1.symm
          subst this
          simp
        · subst z
          simp
      rw [e] at c
      rcases rp with rp | ⟨_, _, _, _, z, _⟩
      · exact c _ _ (Same.refl _) rp
      · cases z
    · cases e
  · rename_i xs k
    have e : (if 0 ≤ k ∧ absLe k 1000000 = true ∧ xs.length * k.toNat ≤ SZ then some (D.l (List.replicate k.toNat xs).flatten) else none) = some d := e
    split at e
    · rename_i hk
      have hk2 := absLe_ok hk.2.1
      cases e
      obtain ⟨a, vs, rfl, ha, ra⟩ := rp.lst
      obtain rfl := rq.int
      have l1 := ra.length
      exact op_rep pins s σ H _ _ u w Q I rx ry ⟨a, k, vs, rfl, rfl, ha, by omega, by omega, by rw [l1, SZ_eq]; exact hk.2.2, fun p np => c _ _ (same_new np) (Rep.newL ok np (ra.rep k.toNat))⟩
    · cases e
end
end PL
/-! PL e: tests, and, or, conditional expressions, displays, subscripts, calls. -/
namespace PL
open PySem PySem.Spec PyProof.Rows L2

/-! ### truth -/
@[simp] def truthD : D → Option Bool
  | .n => some false
  | .b x => some x
  | .i x => some (x != 0)
  | .t xs => some (!xs.isEmpty)
  | .l xs => some (!xs.isEmpty)
  | _ => none
theorem isEmpty_len {α β : Type} {xs : List α} {ys : List β} (h : xs.length = ys.length) : xs.isEmpty = ys.isEmpty := by
  cases xs <;> cases ys <;> first | rfl | (simp at h)
section
variable {K : PySem.W.Frag} {H : Hp} {O : Addr → Prop}
theorem RepB.truth {v : V} {d : D} {b : Bool} (h : RepB K H O v d) (e : truthD d = some b) : TruV K v H b := by
  cases d with
  | n => obtain rfl := h.non; cases e; rfl
  | b x => obtain rfl := h.bl; cases e; rfl
  | i x => obtain rfl := h.int; cases e; rfl
  | t xs =>
    obtain ⟨a, vs, rfl, ha, r⟩ := h.tup
    cases e
    exact .inr (.inl ⟨vs, ha, by rw [isEmpty_len r.length]⟩)
  | l xs =>
    obtain ⟨a, vs, rfl, ha, r⟩ := h.lst
    cases e
    exact .inl ⟨vs, SqL.of ha, by rw [isEmpty_len r.length]⟩
  | _ => cases e
end

@[simp] def cmpI (f : Int → Int → Bool) : D → D → Option D
  | .i x, .i y => some (.b (f x y))
  | _, _ => none
abbrev fLt (i j : Int) : Bool := decide (i < j)
abbrev fLe (i j : Int) : Bool := decide (i ≤ j)
abbrev fGt (i j : Int) : Bool := decide (j < i)
abbrev fGe (i j : Int) : Bool := decide (j ≤ i)
section
variable {X : Cx} {e a b c : Expr} {f g h : EvF} {ft gt : List Cell → Option Bool} {pos : Pos} {rest : List Expr}
theorem of_cmpI {f' : Value → Value → Sem Value} {p : Int → Int → Bool} (ho : OpR X f' (rI0 fun i j => .bl (p i j))) : OpF X f' (cmpI p) := by
  intro pins s σ H O x y u w p q d Q I ok rx ry rp rq e c
  cases p <;> cases q <;> first
    | (cases e; done)
    | skip
  cases e
  obtain rfl := rp.int
  obtain rfl := rq.int
  exact ho pins s σ H _ _ u w Q I rx ry ⟨_, _, rfl, rfl, c _ _ (Same.refl _) (.b _)⟩

/-! ### tests -/
@[simp] def asB (f : EvF) : List Cell → Option Bool := fun env => (f env).bind fun d => match d with
  | .b x => some x
  | _ => none
@[simp] def asT (f : EvF) : List Cell → Option Bool := fun env => (f env).bind truthD
theorem bind_some' {α β : Type} {x : Option α} {f : α → Option β} {b : β} (h : x.bind f = some b) : ∃ a, x = some a ∧ f a = some b := by
  cases x with
  | none => cases h
  | some a => exact ⟨a, rfl, h⟩
theorem asB_some {f : EvF} {env : List Cell} {b : Bool} (h : asB f env = some b) : f env = some (.b b) := by
  obtain ⟨d, h1, h2⟩ := bind_some' h
  cases d with
  | b x => cases h2; exact h1
  | _ => cases h2
theorem dt_truth (ha : DB X a f) (he : ∀ whole, isTrue a X.env whole = (do let v ← whole; standAt a.pos; holding [v] (truthy v))) : DT X a (asT f) := by
  intro σ H O env d Q ok R e c
  obtain ⟨p, e1, e2⟩ := bind_some' e
  refine PTw (pt_truth wE_pe he) ?_
  exact ha σ H O env p _ ok R e1 fun v H' s r => ⟨d, r.truth e2, c H' s⟩
theorem dt_cmp {op : CmpOp} {F : D → D → Option D} (ho : OpF X (compareOp op) F) (ha : DB X a f) (hb : DB X b g) (hm : behindInMarks op b = false) : DT X (.Compare a [op] [b] pos) (asB (bind2 F f g)) := by
  intro σ H O env d Q ok R e c pins s I
  have e1 := asB_some e
  refine wpAny_isTrue_Compare1 (thn (go2 (Q := fun v H' => v = .bl d ∧ Q d H') ho ha hb ok R e1 (fun v H' s' r => ?_) I) fun v s1 h1 => thn h1 fun u s2 h2 => thn h2 fun z s3 h3 => ?_) hm
  · cases r
    exact ⟨rfl, c H' s'⟩
  · obtain ⟨v', H', I', r', rfl, q⟩ := h3
    cases r'
    exact wpAny_truthy_bool ⟨H', I', q⟩
theorem dt_not (ha : DT X a ft) : DT X (.UnaryOp .Not a pos) (fun env => (ft env).map (!·)) := by
  intro σ H O env d Q ok R e c
  cases z : ft env with
  | none =>
    have e : (ft env).map (!·) = some d := e
    rw [z] at e; cases e
  | some x =>
    have e : (ft env).map (!·) = some d := e
    rw [z] at e; cases e
    exact PTw (pt_not wT_pt) (ha σ H O env x _ ok R z fun H' s => c H' s)
@[simp] def andT (f g : List Cell → Option Bool) : List Cell → Option Bool := fun env => (f env).bind fun x => if x = true then g env else some false
@[simp] def orT (f g : List Cell → Option Bool) : List Cell → Option Bool := fun env => (f env).bind fun x => if x = true then some true else g env
theorem dw_and1 (ha : DT X a ft) : DW X (.BoolOp .And [a] pos) ft := fun σ H O env d Q ok R e c => PWw (pw_and1 wT_pt) (ha σ H O env d Q ok R e c)
theorem dw_or1 (ha : DT X a ft) : DW X (.BoolOp .Or [a] pos) ft := fun σ H O env d Q ok R e c => PWw (pw_or1 wT_pt) (ha σ H O env d Q ok R e c)
theorem dw_and (ha : DT X a ft) (hb : DW X (.BoolOp .And (b :: rest) pos) gt) : DW X (.BoolOp .And (a :: b :: rest) pos) (andT ft gt) := by
  intro σ H O env d Q ok R e c
  obtain ⟨x, e1, e2⟩ := bind_some' e
  refine PWw (pw_and wT_pt wW_pw) (ha σ H O env x _ ok R e1 fun H' s => ?_)
  cases x with
  | true => exact iteT (hb σ H' O env d Q (ok.same s) (R.same s) e2 fun H2 s2 => c H2 (s.trans s2))
  | false => cases e2; exact iteF (c H' s)
theorem dw_or (ha : DT X a ft) (hb : DW X (.BoolOp .Or (b :: rest) pos) gt) : DW X (.BoolOp .Or (a :: b :: rest) pos) (orT ft gt) := by
  intro σ H O env d Q ok R e c
  obtain ⟨x, e1, e2⟩ := bind_some' e
  refine PWw (pw_or wT_pt wW_pw) (ha σ H O env x _ ok R e1 fun H' s => ?_)
  cases x with
  | false => exact iteF (hb σ H' O env d Q (ok.same s) (R.same s) e2 fun H2 s2 => c H2 (s.trans s2))
  | true => cases e2; exact iteT (c H' s)
theorem DW.dt (h : DW X a ft) : DT X a ft := fun σ H O env d Q ok R e c => PTw wW_pw.pt (h σ H O env d Q ok R e c)

/-! ### and, or, not as values -/
@[simp] def andV (f g : EvF) : EvF := fun env => (asB f env).bind fun x => if x = true then g env else some (.b false)
@[simp] def orV (f g : EvF) : EvF := fun env => (asB f env).bind fun x => if x = true then some (.b true) else g env
theorem de_one {op} (ha : DE X a f) : DE X (.BoolOp op [a] pos) f := fun σ H O env d Q ok R e c => PEw (pe_one wE_pe) (ha σ H O env d Q ok R e c)
theorem de_and (ha : DE X a f) (hb : DE X (.BoolOp .And (b :: rest) pos) g) : DE X (.BoolOp .And (a :: b :: rest) pos) (andV f g) := by
  intro σ H O env d Q ok R e c
  obtain ⟨x, e1, e2⟩ := bind_some' e
  refine PEw (pe_and wE_pe wE_pe) (ha σ H O env _ _ ok R (asB_some e1) fun v H' s r => ?_)
  cases r
  refine ⟨x, rfl, ?_⟩
  cases x with
  | true => exact iteT (hb σ H' O env d Q (ok.same s) (R.same s) e2 fun v H2 s2 r => c v H2 (s.trans s2) r)
  | false => cases e2; exact iteF (c _ H' s (.b _))
theorem de_or (ha : DE X a f) (hb : DE X (.BoolOp .Or (b :: rest) pos) g) : DE X (.BoolOp .Or (a :: b :: rest) pos) (orV f g) := by
  intro σ H O env d Q ok R e c
  obtain ⟨x, e1, e2⟩ := bind_some' e
  refine PEw (pe_or wE_pe wE_pe) (ha σ H O env _ _ ok R (asB_some e1) fun v H' s r => ?_)
  cases r
  refine ⟨x, rfl, ?_⟩
  cases x with
  | false => exact iteF (hb σ H' O env d Q (ok.same s) (R.same s) e2 fun v H2 s2 r => c v H2 (s.trans s2) r)
  | true => cases e2; exact iteT (c _ H' s (.b _))
theorem de_not (ha : DE X a f) : DE X (.UnaryOp .Not a pos) (fun env => (asB f env).map fun x => .b (!x)) := by
  intro σ H O env d Q ok R e c
  have e : (asB f env).map (fun x => D.b (!x)) = some d := e
  cases z : asB f env with
  | none => rw [z] at e; cases e
  | some x =>
    rw [z] at e; cases e
    refine PEw (pe_not wE_pe) (ha σ H O env _ _ ok R (asB_some z) fun v H' s r => ?_)
    cases r
    exact ⟨x, rfl, c _ H' s (.b _)⟩
theorem de_neg (ha : DE X a f) : DE X (.UnaryOp .USub a pos) (fun env => (f env).bind fun d => match d with
    | .i x => some (.i (-x))
    | _ => none) := by
  intro σ H O env d Q ok R e c
  obtain ⟨p, e1, e2⟩ := bind_some' e
  refine PEw (pe_un un_neg wE_pe) (ha σ H O env p _ ok R e1 fun v H' s r => ?_)
  cases r with
  | i x => cases e2; exact ⟨x, rfl, c _ H' s (.i _)⟩
  | _ => cases e2
@[simp] def iteV (t : List Cell → Option Bool) (f g : EvF) : EvF := fun env => (t env).bind fun x => if x = true then f env else g env
theorem de_ite (hc : DT X c ft) (ha : DE X a f) (hb : DE X b g) : DE X (.IfExp c a b pos) (iteV ft f g) := by
  intro σ H O env d Q ok R e k
  obtain ⟨x, e1, e2⟩ := bind_some' e
  refine PEw (pe_ifExp wT_pt wE_pe wE_pe) (hc σ H O env x _ ok R e1 fun H' s => ?_)
  cases x with
  | true => exact iteT (ha σ H' O env d Q (ok.same s) (R.same s) e2 fun v H2 s2 r => k v H2 (s.trans s2) r)
  | false => exact iteF (hb σ H' O env d Q (ok.same s) (R.same s) e2 fun v H2 s2 r => k v H2 (s.trans s2) r)

/-! ### chains of two int comparisons -/
@[simp] def chainV (p q : Int → Int → Bool) (f g h : EvF) : EvF := fun env => (f env).bind fun x => (g env).bind fun y => match x, y with
  | .i i, .i j => if p i j = true then (h env).bind fun z => (match z with
    | .i k => some (.b (q j k))
    | _ => none) else some (.b false)
  | _, _ => none
theorem chain_go {p q : Int → Int → Bool} (ha : DB X a f) (hb : DB X b g) (hc : DB X c h) {σ : L2.St} {H : Hp} {O : Addr → Prop} {env : List Cell} {d : D} {Q : VK} (ok : OkO H O) (R : RelC X.K H O σ env)
    (e : chainV p q f g h env = some d) (k : ∀ v H', Same H H' → Rep X.K H' O v d → Q v H') :
    tChain (rI0 fun i j => .bl (p i j)) (rI0 fun i j => .bl (q i j)) (wE X a) (wE X b) (wE X c) σ H Q := by
  obtain ⟨x, e1, e'⟩ := bind_some' e
  clear e
  obtain ⟨y, e2, e⟩ := bind_some' e'
  clear e'
  refine ha σ H O env x _ ok R e1 fun v H1 s1 r1 => hb σ H1 O env y _ (ok.same s1) (R.same s1) e2 fun w H2 s2 r2 => ?_
  cases x <;> cases y <;> first
    | (cases e; done)
    | skip
  rename_i i j
  obtain rfl := r1.int
  obtain rfl := r2.int
  refine ⟨i, j, rfl, rfl, p i j, rfl, ?_⟩
  have e : (if p i j = true then (h env).bind (fun z => match z with | .i k => some (D.b (q j k)) | _ => none) else some (D.b false)) = some d := e
  cases z : p i j with
  | false =>
    rw [z] at e
    cases e
    exact iteF (k _ _ (s1.trans s2) (.b _))
  | true =>
    rw [z] at e
    obtain ⟨zz, e3, e4⟩ := bind_some' e
    refine iteT (hc σ H2 O env zz _ ((ok.same s1).same s2) ((R.same s1).same s2) e3 fun u H3 s3 r3 => ?_)
    cases zz <;> first
      | (cases e4; done)
      | skip
    rename_i m
    cases e4
    obtain rfl := r3.int
    exact ⟨j, m, rfl, rfl, k _ _ ((s1.trans s2).trans s3) (.b _)⟩
theorem de_chain {op op' : CmpOp} {p q : Int → Int → Bool} (ho : OpR X (compareOp op) (rI0 fun i j => .bl (p i j))) (ho' : OpR X (compareOp op') (rI0 fun i j => .bl (q i j))) (ha : DB X a f) (hb : DB X b g) (hc : DB X c h)
    (hm : lastMarks [op, op'] [b, c] = false) : DE X (.Compare a [op, op'] [b, c] pos) (chainV p q f g h) :=
  fun σ H O env d Q ok R e k => PEw (pe_chain ho ho' wE_pe wE_pe wE_pe hm) (chain_go ha hb hc ok R e k)
theorem dt_chain {op op' : CmpOp} {p q : Int → Int → Bool} (ho : OpR X (compareOp op) (rI0 fun i j => .bl (p i j))) (ho' : OpR X (compareOp op') (rI0 fun i j => .bl (q i j))) (ha : DB X a f) (hb : DB X b g) (hc : DB X c h)
    (hm : lastMarks [op, op'] [b, c] = false) : DT X (.Compare a [op, op'] [b, c] pos) (asB (chainV p q f g h)) := by
  intro σ H O env d Q ok R e k
  refine PTw (pt_chain ho ho' wE_pe wE_pe wE_pe hm) (chain_go ha hb hc ok R (asB_some e) fun v H' s r => ?_)
  cases r
  exact ⟨d, rfl, k H' s⟩

/-! ### argument lists, displays -/
@[simp] def consL (f : EvF) (g : List Cell → Option (List D)) : List Cell → Option (List D) := fun env => (f env).bind fun x => (g env).bind fun xs => some (x :: xs)
theorem dl_nil : DL X [] (fun _ => some []) := fun σ H O env ds Q ok R e c => PAw pa_nil (by cases e; exact c _ _ (Same.refl _) .nil)
theorem dl_cons {es : List Expr} {g : List Cell → Option (List D)} (ha : DE X e f) (hr : DL X es g) (hs : starEach (e :: es) X.env = (false, eval e X.env) :: starEach es X.env) : DL X (e :: es) (consL f g) := by
  intro σ H O env ds Q ok R z c
  obtain ⟨x, e1, z⟩ := bind_some' z
  obtain ⟨xs, e2, z⟩ := bind_some' z
  cases z
  refine PAw (pa_cons wE_pe wA_pa hs) (ha σ H O env x _ ok R e1 fun v H1 s1 r1 => hr σ H1 O env xs _ (ok.same s1) (R.same s1) e2 fun vs H2 s2 r2 => c _ _ (s1.trans s2) (.cons (r1.same s2) r2))
inductive RepBs (K : PySem.W.Frag) (H : Hp) (O : Addr → Prop) : List V → List D → Prop
  | nil : RepBs K H O [] []
  | cons {v : V} {vs : List V} {d : D} {ds : List D} : RepB K H O v d → RepBs K H O vs ds → RepBs K H O (v :: vs) (d :: ds)
/-- the same, the arguments borrowed -/
def DM (X : Cx) (es : List Expr) (f : List Cell → Option (List D)) : Prop := ∀ (σ : L2.St) (H : Hp) (O : Addr → Prop) (env : List Cell) (ds : List D) (Q : List V → Hp → Prop), OkO H O → RelC X.K H O σ env → f env = some ds →
  (∀ vs H', Same H H' → RepBs X.K H' O vs ds → Q vs H') → wA X es σ H Q
theorem dm_nil : DM X [] (fun _ => some []) := fun σ H O env ds Q ok R e c => PAw pa_nil (by cases e; exact c _ _ (Same.refl _) .nil)
theorem dm_cons {es : List Expr} {g : List Cell → Option (List D)} (ha : DB X e f) (hr : DM X es g) (hs : starEach (e :: es) X.env = (false, eval e X.env) :: starEach es X.env) : DM X (e :: es) (consL f g) := by
  intro σ H O env ds Q ok R z c
  obtain ⟨x, e1, z⟩ := bind_some' z
  obtain ⟨xs, e2, z⟩ := bind_some' z
  cases z
  refine PAw (pa_cons wE_pe wA_pa hs) (ha σ H O env x _ ok R e1 fun v H1 s1 r1 => hr σ H1 O env xs _ (ok.same s1) (R.same s1) e2 fun vs H2 s2 r2 => c _ _ (s1.trans s2) (.cons (r1.same s2) r2))
theorem de_tup {es : List Expr} {k : Nat} {g : List Cell → Option (List D)} (h : DL X es g) : DE X (.Tuple es k pos) (fun env => (g env).bind fun xs => if xs.length ≤ SZ then some (.t xs) else none) := by
  intro σ H O env d Q ok R e c
  obtain ⟨xs, e1, e2⟩ := bind_some' e
  split at e2
  · rename_i hz
    cases e2
    refine PEw (pe_tup wA_pa) (h σ H O env xs _ ok R e1 fun vs H1 s1 r1 => ⟨by rw [r1.length, SZ_eq]; exact hz, fun p np => c _ _ (s1.trans (same_new np)) (Rep.newT (ok.same s1) np r1)⟩)
  · cases e2
/-- a fresh list: what DE says, and that the list is new -/
def DF (X : Cx) (e : Expr) (f : EvF) : Prop := ∀ (σ : L2.St) (H : Hp) (O : Addr → Prop) (env : List Cell) (d : D) (Q : VK), OkO H O → RelC X.K H O σ env → f env = some d →
  (∀ a xs ds H', Same H H' → H a = none → d = .l ds → H' a = some (.lst xs) → RepL X.K H' (fun b => O b ∨ b = a) xs ds → Q (.ref a) H') → wE X e σ H Q
theorem DF.de (h : DF X e f) : DE X e f := fun σ H O env d Q ok R z c => h σ H O env d Q ok R z fun a xs ds H' s na ed ha r => by
  subst ed
  exact c _ _ s (.l ha (fun q => ok a q na) (r.less fun b q => .inl q))
theorem newF {K : PySem.W.Frag} {H1 : Hp} {O : Addr → Prop} {p : Addr} {xs : List V} {ds : List D} (np : H1 p = none) (r : RepL K H1 O xs ds) : RepL K (upd H1 p (.lst xs)) (fun b => O b ∨ b = p) xs ds :=
  (r.mono (O' := fun b => O b ∨ b = p) fun a z => z.elim .inl fun e => .inr (by rw [e]; exact np)).same (same_new np)
end
end PL
/-! PL f: lists made, subscripts, slices, calls of built-ins, of the program's defs. -/
namespace PL
open PySem PySem.Spec PyProof.Rows L2

/-! ### what built-ins give -/
@[simp] def intsD : List D → Option (List Int)
  | [] => some []
  | .i x :: r => (intsD r).map (x :: ·)
  | _ :: _ => none
@[simp] def blsD : List D → Option (List Bool)
  | [] => some []
  | .b x :: r => (blsD r).map (x :: ·)
  | _ :: _ => none
theorem intsD_some : ∀ {ds : List D} {ns : List Int}, intsD ds = some ns → ds = ns.map D.i
  | [], ns, h => by cases h; rfl
  | .i x :: r, ns, h => by
    have h : (intsD r).map (x :: ·) = some ns := h
    cases z : intsD r with
    | none => rw [z] at h; cases h
    | some ms => rw [z] at h; cases h; rw [List.map_cons, intsD_some z]
  | .n :: _, _, h => by cases h
  | .b _ :: _, _, h => by cases h
  | .s _ :: _, _, h => by cases h
  | .t _ :: _, _, h => by cases h
  | .l _ :: _, _, h => by cases h
  | .r _ _ :: _, _, h => by cases h
  | .z _ :: _, _, h => by cases h
theorem blsD_some : ∀ {ds : List D} {ns : List Bool}, blsD ds = some ns → ds = ns.map D.b
  | [], ns, h => by cases h; rfl
  | .b x :: r, ns, h => by
    have h : (blsD r).map (x :: ·) = some ns := h
    cases z : blsD r with
    | none => rw [z] at h; cases h
    | some ms => rw [z] at h; cases h; rw [List.map_cons, blsD_some z]
  | .n :: _, _, h => by cases h
  | .i _ :: _, _, h => by cases h
  | .s _ :: _, _, h => by cases h
  | .t _ :: _, _, h => by cases h
  | .l _ :: _, _, h => by cases h
  | .r _ _ :: _, _, h => by cases h
  | .z _ :: _, _, h => by cases h
@[simp] def ixD : D → D → Option D
  | .l xs, .i k => atI xs k
  | .t xs, .i k => atI xs k
  | .z xs, .i k => atI xs k
  | _, _ => none
@[simp] def lenD : List D → Option D
  | [.l xs] => some (.i xs.length)
  | [.t xs] => some (.i xs.length)
  | [.z xs] => some (.i xs.length)
  | _ => none
@[simp] def intD : List D → Option D
  | [.i x] => some (.i x)
  | [.b x] => some (.i (if x then 1 else 0))
  | _ => none
@[simp] def absD : List D → Option D
  | [.i x] => some (.i (if x < 0 then -x else x))
  | _ => none
/-- the least, the greatest of ints -/
def minL : Int → List Int → Int
  | m, [] => m
  | m, x :: r => minL (if x < m then x else m) r
def maxL : Int → List Int → Int
  | m, [] => m
  | m, x :: r => maxL (if m < x then x else m) r
@[simp] def maxD : List D → Option D
  | [.i x, .i y] => some (.i (if y > x then y else x))
  | [.l xs] => (intsD xs).bind fun ns => match ns with
    | [] => none
    | m :: r => some (.i (maxL m r))
  | _ => none
@[simp] def minD : List D → Option D
  | [.i x, .i y] => some (.i (if y < x then y else x))
  | [.l xs] => (intsD xs).bind fun ns => match ns with
    | [] => none
    | m :: r => some (.i (minL m r))
  | _ => none
@[simp] def sumD : List D → Option D
  | [.l xs] => (intsD xs).map fun ns => .i ns.sum
  | _ => none
@[simp] def anyD : List D → Option D
  | [.l xs] => (blsD xs).map fun bs => .b (bs.any id)
  | _ => none
@[simp] def allD : List D → Option D
  | [.l xs] => (blsD xs).map fun bs => .b (bs.all id)
  | _ => none
@[simp] def tupleD : List D → Option D
  | [.l xs] => some (.t xs)
  | [.t xs] => some (.t xs)
  | _ => none
@[simp] def listD : List D → Option D
  | [.l xs] => some (.l xs)
  | [.t xs] => some (.l xs)
  | _ => none
theorem minL_le : ∀ (r : List Int) (m : Int), minL m r ≤ m ∧ (∀ y ∈ r, minL m r ≤ y) ∧ (minL m r = m ∨ minL m r ∈ r)
  | [], m => ⟨Int.le_refl _, fun _ h => (nomatch h), .inl rfl⟩
  | x :: r, m => by
    obtain ⟨h1, h2, h3⟩ := minL_le r (if x < m then x else m)
    unfold minL
    by_cases h : x < m
    · rw [if_pos h] at h1 h2 h3 ⊢
      refine ⟨by omega, fun y hy => ?_, ?_⟩
      · rcases List.mem_cons.mp hy with e | e
        · omega
        · exact h2 y e
      · rcases h3 with e | e
        · exact .inr (by rw [e]; exact List.mem_cons_self)
        · exact .inr (List.mem_cons_of_mem _ e)
    · rw [if_neg h] at h1 h2 h3 ⊢
      refine ⟨h1, fun y hy => ?_, ?_⟩
      · rcases List.mem_cons.mp hy with e | e
        · omega
        · exact h2 y e
      · rcases h3 with e | e
        · exact .inl e
        · exact .inr (List.mem_cons_of_mem _ e)
theorem maxL_ge : ∀ (r : List Int) (m : Int), m ≤ maxL m r ∧ (∀ y ∈ r, y ≤ maxL m r) ∧ (maxL m r = m ∨ maxL m r ∈ r)
  | [], m => ⟨Int.le_refl _, fun _ h => (nomatch h), .inl rfl⟩
  | x :: r, m => by
    obtain ⟨h1, h2, h3⟩ := maxL_ge r (if m < x then x else m)
    unfold maxL
    by_cases h : m < x
    · rw [if_pos h] at h1 h2 h3 ⊢
      refine ⟨by omega, fun y hy => ?_, ?_⟩
      · rcases List.mem_cons.mp hy with e | e
        · omega
        · exact h2 y e
      · rcases h3 with e | e
        · exact .inr (by rw [e]; exact List.mem_cons_self)
        · exact .inr (List.mem_cons_of_mem _ e)
    · rw [if_neg h] at h1 h2 h3 ⊢
      refine ⟨h1, fun y hy => ?_, ?_⟩
      · rcases List.mem_cons.mp hy with e | e
        · omega
        · exact h2 y e
      · rcases h3 with e | e
        · exact .inl e
        · exact .inr (List.mem_cons_of_mem _ e)

section
variable {X : Cx} {e a b c : Expr} {f g h : EvF} {pos : Pos} {es : List Expr} {fs : List Cell → Option (List D)}

/-! ### [..] -/
theorem df_lst (h : DL X es fs) : DF X (.List es pos) (fun env => (fs env).bind fun xs => if xs.length ≤ SZ then some (.l xs) else none) := by
  intro σ H O env d Q ok R e c
  obtain ⟨xs, e1, e2⟩ := bind_some' e
  split at e2
  · rename_i hz
    cases e2
    refine PEw (pe_lst wA_pa) (h σ H O env xs _ ok R e1 fun vs H1 s1 r1 => ⟨by rw [r1.length, SZ_eq]; exact hz, fun p np => c p vs xs _ (s1.trans (same_new np)) (s1.free np) rfl upd_same (newF np r1)⟩)
  · cases e2

/-! ### a[i] -/
theorem atI_rep {K : PySem.W.Frag} {H : Hp} {O : Addr → Prop} {vs : List V} {ds : List D} {k : Int} {d : D} (r : RepL K H O vs ds) (e : atI ds k = some d) : ∃ v, atI vs k = some v ∧ Rep K H O v d := by
  unfold atI at e ⊢
  rw [r.length]
  cases z : ixN ds.length k with
  | none => rw [z] at e; cases e
  | some j =>
    rw [z] at e
    exact r.get e
theorem de_ix (ha : DB X a f) (hb : DB X b g) (hs : PlainIx b) : DE X (.Subscript a b pos) (bind2 ixD f g) := by
  intro σ H O env d Q ok R e c
  obtain ⟨p, q, e1, e2, e3⟩ := bind2_some e
  refine PEw (pe_ix ix_seq wE_pe wE_pe hs) (ha σ H O env p _ ok R e1 fun v H1 s1 r1 => hb σ H1 O env q _ (ok.same s1) (R.same s1) e2 fun w H2 s2 r2 => ?_)
  cases p <;> cases q <;> first
    | (cases e3; done)
    | skip
  · obtain rfl := r2.int
    obtain ⟨l, xs, rfl, h1, h2⟩ := (r1.same s2).tup
    obtain ⟨v, h3, h4⟩ := atI_rep h2 e3
    exact .inr (.inl ⟨l, xs, _, v, rfl, rfl, h1, h3, c v _ (s1.trans s2) h4⟩)
  · obtain rfl := r2.int
    obtain ⟨l, xs, rfl, h1, h2⟩ := (r1.same s2).lst
    obtain ⟨v, h3, h4⟩ := atI_rep h2 e3
    exact .inl ⟨l, xs, _, v, rfl, rfl, SqL.of h1, h3, c v _ (s1.trans s2) h4⟩
  · obtain rfl := r2.int
    obtain ⟨l, xs, rfl, h1, h2⟩ := (r1.same s2).frz
    obtain ⟨v, h3, h4⟩ := atI_rep h2 e3
    exact .inl ⟨l, xs, _, v, rfl, rfl, h1, h3, c v _ (s1.trans s2) h4⟩

/-! ### a[lo:hi] -/
def cutD (xs : List D) (lo hi : Option Int) : List D := (xs.drop (HT.sIx xs.length 0 lo)).take (HT.sIx xs.length xs.length hi - HT.sIx xs.length 0 lo)
/-- a slice's part -/
def DP' (X : Cx) (e : Option Expr) (f : List Cell → Option (Option Int)) : Prop := ∀ (σ : L2.St) (H : Hp) (O : Addr → Prop) (env : List Cell) (d : Option Int) (Q : Option Int → Hp → Prop), OkO H O → RelC X.K H O σ env → f env = some d →
  (∀ H', Same H H' → Q d H') → ∀ pins s, Inv X pins σ H s → wpAny (model X.prog X.w) X.A (evalPart e X.env) (fun u s' => ∃ o H', Inv X pins σ H' s' ∧ IsPart u o ∧ Q o H') X.xe s
def wO (X : Cx) (e : Option Expr) : TO := fun σ H Q => ∀ pins s, Inv X pins σ H s → wpAny (model X.prog X.w) X.A (evalPart e X.env) (fun u s' => ∃ o H', Inv X pins σ H' s' ∧ IsPart u o ∧ Q o H') X.xe s
theorem wO_po {e : Option Expr} : PO X e (wO X e) := ⟨fun pins s σ H Q I h => h pins s I⟩
theorem dp_none : DP' X none (fun _ => some none) := fun σ H O env d Q ok R e c pins s I => po_none.run pins s σ H Q I (by cases e; exact c _ (Same.refl _))
@[simp] def partV (f : EvF) : List Cell → Option (Option Int) := fun env => (f env).bind fun d => match d with
  | .i x => some (some x)
  | _ => none
theorem dp_some (ha : DE X a f) : DP' X (some a) (partV f) := by
  intro σ H O env d Q ok R e c pins s I
  obtain ⟨p, e1, e2⟩ := bind_some' e
  cases p <;> first
    | (cases e2; done)
    | skip
  rename_i k
  cases e2
  refine (po_some wE_pe).run pins s σ H Q I (ha σ H O env _ _ ok R e1 fun v H1 s1 r1 => ?_)
  cases r1
  exact ⟨k, rfl, c _ s1⟩
@[simp] def sliceV (f : EvF) (l u : List Cell → Option (Option Int)) : EvF := fun env => (f env).bind fun x => (l env).bind fun lo => (u env).bind fun hi => match x with
  | .l xs => some (.l (cutD xs lo hi))
  | .t xs => some (.t (cutD xs lo hi))
  | _ => none
theorem cut_whole {xs : List D} {lo hi : Option Int} (h : HT.sIx xs.length 0 lo = 0 ∧ HT.sIx xs.length xs.length hi = xs.length) : cutD xs lo hi = xs := by
  unfold cutD
  rw [h.1, h.2]
  simp
theorem de_slice {lo hi : Option Expr} {l u : List Cell → Option (Option Int)} {p2 : Pos} (ha : DB X a f) (hl : DP' X lo l) (hu : DP' X hi u) : DE X (.Subscript a (.Slice lo hi none p2) pos) (sliceV f l u) := by
  intro σ H O env d Q ok R e c
  obtain ⟨x, e1, e'⟩ := bind_some' e
  clear e
  obtain ⟨lo', e2, e⟩ := bind_some' e'
  clear e'
  obtain ⟨hi', e3, e'⟩ := bind_some' e
  clear e
  refine PEw (pe_slice (sl_list.or sl_tupA) wE_pe wO_po wO_po) (ha σ H O env x _ ok R e1 fun v H1 s1 r1 => ?_)
  refine hl σ H1 O env lo' _ (ok.same s1) (R.same s1) e2 fun H2 s2 => hu σ H2 O env hi' _ ((ok.same s1).same s2) ((R.same s1).same s2) e3 fun H3 s3 => ?_
  have r := (r1.same s2).same s3
  have ss := (s1.trans s2).trans s3
  have ok3 := ok.same ss
  cases x <;> first
    | (cases e'; done)
    | skip
  · cases e'
    obtain ⟨q, vs, rfl, h1, h2⟩ := r.tup
    refine .inr ⟨q, vs, rfl, h1, fun hw => ?_, fun _ p np => ?_⟩
    · rw [h2.length] at hw
      rw [cut_whole hw] at c
      rcases r with r | ⟨_, _, _, _, z, _⟩
      · exact c _ _ ss r
      · cases z
    · refine c _ _ (ss.trans (same_new np)) (Rep.newT ok3 np ?_)
      unfold cutV cutD
      rw [h2.length]
      exact (h2.drop _).take _
  · cases e'
    obtain ⟨q, vs, rfl, h1, h2⟩ := r.lst
    refine .inl ⟨q, vs, rfl, SqL.of h1, fun p np => ?_⟩
    refine c _ _ (ss.trans (same_new np)) (Rep.newL ok3 np ?_)
    unfold cutV cutD
    rw [h2.length]
    exact (h2.drop _).take _

/-! ### calls of built-ins -/
/-- a call of a built-in, on data -/
def CallF (X : Cx) (fv : Value) (F : List D → Option D) : Prop := ∀ (pins : List (Addr × Obj)) (s : Shared) (σ : L2.St) (H : Hp) (O : Addr → Prop) (xs : List V) (us : List Value) (ds : List D) (d : D) (Q : VK), Inv X pins σ H s → OkO H O → Vals xs us → RepBs X.K H O xs ds →
  F ds = some d → (∀ v H', Same H H' → Rep X.K H' O v d → Q v H') → wpAny (model X.prog X.w) X.A (call fv us) (EP X pins σ Q) X.xe s
def rCan (X : Cx) (fv : Value) : List V → Hp → VK → Prop := fun xs H Q => ∀ (pins : List (Addr × Obj)) (s : Shared) (σ : L2.St) (us : List Value), Inv X pins σ H s → Vals xs us → wpAny (model X.prog X.w) X.A (call fv us) (EP X pins σ Q) X.xe s
theorem can_ok {fv : Value} : CallR X fv (rCan X fv) := fun pins s σ H xs us Q I r h => h pins s σ us I r
@[simp] def callV (F : List D → Option D) (fs : List Cell → Option (List D)) : EvF := fun env => (fs env).bind F
theorem de_callB {x : Str} {p : Pos} {id : String} {F : List D → Option D} (hc : CallF X (.builtin id) F) (hg : Gl X x) (hm : X.mg x = none) (hv : bootBuiltins x = some (.builtin id)) (ha : DM X (e :: es) fs) (hn : x ≠ "__name__") (hdb : (x == ("__debug__" : Str)) = false)
    (he : starEach (e :: es) X.env = (false, eval e X.env) :: starEach es X.env) (hpl : (backTo pos (starEach es X.env)).any (·.1) = false) : DE X (.Call (.Name x p) (e :: es) [] pos) (callV F fs) := by
  intro σ H O env d Q ok R z c
  obtain ⟨ds, e1, e2⟩ := bind_some' z
  exact PEw (pe_callB can_ok hg hm hv wA_pa hn hdb he hpl) (ha σ H O env ds _ ok R e1 fun vs H1 s1 r1 => fun pins s σ us I r => hc pins s σ H1 O vs us ds d Q I (ok.same s1) r r1 e2 fun v H' k q => c v H' (s1.trans k) q)
theorem de_callTy {x : Str} {p : Pos} {T : String} {F : List D → Option D} (hc : CallF X (.type T) F) (hg : Gl X x) (hm : X.mg x = none) (hv : bootBuiltins x = some (.type T)) (ha : DM X (e :: es) fs) (hn : x ≠ "__name__") (hdb : (x == ("__debug__" : Str)) = false)
    (he : starEach (e :: es) X.env = (false, eval e X.env) :: starEach es X.env) (hpl : (backTo pos (starEach es X.env)).any (·.1) = false) : DE X (.Call (.Name x p) (e :: es) [] pos) (callV F fs) := by
  intro σ H O env d Q ok R z c
  obtain ⟨ds, e1, e2⟩ := bind_some' z
  exact PEw (pe_callTy can_ok hg hm hv wA_pa hn hdb he hpl) (ha σ H O env ds _ ok R e1 fun vs H1 s1 r1 => fun pins s σ us I r => hc pins s σ H1 O vs us ds d Q I (ok.same s1) r r1 e2 fun v H' k q => c v H' (s1.trans k) q)
/-- from a rule of the layer -/
theorem CallF.of {fv : Value} {r : List V → Hp → VK → Prop} {F : List D → Option D} (hc : CallR X fv r) (hd : ∀ (H : Hp) (O : Addr → Prop) (xs : List V) (ds : List D) (d : D) (Q : VK), OkO H O → RepBs X.K H O xs ds → F ds = some d → (∀ v H', Same H H' → Rep X.K H' O v d → Q v H') → r xs H Q) : CallF X fv F :=
  fun pins s σ H O xs us ds d Q I ok rv rb e c => hc pins s σ H xs us Q I rv (hd H O xs ds d Q ok rb e c)
theorem repB1 {K : PySem.W.Frag} {H : Hp} {O : Addr → Prop} {xs : List V} {d : D} (h : RepBs K H O xs [d]) : ∃ v, xs = [v] ∧ RepB K H O v d := by
  cases h with
  | cons a r => cases r; exact ⟨_, rfl, a⟩
theorem repB2 {K : PySem.W.Frag} {H : Hp} {O : Addr → Prop} {xs : List V} {d d' : D} (h : RepBs K H O xs [d, d']) : ∃ v w, xs = [v, w] ∧ RepB K H O v d ∧ RepB K H O w d' := by
  cases h with
  | cons a r =>
    obtain ⟨w, e, q⟩ := repB1 r
    subst e
    exact ⟨_, w, rfl, a, q⟩
theorem cf_len : CallF X (.builtin "len") lenD := .of call_len_seq fun H O xs ds d Q ok rb e c => by
  unfold lenD at e
  split at e <;> first
    | (cases e; done)
    | skip
  all_goals
    obtain ⟨v, rfl, r⟩ := repB1 rb
    cases e
  · obtain ⟨a, vs, rfl, h1, h2⟩ := r.lst
    exact ⟨a, vs, rfl, .inl (SqL.of h1), by rw [h2.length]; exact c _ _ (Same.refl _) (.i _)⟩
  · obtain ⟨a, vs, rfl, h1, h2⟩ := r.tup
    exact ⟨a, vs, rfl, .inr h1, by rw [h2.length]; exact c _ _ (Same.refl _) (.i _)⟩
  · obtain ⟨a, vs, rfl, h1, h2⟩ := r.frz
    exact ⟨a, vs, rfl, .inl h1, by rw [h2.length]; exact c _ _ (Same.refl _) (.i _)⟩
theorem cf_int : CallF X (.type "int") intD := .of call_int1 fun H O xs ds d Q ok rb e c => by
  unfold intD at e
  split at e <;> first
    | (cases e; done)
    | skip
  all_goals
    obtain ⟨v, rfl, r⟩ := repB1 rb
    cases e
  · obtain rfl := r.int
    exact .inl ⟨_, rfl, c _ _ (Same.refl _) (.i _)⟩
  · obtain rfl := r.bl
    exact .inr ⟨_, rfl, c _ _ (Same.refl _) (.i _)⟩
theorem cf_abs : CallF X (.builtin "abs") absD := .of call_abs fun H O xs ds d Q ok rb e c => by
  unfold absD at e
  split at e <;> first
    | (cases e; done)
    | skip
  obtain ⟨v, rfl, r⟩ := repB1 rb
  cases e
  obtain rfl := r.int
  exact ⟨_, rfl, c _ _ (Same.refl _) (.i _)⟩
theorem lst_ints {K : PySem.W.Frag} {H : Hp} {O : Addr → Prop} {v : V} {xs : List D} {ns : List Int} (r : RepB K H O v (.l xs)) (e : intsD xs = some ns) : ∃ a, v = .ref a ∧ SqL K H a (ns.map V.int) := by
  obtain ⟨a, vs, rfl, h1, h2⟩ := r.lst
  have e2 := intsD_some e
  subst e2
  rw [h2.ints] at h1
  exact ⟨a, rfl, SqL.of h1⟩
theorem lst_bls {K : PySem.W.Frag} {H : Hp} {O : Addr → Prop} {v : V} {xs : List D} {ns : List Bool} (r : RepB K H O v (.l xs)) (e : blsD xs = some ns) : ∃ a, v = .ref a ∧ SqL K H a (ns.map V.bl) := by
  obtain ⟨a, vs, rfl, h1, h2⟩ := r.lst
  have e2 := blsD_some e
  subst e2
  rw [h2.bls] at h1
  exact ⟨a, rfl, SqL.of h1⟩
theorem cf_max (hc : X.calm = true) : CallF X (.builtin "max") maxD := .of ((call_max2 hc).or (cr_max hc)) fun H O xs ds d Q ok rb e c => by
  unfold maxD at e
  split at e <;> first
    | (cases e; done)
    | skip
  · obtain ⟨v, w, rfl, r1, r2⟩ := repB2 rb
    cases e
    obtain rfl := r1.int
    obtain rfl := r2.int
    exact .inl ⟨_, _, rfl, c _ _ (Same.refl _) (.i _)⟩
  · obtain ⟨v, rfl, r⟩ := repB1 rb
    obtain ⟨ns, e1, e2⟩ := bind_some' e
    obtain ⟨a, rfl, h⟩ := lst_ints r e1
    cases ns with
    | nil => cases e2
    | cons m t =>
      cases e2
      obtain ⟨g1, g2, g3⟩ := maxL_ge t m
      refine .inr ⟨a, m :: t, rfl, h, by simp, fun z hz hmax => ?_⟩
      have e : z = maxL m t := by
        have b1 : z ≤ maxL m t := by
          rcases List.mem_cons.mp hz with q | q
          · omega
          · exact g2 z q
        have b2 : maxL m t ≤ z := hmax _ (by
          rcases g3 with q | q
          · rw [q]; exact List.mem_cons_self
          · exact List.mem_cons_of_mem _ q)
        omega
      rw [e]
      exact c _ _ (Same.refl _) (.i _)
theorem cf_min (hc : X.calm = true) : CallF X (.builtin "min") minD := .of ((call_min2 hc).or (cr_min hc)) fun H O xs ds d Q ok rb e c => by
  unfold minD at e
  split at e <;> first
    | (cases e; done)
    | skip
  · obtain ⟨v, w, rfl, r1, r2⟩ := repB2 rb
    cases e
    obtain rfl := r1.int
    obtain rfl := r2.int
    exact .inl ⟨_, _, rfl, c _ _ (Same.refl _) (.i _)⟩
  · obtain ⟨v, rfl, r⟩ := repB1 rb
    obtain ⟨ns, e1, e2⟩ := bind_some' e
    obtain ⟨a, rfl, h⟩ := lst_ints r e1
    cases ns with
    | nil => cases e2
    | cons m t =>
      cases e2
      obtain ⟨g1, g2, g3⟩ := minL_le t m
      refine .inr ⟨a, m :: t, rfl, h, by simp, fun z hz hmin => ?_⟩
      have e : z = minL m t := by
        have b1 : minL m t ≤ z := by
          rcases List.mem_cons.mp hz with q | q
          · omega
          · exact g2 z q
        have b2 : z ≤ minL m t := hmin _ (by
          rcases g3 with q | q
          · rw [q]; exact List.mem_cons_self
          · exact List.mem_cons_of_mem _ q)
        omega
      rw [e]
      exact c _ _ (Same.refl _) (.i _)
theorem map_some' {α β : Type} {x : Option α} {f : α → β} {b : β} (h : x.map f = some b) : ∃ a, x = some a ∧ f a = b := by
  cases x with
  | none => cases h
  | some a => cases h; exact ⟨a, rfl, rfl⟩
theorem cf_sum (hc : X.calm = true) : CallF X (.builtin "sum") sumD := .of (cr_sum hc) fun H O xs ds d Q ok rb e c => by
  unfold sumD at e
  split at e <;> first
    | (cases e; done)
    | skip
  obtain ⟨v, rfl, r⟩ := repB1 rb
  obtain ⟨ns, e1, e2⟩ := map_some' e
  obtain ⟨a, rfl, h⟩ := lst_ints r e1
  subst e2
  exact ⟨a, ns, rfl, h, c _ _ (Same.refl _) (.i _)⟩
theorem cf_any (hc : X.calm = true) : CallF X (.builtin "any") anyD := .of (cr_any hc) fun H O xs ds d Q ok rb e c => by
  unfold anyD at e
  split at e <;> first
    | (cases e; done)
    | skip
  obtain ⟨v, rfl, r⟩ := repB1 rb
  obtain ⟨ns, e1, e2⟩ := map_some' e
  obtain ⟨a, rfl, h⟩ := lst_bls r e1
  subst e2
  exact ⟨a, ns, rfl, h, c _ _ (Same.refl _) (.b _)⟩
theorem cf_all (hc : X.calm = true) : CallF X (.builtin "all") allD := .of (cr_all hc) fun H O xs ds d Q ok rb e c => by
  unfold allD at e
  split at e <;> first
    | (cases e; done)
    | skip
  obtain ⟨v, rfl, r⟩ := repB1 rb
  obtain ⟨ns, e1, e2⟩ := map_some' e
  obtain ⟨a, rfl, h⟩ := lst_bls r e1
  subst e2
  exact ⟨a, ns, rfl, h, c _ _ (Same.refl _) (.b _)⟩
theorem cf_tuple : CallF X (.type "tuple") tupleD := .of call_tuple_of fun H O xs ds d Q ok rb e c => by
  unfold tupleD at e
  split at e <;> first
    | (cases e; done)
    | skip
  all_goals
    obtain ⟨v, rfl, r⟩ := repB1 rb
    cases e
  · obtain ⟨a, vs, rfl, h1, h2⟩ := r.lst
    exact ⟨a, vs, rfl, .inl ⟨SqL.of h1, fun p np => c _ _ (same_new np) (Rep.newT ok np h2)⟩⟩
  · obtain ⟨a, vs, rfl, h1, h2⟩ := r.tup
    refine ⟨a, vs, rfl, .inr ⟨h1, ?_⟩⟩
    rcases r with r | ⟨_, _, _, _, z, _⟩
    · exact c _ _ (Same.refl _) r
    · cases z

/-! ### list(x), fresh -/
def CallN (X : Cx) (fv : Value) (F : List D → Option D) : Prop := ∀ (pins : List (Addr × Obj)) (s : Shared) (σ : L2.St) (H : Hp) (O : Addr → Prop) (xs : List V) (us : List Value) (ds : List D) (d : D) (Q : VK), Inv X pins σ H s → OkO H O → Vals xs us → RepBs X.K H O xs ds →
  F ds = some d → (∀ a vs es H', Same H H' → H a = none → d = .l es → H' a = some (.lst vs) → RepL X.K H' (fun b => O b ∨ b = a) vs es → Q (.ref a) H') → wpAny (model X.prog X.w) X.A (call fv us) (EP X pins σ Q) X.xe s
theorem df_callTy {x : Str} {p : Pos} {T : String} {F : List D → Option D} (hc : CallN X (.type T) F) (hg : Gl X x) (hm : X.mg x = none) (hv : bootBuiltins x = some (.type T)) (ha : DM X (e :: es) fs) (hn : x ≠ "__name__") (hdb : (x == ("__debug__" : Str)) = false)
    (he : starEach (e :: es) X.env = (false, eval e X.env) :: starEach es X.env) (hpl : (backTo pos (starEach es X.env)).any (·.1) = false) : DF X (.Call (.Name x p) (e :: es) [] pos) (callV F fs) := by
  intro σ H O env d Q ok R z c
  obtain ⟨ds, e1, e2⟩ := bind_some' z
  exact PEw (pe_callTy can_ok hg hm hv wA_pa hn hdb he hpl) (ha σ H O env ds _ ok R e1 fun vs H1 s1 r1 => fun pins s σ us I r => hc pins s σ H1 O vs us ds d Q I (ok.same s1) r r1 e2 fun a xs es H' k na ed ha q => c a xs es H' (s1.trans k) (s1.free na) ed ha q)
theorem df_callB {x : Str} {p : Pos} {id : String} {F : List D → Option D} (hc : CallN X (.builtin id) F) (hg : Gl X x) (hm : X.mg x = none) (hv : bootBuiltins x = some (.builtin id)) (ha : DM X (e :: es) fs) (hn : x ≠ "__name__") (hdb : (x == ("__debug__" : Str)) = false)
    (he : starEach (e :: es) X.env = (false, eval e X.env) :: starEach es X.env) (hpl : (backTo pos (starEach es X.env)).any (·.1) = false) : DF X (.Call (.Name x p) (e :: es) [] pos) (callV F fs) := by
  intro σ H O env d Q ok R z c
  obtain ⟨ds, e1, e2⟩ := bind_some' z
  exact PEw (pe_callB can_ok hg hm hv wA_pa hn hdb he hpl) (ha σ H O env ds _ ok R e1 fun vs H1 s1 r1 => fun pins s σ us I r => hc pins s σ H1 O vs us ds d Q I (ok.same s1) r r1 e2 fun a xs es H' k na ed ha q => c a xs es H' (s1.trans k) (s1.free na) ed ha q)
theorem cn_list : CallN X (.type "list") listD := by
  intro pins s σ H O xs us ds d Q I ok rv rb e c
  unfold listD at e
  split at e <;> first
    | (cases e; done)
    | skip
  all_goals
    obtain ⟨v, rfl, r⟩ := repB1 rb
    cases e
  · obtain ⟨a, vs, rfl, h1, h2⟩ := r.lst
    exact call_list_of pins s σ H _ us Q I rv ⟨a, vs, rfl, .inl (SqL.of h1), fun p np => c p vs _ _ (same_new np) np rfl upd_same (newF np h2)⟩
  · obtain ⟨a, vs, rfl, h1, h2⟩ := r.tup
    exact call_list_of pins s σ H _ us Q I rv ⟨a, vs, rfl, .inr h1, fun p np => c p vs _ _ (same_new np) np rfl upd_same (newF np h2)⟩

/-! ### a call of a def -/
/-- what a def promises: on data, whatever F gives -/
def spD (K : PySem.W.Frag) (n : Nat) (F : List D → Option D) : Sp := fun vs H Q _ => vs.length = n ∧ ∃ (ds : List D) (d : D) (O : Addr → Prop), OkO H O ∧ RepL K H O vs ds ∧ F ds = some d ∧ ∀ v H', Same H H' → Rep K H' O v d → Q v H'
theorem de_call {x : Str} {p : Pos} {k : Nat} {fa : Addr} {fd : FuncData} {ps : List Str} {F : List D → Option D} {n : Nat} (G : FnOk X.prog X.w X.K X.mg X.base CX0 k fa fd ps (spD X.K n F)) (hr : Room k X.A) (hg : Gl X x) (hm : X.mg x = some (.ref fa)) (hk : PySem.W.keepIn X.K (.ref fa) = true)
    (hb : Binds X.K fd ps []) (ha : DL X (e :: es) fs) (hn : (e :: es).length = n) (hdb : (x == ("__debug__" : Str)) = false) (hl : ∀ env ds, fs env = some ds → ds.length = n)
    (he : starEach (e :: es) X.env = (false, eval e X.env) :: starEach es X.env) (hpl : (backTo pos (starEach es X.env)).any (·.1) = false) : DE X (.Call (.Name x p) (e :: es) [] pos) (callV F fs) := by
  intro σ H O env d Q ok R z c
  obtain ⟨ds, e1, e2⟩ := bind_some' z
  refine PEw (pe_call G hr hg hm hk hb .nil pass0 wA_pa hdb he hpl) (ha σ H O env ds _ ok R e1 fun vs H1 s1 r1 => ?_)
  show spD X.K n F (vs ++ []) H1 Q E0
  rw [List.append_nil]
  exact ⟨by rw [r1.length]; exact hl env ds e1, ds, d, O, ok.same s1, r1, e2, fun v H' k q => c v H' (s1.trans k) q⟩
end
end PL
/-! PL g: isinstance; targets; what is walked; comprehensions. -/
namespace PL
open PySem PySem.Spec PyProof.Rows L2

/-! ### isinstance -/
inductive Ty5 where
  | int | str | bool | tuple | list
def Ty5.name : Ty5 → String
  | .int => "int" | .str => "str" | .bool => "bool" | .tuple => "tuple" | .list => "list"
@[simp] def kindD : D → Option String
  | .n => some "NoneType"
  | .b _ => some "bool"
  | .i _ => some "int"
  | .s _ => some "str"
  | .t _ => some "tuple"
  | .l _ => some "list"
  | _ => none
@[simp] def isTy : D → Ty5 → Option Bool
  | .n, _ => some false
  | .b _, .int => some true
  | .b _, .bool => some true
  | .b _, _ => some false
  | .i _, .int => some true
  | .i _, _ => some false
  | .s _, .str => some true
  | .s _, _ => some false
  | .t _, .tuple => some true
  | .t _, _ => some false
  | .l _, .list => some true
  | .l _, _ => some false
  | _, _ => none
@[simp] def isTys (d : D) : List Ty5 → Option Bool
  | [] => (kindD d).map fun _ => false
  | t :: r => (isTy d t).bind fun x => (isTys d r).map fun y => x || y
theorem kit_tab : ∀ t : Ty5, kitB "NoneType" t.name = some false ∧ kitB "bool" t.name = some (match t with | .int => true | .bool => true | _ => false) ∧ kitB "int" t.name = some (match t with | .int => true | _ => false) ∧
    kitB "str" t.name = some (match t with | .str => true | _ => false) ∧ kitB "tuple" t.name = some (match t with | .tuple => true | _ => false) ∧ kitB "list" t.name = some (match t with | .list => true | _ => false)
  | .int => by decide +kernel
  | .str => by decide +kernel
  | .bool => by decide +kernel
  | .tuple => by decide +kernel
  | .list => by decide +kernel
theorem isTy_kit {d : D} {t : Ty5} {b : Bool} (h : isTy d t = some b) : ∃ k, kindD d = some k ∧ kitB k t.name = some b := by
  obtain ⟨h1, h2, h3, h4, h5, h6⟩ := kit_tab t
  cases d <;> cases t <;> first
    | (cases h; done)
    | (cases h; exact ⟨_, rfl, h1⟩)
    | (cases h; exact ⟨_, rfl, h2⟩)
    | (cases h; exact ⟨_, rfl, h3⟩)
    | (cases h; exact ⟨_, rfl, h4⟩)
    | (cases h; exact ⟨_, rfl, h5⟩)
    | (cases h; exact ⟨_, rfl, h6⟩)
theorem isTys_kit {K : PySem.W.Frag} {d : D} {k : String} (hk : kindD d = some k) : ∀ {ts : List Ty5} {b : Bool}, isTys d ts = some b → PySem.W.kitAny K (.type k) (ts.map fun t => Value.type t.name) = some b
  | [], b, h => by
    unfold isTys at h
    rw [hk] at h
    cases h
    exact kitAny_nil
  | t :: r, b, h => by
    unfold isTys at h
    obtain ⟨x, h1, h2⟩ := bind_some' h
    obtain ⟨y, h3, h4⟩ := map_some' h2
    subst h4
    obtain ⟨k', e1, e2⟩ := isTy_kit h1
    rw [hk] at e1
    cases e1
    have ih := isTys_kit (K := K) hk h3
    cases x with
    | true => exact kitAny_cons (b := true) (kit_ty e2) (fun z => nomatch z) (fun _ => by simp)
    | false => exact kitAny_cons (b := false) (kit_ty e2) (fun _ => by simpa using ih) (fun z => nomatch z)
theorem RepB.ty {K : PySem.W.Frag} {H : Hp} {O : Addr → Prop} {v : V} {d : D} {k : String} (h : RepB K H O v d) (e : kindD d = some k) : TyX K H v (.type k) := by
  cases d with
  | n => obtain rfl := h.non; cases e; exact .base .non
  | b x => obtain rfl := h.bl; cases e; exact .base (.bl _)
  | i x => obtain rfl := h.int; cases e; exact .base (.int _)
  | s x => obtain rfl := h.str; cases e; exact .base (.str _)
  | t xs =>
    obtain ⟨a, vs, rfl, ha, r⟩ := h.tup
    cases e
    rcases ha with (ha | ⟨o, ha⟩) | ⟨o, its, n, e1, e2, _⟩
    · exact .base (.tup ha)
    · exact .fTuple ha
    · exact .kTuple e1 e2
  | l xs =>
    obtain ⟨a, vs, rfl, ha, r⟩ := h.lst
    cases e
    exact .base (.lst ha)
  | _ => cases e
section
variable {X : Cx} {e a b c : Expr} {f g h : EvF} {pos : Pos} {es : List Expr} {fs : List Cell → Option (List D)}
@[simp] def instV (ts : List Ty5) (f : EvF) : EvF := fun env => (f env).bind fun d => (isTys d ts).map .b
theorem pe_tyname {x : Str} {T : Ty5} {p : Pos} (hg : Gl X x) (hm : X.mg x = none) (hv : bootBuiltins x = some (.type T.name)) (hn : x ≠ "__name__") (hd : (x == ("__debug__" : Str)) = false) : PE X (.Name x p) (tC (.ty T.name)) := pe_bltn hg hm hv rfl hn hd
/-- isinstance(a, T) -/
theorem de_inst1 {x y : Str} {T : Ty5} {p p2 : Pos} (hg : Gl X x) (hm : X.mg x = none) (hx : bootBuiltins x = some (.builtin "isinstance")) (hn : x ≠ "__name__") (hdb : (x == ("__debug__" : Str)) = false)
    (hg2 : Gl X y) (hm2 : X.mg y = none) (hy : bootBuiltins y = some (.type T.name)) (hn2 : y ≠ "__name__") (hdb2 : (y == ("__debug__" : Str)) = false) (ha : DB X a f)
    (he : starEach [a, .Name y p2] X.env = (false, eval a X.env) :: starEach [.Name y p2] X.env) : DE X (.Call (.Name x p) [a, .Name y p2] [] pos) (instV [T] f) := by
  intro σ H O env d Q ok R z c
  obtain ⟨q, e1, e2⟩ := bind_some' z
  obtain ⟨b, e3, e4⟩ := map_some' e2
  subst e4
  refine PEw (pe_callB call_isi hg hm hx (pa_cons wE_pe (pa_cons (pe_tyname hg2 hm2 hy hn2 hdb2) pa_nil) he) hn hdb he rfl) (ha σ H O env q _ ok R e1 fun v H1 s1 r1 => ?_)
  have e3' : ((isTy q T).bind fun x => ((kindD q).map fun _ => false).map fun y => x || y) = some b := e3
  obtain ⟨x', g1, g2⟩ := bind_some' e3'
  obtain ⟨y', g3, g4⟩ := map_some' g2
  obtain ⟨kd, g5, g6⟩ := map_some' g3
  subst g6 g4
  obtain ⟨k, k1, k2⟩ := isTy_kit g1
  rw [Bool.or_false] at c
  exact ⟨v, _, _, _, x', rfl, .ty _, r1.ty k1, kit_ty k2, c _ _ s1 (.b _)⟩
/-- isinstance(a, (T, U)) -/
theorem de_inst2 {x y z : Str} {T U : Ty5} {p p2 p3 p4 : Pos} {k : Nat} (hg : Gl X x) (hm : X.mg x = none) (hx : bootBuiltins x = some (.builtin "isinstance")) (hn : x ≠ "__name__") (hdb : (x == ("__debug__" : Str)) = false)
    (hg2 : Gl X y) (hm2 : X.mg y = none) (hy : bootBuiltins y = some (.type T.name)) (hn2 : y ≠ "__name__") (hdb2 : (y == ("__debug__" : Str)) = false)
    (hg3 : Gl X z) (hm3 : X.mg z = none) (hz : bootBuiltins z = some (.type U.name)) (hn3 : z ≠ "__name__") (hdb3 : (z == ("__debug__" : Str)) = false) (ha : DB X a f)
    (he : starEach [a, .Tuple [.Name y p2, .Name z p3] k p4] X.env = (false, eval a X.env) :: starEach [.Tuple [.Name y p2, .Name z p3] k p4] X.env) : DE X (.Call (.Name x p) [a, .Tuple [.Name y p2, .Name z p3] k p4] [] pos) (instV [T, U] f) := by
  intro σ H O env d Q ok R w c
  obtain ⟨q, e1, e2⟩ := bind_some' w
  obtain ⟨b, e3, e4⟩ := map_some' e2
  subst e4
  refine PEw (pe_callB call_isiT hg hm hx (pa_cons wE_pe (pa_cons (pe_tup (pa_cons (pe_tyname hg2 hm2 hy hn2 hdb2) (pa_cons (pe_tyname hg3 hm3 hz hn3 hdb3) pa_nil))) pa_nil) he) hn hdb he rfl) (ha σ H O env q _ ok R e1 fun v H1 s1 r1 => ?_)
  have hk : ∃ k, kindD q = some k := by
    have e3' := e3
    unfold isTys at e3'
    obtain ⟨x', g1, g2⟩ := bind_some' e3'
    obtain ⟨k, g3, _⟩ := isTy_kit g1
    exact ⟨k, g3⟩
  obtain ⟨kd, hk⟩ := hk
  refine ⟨by show 2 ≤ sizeLine; decide, fun t nt => ?_⟩
  have r2 := r1.same (same_new (o := .tup [.ty T.name, .ty U.name]) nt)
  exact ⟨v, t, _, _, _, b, rfl, upd_same, .cons (.ty _) (.cons (.ty _) .nil), r2.ty hk, isTys_kit hk e3, c _ _ (s1.trans (same_new nt)) (.b _)⟩
end

/-! ### targets -/
inductive Tg where
  | nm (i : Nat)
  | tp (ts : List Tg)
mutual
@[simp] def Tg.slots : Tg → List Nat
  | .nm i => [i]
  | .tp ts => Tg.slotsL ts
@[simp] def Tg.slotsL : List Tg → List Nat
  | [] => []
  | t :: r => t.slots ++ Tg.slotsL r
end
mutual
def bindT : Tg → D → List Cell → Option (List Cell)
  | .nm i, d, env => some (env.set i (.v d))
  | .tp ts, .t ds, env => bindTs ts ds env
  | .tp _, _, _ => none
def bindTs : List Tg → List D → List Cell → Option (List Cell)
  | [], [], env => some env
  | t :: ts, d :: ds, env => (bindT t d env).bind (bindTs ts ds)
  | _, _, _ => none
end
@[simp] theorem bindT_nm (i : Nat) (d : D) (env : List Cell) : bindT (.nm i) d env = some (env.set i (.v d)) := by rw [bindT]
@[simp] theorem bindT_tp (ts : List Tg) (ds : List D) (env : List Cell) : bindT (.tp ts) (.t ds) env = bindTs ts ds env := by rw [bindT]
@[simp] theorem bindTs_nil (env : List Cell) : bindTs [] [] env = some env := by rw [bindTs]
@[simp] theorem bindTs_cons (t : Tg) (ts : List Tg) (d : D) (ds : List D) (env : List Cell) : bindTs (t :: ts) (d :: ds) env = (bindT t d env).bind (bindTs ts ds) := by rw [bindTs]
/-- what σ' has of σ: all but these slots -/
def Off (vs : List Nat) (σ σ' : L2.St) : Prop := σ'.length = σ.length ∧ ∀ j, j ∉ vs → σ'[j]? = σ[j]?
theorem Off.refl {vs : List Nat} {σ : L2.St} : Off vs σ σ := ⟨rfl, fun _ _ => rfl⟩
theorem Off.trans {vs : List Nat} {σ σ1 σ2 : L2.St} (a : Off vs σ σ1) (b : Off vs σ1 σ2) : Off vs σ σ2 := ⟨b.1.trans a.1, fun j h => (b.2 j h).trans (a.2 j h)⟩
theorem Off.mono {vs ws : List Nat} {σ σ1 : L2.St} (a : Off vs σ σ1) (h : ∀ i ∈ vs, i ∈ ws) : Off ws σ σ1 := ⟨a.1, fun j q => a.2 j fun z => q (h j z)⟩
theorem Off.set {i : Nat} {σ : L2.St} {v : Option V} : Off [i] σ (σ.set i v) := ⟨List.length_set .., fun j h => List.getElem?_set_ne (by
  intro e
  exact h (by rw [e]; exact List.mem_cons_self))⟩
theorem wipe_get (σ : L2.St) : ∀ (vs : List Nat) (j : Nat), (wipe σ vs)[j]? = if j ∈ vs then (if j < σ.length then some none else none) else σ[j]?
  | [], j => by simp [wipe]
  | v :: vs, j => by
    unfold wipe
    by_cases h : v = j
    · subst h
      rw [if_pos List.mem_cons_self]
      by_cases hl : v < σ.length
      · rw [List.getElem?_set_self (by rw [wipe_length]; exact hl), if_pos hl]
      · rw [List.getElem?_eq_none (by rw [List.length_set, wipe_length]; omega), if_neg hl]
    · rw [List.getElem?_set_ne h, wipe_get σ vs j]
      by_cases hj : j ∈ vs
      · rw [if_pos hj, if_pos (List.mem_cons_of_mem _ hj)]
      · rw [if_neg hj, if_neg (by
          intro z
          rcases List.mem_cons.mp z with e | e
          · exact h e.symm
          · exact hj e)]
theorem wipe_off {σ σ' : L2.St} {vs : List Nat} (h : Off vs (wipe σ vs) σ') : wipe σ' vs = wipe σ vs := by
  refine List.ext_getElem? fun j => ?_
  have hl : σ'.length = σ.length := by rw [h.1, wipe_length]
  rw [wipe_get σ' vs j]
  by_cases hj : j ∈ vs
  · rw [if_pos hj, wipe_get σ vs j, if_pos hj, hl]
  · rw [if_neg hj, h.2 j hj]
@[simp] def wipeC (env : List Cell) : List Nat → List Cell
  | [] => env
  | v :: vs => (wipeC env vs).set v .no
theorem wipeC_length (env : List Cell) : ∀ vs, (wipeC env vs).length = env.length
  | [] => rfl
  | v :: vs => by unfold wipeC; rw [List.length_set, wipeC_length env vs]
section
variable {K : PySem.W.Frag} {H H' : Hp} {O : Addr → Prop} {σ : L2.St} {env : List Cell}
theorem RelC.set {i : Nat} {v : V} {d : D} (h : RelC K H O σ env) (r : Rep K H O v d) : RelC K H O (σ.set i (some v)) (env.set i (.v d)) := ⟨by rw [List.length_set, List.length_set]; exact h.1, fun j c e => by
  have hl := h.1
  by_cases hj : i = j
  · subst hj
    rw [List.getElem?_set] at e
    rw [if_pos rfl] at e
    split at e
    · rename_i hi
      cases e
      exact ⟨v, by rw [List.getElem?_set_self (by omega)], r⟩
    · cases e
  · rw [List.getElem?_set_ne hj] at e
    rw [List.getElem?_set_ne hj]
    exact h.2 j c e⟩
theorem RelC.wipe (h : RelC K H O σ env) : ∀ vs : List Nat, RelC K H O (wipe σ vs) (wipeC env vs)
  | [] => h
  | v :: vs => ⟨by rw [wipeC_length, wipe_length]; exact h.1, fun j c e => by
    unfold wipeC at e
    unfold L2.wipe
    by_cases hj : v = j
    · subst hj
      rw [List.getElem?_set] at e
      rw [if_pos rfl] at e
      split at e
      · cases e; trivial
      · cases e
    · rw [List.getElem?_set_ne hj] at e
      rw [List.getElem?_set_ne hj]
      exact (RelC.wipe h vs).2 j c e⟩
end
section
variable {X : Cx}
def wG (X : Cx) (tg : Expr) : TG := fun v σ H Q => ∀ (pins : List (Addr × Obj)) (s : Shared) (u : Value), Inv X pins σ H s → RelV v u → wpAny (model X.prog X.w) X.A (assign tg X.env u) (fun _ s' => ∃ σ' H', Inv X pins σ' H' s' ∧ Q σ' H') X.xe s
def wGs (X : Cx) (ts : List Expr) : TGs := fun vs σ H Q => ∀ (pins : List (Addr × Obj)) (s : Shared) (us : List Value), Inv X pins σ H s → Vals vs us → wpAny (model X.prog X.w) X.A (assignInOrder ((assignEach ts X.env).map (·.2)) us) (fun _ s' => ∃ σ' H', Inv X pins σ' H' s' ∧ Q σ' H') X.xe s
theorem wG_pg {tg : Expr} : PG X tg (wG X tg) := ⟨fun pins s σ H v u Q I r h => h pins s u I r⟩
theorem wGs_pgs {ts : List Expr} : PGs X ts (wGs X ts) := ⟨fun pins s σ H vs us Q I r h => h pins s us I r⟩
theorem PGw {tg : Expr} {g : TG} (h : PG X tg g) {v : V} {σ : L2.St} {H : Hp} {Q : L2.St → Hp → Prop} (q : g v σ H Q) : wG X tg v σ H Q := fun pins s u I r => h.run pins s σ H v u Q I r q
theorem PGsw {ts : List Expr} {g : TGs} (h : PGs X ts g) {vs : List V} {σ : L2.St} {H : Hp} {Q : L2.St → Hp → Prop} (q : g vs σ H Q) : wGs X ts vs σ H Q := fun pins s us I r => h.run pins s σ H vs us Q I r q
/-- a target takes a datum -/
def DG (X : Cx) (tg : Expr) (t : Tg) : Prop := ∀ (v : V) (d : D) (σ : L2.St) (H : Hp) (O : Addr → Prop) (env env' : List Cell) (Q : L2.St → Hp → Prop), RelC X.K H O σ env → Rep X.K H O v d → bindT t d env = some env' →
  (∀ σ', RelC X.K H O σ' env' → Off t.slots σ σ' → Q σ' H) → wG X tg v σ H Q
def DGs (X : Cx) (ts : List Expr) (tt : List Tg) : Prop := ∀ (vs : List V) (ds : List D) (σ : L2.St) (H : Hp) (O : Addr → Prop) (env env' : List Cell) (Q : L2.St → Hp → Prop), RelC X.K H O σ env → RepL X.K H O vs ds → bindTs tt ds env = some env' →
  (∀ σ', RelC X.K H O σ' env' → Off (Tg.slotsL tt) σ σ' → Q σ' H) → wGs X ts vs σ H Q
theorem dg_name {i : Nat} {x : Str} {pos : Pos} (hN : X.N.Nodup) (hi : X.N[i]? = some x) (hx : Loc X.env.scope x) (hf : X.fn x = true ∨ X.env.scope.names.lookup x = some .local) : DG X (.Name x pos) (.nm i) := by
  intro v d σ H O env env' Q R r e c
  refine PGw (pg_name hN hi hx hf) ?_
  rw [bindT] at e
  cases e
  exact c _ (R.set r) (by rw [Tg.slots]; exact Off.set)
theorem dgs_nil : DGs X [] [] := fun vs ds σ H O env env' Q R r e c => PGsw pgs_nil (by
  cases r with
  | nil => rw [bindTs] at e; cases e; exact ⟨rfl, c _ R Off.refl⟩
  | cons a r => rw [bindTs] at e <;> first | (cases e; done) | (intros; simp_all))
theorem dgs_cons {e : Expr} {es : List Expr} {t : Tg} {ts : List Tg} (h1 : DG X e t) (h2 : DGs X es ts) (hs : (assignEach (e :: es) X.env).map (·.2) = assign e X.env :: (assignEach es X.env).map (·.2)) : DGs X (e :: es) (t :: ts) := by
  intro vs ds σ H O env env' Q R r z c
  refine PGsw (pgs_cons wG_pg wGs_pgs hs) ?_
  cases r with
  | nil => rw [bindTs] at z <;> first | (cases z; done) | (intros; simp_all)
  | cons a r =>
    rw [bindTs] at z
    obtain ⟨env1, z1, z2⟩ := bind_some' z
    refine ⟨_, _, rfl, h1 _ _ σ H O env env1 _ R a z1 fun σ1 R1 o1 => h2 _ _ σ1 H O env1 env' _ R1 r z2 fun σ2 R2 o2 => c σ2 R2 ?_⟩
    rw [Tg.slotsL]
    exact (o1.mono fun i hi => List.mem_append_left _ hi).trans (o2.mono fun i hi => List.mem_append_right _ hi)
theorem bindTs_length : ∀ {ts : List Tg} {ds : List D} {env env' : List Cell}, bindTs ts ds env = some env' → ds.length = ts.length
  | [], [], _, _, _ => rfl
  | [], _ :: _, _, _, h => by rw [bindTs] at h <;> first | (cases h; done) | (intros; simp_all)
  | _ :: _, [], _, _, h => by rw [bindTs] at h <;> first | (cases h; done) | (intros; simp_all)
  | t :: ts, d :: ds, _, _, h => by
    rw [bindTs] at h
    obtain ⟨e1, _, h2⟩ := bind_some' h
    rw [List.length_cons, List.length_cons, bindTs_length h2]
theorem dg_tup {es : List Expr} {ts : List Tg} {k : Nat} {pos : Pos} (hc : X.calm = true) (h : DGs X es ts) (hn : (assignEach es X.env).length = ts.length) (hst : (assignEach es X.env).findIdx? (·.1) = none) : DG X (.Tuple es k pos) (.tp ts) := by
  intro v d σ H O env env' Q R r e c
  refine PGw (pg_tup hc (wGs_pgs (ts := es)) hn hst) ?_
  cases d <;> first
    | (rw [bindT] at e <;> first | (cases e; done) | (intros; simp_all; done))
    | skip
  rename_i ds
  rw [bindT] at e
  obtain ⟨a, vs, rfl, h1, h2⟩ := (RepB.tup (.inl r) : ∃ a xs, v = .ref a ∧ SqT X.K H a xs ∧ RepL X.K H O xs ds)
  exact ⟨a, vs, rfl, h1, by rw [h2.length, bindTs_length e], h vs ds σ H O env env' Q R h2 e fun σ' R' o => c σ' R' (by rw [Tg.slots]; exact o)⟩
end
end PL
/-! PL h: what is walked: lists and tuples alone, in enumerate, in zip. -/
namespace PL
open PySem PySem.Spec PyProof.Rows L2

/-! ### lists and tuples alike (kd: a tuple) -/
def SqA (K : PySem.W.Frag) (H : Hp) (kd : Bool) (a : Addr) (xs : List V) : Prop := (kd = false ∧ SqL K H a xs) ∨ (kd = true ∧ SqT K H a xs)
def ItA (h : Heap) (kd : Bool) (it a : Addr) (i : Nat) : Prop := (kd = false ∧ h.IsListIter it a i) ∨ (kd = true ∧ h.IsTupleIter it a i)
theorem ItA.obj {h : Heap} {kd : Bool} {it a : Addr} {i : Nat} (x : ItA h kd it a i) : ∃ o, h.get? it = some o ∧ ∀ v, o.data ≠ .cell v := by
  rcases x with ⟨_, o, e, _, d⟩ | ⟨_, o, e, _, d⟩ <;> exact ⟨o, e, fun v z => by rw [d] at z; cases z⟩
theorem ItA.keep {h h' : Heap} {kd : Bool} {it a : Addr} {i : Nat} (x : ItA h kd it a i) (k : ∀ o, h.get? it = some o → h'.get? it = some o) : ItA h' kd it a i := by
  rcases x with ⟨e, x⟩ | ⟨e, x⟩
  · exact .inl ⟨e, x.at fun o q => k o q⟩
  · exact .inr ⟨e, x.at fun o q => k o q⟩
section
variable {X : Cx} {pins : List (Addr × Obj)} {σ : L2.St} {H : Hp} {s : Shared}
theorem SqA.inj {kd : Bool} {a : Addr} {xs ys : List V} (I : Inv X pins σ H s) (h : SqA X.K H kd a xs) (h' : SqA X.K H kd a ys) : xs = ys := by
  rcases h with ⟨e, h⟩ | ⟨e, h⟩ <;> rcases h' with ⟨e', h'⟩ | ⟨e', h'⟩
  · exact I.list_inj h h'
  · rw [e] at e'; cases e'
  · rw [e] at e'; cases e'
  · exact I.tuple_inj h h'
/-- its iterator draws the items -/
theorem SqA.draws {prog : Program} {w : World} {A : Around} {kd : Bool} {a it : Addr} {xs : List V} {i : Nat} (I : Inv X pins σ H s) (h : SqA X.K H kd a xs) (st : ItA s.heap kd it a i) (hne : a ≠ it) (hh : A.handled = none) :
    ∃ (its : List Value) (St : Nat → Heap → Prop), Vals xs its ∧ Draws prog w A it [it, a] its.toArray.size (fun i v => its.toArray[i]? = some v) St ∧ St i s.heap ∧ ∀ j h, St j h → ItA h kd it a j := by
  rcases h with ⟨e, h⟩ | ⟨e, h⟩
  · obtain ⟨its, rv, p, _⟩ := I.list h
    have st' : s.heap.IsListIter it a i := by
      rcases st with ⟨_, x⟩ | ⟨e', x⟩
      · exact x
      · rw [e] at e'; cases e'
    exact ⟨its, _, rv, Draws.list hh it a hne its.toArray, ⟨st', p.isList⟩, fun j h x => .inl ⟨e, x.1⟩⟩
  · obtain ⟨its, rv, p, _⟩ := I.tuple h
    have st' : s.heap.IsTupleIter it a i := by
      rcases st with ⟨e', x⟩ | ⟨_, x⟩
      · rw [e] at e'; cases e'
      · exact x
    exact ⟨its, _, rv, Draws.tuple hh it a hne its.toArray, ⟨st', p⟩, fun j h x => .inr ⟨e, x.1⟩⟩
def itObj (kd : Bool) (a : Addr) : Obj := { cls := .type (if kd = true then "tuple_iterator" else "list_iterator"), data := .fields #[.ref a, .int 0 0] }
/-- iter of it -/
theorem SqA.begins {kd : Bool} {a : Addr} {xs : List V} (I : Inv X pins σ H s) (h : SqA X.K H kd a xs) : ∃ P : Heap → Prop, Begins (.ref a) (itObj kd a) P ∧ P s.heap ∧ a < s.heap.objs.size := by
  rcases h with ⟨e, h⟩ | ⟨e, h⟩
  · obtain ⟨its, rv, p, _⟩ := I.list h
    subst e
    exact ⟨_, begins_list a its.toArray, p.isList, p.lt⟩
  · obtain ⟨its, rv, p, _⟩ := I.tuple h
    subst e
    exact ⟨_, begins_tuple a its.toArray, p, by obtain ⟨o, e, _⟩ := p; exact Heap.lt_size e⟩
theorem itObj.at {h : Heap} {kd : Bool} {it a : Addr} (e : h.get? it = some (itObj kd a)) : ItA h kd it a 0 := by
  cases kd
  · exact .inl ⟨rfl, _, e, rfl, rfl⟩
  · exact .inr ⟨rfl, _, e, rfl, rfl⟩
end

/-! ### enumerate -/
theorem vals_at {xs : List V} {its : List Value} {i : Nat} {u : Value} (r : Vals xs its) (h : its.toArray[i]? = some u) : ∃ x, xs[i]? = some x ∧ RelV x u := by
  have h : its[i]? = some u := by simpa using h
  have hl : i < xs.length := by
    rw [r.length]
    exact (List.getElem?_eq_some_iff.mp h).1
  obtain ⟨u', h1, h2⟩ := r.get (List.getElem?_eq_getElem hl)
  rw [h] at h1
  cases h1
  exact ⟨_, List.getElem?_eq_getElem hl, h2⟩
def IteA (K : PySem.W.Frag) (kd : Bool) (a : Addr) : It :=
  ⟨fun i H => ∃ (xs : List V) (x : V), SqA K H kd a xs ∧ xs[i]? = some x, fun i H v H' => ∃ T x, v = .ref T ∧ H T = none ∧ H' = upd H T (.tup [.int (i : Nat), x]) ∧ ∀ xs, SqA K H kd a xs → xs[i]? = some x, fun i H => ∃ xs : List V, SqA K H kd a xs ∧ xs.length = i⟩
theorem turn_enumA {P : Program} {w : World} {K : PySem.W.Frag} {elts : List Expr} {kk : Nat} {tpos : Pos} (kd : Bool) (a e it : Addr) (hei : e ≠ it) (hai : a ≠ it) (hae : e ≠ a) :
    Turn P w K (.Tuple elts kk tpos) (IteA K kd a) [e, it] e (fun i h => (∃ old, IsEnum h e it ((i : Nat) : Int) old) ∧ ItA h kd it a i) where
  mem := by simp
  obj := fun i h st b hb => by
    obtain ⟨⟨old, he⟩, hit⟩ := st
    have e' : b = e ∨ b = it := by simpa using hb
    rcases e' with z | z
    · rw [z]; exact ⟨_, he, fun v q => nomatch q⟩
    · rw [z]; exact hit.obj
  keep := fun i h h' st k => let ⟨⟨old, he⟩, hi⟩ := st; ⟨⟨old, k e (by simp) _ he⟩, hi.keep fun o q => k it (by simp) o q⟩
  item := by
    intro X hP hw hK hc i pins s σ H E I hf st hg
    subst hP hw hK
    obtain ⟨⟨old, he⟩, hit⟩ := st
    obtain ⟨xs, x, hq, hx⟩ := hg
    obtain ⟨its, St, rv, D, st, back⟩ := hq.draws (prog := X.prog) (w := X.w) (A := X.A.in1) I hit hai (I.ok.hd hc)
    have hlt : i < its.toArray.size := by
      rw [List.size_toArray, ← rv.length]
      exact (List.getElem?_eq_some_iff.mp hx).1
    have hel : e < s.heap.objs.size := Heap.lt_size he
    have hil : it < s.heap.objs.size := by obtain ⟨_, q, _⟩ := hit.obj; exact Heap.lt_size q
    refine wpAny_pyNext_enum_itemC D he st hlt hei (by simp [hei, hae]) fun u h' tk hu ho hit' hT hsz hk => ?_
    obtain ⟨x', hx', ru⟩ := vals_at rv hu
    rw [hx] at hx'
    cases hx'
    refine ⟨_, rfl, wpAny_letOwnedTupleGo_enum (s := { s with heap := h', toks := tk + 1 }) ho fun h'' he' sb => ?_⟩
    have hT2 : h''.get? s.heap.objs.size = some { cls := .type "tuple", data := .seq #[.int i tk, u] } := (sb.2 _ (Nat.ne_of_gt hel)).trans hT
    have new : ObjOk X.prog X.w (upd H s.heap.objs.size (.tup [.int (i : Nat), x])) h'' s.heap.objs.size (.tup [.int (i : Nat), x]) :=
      ⟨by show 2 ≤ sizeLine; decide, [.int i tk, u], .cons ⟨_, rfl⟩ (.cons ru .nil), ⟨_, hT2, rfl, _, rfl⟩⟩
    have I1 : Inv X pins σ (upd H s.heap.objs.size (.tup [.int (i : Nat), x])) { s with heap := h'', toks := tk + 1 } :=
      I.turnedNew (ch := [e, it]) (fun b ob hb q => (sb.2 b (fun z => hb (by simp [z]))).trans (hk b ob (fun z => hb (by simp [z])) (fun z => hb (by simp [z])) q)) hf (Nat.le_refl _) new
    refine ⟨.ref s.heap.objs.size, _, I1, rfl, ⟨_, x, rfl, I.hok.fresh (Nat.le_refl _), rfl, fun ys hy => by rw [SqA.inj I hy hq]; exact hx⟩, ⟨⟨u, ?_⟩, (back _ _ hit').keep fun o q => (sb.2 it (Ne.symm hei)).trans q⟩, fun b hb => ?_⟩
    · have e1 : ((i + 1 : Nat) : Int) = (i : Int) + 1 := by omega
      rw [e1]; exact he'
    · have hb' : b < s.heap.objs.size := by
        have e' : b = e ∨ b = it := by simpa using hb
        rcases e' with z | z
        · rw [z]; exact hel
        · rw [z]; exact hil
      rw [upd_ne (Nat.ne_of_lt hb')]
      exact (hf b hb).1
  done := by
    intro X hP hw hK hc i pins s σ H E I hf st hg
    subst hP hw hK
    obtain ⟨⟨old, he⟩, hit⟩ := st
    obtain ⟨xs, hq, hx⟩ := hg
    obtain ⟨its, St, rv, D, st, back⟩ := hq.draws (prog := X.prog) (w := X.w) (A := X.A.in1) I hit hai (I.ok.hd hc)
    obtain ⟨f0, f1, f2, f3, f4, f5⟩ := hf it (by simp)
    have e1 : i = its.toArray.size := by rw [List.size_toArray, ← rv.length]; exact hx.symm
    rw [e1] at st
    exact wpAny_pyNext_enum_endD D he st fun h' eb => ⟨rfl, I.turned (t' := s.toks) (fun b o hb q => eb b o hb q) f0 f1 f3 f4 f5⟩
  self := fun A i s Q E st h => let ⟨⟨_, he⟩, _⟩ := st; wpAny_pyIter_enum he h

set_option maxHeartbeats 1000000 in
theorem meets_enum1 {v : Value} {o : Obj} {H : Heap → Prop} (B : Begins v o H) :
    Meets (Builtin.«enumerate.__new__» ⟨[.type "enumerate", v], []⟩) (fun _ R s => H s.heap ∧
      R (.ok (.ret (.ref (s.heap.push o).objs.size))) { s with heap := (s.heap.push o).push { cls := .type "enumerate", data := .fields #[.none, .bool false, .ref s.heap.objs.size, rawInt 0, .none, .none] } }) :=
  .of_wp fun prog w A R s h => by
    obtain ⟨hp, g, d, tk, os⟩ := s; obtain ⟨h1, h⟩ := h
    have hsub := sub_enumerate
    have q1 : ∀ {A' : Around} {E : Value → Shared → Prop} {Q : Value → Shared → Prop}, Q (.ref hp.objs.size) ⟨hp.push o, g, d, tk, os⟩ → wpAny (model prog w) A' (pyIter v) Q E ⟨hp, g, d, tk, os⟩ :=
      fun q => B.iter prog w _ _ ⟨hp, g, d, tk, os⟩ _ h1 q
    wp_walk using q1
    refine wpAny_stack_any fun st => wpAny_pure ?_
    split
    · rename_i c _ _ _ _ _
      cases (c == Value.type "enumerate")
      · wp_walk using q1
        exact ⟨_, rfl, h⟩
      · wp_walk using q1
        exact ⟨_, rfl, h⟩
    · wp_walk using q1
      exact ⟨_, rfl, h⟩
theorem call_enum1 {prog : Program} {w : World} {A : Around} {E : Value → Shared → Prop} {s : Shared} {v : Value} {o : Obj} {H : Heap → Prop} {Q : Value → Shared → Prop} (B : Begins v o H) (h1 : H s.heap)
    (h : ∀ h', IsEnum h' (s.heap.objs.size + 1) s.heap.objs.size 0 .none → h'.get? s.heap.objs.size = some o → (∀ b o, s.heap.get? b = some o → h'.get? b = some o) → Q (.ref (s.heap.objs.size + 1)) { s with heap := h' }) :
    wpAny (model prog w) A (call (.type "enumerate") [v]) Q E s := by
  refine callType_new F.called_enumerate (by decide) (F.typeCall_enumerate_1 _) (F.newCall_enumerate_1 _) (fun obj => F.args_object_init_2 obj _) F.entry_enumerate_new
    (meets_enum1 B) ⟨h1, ?_⟩
  have hz : (s.heap.push o).objs.size = s.heap.objs.size + 1 := Heap.size_push ..
  show _ ∧ _
  rw [hz]
  have he : IsEnum ((s.heap.push o).push { cls := .type "enumerate", data := .fields #[.none, .bool false, .ref s.heap.objs.size, rawInt 0, .none, .none] }) (s.heap.objs.size + 1) s.heap.objs.size 0 .none := by
    have := Heap.get?_push_size (s.heap.push o) (o := { cls := .type "enumerate", data := .fields #[.none, .bool false, .ref s.heap.objs.size, rawInt 0, .none, .none] }) rfl
    rw [hz] at this; exact this
  exact ⟨⟨_, he, rfl⟩, h _ he (Heap.get?_push_of_some _ (Heap.get?_push_size _ B.free)) fun b o x => Heap.get?_push_of_some _ (Heap.get?_push_of_some _ x)⟩
def iEnumA (K : PySem.W.Frag) (ta : TA) : TI := fun σ H R => ta σ H fun vs H1 => ∃ kd a xs, vs = [.ref a] ∧ SqA K H1 kd a xs ∧ R (IteA K kd a) H1
theorem pi_enumA {X : Cx} {e : Expr} {ta : TA} {p pos tpos : Pos} {elts : List Expr} {kk : Nat} (hg : Gl X "enumerate") (hm : X.mg "enumerate" = none) (ha : PA X [e] ta) (hs : starEach [e] X.env = [(false, eval e X.env)]) :
    PI X (.Tuple elts kk tpos) (.Call (.Name "enumerate" p) [e] [] pos) (iEnumA X.K ta) := by
  refine ⟨fun pins s σ H R I h => ?_⟩
  refine Call_ (ld_blt I hg hm boot_enumerate (PyProof.Rows.callWith_type1 (thn (ha.run pos pins s σ H _ I h) fun us s1 ⟨vs, H1, I1, r1, q1⟩ => ?_) hs rfl))
  obtain ⟨kd, a, xs, ex, hq, q⟩ := q1
  subst ex
  cases r1 with
  | cons r rr =>
    cases rr
    cases r
    obtain ⟨P, B, p1, lt⟩ := hq.begins I1
    refine call_enum1 B p1 fun h' he hit hk => wpAny_pyIter_enum he ?_
    have I2 : Inv X pins σ H1 { s1 with heap := h' } := I1.kept (t' := s1.toks) hk
    refine ⟨s1.heap.objs.size + 1, [s1.heap.objs.size + 1, s1.heap.objs.size], _, _, H1, rfl, I2, turn_enumA kd a (s1.heap.objs.size + 1) s1.heap.objs.size (Nat.succ_ne_self _) (Nat.ne_of_lt lt) (Nat.ne_of_gt (Nat.lt_succ_of_lt lt)), ⟨⟨.none, he⟩, itObj.at hit⟩, fun b hb => ?_, q⟩
    have e' : b = s1.heap.objs.size + 1 ∨ b = s1.heap.objs.size := by simpa using hb
    have hle : s1.heap.objs.size ≤ b := by
      rcases e' with z | z
      · rw [z]; exact Nat.le_add_right _ _
      · rw [z]; exact Nat.le_refl _
    exact I1.fpOk hle (I1.hok.fresh hle)

/-! ### zip -/
def ItzA (K : PySem.W.Frag) (kd : Bool) (a : Addr) (kd' : Bool) (b : Addr) : It :=
  ⟨fun i H => ∃ (xs ys : List V) (x y : V), SqA K H kd a xs ∧ SqA K H kd' b ys ∧ xs[i]? = some x ∧ ys[i]? = some y,
    fun i H v H' => ∃ T x y, v = .ref T ∧ H T = none ∧ H' = upd H T (.tup [x, y]) ∧ (∀ xs, SqA K H kd a xs → xs[i]? = some x) ∧ ∀ ys, SqA K H kd' b ys → ys[i]? = some y,
    fun i H => ∃ xs ys : List V, SqA K H kd a xs ∧ SqA K H kd' b ys ∧ i = min xs.length ys.length⟩
theorem turn_zipAA {P : Program} {w : World} {K : PySem.W.Frag} {elts : List Expr} {kk : Nat} {tpos : Pos} {kd kd' : Bool} {a b z TI TO i1 i2 : Addr} (S : ZipSep2 z TI TO i1 i2 [i1, a] [i2, b]) (n1 : a ≠ i1) (n2 : b ≠ i2) :
    Turn P w K (.Tuple elts kk tpos) (ItzA K kd a kd' b) [z, TI, TO, i1, i2] z (fun i h => IsZip h z TI TO .none ∧ IsTupOf2 h TI (.ref i1) (.ref i2) ∧ (∃ x y, IsTupOf2 h TO x y) ∧ ItA h kd i1 a i ∧ ItA h kd' i2 b i) where
  mem := by simp
  obj := fun i h st c hc => by
    obtain ⟨hz, hTI, ⟨x, y, hTO⟩, h1, h2⟩ := st
    have e' : c = z ∨ c = TI ∨ c = TO ∨ c = i1 ∨ c = i2 := by simpa using hc
    rcases e' with q | q | q | q | q
    · rw [q]; exact ⟨_, hz, fun v q => nomatch q⟩
    · rw [q]; exact ⟨_, hTI, fun v q => nomatch q⟩
    · rw [q]; exact ⟨_, hTO, fun v q => nomatch q⟩
    · rw [q]; exact h1.obj
    · rw [q]; exact h2.obj
  keep := fun i h h' st k => by
    obtain ⟨hz, hTI, ⟨x, y, hTO⟩, h1, h2⟩ := st
    exact ⟨k z (by simp) _ hz, k TI (by simp) _ hTI, ⟨x, y, k TO (by simp) _ hTO⟩, h1.keep fun o q => k i1 (by simp) o q, h2.keep fun o q => k i2 (by simp) o q⟩
  item := by
    intro X hP hw hK hc i pins s σ H E I hf st hg
    subst hP hw hK
    obtain ⟨hz, hTI, ⟨x0, y0, hTO⟩, h1, h2⟩ := st
    obtain ⟨xs, ys, x, y, hqx, hqy, hx, hy⟩ := hg
    obtain ⟨its, St, rv, D, st, back⟩ := hqx.draws (prog := X.prog) (w := X.w) (A := X.A.in1) I h1 n1 (I.ok.hd hc)
    obtain ⟨its2, St2, rv2, D2, st2, back2⟩ := hqy.draws (prog := X.prog) (w := X.w) (A := X.A.in1) I h2 n2 (I.ok.hd hc)
    have hlt : i < its.toArray.size := by
      rw [List.size_toArray, ← rv.length]
      exact (List.getElem?_eq_some_iff.mp hx).1
    have hlt2 : i < its2.toArray.size := by
      rw [List.size_toArray, ← rv2.length]
      exact (List.getElem?_eq_some_iff.mp hy).1
    have hzl : z < s.heap.objs.size := Heap.lt_size hz
    refine wpAny_pyNext_zipD2_item S D D2 hz hTI hTO st st2 hlt hlt2 fun u u2 h' tk hu hu2 z' TO' h1' h2' hT hsz hk => ?_
    obtain ⟨x', hx', ru⟩ := vals_at rv hu
    rw [hx] at hx'
    cases hx'
    obtain ⟨y', hy', ru2⟩ := vals_at rv2 hu2
    rw [hy] at hy'
    cases hy'
    refine ⟨_, rfl, wpAny_letOwnedTupleGo_zip (s := { s with heap := h', toks := tk }) z' fun h'' z'' sb => ?_⟩
    have hT2 : h''.get? s.heap.objs.size = some { cls := .type "tuple", data := .seq #[u, u2] } := (sb.2 _ (Nat.ne_of_gt hzl)).trans hT
    have new : ObjOk X.prog X.w (upd H s.heap.objs.size (.tup [x, y])) h'' s.heap.objs.size (.tup [x, y]) :=
      ⟨by show 2 ≤ sizeLine; decide, [u, u2], .cons ru (.cons ru2 .nil), ⟨_, hT2, rfl, _, rfl⟩⟩
    have I1 : Inv X pins σ (upd H s.heap.objs.size (.tup [x, y])) { s with heap := h'', toks := tk } :=
      I.turnedNew (ch := [z, TI, TO, i1, i2]) (fun c o hb q => (sb.2 c (fun q' => hb (by simp [q']))).trans (hk c o (fun q' => hb (by simp [q'])) (fun q' => hb (by simp [q'])) (fun q' => hb (by simp [q'])) (fun q' => hb (by simp [q'])) q)) hf (Nat.le_refl _) new
    refine ⟨.ref s.heap.objs.size, _, I1, rfl, ⟨_, x, y, rfl, I.hok.fresh (Nat.le_refl _), rfl, fun l hl => by rw [SqA.inj I hl hqx]; exact hx, fun l hl => by rw [SqA.inj I hl hqy]; exact hy⟩, ⟨z'', ?_, ⟨u, u2, ?_⟩, ?_, ?_⟩, fun c hcm => ?_⟩
    · exact (sb.2 _ S.TIz).trans (hk _ _ S.TIz S.TITO S.TIi1 S.TIi2 hTI)
    · exact (sb.2 _ S.TOz).trans TO'
    · exact (back _ _ h1').keep fun o q => (sb.2 _ (Ne.symm S.zi1)).trans q
    · exact (back2 _ _ h2').keep fun o q => (sb.2 _ (Ne.symm S.zi2)).trans q
    · have hlt : c < s.heap.objs.size := by
        have e' : c = z ∨ c = TI ∨ c = TO ∨ c = i1 ∨ c = i2 := by simpa using hcm
        rcases e' with q | q | q | q | q
        · rw [q]; exact hzl
        · rw [q]; exact Heap.lt_size hTI
        · rw [q]; exact Heap.lt_size hTO
        · rw [q]; obtain ⟨_, e1, _⟩ := h1.obj; exact Heap.lt_size e1
        · rw [q]; obtain ⟨_, e2, _⟩ := h2.obj; exact Heap.lt_size e2
      rw [upd_ne (Nat.ne_of_lt hlt)]
      exact (hf c hcm).1
  done := by
    intro X hP hw hK hc i pins s σ H E I hf st hg
    subst hP hw hK
    obtain ⟨hz, hTI, ⟨x0, y0, hTO⟩, h1, h2⟩ := st
    obtain ⟨xs, ys, hqx, hqy, hend⟩ := hg
    obtain ⟨its, St, rv, D, st, back⟩ := hqx.draws (prog := X.prog) (w := X.w) (A := X.A.in1) I h1 n1 (I.ok.hd hc)
    obtain ⟨its2, St2, rv2, D2, st2, back2⟩ := hqy.draws (prog := X.prog) (w := X.w) (A := X.A.in1) I h2 n2 (I.ok.hd hc)
    have l1 := rv.length
    have l2 := rv2.length
    refine wpAny_pyNext_zipD2_end S D D2 hz hTI hTO st st2 (by rw [List.size_toArray]; omega) (by rw [List.size_toArray]; omega) (by rw [List.size_toArray, List.size_toArray]; omega) fun h' tk hk => ⟨rfl, I.turnedL (ch := [z, TI, TO, i1, i2]) (fun c o hb q =>
      hk c o (fun q' => hb (by simp [q'])) (fun q' => hb (by simp [q'])) (fun q' => hb (by simp [q'])) (fun q' => hb (by simp [q'])) q) hf⟩
  self := fun A i s Q E st h => wpAny_pyIter_zip st.1 h
def iZipAA (K : PySem.W.Frag) (ta : TA) : TI := fun σ H R => ta σ H fun vs H1 => ∃ kd a xs kd' b ys, vs = [.ref a, .ref b] ∧ SqA K H1 kd a xs ∧ SqA K H1 kd' b ys ∧ R (ItzA K kd a kd' b) H1
theorem pi_zipAA {X : Cx} {e e2 : Expr} {ta : TA} {p pos tpos : Pos} {elts : List Expr} {kk : Nat} (hg : Gl X "zip") (hm : X.mg "zip" = none) (ha : PA X [e, e2] ta)
    (hs : starEach [e, e2] X.env = (false, eval e X.env) :: starEach [e2] X.env) (hpl : (backTo pos (starEach [e2] X.env)).any (·.1) = false) :
    PI X (.Tuple elts kk tpos) (.Call (.Name "zip" p) [e, e2] [] pos) (iZipAA X.K ta) := by
  refine ⟨fun pins s σ H R I h => ?_⟩
  refine Call_ (ld_blt I hg hm PyProof.Rows.boot_zip (PyProof.Rows.callWith_type1 (thn (ha.run pos pins s σ H _ I h) fun us s1 ⟨vs, H1, I1, r1, q1⟩ => ?_) hs hpl))
  obtain ⟨kd, a, xs, kd', b, ys, ex, hqx, hqy, q⟩ := q1
  subst ex
  cases r1 with
  | cons r rr =>
    cases rr with
    | cons r' rr =>
      cases rr
      cases r
      cases r'
      obtain ⟨P1, B1, p1, la⟩ := hqx.begins I1
      obtain ⟨P2, B2, p2, lb⟩ := hqy.begins I1
      refine zip_begins2 B1 B2 p1 p2 fun h' hz hTI hTO h1 h2 hsz hk => wpAny_pyIter_zip hz ?_
      have I2 : Inv X pins σ H1 { s1 with heap := h' } := I1.kept (t' := s1.toks) hk
      refine ⟨s1.heap.objs.size + 4, [s1.heap.objs.size + 4, s1.heap.objs.size + 2, s1.heap.objs.size + 3, s1.heap.objs.size, s1.heap.objs.size + 1], _, _, H1, rfl, I2,
        turn_zipAA (kd := kd) (kd' := kd') (a := a) (b := b) (zip_sep2 (fp1 := [a]) (fp2 := [b]) (fun c hc => by rw [List.mem_singleton.mp hc]; exact la) (fun c hc => by rw [List.mem_singleton.mp hc]; exact lb)) (Nat.ne_of_lt la) (Nat.ne_of_lt (Nat.lt_succ_of_lt lb)),
        ⟨hz, hTI, ⟨_, _, hTO⟩, itObj.at h1, itObj.at h2⟩, fun c hcm => ?_, q⟩
      have e' : c = s1.heap.objs.size + 4 ∨ c = s1.heap.objs.size + 2 ∨ c = s1.heap.objs.size + 3 ∨ c = s1.heap.objs.size ∨ c = s1.heap.objs.size + 1 := by simpa using hcm
      have hle : s1.heap.objs.size ≤ c := by
        rcases e' with z | z | z | z | z
        · rw [z]; exact Nat.le_add_right _ _
        · rw [z]; exact Nat.le_add_right _ _
        · rw [z]; exact Nat.le_add_right _ _
        · rw [z]; exact Nat.le_refl _
        · rw [z]; exact Nat.le_add_right _ _
      exact I1.fpOk hle (I1.hok.fresh hle)
end PL
/-! PL i: what for and comprehensions walk, on data. -/
namespace PL
open PySem PySem.Spec PyProof.Rows L2

/-! ### strict or borrowed -/
def RepX (b : Bool) (K : PySem.W.Frag) (H : Hp) (O : Addr → Prop) (v : V) (d : D) : Prop := if b = true then Rep K H O v d else RepB K H O v d
/-- what must not change while it is walked -/
def Eo (b : Bool) (O : Addr → Prop) : Addr → Prop := fun a => b = true ∧ O a
def DX (b : Bool) (X : Cx) (e : Expr) (f : EvF) : Prop := ∀ (σ : L2.St) (H : Hp) (O : Addr → Prop) (env : List Cell) (d : D) (Q : VK), OkO H O → RelC X.K H O σ env → f env = some d →
  (∀ v H', Same H H' → RepX b X.K H' O v d → Q v H') → wE X e σ H Q
inductive RepXs (b : Bool) (K : PySem.W.Frag) (H : Hp) (O : Addr → Prop) : List V → List D → Prop
  | nil : RepXs b K H O [] []
  | cons {v : V} {vs : List V} {d : D} {ds : List D} : RepX b K H O v d → RepXs b K H O vs ds → RepXs b K H O (v :: vs) (d :: ds)
def DXs (b : Bool) (X : Cx) (es : List Expr) (f : List Cell → Option (List D)) : Prop := ∀ (σ : L2.St) (H : Hp) (O : Addr → Prop) (env : List Cell) (ds : List D) (Q : List V → Hp → Prop), OkO H O → RelC X.K H O σ env → f env = some ds →
  (∀ vs H', Same H H' → RepXs b X.K H' O vs ds → Q vs H') → wA X es σ H Q
section
variable {X : Cx} {e : Expr} {f : EvF} {b : Bool}
theorem DE.dx (h : DE X e f) : DX true X e f := fun σ H O env d Q ok R e c => h σ H O env d Q ok R e fun v H' s r => c v H' s (by rw [RepX, if_pos rfl]; exact r)
theorem DB.dx (h : DB X e f) : DX false X e f := fun σ H O env d Q ok R e c => h σ H O env d Q ok R e fun v H' s r => c v H' s (by rw [RepX, if_neg Bool.false_ne_true]; exact r)
theorem RepX.same {K : PySem.W.Frag} {H H' : Hp} {O : Addr → Prop} {v : V} {d : D} (h : RepX b K H O v d) (k : Same H H') : RepX b K H' O v d := by
  unfold RepX at h ⊢
  split at h
  · rename_i q; rw [if_pos q]; exact h.same k
  · rename_i q; rw [if_neg q]; exact h.same k
theorem dxs_nil : DXs b X [] (fun _ => some []) := fun σ H O env ds Q ok R e c => PAw pa_nil (by cases e; exact c _ _ (Same.refl _) .nil)
theorem dxs_cons {es : List Expr} {g : List Cell → Option (List D)} (ha : DX b X e f) (hr : DXs b X es g) (hs : starEach (e :: es) X.env = (false, eval e X.env) :: starEach es X.env) : DXs b X (e :: es) (consL f g) := by
  intro σ H O env ds Q ok R z c
  obtain ⟨x, e1, z⟩ := bind_some' z
  obtain ⟨xs, e2, z⟩ := bind_some' z
  cases z
  refine PAw (pa_cons wE_pe wA_pa hs) (ha σ H O env x _ ok R e1 fun v H1 s1 r1 => hr σ H1 O env xs _ (ok.same s1) (R.same s1) e2 fun vs H2 s2 r2 => c _ _ (s1.trans s2) (.cons (r1.same s2) r2))
end

/-! ### what an iterator yields -/
def wI (X : Cx) (tg iter : Expr) : TI := fun σ H R => ∀ (pins : List (Addr × Obj)) (s : Shared), Inv X pins σ H s →
  wpAny (model X.prog X.w) X.A (eval iter X.env) (fun v s1 => wpAny (model X.prog X.w) X.A (pyIter v) (PIE X pins σ tg R) X.xe s1) X.xe s
theorem wI_pi {X : Cx} {tg iter : Expr} : PI X tg iter (wI X tg iter) := ⟨fun pins s σ H R I h => h pins s I⟩
theorem PIw {X : Cx} {tg iter : Expr} {t : TI} (h : PI X tg iter t) {σ : L2.St} {H : Hp} {R : It → Hp → Prop} (q : t σ H R) : wI X tg iter σ H R := fun pins s I => h.run pins s σ H R I q
structure ItOk (K : PySem.W.Frag) (J : It) (E W : Addr → Prop) (ds : List D) (H1 : Hp) : Prop where
  go : ∀ i H2, Kp E H1 H2 → i < ds.length → J.go i H2
  stop : ∀ H2, Kp E H1 H2 → J.stop ds.length H2
  yld : ∀ i H2 x H3 d, Kp E H1 H2 → J.yld i H2 x H3 → ds[i]? = some d → Same H2 H3 ∧ ∀ O2 : Addr → Prop, (∀ a, O2 a → W a ∨ H1 a = none) → OkO H2 O2 → Rep K H3 O2 x d
def DI (b : Bool) (X : Cx) (tg iter : Expr) (fs : List Cell → Option (List D)) : Prop := ∀ (σ : L2.St) (H : Hp) (O : Addr → Prop) (env : List Cell) (ds : List D) (R : It → Hp → Prop), OkO H O → RelC X.K H O σ env → fs env = some ds →
  (∀ J H1, Same H H1 → ItOk X.K J (Eo b O) O ds H1 → R J H1) → wI X tg iter σ H R
/-- the steps from H1 to H2, and what O2 leaves out -/
theorem Rep.go {K : PySem.W.Frag} {H1 H2 : Hp} {E W O2 : Addr → Prop} {v : V} {d : D} (h : Rep K H1 W v d) (k : Kp E H1 H2) (ew : ∀ a, E a → W a) (m : ∀ a, O2 a → W a ∨ H1 a = none) : Rep K H2 O2 v d := by
  have h1 : Rep K H1 (fun a => W a ∨ O2 a) v d := h.mono fun a z => by
    rcases z with z | z
    · exact .inl z
    · exact m a z
  have h2 : Rep K H2 (fun a => W a ∨ O2 a) v d := h1.kp fun a o e n => k a o e fun z => n (.inl (ew a z))
  exact h2.less fun a z => .inr z
theorem Kp.trans {E : Addr → Prop} {H1 H2 H3 : Hp} (a : Kp E H1 H2) (b : Same H2 H3) : Kp E H1 H3 := fun x o e n => b x o (a x o e n)
theorem eo_sub {b : Bool} {O : Addr → Prop} : ∀ a, Eo b O a → O a := fun _ h => h.2

@[simp] def seqD : D → Option (List D)
  | .l xs => some xs
  | .t xs => some xs
  | .z xs => some xs
  | _ => none
theorem SqA.kp_l {K : PySem.W.Frag} {H H' : Hp} {E : Addr → Prop} {a : Addr} {xs : List V} (h : H a = some (.lst xs)) (n : ¬ E a) (k : Kp E H H') : SqA K H' false a xs := .inl ⟨rfl, SqL.of (k _ _ h n)⟩
/-- a list or tuple, and that it stays -/
theorem RepX.seq {b : Bool} {K : PySem.W.Frag} {H : Hp} {O : Addr → Prop} {v : V} {d : D} {ds : List D} (h : RepX b K H O v d) (e : seqD d = some ds) :
    ∃ kd a xs, v = .ref a ∧ (∀ H2, Kp (Eo b O) H H2 → SqA K H2 kd a xs) ∧ RepL K H O xs ds := by
  have hB : RepB K H O v d := by
    unfold RepX at h
    split at h
    · exact .inl h
    · exact h
  have rep : ∀ {v : V} {d : D}, Rep K H O v d → seqD d = some ds → ∃ kd a xs, v = .ref a ∧ (∀ H2, Kp (Eo b O) H H2 → SqA K H2 kd a xs) ∧ RepL K H O xs ds := by
    intro v d h e
    cases h with
    | l ha n r => cases e; exact ⟨false, _, _, rfl, fun H2 k => .inl ⟨rfl, SqL.of (k _ _ ha fun z => n z.2)⟩, r⟩
    | z ha n r => cases e; exact ⟨false, _, _, rfl, fun H2 k => .inl ⟨rfl, .inl (rd_kp k ha fun z => n z.2)⟩, r⟩
    | zk ha r => cases e; exact ⟨false, _, _, rfl, fun H2 k => .inl ⟨rfl, ha H2⟩, r⟩
    | t ha n r => cases e; exact ⟨true, _, _, rfl, fun H2 k => .inr ⟨rfl, .inl (rd_kp k ha fun z => n z.2)⟩, r⟩
    | tk ha r => cases e; exact ⟨true, _, _, rfl, fun H2 k => .inr ⟨rfl, ha H2⟩, r⟩
    | _ => cases e
  cases b with
  | true =>
    rw [RepX, if_pos rfl] at h
    exact rep h e
  | false =>
    rw [RepX, if_neg Bool.false_ne_true] at h
    rcases h with h | ⟨a, xs, ds', e1, e2, e3, r⟩
    · exact rep h e
    · subst e2
      cases e
      exact ⟨false, a, xs, e1, fun H2 k => .inl ⟨rfl, SqL.of (k _ _ e3 fun z => Bool.false_ne_true z.1)⟩, r⟩
def ItS (K : PySem.W.Frag) (kd : Bool) (a : Addr) : It := if kd = true then Itt K a else Itl K a
theorem itS_ok {K : PySem.W.Frag} {E W : Addr → Prop} {kd : Bool} {a : Addr} {xs : List V} {ds : List D} {H1 : Hp} (ew : ∀ a, E a → W a) (st : ∀ H2, Kp E H1 H2 → SqA K H2 kd a xs) (r : RepL K H1 W xs ds) : ItOk K (ItS K kd a) E W ds H1 := by
  have hl := r.length
  have q0 := st H1 Kp.refl
  cases kd with
  | false =>
    have st' : ∀ H2, Kp E H1 H2 → SqL K H2 a xs := fun H2 k => by
      rcases st H2 k with ⟨_, q⟩ | ⟨e, _⟩
      · exact q
      · cases e
    refine ⟨fun i H2 k hi => ?_, fun H2 k => ?_, fun i H2 x H3 d k y e => ?_⟩
    · show ∃ (xs : List V) (x : V), SqL K H2 a xs ∧ xs[i]? = some x
      exact ⟨xs, xs[i], st' H2 k, List.getElem?_eq_getElem (by omega)⟩
    · show ∃ xs : List V, SqL K H2 a xs ∧ xs.length ≤ ds.length
      exact ⟨xs, st' H2 k, by omega⟩
    · obtain ⟨e1, y⟩ := y
      subst e1
      obtain ⟨v, h1, h2⟩ := r.get e
      have h3 := y xs (st' H3 k)
      rw [h1] at h3
      cases h3
      exact ⟨Same.refl _, fun O2 m _ => h2.go k ew m⟩
  | true =>
    have st' : ∀ H2, Kp E H1 H2 → SqT K H2 a xs := fun H2 k => by
      rcases st H2 k with ⟨e, _⟩ | ⟨_, q⟩
      · cases e
      · exact q
    refine ⟨fun i H2 k hi => ?_, fun H2 k => ?_, fun i H2 x H3 d k y e => ?_⟩
    · show ∃ (xs : List V) (x : V), SqT K H2 a xs ∧ xs[i]? = some x
      exact ⟨xs, xs[i], st' H2 k, List.getElem?_eq_getElem (by omega)⟩
    · show ∃ xs : List V, SqT K H2 a xs ∧ xs.length ≤ ds.length
      exact ⟨xs, st' H2 k, by omega⟩
    · obtain ⟨e1, y⟩ := y
      subst e1
      obtain ⟨v, h1, h2⟩ := r.get e
      have h3 := y xs (st' H3 k)
      rw [h1] at h3
      cases h3
      exact ⟨Same.refl _, fun O2 m _ => h2.go k ew m⟩
theorem pieS {X : Cx} {tg : Expr} {pins : List (Addr × Obj)} {σ : L2.St} {H : Hp} {s : Shared} {R : It → Hp → Prop} {kd : Bool} {a : Addr} {xs : List V} (I : Inv X pins σ H s) (hq : SqA X.K H kd a xs) (q : R (ItS X.K kd a) H) :
    wpAny (model X.prog X.w) X.A (pyIter (.ref a)) (PIE X pins σ tg R) X.xe s := by
  have fin : ∀ b ∈ [s.heap.objs.size], FpOk X pins H b := fun b hb => by
    have e : b = s.heap.objs.size := by simpa using hb
    subst e
    exact I.fpOk (Nat.le_refl _) (I.hok.fresh (Nat.le_refl _))
  rcases hq with ⟨e, hq⟩ | ⟨e, hq⟩
  · subst e
    obtain ⟨its, rv, p, hz⟩ := I.list hq
    refine wpAny_pyIter_list p.isList ?_
    exact ⟨s.heap.objs.size, [s.heap.objs.size], _, _, H, rfl, I.kept (t' := s.toks) fun b o e => Heap.get?_push_of_some _ e, turn_list a _, ⟨_, Heap.get?_push_size _ rfl, rfl, rfl⟩, fin, q⟩
  · subst e
    obtain ⟨its, rv, p, hz⟩ := I.tuple hq
    refine wpAny_pyIter_tuple (show s.heap.IsTuple a its.toArray from p) ?_
    exact ⟨s.heap.objs.size, [s.heap.objs.size], _, _, H, rfl, I.kept (t' := s.toks) fun b o e => Heap.get?_push_of_some _ e, turn_tuple a _, ⟨_, Heap.get?_push_size _ rfl, rfl, rfl⟩, fin, q⟩

/-! ### ranges -/
def rngD (lo : Int) (n : Nat) : List D := (List.range n).map fun i => .i (lo + (i : Nat))
theorem rngD_length (lo : Int) (n : Nat) : (rngD lo n).length = n := by unfold rngD; simp
theorem rngD_get {lo : Int} {n i : Nat} {d : D} (h : (rngD lo n)[i]? = some d) : d = .i (lo + (i : Nat)) ∧ i < n := by
  unfold rngD at h
  rw [List.getElem?_map] at h
  obtain ⟨a, h1, h2⟩ := map_some' h
  obtain ⟨h3, h4⟩ := List.getElem?_eq_some_iff.mp h1
  rw [List.length_range] at h3
  rw [List.getElem_range] at h4
  subst h4 h2
  exact ⟨rfl, h3⟩
theorem itr_ok {K : PySem.W.Frag} {E W : Addr → Prop} {lo : Int} {n : Nat} {H1 : Hp} : ItOk K (Itr lo n) E W (rngD lo n) H1 := by
  refine ⟨fun i H2 k hi => ?_, fun H2 k => ?_, fun i H2 x H3 d k y e => ?_⟩
  · rw [rngD_length] at hi; exact hi
  · rw [rngD_length]; exact Nat.le_refl _
  · obtain ⟨e1, y⟩ := y
    subst e1 y
    obtain ⟨e2, _⟩ := rngD_get e
    subst e2
    exact ⟨Same.refl _, fun O2 m _ => .i _⟩
def dwnD (lo : Int) (n : Nat) : List D := (List.range n).map fun i => .i (lo - (i : Nat))
theorem dwn_ok {K : PySem.W.Frag} {E W : Addr → Prop} {lo : Int} {n : Nat} {H1 : Hp} : ItOk K (Itc lo (-1) n) E W (dwnD lo n) H1 := by
  have hl : (dwnD lo n).length = n := by unfold dwnD; simp
  refine ⟨fun i H2 k hi => ?_, fun H2 k => ?_, fun i H2 x H3 d k y e => ?_⟩
  · rw [hl] at hi; exact hi
  · rw [hl]; exact Nat.le_refl _
  · obtain ⟨e1, y⟩ := y
    subst e1 y
    have e2 : d = .i (lo - (i : Nat)) := by
      unfold dwnD at e
      rw [List.getElem?_map] at e
      obtain ⟨a, h1, h2⟩ := map_some' e
      obtain ⟨h3, h4⟩ := List.getElem?_eq_some_iff.mp h1
      rw [List.getElem_range] at h4
      subst h4 h2
      rfl
    have e3 : lo + (i : Nat) * (-1) = lo - (i : Nat) := by omega
    subst e2
    rw [e3]
    exact ⟨Same.refl _, fun O2 m _ => .i _⟩
def smI (i : Int) : Bool := absLe i 4611686018427387903
theorem smI_ok {i : Int} (h : smI i = true) : -(2 ^ 62) ≤ i ∧ i < 2 ^ 62 := by
  have := absLe_ok h
  omega
@[simp] def rng1 : D → Option (List D)
  | .i j => if smI j = true then some (rngD 0 j.toNat) else none
  | _ => none
@[simp] def rng2 : D → D → Option (List D)
  | .i i, .i j => if (smI i && smI j) = true then some (rngD i (j - i).toNat) else none
  | _, _ => none
@[simp] def rng3 : D → D → D → Option (List D)
  | .i i, .i j, .i c => if (smI i && smI j && decide (c = -1)) = true then some (dwnD i (i - j).toNat) else none
  | _, _, _ => none
/-- walked: a list, a tuple, a range object -/
@[simp] def walkD : D → Option (List D)
  | .r lo hi => if (smI lo && smI hi) = true then some (rngD lo (hi - lo).toNat) else none
  | d => seqD d
@[simp] def enumD : Nat → List D → List D
  | _, [] => []
  | n, d :: r => .t [.i n, d] :: enumD (n + 1) r
@[simp] def zipD : List D → List D → List D
  | a :: r, b :: q => .t [a, b] :: zipD r q
  | _, _ => []
theorem enumD_length : ∀ (r : List D) (n : Nat), (enumD n r).length = r.length
  | [], _ => rfl
  | _ :: r, n => by rw [enumD, List.length_cons, List.length_cons, enumD_length r]
theorem enumD_get : ∀ {r : List D} {n i : Nat} {d : D}, (enumD n r)[i]? = some d → ∃ x, r[i]? = some x ∧ d = .t [.i ((n + i : Nat) : Int), x]
  | [], _, _, _, h => by cases h
  | a :: r, n, 0, d, h => by
    rw [enumD, List.getElem?_cons_zero] at h
    cases h
    exact ⟨a, rfl, rfl⟩
  | a :: r, n, i + 1, d, h => by
    rw [enumD, List.getElem?_cons_succ] at h
    obtain ⟨x, h1, h2⟩ := enumD_get h
    refine ⟨x, by rw [List.getElem?_cons_succ]; exact h1, ?_⟩
    rw [h2, show n + 1 + i = n + (i + 1) by omega]
theorem zipD_length : ∀ (r q : List D), (zipD r q).length = min r.length q.length
  | [], _ => by simp [zipD]
  | _ :: _, [] => by simp [zipD]
  | _ :: r, _ :: q => by rw [zipD, List.length_cons, List.length_cons, List.length_cons, zipD_length r q]; omega
theorem zipD_get : ∀ {r q : List D} {i : Nat} {d : D}, (zipD r q)[i]? = some d → ∃ x y, r[i]? = some x ∧ q[i]? = some y ∧ d = .t [x, y]
  | [], _, _, _, h => by simp [zipD] at h
  | _ :: _, [], _, _, h => by simp [zipD] at h
  | a :: r, b :: q, 0, d, h => by
    rw [zipD, List.getElem?_cons_zero] at h
    cases h
    exact ⟨a, b, rfl, rfl, rfl⟩
  | a :: r, b :: q, i + 1, d, h => by
    rw [zipD, List.getElem?_cons_succ] at h
    obtain ⟨x, y, h1, h2, h3⟩ := zipD_get h
    exact ⟨x, y, h1, h2, h3⟩
section
variable {X : Cx} {tg e e2 : Expr} {f : EvF} {fs : List Cell → Option (List D)} {b : Bool} {p pos : Pos} {es : List Expr}
theorem di_of (h : DX b X e f) : DI b X tg e (fun env => (f env).bind walkD) := by
  intro σ H O env ds R ok Rc z c
  obtain ⟨d, e1, e2⟩ := bind_some' z
  intro pins s I
  refine thn (h σ H O env d (fun v H1 => Same H H1 ∧ RepX b X.K H1 O v d) ok Rc e1 (fun v H1 k r => ⟨k, r⟩) pins s I) fun u s1 ⟨v, H1, I1, rv, k, r⟩ => ?_
  cases hd : seqD d with
  | some xs =>
    have e3 : xs = ds := by
      cases d <;> first
        | (cases hd; done)
        | (cases hd; cases e2; rfl)
    subst e3
    obtain ⟨kd, a, vs, rfl, st, rl⟩ := r.seq hd
    cases rv
    exact pieS I1 (st H1 Kp.refl) (c _ _ k (itS_ok eo_sub st rl))
  | none =>
    cases d <;> first
      | (cases e2; done)
      | (cases hd; done)
      | skip
    rename_i lo hi _
    have e2 : (if (smI lo && smI hi) = true then some (rngD lo (hi - lo).toNat) else none) = some ds := e2
    split at e2
    · rename_i hg
      cases e2
      rw [Bool.and_eq_true] at hg
      obtain ⟨g1, g2⟩ := smI_ok hg.1
      obtain ⟨g3, g4⟩ := smI_ok hg.2
      have hB : RepB X.K H1 O v (.r lo hi) := by
        unfold RepX at r
        split at r
        · exact .inl r
        · exact r
      obtain ⟨a, rfl, ha⟩ := hB.rng
      cases rv
      obtain ⟨t, u, w, e0⟩ := I1.hok _ _ ha
      refine wpAny_pyIter_range (r := a) (a := lo) (b := hi) (c := 1) (t := t) (u := u) (v := w) e0 (small_one g1 g2 g3 g4) ?_
      refine pi_one (tk := s1.toks) I1 _ (turn_range _ lo (hi - lo).toNat) ?_ (c _ _ k itr_ok)
      have e1 : lo + ((0 : Nat) : Int) * 1 = lo := by simp
      have e2 : (((hi - lo).toNat : Nat) : Int) - ((0 : Nat) : Int) = Builtin.Range.rangeSize lo hi 1 := by rw [rangeSize_one]; split <;> omega
      show IsRangeIter _ _ (lo + ((0 : Nat) : Int) * 1) ((((hi - lo).toNat : Nat) : Int) - ((0 : Nat) : Int)) 1
      rw [e1, e2]
      exact Heap.get?_push_size _ rfl
    · cases e2
theorem starE1 (h : starEach [e] X.env = (false, eval e X.env) :: starEach [] X.env) : starEach [e] X.env = [(false, eval e X.env)] := by rw [h]; rfl
theorem di_range1 (hg : Gl X "range") (hm : X.mg "range" = none) (ha : DB X e f) (hs : starEach [e] X.env = [(false, eval e X.env)]) : DI b X tg (.Call (.Name "range" p) [e] [] pos) (fun env => (f env).bind rng1) := by
  intro σ H O env ds R ok Rc z c
  obtain ⟨x, e1, e2⟩ := bind_some' z
  refine PIw (pi_range1 hg hm (pa_cons wE_pe pa_nil (by rw [hs]; rfl)) hs) (ha σ H O env x _ ok Rc e1 fun v H1 k r => ?_)
  unfold rng1 at e2
  split at e2
  · split at e2
    · rename_i j hj
      cases e2
      obtain ⟨g1, g2⟩ := smI_ok hj
      obtain rfl := r.int
      exact ⟨j, rfl, g1, g2, c _ _ k itr_ok⟩
    · cases e2
  · cases e2
theorem di_range2 {a a2 : Expr} {g : EvF} (hg : Gl X "range") (hm : X.mg "range" = none) (ha : DB X a f) (hb : DB X a2 g) (hs : starEach [a, a2] X.env = (false, eval a X.env) :: starEach [a2] X.env) (hs2 : starEach [a2] X.env = [(false, eval a2 X.env)]) :
    DI b X tg (.Call (.Name "range" p) [a, a2] [] pos) (fun env => (f env).bind fun x => (g env).bind fun y => rng2 x y) := by
  intro σ H O env ds R ok Rc z c
  obtain ⟨x, e1, z⟩ := bind_some' z
  obtain ⟨y, e2, e3⟩ := bind_some' z
  refine PIw (pi_range2 hg hm (pa_cons wE_pe (pa_cons wE_pe pa_nil (by rw [hs2]; rfl)) hs) (by rw [hs, hs2]) hs2) (ha σ H O env x _ ok Rc e1 fun v H1 k1 r1 => hb σ H1 O env y _ (ok.same k1) (Rc.same k1) e2 fun w H2 k2 r2 => ?_)
  unfold rng2 at e3
  split at e3
  · split at e3
    · rename_i i j hj
      cases e3
      rw [Bool.and_eq_true] at hj
      obtain ⟨g1, g2⟩ := smI_ok hj.1
      obtain ⟨g3, g4⟩ := smI_ok hj.2
      obtain rfl := r1.int
      obtain rfl := r2.int
      exact ⟨i, j, rfl, ⟨g1, g2, g3, g4⟩, c _ _ (k1.trans k2) itr_ok⟩
    · cases e3
  · cases e3
theorem di_range3 {a a2 a3 : Expr} {g h : EvF} (hg : Gl X "range") (hm : X.mg "range" = none) (ha : DB X a f) (hb : DB X a2 g) (hc : DB X a3 h) (hs : starEach [a, a2, a3] X.env = (false, eval a X.env) :: starEach [a2, a3] X.env)
    (hs2 : starEach [a2, a3] X.env = (false, eval a2 X.env) :: starEach [a3] X.env) (hs3 : starEach [a3] X.env = [(false, eval a3 X.env)]) (hpl : (backTo pos (starEach [a2, a3] X.env)).any (·.1) = false) :
    DI b X tg (.Call (.Name "range" p) [a, a2, a3] [] pos) (fun env => (f env).bind fun x => (g env).bind fun y => (h env).bind fun z => rng3 x y z) := by
  intro σ H O env ds R ok Rc z c
  obtain ⟨x, e1, z⟩ := bind_some' z
  obtain ⟨y, e2, z⟩ := bind_some' z
  obtain ⟨u, e3, e4⟩ := bind_some' z
  refine PIw (pi_range3 hg hm (pa_cons wE_pe (pa_cons wE_pe (pa_cons wE_pe pa_nil (by rw [hs3]; rfl)) hs2) hs) hs hpl)
    (ha σ H O env x _ ok Rc e1 fun v H1 k1 r1 => hb σ H1 O env y _ (ok.same k1) (Rc.same k1) e2 fun w H2 k2 r2 => hc σ H2 O env u _ ((ok.same k1).same k2) ((Rc.same k1).same k2) e3 fun w3 H3 k3 r3 => ?_)
  unfold rng3 at e4
  split at e4
  · split at e4
    · rename_i i jj c' hj
      cases e4
      rw [Bool.and_eq_true, Bool.and_eq_true, decide_eq_true_eq] at hj
      obtain ⟨⟨h1, h2⟩, h3⟩ := hj
      subst h3
      obtain ⟨g1, g2⟩ := smI_ok h1
      obtain ⟨g3, g4⟩ := smI_ok h2
      obtain rfl := r1.int
      obtain rfl := r2.int
      obtain rfl := r3.int
      exact ⟨_, _, -1, _, rfl, RgC.neg g1 g2 g3 g4, c _ _ ((k1.trans k2).trans k3) dwn_ok⟩
    · cases e4
  · cases e4
/-- enumerate(list or tuple), to several names -/
theorem di_enum {elts : List Expr} {kk : Nat} {tpos : Pos} (hg : Gl X "enumerate") (hm : X.mg "enumerate" = none) (ha : DX b X e f) (hs : starEach [e] X.env = [(false, eval e X.env)]) :
    DI b X (.Tuple elts kk tpos) (.Call (.Name "enumerate" p) [e] [] pos) (fun env => (f env).bind fun d => (seqD d).map (enumD 0)) := by
  intro σ H O env ds R ok Rc z c
  obtain ⟨x, e1, e2⟩ := bind_some' z
  obtain ⟨xs, e3, e4⟩ := map_some' e2
  clear e2
  have e2 := e3
  subst e4
  refine PIw (pi_enumA hg hm (pa_cons wE_pe pa_nil (by rw [hs]; rfl)) hs) (ha σ H O env x _ ok Rc e1 fun v H1 k r => ?_)
  obtain ⟨kd, a, vs, rfl, st, rl⟩ := r.seq e2
  refine ⟨kd, a, vs, rfl, st H1 Kp.refl, c _ _ k ⟨fun i H2 k2 hi => ?_, fun H2 k2 => ?_, fun i H2 x H3 d k2 y e => ?_⟩⟩
  · rw [enumD_length, ← rl.length] at hi
    exact ⟨vs, vs[i], st H2 k2, List.getElem?_eq_getElem hi⟩
  · rw [enumD_length]
    exact ⟨vs, st H2 k2, rl.length⟩
  · obtain ⟨T, x', e4, hT, e5, hx⟩ := y
    subst e4 e5
    obtain ⟨d', h1, h2⟩ := enumD_get e
    subst h2
    obtain ⟨v, h3, h4⟩ := rl.get h1
    have h5 := hx vs (st H2 k2)
    rw [h3] at h5
    cases h5
    refine ⟨same_new hT, fun O2 m ok2 => Rep.newT ok2 hT (.cons ?_ (.cons (h4.go k2 eo_sub m) .nil))⟩
    rw [Nat.zero_add]
    exact .i _
/-- zip of two, to several names -/
theorem di_zip {elts : List Expr} {kk : Nat} {tpos : Pos} {g : EvF} (hg : Gl X "zip") (hm : X.mg "zip" = none) (ha : DX b X e f) (hb : DX b X e2 g) (hs : starEach [e, e2] X.env = (false, eval e X.env) :: starEach [e2] X.env)
    (hs2 : starEach [e2] X.env = [(false, eval e2 X.env)]) (hpl : (backTo pos (starEach [e2] X.env)).any (·.1) = false) :
    DI b X (.Tuple elts kk tpos) (.Call (.Name "zip" p) [e, e2] [] pos) (fun env => (f env).bind fun d => (g env).bind fun d' => (seqD d).bind fun xs => (seqD d').map fun ys => zipD xs ys) := by
  intro σ H O env ds R ok Rc z c
  obtain ⟨x, e1, z⟩ := bind_some' z
  obtain ⟨y, e2', z⟩ := bind_some' z
  obtain ⟨xs, e3, z⟩ := bind_some' z
  obtain ⟨ys, e4, e5⟩ := map_some' z
  subst e5
  refine PIw (pi_zipAA hg hm (pa_cons wE_pe (pa_cons wE_pe pa_nil (by rw [hs2]; rfl)) hs) hs hpl) (ha σ H O env x _ ok Rc e1 fun v H1 k1 r1 => hb σ H1 O env y _ (ok.same k1) (Rc.same k1) e2' fun w H2 k2 r2 => ?_)
  obtain ⟨kd, a, vs, rfl, st, rl⟩ := (r1.same k2).seq e3
  obtain ⟨kd', a', ws, rfl, st', rl'⟩ := r2.seq e4
  refine ⟨kd, a, vs, kd', a', ws, rfl, st H2 Kp.refl, st' H2 Kp.refl, c _ _ (k1.trans k2) ⟨fun i H3 k3 hi => ?_, fun H3 k3 => ?_, fun i H3 x H4 d k3 y e => ?_⟩⟩
  · rw [zipD_length, ← rl.length, ← rl'.length] at hi
    exact ⟨vs, ws, vs[i], ws[i], st H3 k3, st' H3 k3, List.getElem?_eq_getElem (by omega), List.getElem?_eq_getElem (by omega)⟩
  · rw [zipD_length]
    exact ⟨vs, ws, st H3 k3, st' H3 k3, by rw [rl.length, rl'.length]⟩
  · obtain ⟨T, x', y', q1, hT, q2, hx, hy⟩ := y
    subst q1 q2
    obtain ⟨d1, d2, h1, h1', h2⟩ := zipD_get e
    subst h2
    obtain ⟨v, h3, h4⟩ := rl.get h1
    obtain ⟨w, h3', h4'⟩ := rl'.get h1'
    have h5 := hx vs (st H3 k3)
    rw [h3] at h5
    cases h5
    have h6 := hy ws (st' H3 k3)
    rw [h3'] at h6
    cases h6
    exact ⟨same_new hT, fun O2 m ok2 => Rep.newT ok2 hT (.cons (h4.go k3 eo_sub m) (.cons (h4'.go k3 eo_sub m) .nil))⟩

/-! ### a range object as a value -/
theorem de_rngv1 (hg : Gl X "range") (hm : X.mg "range" = none) (ha : DB X e f) (hs : starEach [e] X.env = (false, eval e X.env) :: starEach [] X.env) (hpl : (backTo pos (starEach [] X.env)).any (·.1) = false) :
    DE X (.Call (.Name "range" p) [e] [] pos) (fun env => (f env).bind fun d => match d with
      | .i j => some (.r 0 j)
      | _ => none) := by
  intro σ H O env d Q ok R z c
  obtain ⟨x, e1, e2⟩ := bind_some' z
  refine PEw (pe_callTy can_ok hg hm boot_range (pa_cons wE_pe pa_nil hs) (by decide) (by decide) hs hpl) (ha σ H O env x _ ok R e1 fun v H1 k r => ?_)
  cases x <;> first
    | (cases e2; done)
    | skip
  rename_i j
  cases e2
  obtain rfl := r.int
  intro pins s σ' us I rv
  cases rv with
  | cons rr rv =>
    cases rv
    obtain ⟨t, rfl⟩ := rr
    refine call_range_1 ⟨.ref s.heap.objs.size, upd H1 s.heap.objs.size (.rng 0 j), I.laid (fun b o e => Heap.get?_push_of_some _ e) (Nat.le_refl _) ?_, rfl, c _ _ (k.trans (same_new (I.hok.fresh (Nat.le_refl _)))) (.r upd_same fun z => (ok.same k) _ z (I.hok.fresh (Nat.le_refl _)))⟩
    exact ⟨_, _, _, Heap.get?_push_size _ rfl⟩
end
end PL
/-! PL j: list comprehensions on data. -/
namespace PL
open PySem PySem.Spec PyProof.Rows L2

/-- a block of the comprehension, whichever -/
def Blk (X : Cx) (scope : Scope) (Y : Cx) : Prop := ∃ (s : Shared) (H : Hp) (C : Addr) (cl : List (Str × Addr)) (fp : List Addr), Y = X.blk s H scope (compEnvC scope cl C X.env) fp
def bE (X : Cx) (scope : Scope) (e : Expr) : TE := fun σ H Q => ∀ Y, Blk X scope Y → wE Y e σ H Q
def bG (X : Cx) (scope : Scope) (tg : Expr) : TG := fun v σ H Q => ∀ Y, Blk X scope Y → wG Y tg v σ H Q
def bI (X : Cx) (scope : Scope) (tg iter : Expr) : TI := fun σ H R => ∀ Y, Blk X scope Y → wI Y tg iter σ H R
def wTs (X : Cx) (ifs : List Expr) : TT := fun σ H Q => ∀ (pins : List (Addr × Obj)) (s : Shared), Inv X pins σ H s →
  wpAny (model X.prog X.w) X.A (forIn ifs true fun c r => if r = true then do let ok ← isTrue c X.env (eval c X.env); pure (ForInStep.yield ok) else pure (ForInStep.yield r)) (TP X pins σ Q) X.xe s
def bTs (X : Cx) (scope : Scope) (ifs : List Expr) : TT := fun σ H Q => ∀ Y, Blk X scope Y → wTs Y ifs σ H Q
theorem wTs_pts {X : Cx} {ifs : List Expr} : PTs X ifs (wTs X ifs) := ⟨fun pins s σ H Q I h => h pins s I⟩
theorem PTsw {X : Cx} {ifs : List Expr} {t : TT} (h : PTs X ifs t) {σ : L2.St} {H : Hp} {Q : Bool → Hp → Prop} (q : t σ H Q) : wTs X ifs σ H Q := fun pins s I => h.run pins s σ H Q I q
theorem bE_pe {X : Cx} {scope : Scope} {e : Expr} (s : Shared) (H : Hp) (C : Addr) (cl : List (Str × Addr)) (fp : List Addr) : PE (X.blk s H scope (compEnvC scope cl C X.env) fp) e (bE X scope e) := ⟨fun pins s' σ H' Q I h => h _ ⟨s, H, C, cl, fp, rfl⟩ pins s' I⟩
theorem bG_pg {X : Cx} {scope : Scope} {e : Expr} (s : Shared) (H : Hp) (C : Addr) (cl : List (Str × Addr)) (fp : List Addr) : PG (X.blk s H scope (compEnvC scope cl C X.env) fp) e (bG X scope e) := ⟨fun pins s' σ H' v u Q I r h => h _ ⟨s, H, C, cl, fp, rfl⟩ pins s' u I r⟩
theorem bI_pi {X : Cx} {scope : Scope} {tg e : Expr} (s : Shared) (H : Hp) (C : Addr) (cl : List (Str × Addr)) (fp : List Addr) : PI (X.blk s H scope (compEnvC scope cl C X.env) fp) tg e (bI X scope tg e) := ⟨fun pins s' σ H' R I h => h _ ⟨s, H, C, cl, fp, rfl⟩ pins s' I⟩
theorem bTs_pts {X : Cx} {scope : Scope} {ifs : List Expr} (s : Shared) (H : Hp) (C : Addr) (cl : List (Str × Addr)) (fp : List Addr) : PTs (X.blk s H scope (compEnvC scope cl C X.env) fp) ifs (bTs X scope ifs) := ⟨fun pins s' σ H' Q I h => h _ ⟨s, H, C, cl, fp, rfl⟩ pins s' I⟩

/-- a clause's tests -/
def DTs (X : Cx) (ifs : List Expr) (f : List Cell → Option Bool) : Prop := ∀ (σ : L2.St) (H : Hp) (O : Addr → Prop) (env : List Cell) (d : Bool) (Q : Bool → Hp → Prop), OkO H O → RelC X.K H O σ env → f env = some d →
  (∀ H', Same H H' → Q d H') → wTs X ifs σ H Q
theorem dts_nil {X : Cx} : DTs X [] (fun _ => some true) := fun σ H O env d Q ok R e c => PTsw pts_nil (by cases e; exact c _ (Same.refl _))
theorem dts_one {X : Cx} {c : Expr} {f : List Cell → Option Bool} (h : DT X c f) : DTs X [c] f := fun σ H O env d Q ok R e k => PTsw (pts_one wT_pt) (h σ H O env d Q ok R e k)

@[simp] def compD (t : Tg) (ft : List Cell → Option Bool) (f : EvF) (env : List Cell) : List D → Option (List D)
  | [] => some []
  | d :: ds => (bindT t d env).bind fun env1 => (ft env1).bind fun c => if c = true then (f env1).bind fun y => (compD t ft f env ds).bind fun ys => some (y :: ys) else compD t ft f env ds
theorem RelC.mono {K : PySem.W.Frag} {H : Hp} {O O' : Addr → Prop} {σ : L2.St} {env : List Cell} (h : RelC K H O σ env) (m : ∀ a, O' a → O a ∨ H a = none) : RelC K H O' σ env := ⟨h.1, fun i c e => by
  have q := h.2 i c e
  cases c with
  | no => trivial
  | v d => obtain ⟨x, e1, r⟩ := q; exact ⟨x, e1, r.mono m⟩
  | o d => obtain ⟨a, xs, ds, e1, e2, e3, r⟩ := q; exact ⟨a, xs, ds, e1, e2, e3, r.mono m⟩⟩
theorem Kp.same {E : Addr → Prop} {H H' : Hp} (h : Same H H') : Kp E H H' := fun a o e _ => h a o e
theorem same_at {H1 H2 : Hp} {D : Addr} {o : HO} (s : Same H1 H2) (n : H1 D = none) : Same H1 (upd H2 D o) := fun a x e => by
  rw [upd_ne (ne_of_none e n)]
  exact s a x e
section
variable {X : Cx} {tg iter elt : Expr} {ifs : List Expr} {scope : Scope} {own : List (Str × Nat)} {pos : Pos} {fs : List Cell → Option (List D)} {t : Tg} {ft : List Cell → Option Bool} {f : EvF} {b : Bool}
@[simp] def lcV (fs : List Cell → Option (List D)) (t : Tg) (ft : List Cell → Option Bool) (f : EvF) (vs : List Nat) : EvF := fun env => (fs env).bind fun ds => (compD t ft f (wipeC env vs) ds).bind fun ys => if ys.length ≤ SZ then some (.l ys) else none
/-- the list's address -/
def atD (O : Addr → Prop) (D : Addr) : Addr → Prop := fun b => O b ∨ b = D
theorem tlc_go (hi : DI b X tg iter fs) (hg : ∀ Y, Blk X scope Y → DG Y tg t) (ht : ∀ Y, Blk X scope Y → DTs Y ifs ft) (he : ∀ Y, Blk X scope Y → DE Y elt f) {vs : List Nat} (hsub : ∀ i ∈ t.slots, i ∈ vs)
    {σ : L2.St} {H : Hp} {O : Addr → Prop} {env : List Cell} {d : D} {Q : VK} (ok : OkO H O) (R : RelC X.K H O σ env) (z : lcV fs t ft f vs env = some d)
    (c : ∀ a xs ds H', Same H H' → H a = none → d = .l ds → H' a = some (.lst xs) → RepL X.K H' (fun b => O b ∨ b = a) xs ds → Q (.ref a) H') :
    tLc (wI X tg iter) (bG X scope tg) (bTs X scope ifs) (bE X scope elt) vs σ H Q := by
  obtain ⟨ds, e1, z⟩ := bind_some' z
  obtain ⟨ys, e2, z⟩ := bind_some' z
  split at z <;> first
    | (cases z; done)
    | skip
  rename_i hz
  cases z
  refine hi σ H O env ds _ ok R e1 fun J H1 k it => fun D hD => ?_
  have ok1 := ok.same k
  have RW : RelC X.K H1 (atD O D) (wipe σ vs) (wipeC env vs) := ((R.same k).wipe vs).mono fun a z => z.elim .inl fun e => .inr (by rw [e]; exact hD)
  refine ⟨fun i m H2 => m = ds.length - i ∧ i ≤ ds.length ∧ Same H1 H2 ∧ ∃ acc dacc rest, H2 D = some (.lst acc) ∧ RepL X.K H2 (atD O D) acc dacc ∧ compD t ft f (wipeC env vs) (ds.drop i) = some rest ∧ dacc ++ rest = ys,
    ⟨ds.length, rfl, Nat.zero_le _, same_new hD, [], [], ys, upd_same, .nil, by rw [List.drop_zero]; exact e2, rfl⟩, ?_⟩
  rintro i m H2 ⟨rfl, hi, s2, acc, dacc, rest, hacc, racc, e3, e4⟩
  have ok2 : OkO H2 (atD O D) := fun a z => z.elim (fun q => (ok1.same s2) a q) fun e => by rw [e, hacc]; exact fun q => nomatch q
  by_cases hlt : i < ds.length
  · refine .inr ⟨it.go i H2 (Kp.same s2) hlt, fun H' => Same H1 H' ∧ ∃ acc dacc rest, H' D = some (.lst acc) ∧ RepL X.K H' (atD O D) acc dacc ∧ compD t ft f (wipeC env vs) (ds.drop (i + 1)) = some rest ∧ dacc ++ rest = ys,
      fun H' q => ⟨ds.length - (i + 1), by omega, rfl, hlt, q⟩, fun x H3 y => ?_⟩
    have ei : ds[i]? = some ds[i] := List.getElem?_eq_getElem hlt
    obtain ⟨s3, rx⟩ := it.yld i H2 x H3 _ (Kp.same s2) y ei
    have rx := rx (atD O D) (fun a z => z.elim .inl fun e => .inr (by rw [e]; exact hD)) ok2
    rw [List.drop_eq_getElem_cons hlt, compD] at e3
    obtain ⟨env1, e5, e3⟩ := bind_some' e3
    obtain ⟨tb, e6, e3⟩ := bind_some' e3
    rintro Y ⟨s', H', C, cl, fp, rfl⟩
    refine hg _ ⟨s', H', C, cl, fp, rfl⟩ x _ (wipe σ vs) H3 (atD O D) _ env1 _ (RW.same (s2.trans s3)) rx e5 fun σ' R' off => ⟨wipe_off (off.mono hsub), ?_⟩
    rintro Y ⟨s', H', C, cl, fp, rfl⟩
    refine ht _ ⟨s', H', C, cl, fp, rfl⟩ σ' H3 (atD O D) env1 tb _ (ok2.same s3) R' e6 fun H4 s4 => ?_
    cases tb with
    | false =>
      have e3 : compD t ft f (wipeC env vs) (List.drop (i + 1) ds) = some rest := e3
      refine iteF ⟨(s2.trans s3).trans s4, acc, dacc, rest, ?_, (racc.same (s3.trans s4)), e3, e4⟩
      exact (s3.trans s4) _ _ hacc
    | true =>
      have e3 : ((f env1).bind fun y => (compD t ft f (wipeC env vs) (List.drop (i + 1) ds)).bind fun ys => some (y :: ys)) = some rest := e3
      obtain ⟨dy, e7, e3⟩ := bind_some' e3
      obtain ⟨rest', e8, e3⟩ := bind_some' e3
      cases e3
      refine iteT ?_
      rintro Y ⟨s', H', C, cl, fp, rfl⟩
      refine he _ ⟨s', H', C, cl, fp, rfl⟩ σ' H4 (atD O D) env1 dy _ (ok2.same (s3.trans s4)) (R'.same s4) e7 fun y H5 s5 ry => ?_
      have sA := (s3.trans s4).trans s5
      have hacc5 := sA _ _ hacc
      have la := racc.length
      refine ⟨acc, hacc5, ?_, same_at (s2.trans sA) hD, acc ++ [y], dacc ++ [dy], rest', upd_same, ?_, e8, by rw [List.append_assoc]; exact e4⟩
      · have hl : (dacc ++ dy :: rest').length ≤ SZ := by rw [e4]; exact hz
        rw [List.length_append, List.length_cons] at hl
        rw [SZ_eq, la]
        omega
      · have rr := (racc.same sA).append (.cons ry .nil)
        exact rr.kp fun a o e n => by
          rw [upd_ne (fun z => n (.inr z))]
          exact e
  · have e : i = ds.length := by omega
    subst e
    rw [List.drop_length, compD] at e3
    cases e3
    rw [List.append_nil] at e4
    subst e4
    exact .inl ⟨it.stop H2 (Kp.same s2), c D acc dacc H2 (k.trans s2) (k.free hD) rfl hacc racc⟩
theorem df_lc (hc : X.calm = true) (hN : X.N.Nodup) (hb : blkC X.N X.env.scope scope own = true) (hs : ∀ x, foldedSetIterable iter X.env x = pure x) (hi : DI b X tg iter fs) (hg : ∀ Y, Blk X scope Y → DG Y tg t) (ht : ∀ Y, Blk X scope Y → DTs Y ifs ft) (he : ∀ Y, Blk X scope Y → DE Y elt f)
    (hsub : ∀ i ∈ t.slots, i ∈ own.map (·.2)) : DF X (.ListComp elt [⟨tg, iter, ifs, 0⟩] scope pos) (lcV fs t ft f (own.map (·.2))) :=
  fun σ H O env d Q ok R z c => PEw (pe_lc hc hN wI_pi (blkOk_by hb) bG_pg bTs_pts bE_pe hs) (tlc_go hi hg ht he hsub ok R z c)

/-! ### two clauses -/
@[simp] def compD2 (t : Tg) (ft : List Cell → Option Bool) (fs1 : List Cell → Option (List D)) (t1 : Tg) (ft1 : List Cell → Option Bool) (f : EvF) (vs1 : List Nat) (env : List Cell) : List D → Option (List D)
  | [] => some []
  | d :: ds => (bindT t d env).bind fun env1 => (ft env1).bind fun c => if c = true then (fs1 env1).bind fun ds1 => (compD t1 ft1 f (wipeC env1 vs1) ds1).bind fun ys1 => (compD2 t ft fs1 t1 ft1 f vs1 env ds).bind fun ys => some (ys1 ++ ys) else compD2 t ft fs1 t1 ft1 f vs1 env ds
@[simp] def lcV2 (fs : List Cell → Option (List D)) (t : Tg) (ft : List Cell → Option Bool) (fs1 : List Cell → Option (List D)) (t1 : Tg) (ft1 : List Cell → Option Bool) (f : EvF) (vs : List Nat) : EvF := fun env => (fs env).bind fun ds => (compD2 t ft fs1 t1 ft1 f t1.slots (wipeC env vs) ds).bind fun ys => if ys.length ≤ SZ then some (.l ys) else none
variable {tg1 iter1 : Expr} {ifs1 : List Expr} {fs1 : List Cell → Option (List D)} {t1 : Tg} {ft1 : List Cell → Option Bool}
mutual
theorem bindT_own : ∀ (t : Tg) {d : D} {env env1 : List Cell}, bindT t d env = some env1 → ∀ (i : Nat) (x : D), env1[i]? = some (.o x) → env[i]? = some (.o x) ∧ i ∉ t.slots
  | .nm j, d, env, env1, h, i, x, e => by
    rw [bindT] at h
    cases h
    rw [Tg.slots]
    by_cases hj : j = i
    · subst hj
      rw [List.getElem?_set, if_pos rfl] at e
      split at e <;> cases e
    · rw [List.getElem?_set_ne hj] at e
      exact ⟨e, fun z => hj (List.mem_singleton.mp z).symm⟩
  | .tp ts, d, env, env1, h, i, x, e => by
    cases d <;> first
      | (rw [bindT] at h <;> first | (cases h; done) | (intros; simp_all; done))
      | skip
    rw [bindT] at h
    rw [Tg.slots]
    exact bindTs_own ts h i x e
theorem bindTs_own : ∀ (ts : List Tg) {ds : List D} {env env1 : List Cell}, bindTs ts ds env = some env1 → ∀ (i : Nat) (x : D), env1[i]? = some (.o x) → env[i]? = some (.o x) ∧ i ∉ Tg.slotsL ts
  | [], [], env, env1, h, i, x, e => by
    rw [bindTs] at h
    cases h
    rw [Tg.slotsL]
    exact ⟨e, fun z => nomatch z⟩
  | [], _ :: _, _, _, h, _, _, _ => by rw [bindTs] at h <;> first | (cases h; done) | (intros; simp_all)
  | _ :: _, [], _, _, h, _, _, _ => by rw [bindTs] at h <;> first | (cases h; done) | (intros; simp_all)
  | t :: ts, d :: ds, env, env1, h, i, x, e => by
    rw [bindTs] at h
    obtain ⟨env2, h1, h2⟩ := bind_some' h
    obtain ⟨g1, g2⟩ := bindTs_own ts h2 i x e
    obtain ⟨g3, g4⟩ := bindT_own t h1 i x g1
    rw [Tg.slotsL]
    exact ⟨g3, fun z => (List.mem_append.mp z).elim g4 g2⟩
end
theorem wipeC_own {env : List Cell} : ∀ {vs : List Nat} {i : Nat} {x : D}, (wipeC env vs)[i]? = some (.o x) → env[i]? = some (.o x) ∧ i ∉ vs
  | [], _, _, h => ⟨h, fun z => nomatch z⟩
  | v :: vs, i, x, h => by
    unfold wipeC at h
    by_cases hv : v = i
    · subst hv
      rw [List.getElem?_set, if_pos rfl] at h
      split at h <;> cases h
    · rw [List.getElem?_set_ne hv] at h
      obtain ⟨h1, h2⟩ := wipeC_own h
      exact ⟨h1, fun z => (List.mem_cons.mp z).elim (fun q => hv q.symm) h2⟩
theorem kp_at {E : Addr → Prop} {H H' : Hp} {D : Addr} {o : HO} (h : Kp E H H') (e : E D) : Kp E H (upd H' D o) := fun a x q n => by
  rw [upd_ne (fun z => n (by rw [z]; exact e))]
  exact h a x q n
theorem tlc2_go (hi : DI b X tg iter fs) (hg : ∀ Y, Blk X scope Y → DG Y tg t) (ht : ∀ Y, Blk X scope Y → DTs Y ifs ft) (hi1 : ∀ Y, Blk X scope Y → DI true Y tg1 iter1 fs1) (hg1 : ∀ Y, Blk X scope Y → DG Y tg1 t1) (ht1 : ∀ Y, Blk X scope Y → DTs Y ifs1 ft1)
    (he : ∀ Y, Blk X scope Y → DE Y elt f) {vs : List Nat} (hsub : ∀ i ∈ t.slots, i ∈ vs)
    {σ : L2.St} {H : Hp} {O : Addr → Prop} {env : List Cell} {d : D} {Q : VK} (ok : OkO H O) (R : RelC X.K H O σ env) (z : lcV2 fs t ft fs1 t1 ft1 f vs env = some d)
    (c : ∀ a xs ds H', Same H H' → H a = none → d = .l ds → H' a = some (.lst xs) → RepL X.K H' (fun b => O b ∨ b = a) xs ds → Q (.ref a) H') :
    tLc2 (wI X tg iter) (bG X scope tg) (bTs X scope ifs) (bI X scope tg1 iter1) (bG X scope tg1) (bTs X scope ifs1) (bE X scope elt) vs t1.slots σ H Q := by
  obtain ⟨ds, e1, z⟩ := bind_some' z
  obtain ⟨ys, e2, z⟩ := bind_some' z
  split at z <;> first
    | (cases z; done)
    | skip
  rename_i hz
  cases z
  refine hi σ H O env ds _ ok R e1 fun J H1 k it => fun D hD => ?_
  have ok1 := ok.same k
  have RW : RelC X.K H1 (atD O D) (wipe σ vs) (wipeC env vs) := ((R.same k).wipe vs).mono fun a z => z.elim .inl fun e => .inr (by rw [e]; exact hD)
  refine ⟨fun i m H2 => m = ds.length - i ∧ i ≤ ds.length ∧ Same H1 H2 ∧ ∃ acc dacc rest, H2 D = some (.lst acc) ∧ RepL X.K H2 (atD O D) acc dacc ∧ compD2 t ft fs1 t1 ft1 f t1.slots (wipeC env vs) (ds.drop i) = some rest ∧ dacc ++ rest = ys,
    ⟨ds.length, rfl, Nat.zero_le _, same_new hD, [], [], ys, upd_same, .nil, by rw [List.drop_zero]; exact e2, rfl⟩, ?_⟩
  rintro i m H2 ⟨rfl, hi, s2, acc, dacc, rest, hacc, racc, e3, e4⟩
  have ok2 : OkO H2 (atD O D) := fun a z => z.elim (fun q => (ok1.same s2) a q) fun e => by rw [e, hacc]; exact fun q => nomatch q
  by_cases hlt : i < ds.length
  · refine .inr ⟨it.go i H2 (Kp.same s2) hlt, fun H' => Same H1 H' ∧ ∃ acc dacc rest, H' D = some (.lst acc) ∧ RepL X.K H' (atD O D) acc dacc ∧ compD2 t ft fs1 t1 ft1 f t1.slots (wipeC env vs) (ds.drop (i + 1)) = some rest ∧ dacc ++ rest = ys,
      fun H' q => ⟨ds.length - (i + 1), by omega, rfl, hlt, q⟩, fun x H3 y => ?_⟩
    have ei : ds[i]? = some ds[i] := List.getElem?_eq_getElem hlt
    obtain ⟨s3, rx⟩ := it.yld i H2 x H3 _ (Kp.same s2) y ei
    have rx := rx (atD O D) (fun a z => z.elim .inl fun e => .inr (by rw [e]; exact hD)) ok2
    rw [List.drop_eq_getElem_cons hlt, compD2] at e3
    obtain ⟨env1, e5, e3⟩ := bind_some' e3
    obtain ⟨tb, e6, e3⟩ := bind_some' e3
    rintro Y ⟨s', H', C, cl, fp, rfl⟩
    refine hg _ ⟨s', H', C, cl, fp, rfl⟩ x _ (wipe σ vs) H3 (atD O D) _ env1 _ (RW.same (s2.trans s3)) rx e5 fun σ' R' off => ⟨wipe_off (off.mono hsub), ?_⟩
    rintro Y ⟨s', H', C, cl, fp, rfl⟩
    refine ht _ ⟨s', H', C, cl, fp, rfl⟩ σ' H3 (atD O D) env1 tb _ (ok2.same s3) R' e6 fun H4 s4 => ?_
    cases tb with
    | false =>
      have e3 : compD2 t ft fs1 t1 ft1 f t1.slots (wipeC env vs) (List.drop (i + 1) ds) = some rest := e3
      refine iteF ⟨(s2.trans s3).trans s4, acc, dacc, rest, ?_, (racc.same (s3.trans s4)), e3, e4⟩
      exact (s3.trans s4) _ _ hacc
    | true =>
      have e3 : ((fs1 env1).bind fun ds1 => (compD t1 ft1 f (wipeC env1 t1.slots) ds1).bind fun ys1 => (compD2 t ft fs1 t1 ft1 f t1.slots (wipeC env vs) (List.drop (i + 1) ds)).bind fun ys => some (ys1 ++ ys)) = some rest := e3
      obtain ⟨ds1, e7, e3⟩ := bind_some' e3
      obtain ⟨ys1, e8, e3⟩ := bind_some' e3
      obtain ⟨rest', e9, e3⟩ := bind_some' e3
      cases e3
      refine iteT ?_
      rintro Y ⟨s', H', C, cl, fp, rfl⟩
      refine hi1 _ ⟨s', H', C, cl, fp, rfl⟩ σ' H4 (atD O D) env1 ds1 _ (ok2.same (s3.trans s4)) (R'.same s4) e7 fun J1 H5 k5 it1 => ?_
      have sA := (s3.trans s4).trans k5
      have hacc5 := sA _ _ hacc
      have ok5 := ok2.same sA
      have R5 := R'.same (s4.trans k5)
      have RW5 : RelC X.K H5 (atD O D) (wipe σ' t1.slots) (wipeC env1 t1.slots) := R5.wipe t1.slots
      -- the second clause's turns
      refine ⟨fun j m H6 => m = ds1.length - j ∧ j ≤ ds1.length ∧ Kp (Eo true (atD O D)) H5 H6 ∧ ∃ acc dacc rs, H6 D = some (.lst acc) ∧ RepL X.K H6 (atD O D) acc dacc ∧ compD t1 ft1 f (wipeC env1 t1.slots) (ds1.drop j) = some rs ∧ dacc ++ (rs ++ rest') = ys ∧ Same H1 H6 ∧ RelC X.K H6 (atD O D) (wipe σ' t1.slots) (wipeC env1 t1.slots),
        ⟨ds1.length, rfl, Nat.zero_le _, Kp.refl, acc, dacc, ys1, hacc5, racc.same sA, by rw [List.drop_zero]; exact e8, e4, s2.trans sA, RW5⟩, ?_⟩
      rintro j m H6 ⟨rfl, hj, k6, acc, dacc, rs, hacc, racc, g3, g4, s6, R6⟩
      have ok6 : OkO H6 (atD O D) := fun a z => z.elim (fun q => (ok1.same s6) a q) fun e => by rw [e, hacc]; exact fun q => nomatch q
      by_cases hlt1 : j < ds1.length
      · refine .inr ⟨it1.go j H6 k6 hlt1, fun H' => Kp (Eo true (atD O D)) H5 H' ∧ ∃ acc dacc rs, H' D = some (.lst acc) ∧ RepL X.K H' (atD O D) acc dacc ∧ compD t1 ft1 f (wipeC env1 t1.slots) (ds1.drop (j + 1)) = some rs ∧ dacc ++ (rs ++ rest') = ys ∧ Same H1 H' ∧ RelC X.K H' (atD O D) (wipe σ' t1.slots) (wipeC env1 t1.slots),
          fun H' q => ⟨ds1.length - (j + 1), by omega, rfl, hlt1, q⟩, fun x1 H7 y1 => ?_⟩
        have ej : ds1[j]? = some ds1[j] := List.getElem?_eq_getElem hlt1
        obtain ⟨s7, rx1⟩ := it1.yld j H6 x1 H7 _ k6 y1 ej
        have rx1 := rx1 (atD O D) (fun a z => .inl z) ok6
        rw [List.drop_eq_getElem_cons hlt1, compD] at g3
        obtain ⟨env2, g5, g3⟩ := bind_some' g3
        obtain ⟨tb1, g6, g3⟩ := bind_some' g3
        rintro Y ⟨s', H', C, cl, fp, rfl⟩
        refine hg1 _ ⟨s', H', C, cl, fp, rfl⟩ x1 _ (wipe σ' t1.slots) H7 (atD O D) _ env2 _ (R6.same s7) rx1 g5 fun σ2 R2 off1 => ⟨wipe_off off1, ?_⟩
        rintro Y ⟨s', H', C, cl, fp, rfl⟩
        refine ht1 _ ⟨s', H', C, cl, fp, rfl⟩ σ2 H7 (atD O D) env2 tb1 _ (ok6.same s7) R2 g6 fun H8 s8 => ?_
        cases tb1 with
        | false =>
          have g3 : compD t1 ft1 f (wipeC env1 t1.slots) (List.drop (j + 1) ds1) = some rs := g3
          refine iteF ⟨k6.trans (s7.trans s8), acc, dacc, rs, ?_, (racc.same (s7.trans s8)), g3, g4, s6.trans (s7.trans s8), R6.same (s7.trans s8)⟩
          exact (s7.trans s8) _ _ hacc
        | true =>
          have g3 : ((f env2).bind fun y => (compD t1 ft1 f (wipeC env1 t1.slots) (List.drop (j + 1) ds1)).bind fun ys => some (y :: ys)) = some rs := g3
          obtain ⟨dy, g7, g3⟩ := bind_some' g3
          obtain ⟨rs', g8, g3⟩ := bind_some' g3
          cases g3
          refine iteT ?_
          rintro Y ⟨s', H', C, cl, fp, rfl⟩
          refine he _ ⟨s', H', C, cl, fp, rfl⟩ σ2 H8 (atD O D) env2 dy _ (ok6.same (s7.trans s8)) (R2.same s8) g7 fun y H9 s9 ry => ?_
          have sB := (s7.trans s8).trans s9
          have hacc9 := sB _ _ hacc
          have la := racc.length
          have kD : ∀ {o : HO}, Kp (atD O D) H9 (upd H9 D o) := fun {o} => kp_at Kp.refl (.inr rfl)
          refine ⟨acc, hacc9, ?_, kp_at (k6.trans sB) ⟨rfl, .inr rfl⟩, acc ++ [y], dacc ++ [dy], rs', upd_same, ((racc.same sB).append (.cons ry .nil)).kp kD, g8, by rw [List.append_assoc]; exact g4, same_at (s6.trans sB) hD, ?_⟩
          · have hl : (dacc ++ (dy :: rs' ++ rest')).length ≤ SZ := by rw [g4]; exact hz
            rw [List.length_append, List.length_append, List.length_cons] at hl
            rw [SZ_eq, la]
            omega
          · refine ⟨(R6.same sB).1, fun i c e => ?_⟩
            have q := (R6.same sB).2 i c e
            cases c with
            | no => trivial
            | v d => obtain ⟨x, e1, r⟩ := q; exact ⟨x, e1, r.kp kD⟩
            | o d =>
              obtain ⟨a, xs, ds, e1, e2, e3, r⟩ := q
              refine ⟨a, xs, ds, e1, e2, ?_, r.kp kD⟩
              have na : a ≠ D := fun z => ?_
              · rw [upd_ne na]; exact e3
              · subst z
                -- the slot held it before the new list was laid
                obtain ⟨p1, p2⟩ := wipeC_own e
                obtain ⟨p3, p4⟩ := bindT_own t e5 i d p1
                obtain ⟨a', _, _, e1', _, e3', _⟩ := ((R.same k).wipe vs).2 i (.o d) p3
                have q : (wipe σ' t1.slots)[i]? = (wipe σ vs)[i]? := (wipe_out p2).trans (off.2 i p4)
                rw [q, e1'] at e1
                cases e1
                rw [hD] at e3'
                cases e3'
      · have e : j = ds1.length := by omega
        subst e
        rw [List.drop_length, compD] at g3
        cases g3
        exact .inl ⟨it1.stop H6 k6, s6, acc, dacc, rest', hacc, racc, e9, g4⟩
  · have e : i = ds.length := by omega
    subst e
    rw [List.drop_length, compD2] at e3
    cases e3
    rw [List.append_nil] at e4
    subst e4
    exact .inl ⟨it.stop H2 (Kp.same s2), c D acc dacc H2 (k.trans s2) (k.free hD) rfl hacc racc⟩
theorem df_lc2 (hc : X.calm = true) (hN : X.N.Nodup) (hb : blkC X.N X.env.scope scope own = true) (hs : ∀ x, foldedSetIterable iter X.env x = pure x) (hs1 : ∀ env x, foldedSetIterable iter1 env x = pure x) (hi : DI b X tg iter fs) (hg : ∀ Y, Blk X scope Y → DG Y tg t) (ht : ∀ Y, Blk X scope Y → DTs Y ifs ft)
    (hi1 : ∀ Y, Blk X scope Y → DI true Y tg1 iter1 fs1) (hg1 : ∀ Y, Blk X scope Y → DG Y tg1 t1) (ht1 : ∀ Y, Blk X scope Y → DTs Y ifs1 ft1) (he : ∀ Y, Blk X scope Y → DE Y elt f)
    (hsub : ∀ i ∈ t.slots, i ∈ own.map (·.2)) (hsub1 : ∀ i ∈ t1.slots, i ∈ own.map (·.2)) : DF X (.ListComp elt [⟨tg, iter, ifs, 0⟩, ⟨tg1, iter1, ifs1, 0⟩] scope pos) (lcV2 fs t ft fs1 t1 ft1 f (own.map (·.2))) :=
  fun σ H O env d Q ok R z c => PEw (pe_lc2 hc hN wI_pi (blkOk_by hb) hsub1 bG_pg bTs_pts bI_pi bG_pg bTs_pts bE_pe hs hs1) (tlc2_go hi hg ht hi1 hg1 ht1 he hsub ok R z c)
end
end PL
/-! PL k: statements on data. -/
namespace PL
open PySem PySem.Spec PyProof.Rows L2

/-! ### the frame's state -/
/-- the list at a is held by slot i alone -/
def Own (σ : L2.St) (env : List Cell) (i : Nat) (a : Addr) : Prop := (∃ d, env[i]? = some (.o d)) ∧ σ[i]? = some (some (.ref a))
def Ow (O : Addr → Prop) (σ : L2.St) (env : List Cell) : Addr → Prop := fun a => O a ∨ ∃ i, Own σ env i a
/-- H0, M0: the heap at a start, what might be changed then -/
structure RelM (K : PySem.W.Frag) (H0 : Hp) (M0 : Addr → Prop) (H : Hp) (O : Addr → Prop) (σ : L2.St) (env : List Cell) : Prop where
  rel : RelC K H (Ow O σ env) σ env
  ok : OkO H O
  nO : ∀ i a, Own σ env i a → ¬ O a
  inj : ∀ i j a, Own σ env i a → Own σ env j a → i = j
  kp : Kp M0 H0 H
  new : ∀ i a, Own σ env i a → M0 a ∨ H0 a = none
section
variable {K : PySem.W.Frag} {H0 H H' : Hp} {M0 O : Addr → Prop} {σ σ' : L2.St} {env env' : List Cell}
theorem RelC.ownLst (h : RelC K H O σ env) {i : Nat} {a : Addr} (o : Own σ env i a) : ∃ xs ds, env[i]? = some (.o (.l ds)) ∧ H a = some (.lst xs) ∧ RepL K H O xs ds := by
  obtain ⟨⟨d, e1⟩, e2⟩ := o
  obtain ⟨a', xs, ds, g1, g2, g3, r⟩ := h.2 i _ e1
  rw [e2] at g1
  cases g1
  subst g2
  exact ⟨xs, ds, e1, g3, r⟩
theorem RelM.okW (h : RelM K H0 M0 H O σ env) : OkO H (Ow O σ env) := fun a z => by
  rcases z with z | ⟨i, z⟩
  · exact h.ok a z
  · obtain ⟨xs, ds, _, e, _⟩ := h.rel.ownLst z
    rw [e]; exact fun q => nomatch q
theorem RelM.same (h : RelM K H0 M0 H O σ env) (k : Same H H') : RelM K H0 M0 H' O σ env :=
  ⟨h.rel.same k, h.ok.same k, h.nO, h.inj, h.kp.trans k, h.new⟩
/-- a target took a datum -/
theorem RelM.bind {t : Tg} {d : D} (h : RelM K H0 M0 H O σ env) (e : bindT t d env = some env') (r : RelC K H (Ow O σ env) σ' env') (off : Off t.slots σ σ') : RelM K H0 M0 H O σ' env' := by
  have own : ∀ i a, Own σ' env' i a → Own σ env i a := fun i a ⟨⟨x, e1⟩, e2⟩ => by
    obtain ⟨g1, g2⟩ := bindT_own t e i x e1
    exact ⟨⟨x, g1⟩, by rw [← off.2 i g2]; exact e2⟩
  refine ⟨r.mono fun a z => ?_, h.ok, fun i a o => h.nO i a (own i a o), fun i j a o p => h.inj i j a (own i a o) (own j a p), h.kp, fun i a o => h.new i a (own i a o)⟩
  rcases z with z | ⟨i, z⟩
  · exact .inl (.inl z)
  · exact .inl (.inr ⟨i, own i a z⟩)
/-- some lists are given up -/
@[simp] def frC (keep : Nat → Bool) : Nat → List Cell → List Cell
  | _, [] => []
  | n, .o d :: r => (if keep n = true then .o d else .v d) :: frC keep (n + 1) r
  | n, .v d :: r => .v d :: frC keep (n + 1) r
  | n, .no :: r => .no :: frC keep (n + 1) r
theorem frC_length (keep : Nat → Bool) : ∀ (env : List Cell) (n : Nat), (frC keep n env).length = env.length
  | [], _ => rfl
  | .o d :: r, n => by rw [frC, List.length_cons, List.length_cons, frC_length keep r]
  | .v d :: r, n => by rw [frC, List.length_cons, List.length_cons, frC_length keep r]
  | .no :: r, n => by rw [frC, List.length_cons, List.length_cons, frC_length keep r]
theorem frC_get (keep : Nat → Bool) : ∀ {env : List Cell} {n i : Nat} {c : Cell}, (frC keep n env)[i]? = some c →
    (env[i]? = some c ∧ ∀ d, c = .o d → keep (n + i) = true) ∨ ∃ d, c = .v d ∧ env[i]? = some (.o d) ∧ keep (n + i) = false
  | [], _, _, _, h => by rw [frC] at h; cases h
  | x :: r, n, i + 1, c, h => by
    have h' : (frC keep (n + 1) r)[i]? = some c := by
      cases x <;> (rw [frC, List.getElem?_cons_succ] at h; exact h)
    rcases frC_get keep h' with ⟨a, b⟩ | ⟨d, a, b, q⟩
    · exact .inl ⟨by rw [List.getElem?_cons_succ]; exact a, fun d e => by rw [show n + (i + 1) = n + 1 + i by omega]; exact b d e⟩
    · exact .inr ⟨d, a, by rw [List.getElem?_cons_succ]; exact b, by rw [show n + (i + 1) = n + 1 + i by omega]; exact q⟩
  | .o d :: r, n, 0, c, h => by
    rw [frC, List.getElem?_cons_zero] at h
    cases z : keep n with
    | true =>
      rw [z, if_pos rfl] at h
      cases h
      exact .inl ⟨rfl, fun _ _ => by first | exact z | rfl⟩
    | false =>
      rw [z, if_neg Bool.false_ne_true] at h
      cases h
      exact .inr ⟨d, rfl, rfl, by first | exact z | rfl⟩
  | .v d :: r, n, 0, c, h => by
    rw [frC, List.getElem?_cons_zero] at h
    cases h
    exact .inl ⟨rfl, fun _ e => nomatch e⟩
  | .no :: r, n, 0, c, h => by
    rw [frC, List.getElem?_cons_zero] at h
    cases h
    exact .inl ⟨rfl, fun _ e => nomatch e⟩
theorem RelM.free (keep : Nat → Bool) (h : RelM K H0 M0 H O σ env) : RelM K H0 M0 H O σ (frC keep 0 env) := by
  have own : ∀ i a, Own σ (frC keep 0 env) i a → Own σ env i a ∧ keep i = true := fun i a ⟨⟨x, e1⟩, e2⟩ => by
    rcases frC_get keep e1 with ⟨a, b⟩ | ⟨d, a, b⟩
    · exact ⟨⟨⟨x, a⟩, e2⟩, by have := b x rfl; rw [Nat.zero_add] at this; exact this⟩
    · cases a
  have sub : ∀ a, Ow O σ (frC keep 0 env) a → Ow O σ env a := fun a z => by
    rcases z with z | ⟨i, z⟩
    · exact .inl z
    · exact .inr ⟨i, (own i a z).1⟩
  refine ⟨⟨by rw [frC_length]; exact h.rel.1, fun i c e => ?_⟩, h.ok, fun i a o => h.nO i a (own i a o).1, fun i j a o p => h.inj i j a (own i a o).1 (own j a p).1, h.kp, fun i a o => h.new i a (own i a o).1⟩
  rcases frC_get keep e with ⟨g1, g2⟩ | ⟨d, g1, g2, g3⟩
  · exact (h.rel.mono fun a z => .inl (sub a z)).2 i c g1
  · subst g1
    rw [Nat.zero_add] at g3
    obtain ⟨a, xs, ds, e1, e2, e3, r⟩ := h.rel.2 i _ g2
    subst e2
    refine ⟨.ref a, e1, .l e3 (fun z => ?_) (r.less sub)⟩
    have oi : Own σ env i a := ⟨⟨_, g2⟩, e1⟩
    rcases z with z | ⟨j, z⟩
    · exact h.nO i a oi z
    · have e4 := h.inj i j a oi (own j a z).1
      subst e4
      rw [(own i a z).2] at g3
      cases g3
/-- a fresh list is stored -/
theorem RelM.fresh {i : Nat} {a : Addr} {xs : List V} {ds : List D} (h : RelM K H0 M0 H O σ env) (k : Same H H') (na : H a = none) (ha : H' a = some (.lst xs)) (r : RepL K H' (fun b => Ow O σ env b ∨ b = a) xs ds) :
    RelM K H0 M0 H' O (σ.set i (some (.ref a))) (env.set i (.o (.l ds))) := by
  have hl := h.rel.1
  have own : ∀ j b, Own (σ.set i (some (.ref a))) (env.set i (.o (.l ds))) j b → (j = i ∧ b = a) ∨ (j ≠ i ∧ Own σ env j b) := fun j b ⟨⟨x, e1⟩, e2⟩ => by
    by_cases hj : i = j
    · subst hj
      rw [List.getElem?_set, if_pos rfl] at e2
      split at e2
      · cases e2; exact .inl ⟨rfl, rfl⟩
      · cases e2
    · rw [List.getElem?_set_ne hj] at e1 e2
      exact .inr ⟨fun z => hj z.symm, ⟨x, e1⟩, e2⟩
  have old : ∀ j b, Own σ env j b → b ≠ a := fun j b o z => by
    obtain ⟨_, _, _, e, _⟩ := h.rel.ownLst o
    rw [z, na] at e; cases e
  have sub : ∀ b, Ow O (σ.set i (some (.ref a))) (env.set i (.o (.l ds))) b → Ow O σ env b ∨ b = a := fun b z => by
    rcases z with z | ⟨j, z⟩
    · exact .inl (.inl z)
    · rcases own j b z with ⟨_, e⟩ | ⟨_, o⟩
      · exact .inr e
      · exact .inl (.inr ⟨j, o⟩)
  refine ⟨⟨by rw [List.length_set, List.length_set]; exact hl, fun j c e => ?_⟩, h.ok.same k, fun j b o => ?_, fun j l b o p => ?_, h.kp.trans k, fun j b o => ?_⟩
  · by_cases hj : i = j
    · subst hj
      rw [List.getElem?_set, if_pos rfl] at e
      split at e
      · rename_i hi
        cases e
        exact ⟨a, xs, ds, by rw [List.getElem?_set_self (by omega)], rfl, ha, r.less sub⟩
      · cases e
    · rw [List.getElem?_set_ne hj] at e
      rw [List.getElem?_set_ne hj]
      have q := (((h.rel.mono (O' := fun b => Ow O σ env b ∨ b = a) fun b z => z.elim .inl fun e => .inr (by rw [e]; exact na)).same k).mono fun b z => .inl (sub b z)).2 j c e
      exact q
  · rcases own j b o with ⟨_, e⟩ | ⟨_, o⟩
    · subst e
      exact fun z => h.ok b z na
    · exact h.nO j b o
  · rcases own j b o with ⟨e1, e⟩ | ⟨e1, o⟩ <;> rcases own l b p with ⟨e2, e'⟩ | ⟨e2, o'⟩
    · rw [e1, e2]
    · exact absurd e (old l b o')
    · exact absurd e' (old j b o)
    · exact h.inj j l b o o'
  · rcases own j b o with ⟨_, e⟩ | ⟨_, o⟩
    · subst e
      by_cases hm : M0 b
      · exact .inl hm
      · refine .inr ?_
        cases q : H0 b with
        | none => rfl
        | some u =>
          have z := h.kp b u q hm
          rw [na] at z
          cases z
    · exact h.new j b o
/-- an owned list is rewritten -/
theorem RelM.write {i : Nat} {a : Addr} {xs : List V} {ds : List D} (h : RelM K H0 M0 H O σ env) (o : Own σ env i a) (r : RepL K H (Ow O σ env) xs ds) :
    RelM K H0 M0 (upd H a (.lst xs)) O σ (env.set i (.o (.l ds))) := by
  obtain ⟨⟨d0, g1⟩, g2⟩ := id o
  have hi := (List.getElem?_eq_some_iff.mp g1).1
  have own : ∀ j b, Own σ (env.set i (.o (.l ds))) j b → Own σ env j b := fun j b ⟨⟨x, e1⟩, e2⟩ => by
    by_cases hj : i = j
    · subst hj
      exact ⟨⟨d0, g1⟩, e2⟩
    · rw [List.getElem?_set_ne hj] at e1
      exact ⟨⟨x, e1⟩, e2⟩
  have sub : ∀ b, Ow O σ (env.set i (.o (.l ds))) b → Ow O σ env b := fun b z => by
    rcases z with z | ⟨j, z⟩
    · exact .inl z
    · exact .inr ⟨j, own j b z⟩
  have hk : Kp (Ow O σ env) H (upd H a (.lst xs)) := fun b u e n => by
    rw [upd_ne fun z => n (.inr ⟨i, by rw [z]; exact o⟩)]
    exact e
  obtain ⟨xs0, ds0, _, ha, _⟩ := h.rel.ownLst o
  refine ⟨⟨by rw [List.length_set]; exact h.rel.1, fun j c e => ?_⟩, fun b z => ?_, fun j b q => h.nO j b (own j b q), fun j l b p q => h.inj j l b (own j b p) (own l b q), fun b u e n => ?_, fun j b q => h.new j b (own j b q)⟩
  · by_cases hj : i = j
    · subst hj
      rw [List.getElem?_set_self hi] at e
      cases e
      exact ⟨a, xs, ds, g2, rfl, upd_same, (r.kp hk).less sub⟩
    · rw [List.getElem?_set_ne hj] at e
      have q := h.rel.2 j c e
      cases c with
      | no => trivial
      | v d => obtain ⟨x, e1, rx⟩ := q; exact ⟨x, e1, (rx.kp hk).less sub⟩
      | o d =>
        obtain ⟨b, ys, es, e1, e2, e3, rx⟩ := q
        refine ⟨b, ys, es, e1, e2, ?_, (rx.kp hk).less sub⟩
        rw [upd_ne fun z => hj (h.inj i j a o (by rw [← z]; exact ⟨⟨d, e⟩, e1⟩))]
        exact e3
  · unfold upd
    split
    · exact fun q => nomatch q
    · exact h.ok b z
  · have q := h.kp b u e n
    rw [upd_ne fun z => ?_]
    · exact q
    · subst z
      rcases h.new i b o with w | w
      · exact n w
      · rw [w] at e; cases e
def OwnM (σ : L2.St) (env : List Cell) : Addr → Prop := fun a => ∃ i, Own σ env i a
/-- from a second start -/
theorem RelM.trans (h : RelM K H0 M0 H O σ env) (g : RelM K H (OwnM σ env) H' O σ' env') : RelM K H0 M0 H' O σ' env' := by
  refine ⟨g.rel, g.ok, g.nO, g.inj, fun a o e n => g.kp a o (h.kp a o e n) fun ⟨i, z⟩ => ?_, fun i a o => ?_⟩
  · rcases h.new i a z with w | w
    · exact n w
    · rw [w] at e; cases e
  · rcases g.new i a o with ⟨j, z⟩ | z
    · exact h.new j a z
    · by_cases hm : M0 a
      · exact .inl hm
      · refine .inr ?_
        cases q : H0 a with
        | none => rfl
        | some u =>
          have w := h.kp a u q hm
          rw [z] at w
          cases w
theorem RelM.again (h : RelM K H0 M0 H O σ env) : RelM K H (OwnM σ env) H O σ env := ⟨h.rel, h.ok, h.nO, h.inj, Kp.refl, fun i a o => .inl ⟨i, o⟩⟩
theorem RelM.kpTrans (h : RelM K H0 M0 H O σ env) (g : Kp (OwnM σ env) H H') : Kp M0 H0 H' := fun a o e n => g a o (h.kp a o e n) fun ⟨i, z⟩ => by
  rcases h.new i a z with w | w
  · exact n w
  · rw [w] at e; cases e
end

/-! ### judgements -/
inductive Fl where
  | nx (e : List Cell) | rt (d : D) | bk (e : List Cell) | ct (e : List Cell)
def EndOk (K : PySem.W.Frag) (H0 : Hp) (M0 O : Addr → Prop) (D : Ends) : Fl → Prop
  | .nx e => ∀ σ H, RelM K H0 M0 H O σ e → D.nx σ H
  | .bk e => ∀ σ H, RelM K H0 M0 H O σ e → D.bk σ H
  | .ct e => ∀ σ H, RelM K H0 M0 H O σ e → D.ct σ H
  | .rt d => ∀ v H, Kp M0 H0 H → OkO H O → Rep K H O v d → D.rt v H
abbrev StF := List Cell → Option Fl
def wS (X : Cx) (st : Stmt) : TS := fun D σ H => ∀ (pins : List (Addr × Obj)) (s : Shared), Inv X pins σ H s → wpAny (model X.prog X.w) X.A (exec st X.env) (SP X pins D) X.xe s
def wSs (X : Cx) (st : List Stmt) : TS := fun D σ H => ∀ (pins : List (Addr × Obj)) (s : Shared), Inv X pins σ H s → wpAny (model X.prog X.w) X.A (execs st X.env) (SP X pins D) X.xe s
theorem wS_ps {X : Cx} {st : Stmt} : PS X st (wS X st) := ⟨fun pins s σ H D I h => h pins s I⟩
theorem wSs_pss {X : Cx} {st : List Stmt} : PSs X st (wSs X st) := ⟨fun pins s σ H D I h => h pins s I⟩
theorem PSw {X : Cx} {st : Stmt} {t : TS} (h : PS X st t) {D : Ends} {σ : L2.St} {H : Hp} (q : t D σ H) : wS X st D σ H := fun pins s I => h.run pins s σ H D I q
theorem PSsw {X : Cx} {st : List Stmt} {t : TS} (h : PSs X st t) {D : Ends} {σ : L2.St} {H : Hp} (q : t D σ H) : wSs X st D σ H := fun pins s I => h.run pins s σ H D I q
def DS (X : Cx) (st : Stmt) (f : StF) : Prop := ∀ (H0 : Hp) (M0 : Addr → Prop) (H : Hp) (O : Addr → Prop) (σ : L2.St) (env : List Cell) (fl : Fl) (D : Ends), RelM X.K H0 M0 H O σ env → f env = some fl → EndOk X.K H0 M0 O D fl → wS X st D σ H
def DSs (X : Cx) (sts : List Stmt) (f : StF) : Prop := ∀ (H0 : Hp) (M0 : Addr → Prop) (H : Hp) (O : Addr → Prop) (σ : L2.St) (env : List Cell) (fl : Fl) (D : Ends), RelM X.K H0 M0 H O σ env → f env = some fl → EndOk X.K H0 M0 O D fl → wSs X sts D σ H
section
variable {X : Cx} {st : Stmt} {sts rest body body2 : List Stmt} {f g : StF} {e c : Expr} {pos : Pos} {ef : EvF} {ft : List Cell → Option Bool} {t : Tg} {tg iter : Expr}
@[simp] def seqF (f g : StF) : StF := fun env => (f env).bind fun fl => match fl with
  | .nx e => g e
  | fl => some fl
theorem dss_nil : DSs X [] (fun env => some (.nx env)) := fun H0 M0 H O σ env fl D R e k => PSsw pss_nil (by cases e; exact k σ H R)
theorem dss_cons (h1 : DS X st f) (h2 : DSs X rest g) : DSs X (st :: rest) (seqF f g) := by
  intro H0 M0 H O σ env fl D R e k
  obtain ⟨fl1, e1, e2⟩ := bind_some' e
  refine PSsw (pss_cons wS_ps wSs_pss) (h1 H0 M0 H O σ env fl1 _ R e1 ?_)
  cases fl1 with
  | nx env1 => exact fun σ1 H1 R1 => h2 H0 M0 H1 O σ1 env1 fl D R1 e2 k
  | rt d => cases e2; exact k
  | bk env1 => cases e2; exact k
  | ct env1 => cases e2; exact k
theorem ds_free (keep : Nat → Bool) (h : DS X st f) : DS X st (fun env => f (frC keep 0 env)) := fun H0 M0 H O σ env fl D R e k => h H0 M0 H O σ _ fl D (R.free keep) e k
theorem ds_pass : DS X (.Pass pos) (fun env => some (.nx env)) := fun H0 M0 H O σ env fl D R e k => PSw ps_pass (by cases e; exact k σ H R)
theorem ds_break : DS X (.Break pos) (fun env => some (.bk env)) := fun H0 M0 H O σ env fl D R e k => PSw ps_break (by cases e; exact k σ H R)
theorem ds_cont : DS X (.Continue pos) (fun env => some (.ct env)) := fun H0 M0 H O σ env fl D R e k => PSw ps_continue (by cases e; exact k σ H R)
theorem ds_never : DS X st (fun _ => none) := fun H0 M0 H O σ env fl D R e k => nomatch e
theorem ds_retN : DS X (.Return none pos) (fun _ => some (.rt .n)) := fun H0 M0 H O σ env fl D R e k => PSw ps_retN (by cases e; exact k _ H R.kp R.ok .n)
@[simp] def retF (f : EvF) : StF := fun env => (f (frC (fun _ => false) 0 env)).map .rt
theorem ow_none {K : PySem.W.Frag} {O : Addr → Prop} {σ : L2.St} {env : List Cell} : ∀ a, O a → Ow O σ (frC (fun _ => false) 0 env) a := fun a z => .inl z
theorem ds_ret (h : DE X e ef) : DS X (.Return (some e) pos) (retF ef) := by
  intro H0 M0 H O σ env fl D R z k
  obtain ⟨d, e1, e2⟩ := map_some' z
  subst e2
  have R' := R.free fun _ => false
  refine PSw (ps_ret wE_pe) (h σ H _ _ d _ R'.okW R'.rel e1 fun v H1 s r => ?_)
  exact k v H1 (R.kp.trans s) (R.ok.same s) (r.less fun a z => .inl z)
@[simp] def ifF (ft : List Cell → Option Bool) (f g : StF) : StF := fun env => (ft env).bind fun x => if x = true then f env else g env
theorem ds_if (ht : DT X c ft) (ha : DSs X body f) (hb : DSs X body2 g) : DS X (.If c body body2 pos) (ifF ft f g) := by
  intro H0 M0 H O σ env fl D R z k
  obtain ⟨x, e1, e2⟩ := bind_some' z
  refine PSw (ps_if wT_pt wSs_pss wSs_pss) (ht σ H _ env x _ R.okW R.rel e1 fun H1 s => ?_)
  cases x with
  | true => exact iteT (ha H0 M0 H1 O σ env fl D (R.same s) e2 k)
  | false => exact iteF (hb H0 M0 H1 O σ env fl D (R.same s) e2 k)
/-- target = value -/
@[simp] def asgF (t : Tg) (f : EvF) : StF := fun env => (f env).bind fun d => (bindT t d env).map .nx
theorem ds_asg (he : DE X e ef) (hg : DG X tg t) (hs : swapsWithSole [tg] e pos.line X.env = pure false) (hw : swappedStores [tg] e X.env = pure none) (h1 : (assignEach [tg] X.env).map (·.2) = [assign tg X.env]) : DS X (.Assign [tg] e pos) (asgF t ef) := by
  intro H0 M0 H O σ env fl D R z k
  obtain ⟨d, e1, z⟩ := bind_some' z
  obtain ⟨env', e2, z⟩ := map_some' z
  subst z
  refine PSw (ps_asg wE_pe wG_pg hs hw h1) (he σ H _ env d _ R.okW R.rel e1 fun v H1 s r => ?_)
  exact hg v d σ H1 _ env env' _ (R.same s).rel r e2 fun σ' R' off => k σ' H1 ((R.same s).bind e2 R' off)
/-- name = a new list, which the frame may change -/
@[simp] def ownF (i : Nat) (f : EvF) : StF := fun env => (f env).map fun d => .nx (env.set i (.o d))
theorem ds_own {i : Nat} {x : Str} {pos' : Pos} (hN : X.N.Nodup) (hi : X.N[i]? = some x) (hx : Loc X.env.scope x) (hf : X.fn x = true ∨ X.env.scope.names.lookup x = some .local) (he : DF X e ef) (hs : swapsWith e (some (.Name x pos')) pos.line X.env = pure false) : DS X (.Assign [.Name x pos'] e pos) (ownF i ef) := by
  intro H0 M0 H O σ env fl D R z k
  obtain ⟨d, e1, z⟩ := map_some' z
  subst z
  refine PSw (ps_set hN hi hx wE_pe hs hf) (he σ H _ env d _ R.okW R.rel e1 fun a xs ds H1 s na ed ha r => ?_)
  subst ed
  exact k _ H1 (R.fresh s na ha r)
/-- x.append(e) -/
@[simp] def getO : List Cell → Nat → Option (List D)
  | .o (.l ds) :: _, 0 => some ds
  | _ :: r, n + 1 => getO r n
  | _, _ => none
theorem getO_some : ∀ {env : List Cell} {i : Nat} {ds : List D}, getO env i = some ds → env[i]? = some (.o (.l ds))
  | [], _, _, h => by cases h
  | c :: r, n + 1, ds, h => by
    have h : getO r n = some ds := by
      cases c with
      | o d => cases d <;> exact h
      | _ => exact h
    rw [List.getElem?_cons_succ]
    exact getO_some h
  | .no :: r, 0, ds, h => by cases h
  | .v _ :: r, 0, ds, h => by cases h
  | .o d :: r, 0, ds, h => by
    cases d <;> first
      | (cases h; done)
      | (cases h; rfl)
theorem RelM.getO {K : PySem.W.Frag} {H0 H : Hp} {M0 O : Addr → Prop} {σ : L2.St} {env : List Cell} {i : Nat} {ds : List D} (R : RelM K H0 M0 H O σ env) (h : getO env i = some ds) : ∃ a xs, Own σ env i a ∧ σ[i]? = some (some (.ref a)) ∧ H a = some (.lst xs) ∧ RepL K H (Ow O σ env) xs ds := by
  have e := getO_some h
  obtain ⟨a, xs, ds', e1, e2, e3, r⟩ := R.rel.2 i _ e
  cases e2
  exact ⟨a, xs, ⟨⟨_, e⟩, e1⟩, e1, e3, r⟩
@[simp] def appF (i : Nat) (f : EvF) : StF := fun env => (getO env i).bind fun ds => (f env).bind fun y => if ds.length < SZ then some (.nx (env.set i (.o (.l (ds ++ [y]))))) else none
theorem ds_append {i : Nat} {x : Str} {p1 apos cpos : Pos} (hi : X.N[i]? = some x) (hv : Vis X.env.scope x) (hd : (x == ("__debug__" : Str)) = false) (hcd : (x == ("__classdict__" : Str)) = false) (he : DE X e ef)
    (hline : (apos.endLine == cpos.line) = true) (hs : starEach [e] X.env = (false, eval e X.env) :: starEach [] X.env)
    (hbase : attributeBase (.Name x p1) "append" X.env (eval (.Name x p1) X.env) = eval (.Name x p1) X.env) :
    DS X (.Expr (.Call (.Attribute (.Name x p1) "append" apos) [e] [] cpos) pos) (appF i ef) := by
  intro H0 M0 H O σ env fl D R z k
  obtain ⟨ds, e1, z⟩ := bind_some' z
  obtain ⟨y, e2, z⟩ := bind_some' z
  split at z <;> first
    | (cases z; done)
    | skip
  rename_i hz
  cases z
  obtain ⟨a, xs, ow, g1, g2, g3⟩ := R.getO e1
  have hfew : ((backTo cpos (starEach (e :: []) X.env)).all (fun x => !x.1) && (backToKw cpos (keywordEach [] X.env)).all (fun x => x.1.isSome)
      && decide ((e :: []).length + ([] : List Keyword).length + (if ([] : List Keyword).isEmpty then 0 else 1) < 30)) = true := by rw [hs]; rfl
  refine PSw (ps_expr (pe_bm F.plainAttrs_list F.slot_list_append F.type_list_append mt_append (pe_var hi hv hd hcd) (pa_cons wE_pe pa_nil hs) hbase hfew hline hs rfl) rfl) ?_
  refine ⟨.ref a, g1, .inl ⟨rfl, xs, SqL.of g2⟩, ?_⟩
  refine he σ H _ env y _ R.okW R.rel e2 fun v H1 s r => ?_
  have g4 := s _ _ g2
  refine ⟨a, xs, v, rfl, rfl, g4, by rw [g3.length, SZ_eq]; exact hz, ?_⟩
  exact k _ _ ((R.same s).write ow ((g3.same s).append (.cons r .nil)))
/-- x[k] = e -/
@[simp] def setF (i : Nat) (fk f : EvF) : StF := fun env => (f env).bind fun y => (getO env i).bind fun ds => (fk env).bind fun q => match q with
  | .i k => (ixN ds.length k).map fun j => .nx (env.set i (.o (.l (ds.set j y))))
  | _ => none
theorem ds_setIx {i : Nat} {x : Str} {p1 p2 : Pos} {ek : Expr} {fk : EvF} (hi : X.N[i]? = some x) (hv : Vis X.env.scope x) (hd : (x == ("__debug__" : Str)) = false) (hcd : (x == ("__classdict__" : Str)) = false) (hk : DE X ek fk) (he : DE X e ef)
    (ha : ∀ v, assign (.Subscript (.Name x p1) ek p2) X.env v = (do
      let ov ← holding [v] (eval (.Name x p1) X.env)
      let iv ← holding [v, ov] (eval ek X.env)
      standAt p2
      holding [v, ov, iv] (setItem ov iv v)
      release [v, ov, iv] []))
    (hs : swapsWithSole [.Subscript (.Name x p1) ek p2] e pos.line X.env = pure false) (hw : swappedStores [.Subscript (.Name x p1) ek p2] e X.env = pure none) (h1 : (assignEach [.Subscript (.Name x p1) ek p2] X.env).map (·.2) = [assign (.Subscript (.Name x p1) ek p2) X.env]) :
    DS X (.Assign [.Subscript (.Name x p1) ek p2] e pos) (setF i fk ef) := by
  intro H0 M0 H O σ env fl D R z k
  obtain ⟨y, e1, z⟩ := bind_some' z
  obtain ⟨ds, e2, z⟩ := bind_some' z
  obtain ⟨q, e3, z⟩ := bind_some' z
  cases q <;> first
    | (cases z; done)
    | skip
  rename_i kk
  obtain ⟨j, e4, z⟩ := map_some' z
  subst z
  refine PSw (ps_asg wE_pe (pg_sub (pe_var hi hv hd hcd) wE_pe set_list ha) hs hw h1) (he σ H _ env y _ R.okW R.rel e1 fun v H1 s r => ?_)
  obtain ⟨a, xs, ow, g1, g2, g3⟩ := (R.same s).getO e2
  refine ⟨.ref a, g1, hk σ H1 _ env _ _ (R.same s).okW (R.same s).rel e3 fun u H2 s2 r2 => ?_⟩
  cases r2
  have g4 := s2 _ _ g2
  refine ⟨a, xs, kk, j, rfl, rfl, g4, by rw [g3.length]; exact e4, ?_⟩
  exact k _ _ (((R.same s).same s2).write ow ((g3.same s2).set (r.same s2) j))
/-- name += int, name -= int -/
@[simp] def augF (i : Nat) (op : Int → Int → Int) (f : EvF) : StF := fun env => (getV env i).bind fun x => (f env).bind fun y => match x, y with
  | .i a, .i b => some (.nx (env.set i (.v (.i (op a b)))))
  | _, _ => none
theorem ds_aug {i : Nat} {x : Str} {pos' : Pos} {op : Operator} {p : Int → Int → Int} (hN : X.N.Nodup) (hi : X.N[i]? = some x) (hx : Loc X.env.scope x) (hf : X.fn x = true ∨ X.env.scope.names.lookup x = some .local) (ho : PIp X op (ipI p)) (he : DE X e ef) :
    DS X (.AugAssign (.Name x pos') op e pos) (augF i p ef) := by
  intro H0 M0 H O σ env fl D R z k
  obtain ⟨a, e1, z1⟩ := bind_some' z
  clear z
  obtain ⟨b, e2, z⟩ := bind_some' z1
  clear z1
  cases a <;> cases b <;> first
    | (cases z; done)
    | skip
  rename_i a b
  cases z
  obtain ⟨u, g1, g2⟩ := R.rel.2 i _ (getV_some e1)
  cases g2
  refine PSw (ps_aug hN hi hx wE_pe ho hf) ⟨.int a, g1, he σ H _ env _ _ R.okW R.rel e2 fun v H1 s r => ?_⟩
  cases r
  refine ⟨a, b, rfl, rfl, k _ H1 ?_⟩
  have e3 : bindT (.nm i) (.i (p a b)) env = some (env.set i (.v (.i (p a b)))) := by rw [bindT]
  exact (R.same s).bind e3 ((R.same s).rel.set (.i _)) (by rw [Tg.slots]; exact Off.set)
/-- an expression whose value is dropped -/
theorem ds_expr (he : DE X e ef) (hs : swapsWith e none pos.line X.env = pure false) : DS X (.Expr e pos) (fun env => (ef env).map fun _ => .nx env) := by
  intro H0 M0 H O σ env fl D R z k
  obtain ⟨d, e1, z⟩ := map_some' z
  subst z
  exact PSw (ps_expr wE_pe hs) (he σ H _ env d _ R.okW R.rel e1 fun v H1 s r => k σ H1 (R.same s))

/-! ### loops -/
@[simp] def forV (t : Tg) (fb : StF) : List D → StF
  | [], env => some (.nx env)
  | d :: ds, env => (bindT t d env).bind fun env1 => (fb env1).bind fun fl => match fl with
    | .nx e => forV t fb ds e
    | .ct e => forV t fb ds e
    | .bk e => some (.nx e)
    | .rt d => some (.rt d)
@[simp] def forF (fs : List Cell → Option (List D)) (t : Tg) (fb : StF) : StF := fun env => (fs env).bind fun ds => forV t fb ds env
theorem ds_for {fs : List Cell → Option (List D)} (hp : PassesOwn (model X.prog X.w) X.A X.env X.xe) (hc : X.calm = true) (hi : DI true X tg iter fs) (hg : DG X tg t) (hb : DSs X body f) (hs : ∀ x, foldedSetIterable iter X.env x = pure x) :
    DS X (.For tg iter body [] pos) (forF fs t f) := by
  intro H0 M0 H O σ env fl D R z k
  obtain ⟨ds, e1, z⟩ := bind_some' z
  refine PSw (ps_for hp hc wI_pi wG_pg wSs_pss hs) (hi σ H _ env ds _ R.okW R.rel e1 fun J H1 s it => ?_)
  have R1 := R.same s
  have kE : ∀ {H' : Hp}, Kp (OwnM σ env) H1 H' → Kp (Eo true (Ow O σ env)) H1 H' := fun h a o e n => h a o e fun q => n ⟨rfl, .inr q⟩
  refine ⟨fun i m σ' H' => m = ds.length - i ∧ i ≤ ds.length ∧ ∃ env', RelM X.K H1 (OwnM σ env) H' O σ' env' ∧ forV t f (ds.drop i) env' = some fl, ⟨ds.length, rfl, Nat.zero_le _, env, R1.again, by rw [List.drop_zero]; exact z⟩, ?_⟩
  rintro i m σ' H' ⟨rfl, hi, env', R', z'⟩
  by_cases hlt : i < ds.length
  · refine .inr ⟨it.go i H' (kE R'.kp) hlt, fun σ2 H2 => ∃ env', RelM X.K H1 (OwnM σ env) H2 O σ2 env' ∧ forV t f (ds.drop (i + 1)) env' = some fl, fun σ2 H2 q => ⟨ds.length - (i + 1), by omega, rfl, hlt, q⟩, fun x H3 y => ?_⟩
    have ei : ds[i]? = some ds[i] := List.getElem?_eq_getElem hlt
    obtain ⟨s3, rx⟩ := it.yld i H' x H3 _ (kE R'.kp) y ei
    have rx := rx (Ow O σ' env') (fun a z => by
      rcases z with z | ⟨j, z⟩
      · exact .inl (.inl z)
      · rcases R'.new j a z with q | q
        · exact .inl (.inr q)
        · exact .inr q) R'.okW
    rw [List.drop_eq_getElem_cons hlt, forV] at z'
    obtain ⟨env1, e2, z'⟩ := bind_some' z'
    obtain ⟨fl1, e3, z'⟩ := bind_some' z'
    have R3 := R'.same s3
    refine hg x _ σ' H3 _ env' env1 _ R3.rel rx e2 fun σ2 R2 off => ?_
    have R4 := R3.bind e2 R2 off
    refine hb H1 (OwnM σ env) H3 O σ2 env1 fl1 _ R4 e3 ?_
    cases fl1 with
    | nx e => exact fun σ5 H5 R5 => ⟨e, R5, z'⟩
    | ct e => exact fun σ5 H5 R5 => ⟨e, R5, z'⟩
    | bk e =>
      cases z'
      exact fun σ5 H5 R5 => k σ5 H5 (R1.trans R5)
    | rt d =>
      cases z'
      exact fun v H5 k5 ok5 r5 => k v H5 (R1.kpTrans k5) ok5 r5
  · have e : i = ds.length := by omega
    subst e
    rw [List.drop_length, forV] at z'
    cases z'
    exact .inl ⟨it.stop H' (kE R'.kp), k σ' H' (R1.trans R')⟩
def whileV (ft : List Cell → Option Bool) (fb : StF) : Nat → StF
  | 0, _ => none
  | n + 1, env => (ft env).bind fun c => if c = true then (fb env).bind fun fl => (match fl with
    | .nx e => whileV ft fb n e
    | .ct e => whileV ft fb n e
    | .bk e => some (.nx e)
    | .rt d => some (.rt d)) else some (.nx env)
theorem ds_while (n : Nat) (hp : PassesOwn (model X.prog X.w) X.A X.env X.xe) (ht : DT X c ft) (hb : DSs X body f) : DS X (.While c body [] pos) (whileV ft f n) := by
  intro H0 M0 H O σ env fl D R z k
  refine PSw (ps_while hp wT_pt wSs_pss) ⟨fun m σ' H' => ∃ env', RelM X.K H0 M0 H' O σ' env' ∧ whileV ft f m env' = some fl, ⟨n, env, R, z⟩, ?_⟩
  rintro m σ' H' ⟨env', R', z'⟩
  cases m with
  | zero => rw [whileV] at z'; cases z'
  | succ m =>
    rw [whileV] at z'
    obtain ⟨b, e1, z'⟩ := bind_some' z'
    refine ht σ' H' _ env' b _ R'.okW R'.rel e1 fun H1 s => ?_
    cases b with
    | false =>
      cases z'
      exact iteF (k σ' H1 (R'.same s))
    | true =>
      have z' : ((f env').bind fun fl => match fl with | .nx e => whileV ft f m e | .ct e => whileV ft f m e | .bk e => some (.nx e) | .rt d => some (.rt d)) = some fl := z'
      obtain ⟨fl1, e2, z'⟩ := bind_some' z'
      refine iteT ⟨fun σ2 H2 => ∃ env', RelM X.K H0 M0 H2 O σ2 env' ∧ whileV ft f m env' = some fl, fun σ2 H2 q => ⟨m, Nat.lt_succ_self _, q⟩, ?_⟩
      refine hb H0 M0 H1 O σ' env' fl1 _ (R'.same s) e2 ?_
      cases fl1 with
      | nx e => exact fun σ5 H5 R5 => ⟨e, R5, z'⟩
      | ct e => exact fun σ5 H5 R5 => ⟨e, R5, z'⟩
      | bk e => cases z'; exact k
      | rt d => cases z'; exact k
end
end PL
/-! PL cl: a < b of ints and of tuples, nested. -/
namespace PL
open PySem PySem.Spec PyProof.Rows L2

/-- x < y, of ints or tuples; of tuples every two parts that stand at one place are compared as the first unequal ones would be -/
def ltD : Nat → D → D → Option Bool
  | _, .i a, .i b => some (decide (a < b))
  | n + 1, .t xs, .t ys => if ((List.range (min xs.length ys.length)).all fun j => okD 8 (xs.getD j .n) && okD 8 (ys.getD j .n) && (eqD (xs.getD j .n) (ys.getD j .n) || (ltD n (xs.getD j .n) (ys.getD j .n)).isSome)) = true then
      some (Ob.lexAt (fun j => eqD (xs.getD j .n) (ys.getD j .n)) (fun j => (ltD n (xs.getD j .n) (ys.getD j .n)).getD false) (decide (xs.length < ys.length)) 0 (min xs.length ys.length)) else none
  | _, _, _ => none
def ltE (x y : D) : Option D := (ltD 5 x y).map .b
@[simp] theorem ltE_i (x y : Int) : ltE (.i x) (.i y) = some (.b (decide (x < y))) := by
  unfold ltE ltD
  rfl
section
variable {X : Cx} {pins : List (Addr × Obj)} {σ : L2.St} {H : Hp} {s : Shared} {O : Addr → Prop}
theorem lt_run (I : Inv X pins σ H s) : ∀ (n : Nat) (A : Around) (p q : D) (x y : V) (u w : Value) (b : Bool), A.units + n + 12 < cLine → RepB X.K H O x p → RepB X.K H O y q → RelV x u → RelV y w → ltD n p q = some b → Ob.RcOp .Lt A s u w b := by
  intro n
  induction n with
  | zero =>
    intro A p q x y u w b hu rp rq rx ry e
    unfold ltD at e
    split at e
    · cases e
      obtain rfl := rp.int
      obtain rfl := rq.int
      obtain ⟨t, rfl⟩ := rx
      obtain ⟨t', rfl⟩ := ry
      exact Ob.RcOp.lt_int _ _ _ _
    · rename_i m xs ys hm
      exfalso
      revert hm
      simp
    · cases e
  | succ n ih =>
    intro A p q x y u w b hu rp rq rx ry e
    unfold ltD at e
    split at e
    · cases e
      obtain rfl := rp.int
      obtain rfl := rq.int
      obtain ⟨t, rfl⟩ := rx
      obtain ⟨t', rfl⟩ := ry
      exact Ob.RcOp.lt_int _ _ _ _
    · rename_i m xs ys hm
      have hm' : m = n := by omega
      subst hm'
      split at e
      · rename_i hall
        cases e
        obtain ⟨a, vs, rfl, h1, r1⟩ := rp.tup
        obtain ⟨a', ws, rfl, h2, r2⟩ := rq.tup
        cases rx
        cases ry
        obtain ⟨its, v1, p1, _⟩ := I.tuple h1
        obtain ⟨its2, v2, p2, _⟩ := I.tuple h2
        have e1 : its.toArray.size = xs.length := by rw [List.size_toArray, ← v1.length, r1.length]
        have e2 : its2.toArray.size = ys.length := by rw [List.size_toArray, ← v2.length, r2.length]
        have at_ : ∀ {its : List Value} {vs : List V} {xs : List D}, Vals vs its → RepL X.K H O vs xs → ∀ j (h : j < its.toArray.size), ∃ v, RelV v its.toArray[j] ∧ Rep X.K H O v (xs.getD j .n) := by
          intro its vs xs v1 r1 j h
          have hj : j < xs.length := by rw [← r1.length, v1.length]; simpa using h
          obtain ⟨v, k1, k2⟩ := r1.get (List.getElem?_eq_getElem hj)
          obtain ⟨z, k3, k4⟩ := v1.get k1
          refine ⟨v, ?_, ?_⟩
          · have : its.toArray[j] = z := by
              have k5 := List.getElem?_eq_some_iff.mp k3
              simpa using k5.2
            rw [this]
            exact k4
          · rw [List.getD_eq_getElem?_getD, List.getElem?_eq_getElem hj]
            exact k2
        have all : ∀ j, j < xs.length → j < ys.length → (okD 8 (xs.getD j .n) = true ∧ okD 8 (ys.getD j .n) = true) ∧ (eqD (xs.getD j .n) (ys.getD j .n) = true ∨ (ltD m (xs.getD j .n) (ys.getD j .n)).isSome = true) := fun j h1 h2 => by
          have z := List.all_eq_true.mp hall j (List.mem_range.mpr (by omega))
          rw [Bool.and_eq_true, Bool.and_eq_true, Bool.or_eq_true] at z
          exact z
        have R := Ob.RcOp.tuples_lt (A := A) (s := s) (e := fun j => eqD (xs.getD j .n) (ys.getD j .n)) (r := fun j => (ltD m (xs.getD j .n) (ys.getD j .n)).getD false) p1 p2 (by omega) (fun j k1 k2 => ?_) (fun j k1 k2 ne => ?_)
        · rw [e1, e2] at R
          exact R
        · obtain ⟨v, a1, a2⟩ := at_ v1 r1 j k1
          obtain ⟨z, b1, b2⟩ := at_ v2 r2 j k2
          obtain ⟨⟨c1, c2⟩, _⟩ := all j (by omega) (by omega)
          obtain ⟨as, d1⟩ := Dp.reads I _ _ _ (rep_dp 8 a2 c1) a1
          obtain ⟨bs, d2⟩ := Dp.reads I _ _ _ (rep_dp 8 b2 c2) b1
          obtain ⟨l1, l2⟩ := lay_of_ok _ _ c1
          obtain ⟨l3, l4⟩ := lay_of_ok _ _ c2
          refine SeqAt.eqAt_reads _ _ A.in1 s _ _ as bs d1 d2 l1 l3 ?_
          show A.units + 1 + _ < cLine
          have := Nat.min_le_left (toPy (xs.getD j .n)).depth (toPy (ys.getD j .n)).depth
          omega
        · obtain ⟨v, a1, a2⟩ := at_ v1 r1 j k1
          obtain ⟨z, b1, b2⟩ := at_ v2 r2 j k2
          obtain ⟨_, c3⟩ := all j (by omega) (by omega)
          rcases c3 with c3 | c3
          · rw [c3] at ne; cases ne
          · obtain ⟨bb, c4⟩ := Option.isSome_iff_exists.mp c3
            show Ob.RcOp .Lt A.in1 s _ _ ((ltD m (xs.getD j .n) (ys.getD j .n)).getD false)
            rw [c4]
            refine ih A.in1 _ _ _ _ _ _ _ ?_ (.inl a2) (.inl b2) a1 b1 c4
            show A.units + 1 + _ + _ < cLine
            omega
      · cases e
    · cases e
theorem of_lt (hu : X.A.units + 65 < cLine) : OpF X (compareOp .Lt) ltE := by
  intro pins s σ H O x y u w p q d Q I ok rx ry rp rq e c
  obtain ⟨b, e1, e2⟩ := map_some' e
  subst e2
  have R := lt_run I 5 X.A p q x y u w b (by omega) rp rq rx ry e1
  exact (R X.prog X.w X.xe (EP X pins σ Q) ⟨.bl _, H, I, rfl, c _ _ (Same.refl _) (.b _)⟩ : wpAny (model X.prog X.w) X.A (compareOp .Lt u w) (EP X pins σ Q) X.xe s)
end
end PL
/-! PL l: the evaluator of expressions, and that the model keeps to it. -/
namespace PL
open PySem PySem.Spec PyProof.Rows L2

/-! ### what is known of a place in the text -/
structure Ga where
  N : List Str
  sc : Scope
  fnx : Str → Bool
  fns : List (Str × Nat)
  free : List Str
  call : Str → List D → Option D
def idxS (x : Str) : List Str → Nat → Option Nat
  | [], _ => none
  | y :: r, n => if x = y then some n else idxS x r (n + 1)
theorem idxS_some {x : Str} : ∀ {l : List Str} {n i : Nat}, idxS x l n = some i → n ≤ i ∧ l[i - n]? = some x
  | [], _, _, h => by cases h
  | y :: r, n, i, h => by
    unfold idxS at h
    split at h
    · rename_i e
      cases h
      subst e
      exact ⟨Nat.le_refl _, by rw [Nat.sub_self, List.getElem?_cons_zero]⟩
    · obtain ⟨h1, h2⟩ := idxS_some h
      refine ⟨by omega, ?_⟩
      rw [show i - n = (i - (n + 1)) + 1 by omega, List.getElem?_cons_succ]
      exact h2
def Ga.slot (Γ : Ga) (x : Str) : Option Nat := idxS x Γ.N 0
def Ga.vis (Γ : Ga) (x : Str) : Bool := (match Γ.sc.names.lookup x with
  | some .local => true
  | some .cell => true
  | some .free => true
  | _ => false) && !(x == ("__debug__" : Str)) && !(x == ("__classdict__" : Str))
def Ga.loc (Γ : Ga) (x : Str) : Bool := match Γ.sc.names.lookup x with
  | some .local => true
  | some .cell => Γ.fnx x
  | _ => false
def Ga.gl (Γ : Ga) (x : Str) : Bool := (match Γ.sc.names.lookup x with
  | some .globalImplicit => true
  | _ => false) && !(x == ("__debug__" : Str)) && !(x == ("__name__" : Str))
def Ga.blk (Γ : Ga) (scope : Scope) : Ga := { Γ with sc := relS scope Γ.sc, fnx := fun x => scope.names.lookup x == some .cell }
/-- what a module's name stands for that is imported from the library; the mark by which the list of free names tells it -/
def modOf (x : Str) : Option (Str × Value) :=
  if x = "gcd" then some ("im:gcd", .builtin "math.gcd") else if x = "lcm" then some ("im:lcm", .builtin "math.lcm") else if x = "combinations" then some ("im:combinations", .type "itertools.combinations") else none
structure GOk (Γ : Ga) (X : Cx) : Prop where
  N : X.N = Γ.N
  nd : X.N.Nodup
  sc : X.env.scope = Γ.sc
  fn : ∀ x, Γ.fnx x = true → X.fn x = true
  calm : X.calm = true
  un : X.A.units + 65 < cLine
  free : ∀ x, Γ.free.contains x = true → X.mg x = none
  mods : ∀ x m v, modOf x = some (m, v) → Γ.free.contains m = true → X.mg x = some v
  fns : ∀ x n, Γ.fns.lookup x = some n → ∃ k fa fd ps, FnOk X.prog X.w X.K X.mg X.base CX0 k fa fd ps (spD X.K n (Γ.call x)) ∧ Room k X.A ∧ X.mg x = some (.ref fa) ∧ PySem.W.keepIn X.K (.ref fa) = true ∧ Binds X.K fd ps []
section
variable {Γ : Ga} {X : Cx} {x : Str} {i : Nat}
theorem GOk.slot (g : GOk Γ X) (h : Γ.slot x = some i) : X.N[i]? = some x := by
  have q := (idxS_some h).2
  rw [g.N]
  exact q
theorem GOk.vis (g : GOk Γ X) (h : Γ.vis x = true) : Vis X.env.scope x ∧ (x == ("__debug__" : Str)) = false ∧ (x == ("__classdict__" : Str)) = false := by
  unfold Ga.vis at h
  rw [Bool.and_eq_true, Bool.and_eq_true, Bool.not_eq_true', Bool.not_eq_true'] at h
  obtain ⟨⟨h1, h2⟩, h3⟩ := h
  refine ⟨?_, h2, h3⟩
  unfold Vis
  rw [g.sc]
  split at h1 <;> first
    | (rename_i e; rw [e]; exact .inl rfl)
    | (rename_i e; rw [e]; exact .inr (.inl rfl))
    | (rename_i e; rw [e]; exact .inr (.inr rfl))
    | cases h1
theorem GOk.loc (g : GOk Γ X) (h : Γ.loc x = true) : L2.Loc X.env.scope x ∧ (X.fn x = true ∨ X.env.scope.names.lookup x = some .local) := by
  unfold Ga.loc at h
  unfold L2.Loc
  rw [g.sc]
  split at h
  · rename_i e; rw [e]; exact ⟨.inl rfl, .inr rfl⟩
  · rename_i e; rw [e]; exact ⟨.inr rfl, .inl (g.fn x h)⟩
  · cases h
theorem GOk.gl (g : GOk Γ X) (h : Γ.gl x = true) : Gl X x ∧ (x == ("__debug__" : Str)) = false ∧ x ≠ "__name__" := by
  unfold Ga.gl at h
  rw [Bool.and_eq_true, Bool.and_eq_true, Bool.not_eq_true', Bool.not_eq_true'] at h
  obtain ⟨⟨h1, h2⟩, h3⟩ := h
  refine ⟨?_, h2, fun e => ?_⟩
  · unfold Gl Env.kindOf
    rw [g.sc]
    split at h1
    · rename_i e; exact e
    · cases h1
  · rw [e, beq_self_eq_true] at h3
    cases h3
theorem GOk.blk {scope : Scope} {Y : Cx} (g : GOk Γ X) (h : Blk X scope Y) : GOk (Γ.blk scope) Y := by
  obtain ⟨s, H, C, cl, fp, rfl⟩ := h
  refine ⟨g.N, g.nd, ?_, fun x e => e, g.calm, g.un, g.free, g.mods, g.fns⟩
  show relS scope X.env.scope = relS scope Γ.sc
  rw [g.sc]
end

/-! ### what an expression gives -/
structure Ev where
  e : EvF
  b : EvF
  f : EvF
  t : List Cell → Option Bool
def noE : EvF := fun _ => none
def noT : List Cell → Option Bool := fun _ => none
def Ev.bad : Ev := ⟨noE, noE, noE, noT⟩
structure EvOk (X : Cx) (x : Expr) (r : Ev) : Prop where
  e : DE X x r.e
  b : DB X x r.b
  f : DF X x r.f
  t : DT X x r.t
section
variable {X : Cx} {x : Expr} {f : EvF}
theorem de_no : DE X x noE := fun _ _ _ _ _ _ _ _ h => nomatch h
theorem db_no : DB X x noE := fun _ _ _ _ _ _ _ _ h => nomatch h
theorem df_no : DF X x noE := fun _ _ _ _ _ _ _ _ h => nomatch h
theorem dt_no : DT X x noT := fun _ _ _ _ _ _ _ _ h => nomatch h
theorem bad_ok : EvOk X x .bad := ⟨de_no, db_no, df_no, dt_no⟩
/-- tests that ask the value alone -/
def plainT : Expr → Bool
  | .UnaryOp .Not _ _ => false
  | .BoolOp .. => false
  | .IfExp .. => false
  | .Compare .. => false
  | _ => true
theorem plainT_ok {x : Expr} (h : plainT x = true) {env : Env} : ∀ whole, isTrue x env whole = (do let v ← whole; standAt x.pos; holding [v] (truthy v)) := by
  intro whole
  cases x with
  | UnaryOp op a pos => cases op <;> first | (cases h; done) | rfl
  | BoolOp => cases h
  | IfExp => cases h
  | Compare => cases h
  | _ => rfl
/-- of a strict reading; borrowed; of a fresh list -/
def Ev.ofE (x : Expr) (f : EvF) : Ev := ⟨f, f, noE, if plainT x = true then asT f else noT⟩
def Ev.ofB (x : Expr) (f g : EvF) : Ev := ⟨f, g, noE, if plainT x = true then asT g else noT⟩
def Ev.ofF (x : Expr) (f : EvF) : Ev := ⟨f, f, f, if plainT x = true then asT f else noT⟩
theorem ofT_ok (h : DB X x f) : DT X x (if plainT x = true then asT f else noT) := by
  split
  · rename_i q
    exact dt_truth h (plainT_ok q)
  · exact dt_no
theorem ofE_ok (h : DE X x f) : EvOk X x (.ofE x f) := ⟨h, h.db, df_no, ofT_ok h.db⟩
theorem ofB_ok {g : EvF} (h : DE X x f) (h' : DB X x g) : EvOk X x (.ofB x f g) := ⟨h, h', df_no, ofT_ok h'⟩
theorem ofF_ok (h : DF X x f) : EvOk X x (.ofF x f) := ⟨h.de, h.de.db, h, ofT_ok h.de.db⟩
theorem if_ok {c : Bool} {r : Ev} (h : c = true → EvOk X x r) : EvOk X x (if c = true then r else .bad) := by
  split
  · rename_i q; exact h q
  · exact bad_ok
end
abbrev Rc := Ga → Expr → Ev
def Snd (rec : Rc) : Prop := ∀ Γ X x, GOk Γ X → EvOk X x (rec Γ x)

/-! ### stars -/
def noStar : Expr → Bool
  | .Starred .. => false
  | _ => true
theorem star_cons {e : Expr} {es : List Expr} {env : Env} (h : noStar e = true) : starEach (e :: es) env = (false, eval e env) :: starEach es env := by
  cases e <;> first | (cases h; done) | rfl
theorem star_any {pos : Pos} {env : Env} : ∀ {es : List Expr}, es.all noStar = true → (backTo pos (starEach es env)).any (·.1) = false
  | [], _ => rfl
  | e :: es, h => by
    rw [List.all_cons, Bool.and_eq_true] at h
    rw [star_cons h.1]
    unfold backTo
    rw [List.map_cons, List.any_cons]
    have ih := star_any (pos := pos) (env := env) h.2
    unfold backTo at ih
    rw [ih]
    rfl
def argsE (ev : Expr → Ev) : List Expr → List Cell → Option (List D)
  | [] => fun _ => some []
  | e :: es => consL (ev e).e (argsE ev es)
def argsB (ev : Expr → Ev) : List Expr → List Cell → Option (List D)
  | [] => fun _ => some []
  | e :: es => consL (ev e).b (argsB ev es)
section
variable {X : Cx} {ev : Expr → Ev}
theorem argsE_ok (h : ∀ x, EvOk X x (ev x)) : ∀ {es : List Expr}, es.all noStar = true → DL X es (argsE ev es)
  | [], _ => dl_nil
  | e :: es, q => by
    rw [List.all_cons, Bool.and_eq_true] at q
    exact dl_cons (h e).e (argsE_ok h q.2) (star_cons q.1)
theorem argsB_ok (h : ∀ x, EvOk X x (ev x)) : ∀ {es : List Expr}, es.all noStar = true → DM X es (argsB ev es)
  | [], _ => dm_nil
  | e :: es, q => by
    rw [List.all_cons, Bool.and_eq_true] at q
    exact dm_cons (h e).b (argsB_ok h q.2) (star_cons q.1)
theorem argsE_len {env : List Cell} : ∀ {es : List Expr} {ds : List D}, argsE ev es env = some ds → ds.length = es.length
  | [], ds, h => by cases h; rfl
  | e :: es, ds, h => by
    obtain ⟨x, h1, h⟩ := bind_some' h
    obtain ⟨xs, h2, h⟩ := bind_some' h
    cases h
    rw [List.length_cons, List.length_cons, argsE_len h2]
end

/-! ### operators -/
def opD : Operator → Option (D → D → Option D)
  | .Add => some addD
  | .Sub => some subD
  | .Mult => some mulD
  | .FloorDiv => some fdivD
  | .Mod => some modD
  | .Pow => some powD
  | _ => none
def cmpD : CmpOp → D → D → Option D
  | .Eq => eqqD
  | .NotEq => neqD
  | .In => inD
  | .NotIn => ninD
  | .Is => isD
  | .IsNot => isntD
  | .Lt => ltE
  | .LtE => cmpI fLe
  | .Gt => cmpI fGt
  | .GtE => cmpI fGe
def cmpB : CmpOp → Option (Int → Int → Bool)
  | .Lt => some fLt
  | .LtE => some fLe
  | .Gt => some fGt
  | .GtE => some fGe
  | _ => none
section
variable {X : Cx}
theorem opD_ok : ∀ {op : Operator} {F : D → D → Option D}, opD op = some F → OpF X (binaryOp op) F
  | .Add, _, rfl => of_add
  | .Sub, _, rfl => of_sub
  | .Mult, _, rfl => of_mul
  | .FloorDiv, _, rfl => of_fdiv
  | .Mod, _, rfl => of_mod
  | .Pow, _, rfl => of_pow
theorem cmpD_ok (hu : X.A.units + 65 < cLine) : ∀ op : CmpOp, OpF X (compareOp op) (cmpD op)
  | .Eq => of_eq hu
  | .NotEq => of_ne hu
  | .In => of_in hu
  | .NotIn => of_nin hu
  | .Is => of_is
  | .IsNot => of_isnt
  | .Lt => of_lt hu
  | .LtE => of_cmpI op_le
  | .Gt => of_cmpI op_gt
  | .GtE => of_cmpI op_ge
theorem cmpB_ok : ∀ {op : CmpOp} {p : Int → Int → Bool}, cmpB op = some p → OpR X (compareOp op) (rI0 fun i j => .bl (p i j))
  | .Lt, _, rfl => op_lt
  | .LtE, _, rfl => op_le
  | .Gt, _, rfl => op_gt
  | .GtE, _, rfl => op_ge
end
end PL
/-! PL w: a[::-1]. -/
namespace PL
open PySem PySem.Spec PyProof.Rows L2
section
variable {prog : Program} {w : World} {A : Around} {E : Value → Shared → Prop} {s : Shared}
theorem sliceApplied_rev {sl : Addr} {vs : Value} {n : Nat} {Q : Int × Int × Nat → Shared → Prop} (hs : s.heap.IsSliceOf sl .none .none vs) (ps : IsPart vs (some (-1)))
    (h : Q ((n : Int) - 1, -1, n) s) : wpAny (model prog w) A (Builtin.Slice.sliceApplied (.ref sl) (pure (n : Int))) Q E s := by
  obtain ⟨os, hos, hcs, hds⟩ := id hs
  unfold Builtin.Slice.sliceApplied Builtin.Slice.sliceFields
  refine wpAny_bind (wpAny_bind (wpAny_field hos hds (x := .none) rfl (wpAny_bind (wpAny_field hos hds (x := .none) rfl (wpAny_bind (wpAny_field hos hds (x := vs) rfl (wpAny_pure ?_)))))))
  refine wpAny_bind (HT.slicePart_ ps ?_)
  show wpAny _ _ (if ((-1 : Int) == 0) = true then _ else _) _ _ s
  rw [if_neg (by decide)]
  refine wpAny_bind (HT.slicePart_ .none (wpAny_bind (HT.slicePart_ .none (wpAny_bind (wpAny_pure ?_)))))
  have e1 : Builtin.Slice.sliceAdjust none none (-1) (n : Int) = ((n : Int) - 1, -1) := by
    unfold Builtin.Slice.sliceAdjust
    simp
  show wpAny _ _ (match Builtin.Slice.sliceAdjust none none (-1) (n : Int) with | (lo, hi) => pure (lo, (-1 : Int), Builtin.Slice.slicePlaces lo hi (-1))) _ _ s
  rw [e1]
  have e2 : Builtin.Slice.slicePlaces ((n : Int) - 1) (-1) (-1) = n := by
    unfold Builtin.Slice.slicePlaces
    simp
    try omega
  show wpAny _ _ (pure ((n : Int) - 1, (-1 : Int), Builtin.Slice.slicePlaces ((n : Int) - 1) (-1) (-1))) _ _ s
  rw [e2]
  exact wpAny_pure h
theorem fm_congr {α β : Type} {f g : α → Option β} : ∀ {l : List α}, (∀ m ∈ l, f m = g m) → l.filterMap f = l.filterMap g
  | [], _ => rfl
  | m :: l, h => by rw [List.filterMap_cons, List.filterMap_cons, h m List.mem_cons_self, fm_congr fun x hx => h x (List.mem_cons_of_mem _ hx)]
theorem pick_rev (xs : Array Value) : ((List.range xs.size).filterMap fun (m : Nat) => xs[(((xs.size : Int) - 1) + (m : Int) * (-1)).toNat]?).toArray = xs.toList.reverse.toArray := by
  have e : (List.range xs.size).filterMap (fun (m : Nat) => xs[(((xs.size : Int) - 1) + (m : Int) * (-1)).toNat]?) = ((List.range xs.size).map fun k => xs.size - 1 - k).filterMap (xs[·]?) := by
    rw [List.filterMap_map]
    refine fm_congr fun m hm => ?_
    have hm := List.mem_range.mp hm
    have : (((xs.size : Int) - 1) + (m : Int) * (-1)).toNat = xs.size - 1 - m := by omega
    show xs[(((xs.size : Int) - 1) + (m : Int) * (-1)).toNat]? = xs[xs.size - 1 - m]?
    rw [this]
  rw [e, PySem.W.krv_range, List.filterMap_reverse, PySem.W.krv_all]
theorem getItem_tuple_rev {t sl : Addr} {items : Array Value} {vs : Value} {Q : Value → Shared → Prop} (ht : IsTup s.heap t items) (hs : s.heap.IsSliceOf sl .none .none vs) (ps : IsPart vs (some (-1)))
    (h : Q (.ref s.heap.objs.size) { s with heap := s.heap.push { cls := .type "tuple", data := .seq items.toList.reverse.toArray } }) (hsz : items.size ≤ sizeLine) : wpAny (model prog w) A (getItem (.ref t) (.ref sl)) Q E s := by
  have hrev : sizeOk (.seq items.toList.reverse.toArray) := by
    show items.toList.reverse.toArray.size ≤ sizeLine
    rw [List.size_toArray, List.length_reverse, Array.length_toList]
    exact hsz
  obtain ⟨os, hos, hcs, hds⟩ := id hs
  have hTs : s.TypeIs (.ref sl) "slice" := ⟨os, hos, hcs⟩
  unfold getItem
  try with_reducible refine wpAny_holding ?_
  first | refine wpAny_bind (wpAny_pure ?_) | skip
  refine wpAny_bind (wpAny_sequenceKey ht.typeIs (by decide) ?_)
  refine wpAny_bind (wpAny_callSpecial?_slot (name := Str.ofString "__getitem__") ht.typeIs PyProof.Rows.slot_tuple_getitem (wpAny_call_entry PyProof.Rows.slot_tuple_getitem ht.typeIs entry_tuple_getitem ?_ (args_tuple_getitem _ _)))
  show wpAny _ _ (Builtin.Tuple.tupleItemsOf (.ref t) >>= _) _ _ s
  refine wpAny_bind (tupleItemsOf_ ht ?_)
  refine wpAny_bind (wpAny_typeOf hTs ?_)
  rw [if_pos (by decide)]
  refine wpAny_bind (sliceApplied_rev hs ps ?_)
  have hno : ¬ ((((items.size : Int) - 1) == 0 && (-1 : Int) == 1 && items.size == items.size) = true) := by
    intro q
    rw [Bool.and_eq_true, Bool.and_eq_true] at q
    exact absurd q.1.2 (by decide)
  show wpAny _ _ (if (((items.size : Int) - 1) == 0 && (-1 : Int) == 1 && items.size == items.size) = true then _ else _) _ _ s
  rw [if_neg hno, pick_rev]
  first
    | exact wpAny_bind (m := Builtin.Tuple.tupleExact _) (wpAny_newObj_type (wpAny_pure ⟨_, rfl, wpAny_pure h⟩) hrev)
    | exact wpAny_bind (m := Builtin.Tuple.tupleExact _) (wpAny_newObj_type (wpAny_bind (wpAny_pure (wpAny_pure ⟨_, rfl, wpAny_pure h⟩))) hrev)
    | exact wpAny_bind (wpAny_bind (m := Builtin.Tuple.tupleExact _) (wpAny_newObj_type (wpAny_pure (wpAny_pure ⟨_, rfl, wpAny_pure h⟩)) hrev))
    | exact wpAny_bind (wpAny_bind (m := Builtin.Tuple.tupleExact _) (wpAny_newObj_type (wpAny_pure ⟨_, rfl, wpAny_pure h⟩) hrev))
end
section
variable {X : Cx}
/-- t[::-1] -/
def tRevA (K : PySem.W.Frag) (te : TE) : TE := fun σ H Q => te σ H fun x H1 => ∃ a xs, x = .ref a ∧ ((SqL K H1 a xs ∧ ∀ p, H1 p = none → Q (.ref p) (upd H1 p (.lst xs.reverse))) ∨ (SqT K H1 a xs ∧ ∀ p, H1 p = none → Q (.ref p) (upd H1 p (.tup xs.reverse))))
theorem pe_revA {e : Expr} {te : TE} {k : Nat} {p1 p2 p3 pos : Pos} (he : PE X e te) : PE X (.Subscript e (.Slice none none (some (.UnaryOp .USub (.Constant (.int 1) k p1) p2)) p3) pos) (tRevA X.K te) := by
  refine ⟨fun pins s σ H Q I h => ?_⟩
  refine Subscript_ (thn (he.run pins s σ H _ I h) fun v s1 ⟨x, H1, I1, r1, q1⟩ => ?_)
  obtain ⟨a, xs, ex, hx⟩ := q1
  subst ex
  cases r1
  have hst : PO X (some (.UnaryOp .USub (.Constant (.int 1) k p1) p2)) (tPart (tUn (rU fun i => .int (-i)) (tC (.int 1)))) := po_some (pe_un un_neg pe_int)
  refine wpAny_Slice (thn (po_none.run pins s1 σ H1 (fun o H2 => o = none ∧ H2 = H1) I1 ⟨rfl, rfl⟩) fun vl s2 ⟨l, H2, I2, pl, el, e2⟩ => ?_)
  subst el e2
  refine thn (po_none.run pins s2 σ H2 (fun o H3 => o = none ∧ H3 = H2) I2 ⟨rfl, rfl⟩) fun vu s3 ⟨u, H3, I3, pu, eu, e3⟩ => ?_
  subst eu e3
  refine thn (hst.run pins s3 σ H3 (fun o H4 => o = some (-1) ∧ H4 = H3) I3 ⟨1, rfl, -1, rfl, rfl, rfl⟩) fun vs s4 ⟨o, H4, I4, ps, eo, e4⟩ => ?_
  subst eo e4
  have I5 : Inv X pins σ H4 { s4 with heap := s4.heap.push { cls := .type "slice", data := .fields #[vl, vu, vs] } } := I4.kept (t' := s4.toks) fun b ob q => Heap.get?_push_of_some _ q
  show wpAny (model X.prog X.w) X.A (subscriptTail e (.Slice none none (some (.UnaryOp .USub (.Constant (.int 1) k p1) p2)) p3) (.ref a) (.ref s4.heap.objs.size)) (EP X pins σ Q) X.xe { s4 with heap := s4.heap.push { cls := .type "slice", data := .fields #[vl, vu, vs] } }
  rcases hx with ⟨hx, q⟩ | ⟨hx, q⟩
  · obtain ⟨its, r, ht, hz⟩ := I5.list hx
    have hlen := r.length
    refine tail_any (ops := [.ref a, .ref s4.heap.objs.size]) ht.isList.typeIs (PySem.slot_list_getitem.lookup) ?_ (by with_unfolding_all rfl)
    refine wpAny_getItem_list_slice ht.isList (Heap.IsSliceOf.new _ vl vu vs) pl pu ps (by decide) ?_ (by rw [List.size_toArray]; omega)
    rw [PySem.W.krv_pick]
    refine ⟨.ref _, _, I5.laid (t' := s4.toks) (o := .lst xs.reverse) (fun b ob q => Heap.get?_push_of_some _ q) (Nat.le_refl _) ?_, rfl, q _ (I5.hok.fresh (Nat.le_refl _))⟩
    exact ⟨by rw [List.length_reverse]; exact hz, _, 0, r.reverse, Heap.get?_push_size _ rfl⟩
  · obtain ⟨its, r, ht, hz⟩ := I5.tuple hx
    have hlen : its.toArray.size = xs.length := by rw [List.size_toArray]; exact r.length.symm
    cases pl
    cases pu
    refine tail_any (ops := [.ref a, .ref s4.heap.objs.size]) ht.typeIs (PyProof.Rows.slot_tuple_getitem.lookup) ?_ (by with_unfolding_all rfl)
    refine getItem_tuple_rev ht (Heap.IsSliceOf.new _ _ _ vs) ps ?_ (by rw [hlen]; exact hz)
    refine ⟨.ref _, _, I5.laid (t' := s4.toks) (o := .tup xs.reverse) (fun b ob q => Heap.get?_push_of_some _ q) (Nat.le_refl _) ?_, rfl, q _ (I5.hok.fresh (Nat.le_refl _))⟩
    exact ⟨by rw [List.length_reverse]; exact hz, _, r.reverse, IsTup.new _ _⟩
theorem RepL.snoc {K : PySem.W.Frag} {H : Hp} {O : Addr → Prop} {v : V} {d : D} (h : Rep K H O v d) : ∀ {vs : List V} {ds : List D}, RepL K H O vs ds → RepL K H O (vs ++ [v]) (ds ++ [d])
  | _, _, .nil => .cons h .nil
  | _, _, .cons a r => .cons a (RepL.snoc h r)
theorem RepL.rev {K : PySem.W.Frag} {H : Hp} {O : Addr → Prop} : ∀ {vs : List V} {ds : List D}, RepL K H O vs ds → RepL K H O vs.reverse ds.reverse
  | _, _, .nil => .nil
  | _, _, .cons a r => by
    rw [List.reverse_cons, List.reverse_cons]
    exact RepL.snoc a (RepL.rev r)
@[simp] def revV (f : EvF) : EvF := fun env => (f env).bind fun x => match x with
  | .l xs => some (.l xs.reverse)
  | .t xs => some (.t xs.reverse)
  | _ => none
theorem de_rev {a : Expr} {f : EvF} {k : Nat} {p1 p2 p3 pos : Pos} (ha : DB X a f) : DE X (.Subscript a (.Slice none none (some (.UnaryOp .USub (.Constant (.int 1) k p1) p2)) p3) pos) (revV f) := by
  intro σ H O env d Q ok R e c
  obtain ⟨x, e1, e2⟩ := bind_some' e
  refine PEw (pe_revA wE_pe) (ha σ H O env x _ ok R e1 fun v H1 s1 r1 => ?_)
  have ok1 := ok.same s1
  cases x <;> first
    | (cases e2; done)
    | skip
  · cases e2
    obtain ⟨q, vs, rfl, h1, h2⟩ := r1.tup
    exact ⟨q, vs, rfl, .inr ⟨h1, fun p np => c _ _ (s1.trans (same_new np)) (Rep.newT ok1 np h2.rev)⟩⟩
  · cases e2
    obtain ⟨q, vs, rfl, h1, h2⟩ := r1.lst
    exact ⟨q, vs, rfl, .inl ⟨SqL.of h1, fun p np => c _ _ (s1.trans (same_new np)) (Rep.newL ok1 np h2.rev)⟩⟩
end
end PL
/-! PL m: the evaluator's cases. -/
namespace PL
open PySem PySem.Spec PyProof.Rows L2

/-! ### names, constants -/
def nameS (Γ : Ga) (x : Str) (pos : Pos) : Ev := match Γ.slot x with
  | some i => if Γ.vis x = true then .ofB (.Name x pos) (fun env => getV env i) (fun env => getB env i) else .bad
  | none => .bad
def constS (c : Const) (k : Nat) (pos : Pos) : Ev := match c with
  | .int i => .ofE (.Constant c k pos) fun _ => some (.i i)
  | .bool b => .ofE (.Constant c k pos) fun _ => some (.b b)
  | .none => .ofE (.Constant c k pos) fun _ => some .n
  | .str s => .ofE (.Constant c k pos) fun _ => some (.s s)
  | _ => .bad
section
variable {Γ : Ga} {X : Cx} {rec : Rc}
theorem nameS_ok (g : GOk Γ X) (x : Str) (pos : Pos) : EvOk X (.Name x pos) (nameS Γ x pos) := by
  unfold nameS
  split
  · rename_i i h
    refine if_ok fun q => ?_
    obtain ⟨v1, v2, v3⟩ := g.vis q
    exact ofB_ok (de_name (g.slot h) v1 v2 v3) (db_name (g.slot h) v1 v2 v3)
  · exact bad_ok
theorem constS_ok (c : Const) (k : Nat) (pos : Pos) : EvOk X (.Constant c k pos) (constS c k pos) := by
  unfold constS
  split
  · exact ofE_ok de_int
  · exact ofE_ok de_bl
  · exact ofE_ok de_non
  · exact ofE_ok de_str
  · exact bad_ok

/-! ### operators -/
/-- [..] * k, fresh -/
@[simp] def mulLD : D → D → Option D
  | .l xs, .i k => if 0 ≤ k ∧ absLe k 1000000 = true ∧ xs.length * k.toNat ≤ SZ then some (.l (List.replicate k.toNat xs).flatten) else none
  | _, _ => none
theorem df_mulL {a b : Expr} {f g : EvF} {pos : Pos} (ha : DB X a f) (hb : DB X b g) : DF X (.BinOp a .Mult b pos) (bind2 mulLD f g) := by
  intro σ H O env d Q ok R e c pins s I
  obtain ⟨p, q, e1, e2, e3⟩ := bind2_some e
  refine wpAny_BinOp (bin (R := fun x y H2 => ∃ H1, RepB X.K H1 O x p ∧ RepB X.K H2 O y q ∧ Same H H1 ∧ Same H1 H2 ∧ OkO H2 O) wE_pe wE_pe I (ha σ H O env p _ ok R e1 fun x H1 s1 r1 => hb σ H1 O env q _ (ok.same s1) (R.same s1) e2 fun y H2 s2 r2 => ⟨H1, r1, r2, s1, s2, (ok.same s1).same s2⟩) ?_)
  intro v u s2 x y H2 I2 rx ry ⟨H1, r1, r2, k1, k2, ok2⟩
  replace r1 := r1.same k2
  cases p <;> cases q <;> first
    | (cases e3; done)
    | skip
  rename_i xs k
  have e3 : (if 0 ≤ k ∧ absLe k 1000000 = true ∧ xs.length * k.toNat ≤ SZ then some (D.l (List.replicate k.toNat xs).flatten) else none) = some d := e3
  split at e3
  · rename_i hk
    have hk2 := absLe_ok hk.2.1
    cases e3
    obtain ⟨a', vs, rfl, ha, ra⟩ := r1.lst
    obtain rfl := r2.int
    have l1 := ra.length
    exact op_rep pins s2 σ H2 _ _ v u Q I2 rx ry ⟨a', k, vs, rfl, rfl, ha, by omega, by omega, by rw [l1, SZ_eq]; exact hk.2.2, fun p np => c p _ _ _ ((k1.trans k2).trans (same_new np)) ((k1.trans k2).free np) rfl upd_same (newF np (ra.rep k.toNat))⟩
  · cases e3
def binS (x : Expr) (op : Operator) (a b : Ev) : Ev := match opD op with
  | some F => { Ev.ofE x (bind2 F a.b b.b) with f := if op = .Mult then bind2 mulLD a.b b.b else noE }
  | none => .bad
theorem binS_ok {a b : Expr} {op : Operator} {pos : Pos} {ra rb : Ev} (ha : EvOk X a ra) (hb : EvOk X b rb) : EvOk X (.BinOp a op b pos) (binS (.BinOp a op b pos) op ra rb) := by
  unfold binS
  split
  · rename_i F h
    have q := ofE_ok (de_bin (pos := pos) (opD_ok h) ha.b hb.b)
    refine ⟨q.e, q.b, ?_, q.t⟩
    show DF X _ (if op = .Mult then bind2 mulLD ra.b rb.b else noE)
    split
    · rename_i e
      subst e
      exact df_mulL ha.b hb.b
    · exact df_no
  · exact bad_ok
@[simp] def negV (f : EvF) : EvF := fun env => (f env).bind fun d => match d with
  | .i x => some (.i (-x))
  | _ => none
@[simp] def notV (f : EvF) : EvF := fun env => (asB f env).map fun x => .b (!x)
@[simp] def notT (f : List Cell → Option Bool) : List Cell → Option Bool := fun env => (f env).map (!·)
def unS (x : Expr) (op : UnaryOp) (a : Ev) : Ev := match op with
  | .Not => ⟨notV a.e, notV a.e, noE, notT a.t⟩
  | .USub => .ofE x (negV a.e)
  | _ => .bad
theorem unS_ok {a : Expr} {op : UnaryOp} {pos : Pos} {ra : Ev} (ha : EvOk X a ra) : EvOk X (.UnaryOp op a pos) (unS (.UnaryOp op a pos) op ra) := by
  cases op <;> first
    | exact bad_ok
    | exact ⟨de_not ha.e, (de_not ha.e).db, df_no, dt_not ha.t⟩
    | exact ofE_ok (de_neg ha.e)

/-! ### and, or -/
def andEs (ev : Expr → Ev) : List Expr → EvF
  | [] => noE
  | [a] => (ev a).e
  | a :: r => andV (ev a).e (andEs ev r)
def orEs (ev : Expr → Ev) : List Expr → EvF
  | [] => noE
  | [a] => (ev a).e
  | a :: r => orV (ev a).e (orEs ev r)
def andTs (ev : Expr → Ev) : List Expr → List Cell → Option Bool
  | [] => noT
  | [a] => (ev a).t
  | a :: r => andT (ev a).t (andTs ev r)
def orTs (ev : Expr → Ev) : List Expr → List Cell → Option Bool
  | [] => noT
  | [a] => (ev a).t
  | a :: r => orT (ev a).t (orTs ev r)
theorem dw_no {x : Expr} : DW X x noT := fun _ _ _ _ _ _ _ _ h => nomatch h
theorem andEs_ok {ev : Expr → Ev} (h : ∀ x, EvOk X x (ev x)) {pos : Pos} : ∀ es : List Expr, DE X (.BoolOp .And es pos) (andEs ev es)
  | [] => de_no
  | [a] => de_one (h a).e
  | a :: b :: r => de_and (h a).e (andEs_ok h (b :: r))
theorem orEs_ok {ev : Expr → Ev} (h : ∀ x, EvOk X x (ev x)) {pos : Pos} : ∀ es : List Expr, DE X (.BoolOp .Or es pos) (orEs ev es)
  | [] => de_no
  | [a] => de_one (h a).e
  | a :: b :: r => de_or (h a).e (orEs_ok h (b :: r))
theorem andTs_ok {ev : Expr → Ev} (h : ∀ x, EvOk X x (ev x)) {pos : Pos} : ∀ es : List Expr, DW X (.BoolOp .And es pos) (andTs ev es)
  | [] => dw_no
  | [a] => dw_and1 (h a).t
  | a :: b :: r => dw_and (h a).t (andTs_ok h (b :: r))
theorem orTs_ok {ev : Expr → Ev} (h : ∀ x, EvOk X x (ev x)) {pos : Pos} : ∀ es : List Expr, DW X (.BoolOp .Or es pos) (orTs ev es)
  | [] => dw_no
  | [a] => dw_or1 (h a).t
  | a :: b :: r => dw_or (h a).t (orTs_ok h (b :: r))
def boolS (op : BoolOp) (ev : Expr → Ev) (es : List Expr) : Ev := match op with
  | .And => ⟨andEs ev es, andEs ev es, noE, andTs ev es⟩
  | .Or => ⟨orEs ev es, orEs ev es, noE, orTs ev es⟩
theorem boolS_ok {op : BoolOp} {ev : Expr → Ev} (h : ∀ x, EvOk X x (ev x)) {pos : Pos} {es : List Expr} : EvOk X (.BoolOp op es pos) (boolS op ev es) := by
  cases op
  · exact ⟨andEs_ok h es, (andEs_ok h es).db, df_no, (andTs_ok h es).dt⟩
  · exact ⟨orEs_ok h es, (orEs_ok h es).db, df_no, (orTs_ok h es).dt⟩

/-! ### comparisons -/
def compS (ev : Expr → Ev) (a : Expr) (ops : List CmpOp) (bs : List Expr) : Ev := match ops, bs with
  | [op], [b] => if behindInMarks op b = false then ⟨bind2 (cmpD op) (ev a).b (ev b).b, bind2 (cmpD op) (ev a).b (ev b).b, noE, asB (bind2 (cmpD op) (ev a).b (ev b).b)⟩ else .bad
  | [op, op'], [b, c] => match cmpB op, cmpB op' with
    | some p, some q => if lastMarks [op, op'] [b, c] = false then ⟨chainV p q (ev a).b (ev b).b (ev c).b, chainV p q (ev a).b (ev b).b (ev c).b, noE, asB (chainV p q (ev a).b (ev b).b (ev c).b)⟩ else .bad
    | _, _ => .bad
  | _, _ => .bad
theorem compS_ok {ev : Expr → Ev} (hu : X.A.units + 65 < cLine) (h : ∀ x, EvOk X x (ev x)) {pos : Pos} {a : Expr} {ops : List CmpOp} {bs : List Expr} : EvOk X (.Compare a ops bs pos) (compS ev a ops bs) := by
  unfold compS
  split
  · rename_i op b
    split
    · rename_i q
      have z := de_cmp (pos := pos) (cmpD_ok hu op) (h a).b (h b).b q
      exact ⟨z, z.db, df_no, dt_cmp (cmpD_ok hu op) (h a).b (h b).b q⟩
    · exact bad_ok
  · rename_i op op' b c
    split
    · rename_i p q e1 e2
      split
      · rename_i z
        have w := de_chain (pos := pos) (cmpB_ok e1) (cmpB_ok e2) (h a).b (h b).b (h c).b z
        exact ⟨w, w.db, df_no, dt_chain (cmpB_ok e1) (cmpB_ok e2) (h a).b (h b).b (h c).b z⟩
      · exact bad_ok
    · exact bad_ok
  · exact bad_ok
def iteS (c a b : Ev) : Ev := ⟨iteV c.t a.e b.e, iteV c.t a.e b.e, noE, noT⟩
theorem iteS_ok {c a b : Expr} {rc ra rb : Ev} {pos : Pos} (hc : EvOk X c rc) (ha : EvOk X a ra) (hb : EvOk X b rb) : EvOk X (.IfExp c a b pos) (iteS rc ra rb) :=
  ⟨de_ite hc.t ha.e hb.e, (de_ite hc.t ha.e hb.e).db, df_no, dt_no⟩

/-! ### displays, subscripts -/
def tupS (x : Expr) (ev : Expr → Ev) (es : List Expr) : Ev := if es.all noStar = true then .ofE x (fun env => (argsE ev es env).bind fun xs => if xs.length ≤ SZ then some (.t xs) else none) else .bad
theorem tupS_ok {ev : Expr → Ev} (h : ∀ x, EvOk X x (ev x)) {pos : Pos} {es : List Expr} {k : Nat} : EvOk X (.Tuple es k pos) (tupS (.Tuple es k pos) ev es) :=
  if_ok fun q => ofE_ok (de_tup (argsE_ok h q))
def lstS (x : Expr) (ev : Expr → Ev) (es : List Expr) : Ev := if es.all noStar = true then .ofF x (fun env => (argsE ev es env).bind fun xs => if xs.length ≤ SZ then some (.l xs) else none) else .bad
theorem lstS_ok {ev : Expr → Ev} (h : ∀ x, EvOk X x (ev x)) {pos : Pos} {es : List Expr} : EvOk X (.List es pos) (lstS (.List es pos) ev es) :=
  if_ok fun q => ofF_ok (df_lst (argsE_ok h q))
def isSlice : Expr → Bool
  | .Slice .. => true
  | _ => false
theorem plainIx_of {b : Expr} (h : isSlice b = false) : PlainIx b := by
  intro o i
  cases b <;> first | (cases h; done) | rfl
def partS (ev : Expr → Ev) : Option Expr → List Cell → Option (Option Int)
  | none => fun _ => some none
  | some a => partV (ev a).e
theorem partS_ok {ev : Expr → Ev} (h : ∀ x, EvOk X x (ev x)) : ∀ o : Option Expr, DP' X o (partS ev o)
  | none => dp_none
  | some a => dp_some (h a).e
def subS (x : Expr) (ev : Expr → Ev) (a b : Expr) : Ev := match b with
  | .Slice lo hi none _ => .ofE x (sliceV (ev a).b (partS ev lo) (partS ev hi))
  | .Slice none none (some (.UnaryOp .USub (.Constant (.int 1) _ _) _)) _ => .ofE x (revV (ev a).b)
  | b => if isSlice b = false then .ofE x (bind2 ixD (ev a).b (ev b).b) else .bad
theorem subS_ok {ev : Expr → Ev} (h : ∀ x, EvOk X x (ev x)) {pos : Pos} {a b : Expr} : EvOk X (.Subscript a b pos) (subS (.Subscript a b pos) ev a b) := by
  unfold subS
  split
  · exact ofE_ok (de_slice (h a).b (partS_ok h _) (partS_ok h _))
  · exact ofE_ok (de_rev (h a).b)
  · split
    · rename_i q
      exact ofE_ok (de_ix (h a).b (h b).b (plainIx_of q))
    · exact bad_ok
end
end PL
/-! PL q: sorted(set(xs)), xs a list of tuples of ints. -/
namespace PL
open PySem PySem.Spec PyProof.Rows L2

/-! ### the list that comes -/
def srtB : Int := 1000000
/-- k among strictly ascending rows -/
def insT (k : List Int) : List (List Int) → List (List Int)
  | [] => [k]
  | x :: r => if k = x then x :: r else if TS.code srtB k < TS.code srtB x then k :: x :: r else x :: insT k r
def srtT : List (List Int) → List (List Int)
  | [] => []
  | k :: r => insT k (srtT r)
theorem insT_mem {k y : List Int} : ∀ {l : List (List Int)}, y ∈ insT k l ↔ y = k ∨ y ∈ l
  | [] => by simp [insT]
  | x :: r => by
    unfold insT
    split
    · rename_i e
      subst e
      simp
    · split
      · simp
      · rw [List.mem_cons, insT_mem (l := r), List.mem_cons]
        constructor
        · rintro (h | h | h)
          · exact .inr (.inl h)
          · exact .inl h
          · exact .inr (.inr h)
        · rintro (h | h | h)
          · exact .inr (.inl h)
          · exact .inl h
          · exact .inr (.inr h)
theorem srtT_mem {y : List Int} : ∀ {l : List (List Int)}, y ∈ srtT l ↔ y ∈ l
  | [] => by simp [srtT]
  | k :: r => by rw [srtT, insT_mem, srtT_mem (l := r), List.mem_cons]
def SameL (d : Nat) (l : List (List Int)) : Prop := ∀ k ∈ l, k.length = d ∧ TS.Bd srtB k
theorem code_inj' : ∀ {a b : List Int}, a.length = b.length → TS.Bd srtB a → TS.Bd srtB b → TS.code srtB a = TS.code srtB b → a = b
  | [], [], _, _, _, _ => rfl
  | x :: a, y :: b, hl, ha, hb, e => by
    have hl' : a.length = b.length := by simpa using hl
    have hxy : x = y := by
      rcases Int.lt_trichotomy x y with h | h | h
      · have := TS.code_lt hl' ha.tail hb.tail h; omega
      · exact h
      · have := TS.code_lt hl'.symm hb.tail ha.tail h; omega
    subst hxy
    have e2 : TS.code srtB a = TS.code srtB b := by
      rcases Int.lt_trichotomy (TS.code srtB a) (TS.code srtB b) with h | h | h
      · have := (TS.code_same (B := srtB) (d := x) hl').mpr h; omega
      · exact h
      · have := (TS.code_same (B := srtB) (d := x) hl'.symm).mpr h; omega
    rw [code_inj' hl' ha.tail hb.tail e2]
theorem insT_pw {d : Nat} {k : List Int} (hk : k.length = d ∧ TS.Bd srtB k) : ∀ {l : List (List Int)}, SameL d l → l.Pairwise (fun a b => TS.code srtB a < TS.code srtB b) → (insT k l).Pairwise (fun a b => TS.code srtB a < TS.code srtB b)
  | [], _, _ => by simp [insT]
  | x :: r, hs, pw => by
    unfold insT
    rw [List.pairwise_cons] at pw
    split
    · rw [List.pairwise_cons]; exact pw
    · rename_i ne
      split
      · rename_i hlt
        rw [List.pairwise_cons, List.pairwise_cons]
        refine ⟨fun y hy => ?_, pw⟩
        rcases List.mem_cons.mp hy with e | e
        · rw [e]; exact hlt
        · have := pw.1 y e; omega
      · rename_i hge
        rw [List.pairwise_cons]
        refine ⟨fun y hy => ?_, insT_pw hk (fun z hz => hs z (List.mem_cons_of_mem _ hz)) pw.2⟩
        rcases insT_mem.mp hy with e | e
        · subst e
          obtain ⟨x1, x2⟩ := hs x List.mem_cons_self
          have : TS.code srtB y ≠ TS.code srtB x := fun z => ne (code_inj' (by rw [hk.1, x1]) hk.2 x2 z)
          omega
        · exact pw.1 y e
theorem srtT_same {d : Nat} {l : List (List Int)} (h : SameL d l) : SameL d (srtT l) := fun k hk => h k (srtT_mem.mp hk)
theorem srtT_pw {d : Nat} : ∀ {l : List (List Int)}, SameL d l → (srtT l).Pairwise (fun a b => TS.code srtB a < TS.code srtB b)
  | [], _ => by simp [srtT]
  | k :: r, h => by
    rw [srtT]
    have hr : SameL d r := fun z hz => h z (List.mem_cons_of_mem _ hz)
    exact insT_pw (h k List.mem_cons_self) (srtT_same hr) (srtT_pw hr)
theorem srtT_nodup {d : Nat} {l : List (List Int)} (h : SameL d l) : (srtT l).Nodup := (srtT_pw h).imp fun {a b} z e => by subst e; omega
/-- whatever sorts so is it -/
theorem srtT_unique {d : Nat} {l m : List (List Int)} (h : SameL d l) (nd : m.Nodup) (mem : ∀ k, k ∈ m ↔ k ∈ l) (pw : m.Pairwise (fun a b => TS.code srtB a ≤ TS.code srtB b)) : m = srtT l := by
  have hm : SameL d m := fun k hk => h k ((mem k).mp hk)
  refine List.Perm.eq_of_pairwise (le := fun a b => TS.code srtB a ≤ TS.code srtB b) (fun a b ha hb h1 h2 => ?_) pw ((srtT_pw h).imp fun {a b} z => by omega) ((List.perm_ext_iff_of_nodup nd (srtT_nodup h)).mpr fun k => (mem k).trans srtT_mem.symm)
  obtain ⟨a1, a2⟩ := hm a ha
  obtain ⟨b1, b2⟩ := srtT_same h b hb
  exact code_inj' (by rw [a1, b1]) a2 b2 (by omega)
def tupsD : List D → Option (List (List Int))
  | [] => some []
  | .t xs :: r => (intsD xs).bind fun ns => (tupsD r).map (ns :: ·)
  | _ :: _ => none
def sameB (d : Nat) (l : List (List Int)) : Bool := l.all fun k => decide (k.length = d) && k.all fun m => decide (0 ≤ m) && absLe m 999999
theorem sameB_ok {d : Nat} {l : List (List Int)} (h : sameB d l = true) : SameL d l := fun k hk => by
  have q := List.all_eq_true.mp h k hk
  rw [Bool.and_eq_true, decide_eq_true_eq, List.all_eq_true] at q
  refine ⟨q.1, fun m hm => ?_⟩
  have := q.2 m hm
  rw [Bool.and_eq_true, decide_eq_true_eq] at this
  have h2 := absLe_ok this.2
  unfold srtB
  omega
def widthT : List (List Int) → Nat
  | [] => 1
  | k :: _ => k.length
def srtSetD : D → Option D
  | .l ds => (tupsD ds).bind fun ns => if (decide (ns.length < 64) && decide (1 ≤ widthT ns) && sameB (widthT ns) ns) = true then some (.l ((srtT ns).map fun k => .t (k.map .i))) else none
  | _ => none
section
variable {K : PySem.W.Frag} {H : Hp} {O : Addr → Prop}
theorem tupsD_rep : ∀ {vs : List V} {ds : List D} {ns : List (List Int)}, RepL K H O vs ds → tupsD ds = some ns → ∃ ks : List (Addr × List Int), vs = ks.map (fun p => V.ref p.1) ∧ ks.map (·.2) = ns ∧ ∀ p ∈ ks, SqT K H p.1 (p.2.map V.int) ∧ Rep K H O (.ref p.1) (.t (p.2.map .i))
  | _, [], ns, .nil, e => by cases e; exact ⟨[], rfl, rfl, fun p hp => nomatch hp⟩
  | _, d :: ds, ns, .cons a r, e => by
    cases d <;> first
      | (cases e; done)
      | skip
    rename_i xs
    have e : ((intsD xs).bind fun ns => (tupsD ds).map (ns :: ·)) = some ns := e
    obtain ⟨n1, e1, e⟩ := bind_some' e
    obtain ⟨n2, e2, e⟩ := map_some' e
    subst e
    obtain ⟨ks, h1, h2, h3⟩ := tupsD_rep r e2
    have e3 := intsD_some e1
    subst e3
    obtain ⟨q, vs', rfl, s1, s2⟩ := RepB.tup (.inl a)
    rw [s2.ints] at s1
    refine ⟨(q, n1) :: ks, by rw [h1]; rfl, by rw [List.map_cons, h2], fun p hp => ?_⟩
    rcases List.mem_cons.mp hp with e | e
    · subst e; exact ⟨s1, a⟩
    · exact h3 p e
theorem sqT_same {H' : Hp} (k : Same H H') {a : Addr} {xs : List V} (h : SqT K H a xs) : SqT K H' a xs := by
  rcases h with h | h
  · exact .inl (rd_kp (O := fun _ => False) (Kp.of k) h fun z => z)
  · exact .inr h
end
section
variable {X : Cx} {e : Expr} {f : EvF} {p p2 pos pos2 : Pos}
theorem df_srtSet (hc : X.calm = true) (hu : X.A.units + 64 < cLine) (hg : Gl X "sorted") (hm : X.mg "sorted" = none) (hg2 : Gl X "set") (hm2 : X.mg "set" = none) (ha : DB X e f) (hs : starEach [e] X.env = (false, eval e X.env) :: starEach [] X.env) :
    DF X (.Call (.Name "sorted" p) [.Call (.Name "set" p2) [e] [] pos2] [] pos) (fun env => (f env).bind srtSetD) := by
  intro σ H O env d Q ok R z c
  obtain ⟨q, e1, e2⟩ := bind_some' z
  refine PEw (pe_callB (cr_sortedT hc) hg hm (by decide +kernel) (pa_cons (pe_callTy (cr_setOfT hc hu) hg2 hm2 (by decide +kernel) (pa_cons wE_pe pa_nil hs) (by decide) (by decide) hs rfl) pa_nil rfl) (by decide) (by decide) rfl rfl) ?_
  refine ha σ H O env q _ ok R e1 fun v H1 s1 r1 => ?_
  cases q <;> first
    | (cases e2; done)
    | skip
  rename_i ds
  have e2 : ((tupsD ds).bind fun ns => if (decide (ns.length < 64) && decide (1 ≤ widthT ns) && sameB (widthT ns) ns) = true then some (D.l ((srtT ns).map fun k => .t (k.map .i))) else none) = some d := e2
  obtain ⟨ns, e3, e4⟩ := bind_some' e2
  split at e4 <;> first
    | (cases e4; done)
    | skip
  rename_i hk
  cases e4
  rw [Bool.and_eq_true, Bool.and_eq_true, decide_eq_true_eq, decide_eq_true_eq] at hk
  obtain ⟨⟨k1, k2⟩, k3⟩ := hk
  have hsame := sameB_ok k3
  obtain ⟨a, vs, rfl, h1, h2⟩ := r1.lst
  obtain ⟨ks, q1, q2, q3⟩ := tupsD_rep h2 e3
  subst q1
  have hlen : ks.length = ns.length := by rw [← q2, List.length_map]
  refine ⟨a, ks, rfl, SqL.of h1, fun p hp => (q3 p hp).1, by omega, fun b L nb sub cov => ?_⟩
  have sb := same_new (o := SetTO X.prog X.w b L) nb
  refine ⟨b, L, widthT ns, srtB, rfl, upd_same, fun p hp => sqT_same sb (q3 p (sub p hp)).1, k2, fun p hp => hsame p.2 (by rw [← q2]; exact List.mem_map_of_mem (sub p hp)), fun L' p pm nd few pw np => ?_⟩
  have e5 : L'.map (·.2) = srtT ns := by
    refine srtT_unique hsame nd (fun k => ?_) (List.pairwise_map.mpr pw)
    rw [(pm.map (·.2)).mem_iff, ← q2]
    constructor
    · intro h
      obtain ⟨y, y1, y2⟩ := List.mem_map.mp h
      rw [← y2]
      exact List.mem_map_of_mem (sub y y1)
    · intro h
      obtain ⟨y, y1, y2⟩ := List.mem_map.mp h
      rw [← y2]
      exact cov y y1
  have e6 : (srtT ns).map (fun k => D.t (k.map .i)) = L'.map fun q => D.t (q.2.map .i) := by rw [← e5, List.map_map]; rfl
  rw [e6] at c
  have rl : ∀ M : List (Addr × List Int), (∀ q ∈ M, q ∈ ks) → RepL X.K (upd H1 b (SetTO X.prog X.w b L)) O (M.map fun q => V.ref q.1) (M.map fun q => D.t (q.2.map .i)) := by
    intro M
    induction M with
    | nil => intro _; exact .nil
    | cons m M ih => intro h; exact .cons ((q3 m (h m List.mem_cons_self)).2.same sb) (ih fun q hq => h q (List.mem_cons_of_mem _ hq))
  refine c p _ _ _ ((s1.trans sb).trans (same_new np)) (s1.free (sb.free np)) rfl upd_same (newF np (rl L' fun q hq => sub q (pm.mem_iff.mp hq)))
end
end PL
/-! PL z: min of a list of tuples of ints. -/
namespace PL
open PySem PySem.Spec PySem.W PyProof.Rows L2
theorem tupsD_inv : ∀ {ds : List D} {ns : List (List Int)}, tupsD ds = some ns → ds = ns.map fun k => .t (k.map .i)
  | [], _, h => by cases h; rfl
  | .t xs :: r, ns, h => by
    rw [tupsD] at h
    obtain ⟨k, e1, h⟩ := bind_some' h
    obtain ⟨m, e2, h⟩ := map_some' h
    subst h
    have : ∀ {xs : List D} {k : List Int}, intsD xs = some k → xs = k.map .i := by
      intro xs
      induction xs with
      | nil => intro k h; cases h; rfl
      | cons x xs ih =>
        intro k h
        cases x <;> first
          | (cases h; done)
          | skip
        rw [intsD] at h
        obtain ⟨m, e, h⟩ := map_some' h
        subst h
        rw [ih e]; rfl
    rw [List.map_cons, ← tupsD_inv e2, ← this e1]
  | .n :: _, _, h => by cases h
  | .b _ :: _, _, h => by cases h
  | .i _ :: _, _, h => by cases h
  | .s _ :: _, _, h => by cases h
  | .l _ :: _, _, h => by cases h
  | .r _ _ :: _, _, h => by cases h
  | .z _ :: _, _, h => by cases h
def tPy (k : List Int) : PyData := .tuple (k.map .int)
theorem toPy_t (k : List Int) : toPy (.t (k.map .i)) = tPy k := by
  rw [toPy, toPys_eq, List.map_map]; rfl
theorem toPys_t (ns : List (List Int)) : toPys (ns.map fun k => D.t (k.map .i)) = ns.map tPy := by
  rw [toPys_eq, List.map_map]
  exact List.map_congr_left fun k _ => toPy_t k
theorem tPy_inj {a b : List Int} (h : tPy a = tPy b) : a = b := by
  unfold tPy at h
  replace h := PyData.tuple.inj h
  induction a generalizing b with
  | nil => cases b with | nil => rfl | cons y b => cases h
  | cons x a ih => cases b with
    | nil => cases h
    | cons y b =>
      rw [List.map_cons, List.map_cons, List.cons.injEq] at h
      rw [PyData.int.inj h.1, ih h.2]
theorem alike_t : ∀ a b : List Int, alikeAll (a.map .int) (b.map .int) = true
  | [], _ => by simp [alikeAll]
  | _ :: _, [] => by simp [alikeAll]
  | x :: a, y :: b => by rw [List.map_cons, List.map_cons, alikeAll, alike, alike_t a b]; rfl
theorem lt_t (a b : List Int) : dataLt (tPy a) (tPy b) = decide (a < b) := by
  rw [tPy, tPy, dataLt_tuple]
  exact dataLt_ints a b
def minTL (k : List Int) (r : List (List Int)) : List Int := r.foldl (fun a y => if decide (y < a) = true then y else a) k
theorem minTL_py : ∀ (r : List (List Int)) (k : List Int), PySem.W.minD (tPy k) (r.map tPy) = tPy (minTL k r)
  | [], _ => rfl
  | y :: r, k => by
    unfold PySem.W.minD minTL
    rw [List.map_cons, List.foldl_cons, List.foldl_cons, lt_t]
    by_cases h : decide (y < k) = true
    · rw [if_pos h, if_pos h]; exact minTL_py r y
    · rw [if_neg h, if_neg h]; exact minTL_py r k
@[simp] def minTD : List D → Option D
  | [.l xs] => (tupsD xs).bind fun ks => match ks with
    | [] => none
    | k :: r => some (.t ((minTL k r).map .i))
  | _ => none
theorem vals_get {vs : List V} {us : List Value} (h : Vals vs us) : ∀ {i : Nat} {u : Value}, us[i]? = some u → ∃ v, vs[i]? = some v ∧ RelV v u := by
  induction h with
  | nil => intro i u e; simp at e
  | cons r _ ih =>
    intro i u e
    cases i with
    | zero => simp at e; subst e; exact ⟨_, rfl, r⟩
    | succ i => simpa using ih (by simpa using e)
theorem ok_tt (k : List Int) : okD 1 (.t (k.map .i)) = true := by
  show (k.map D.i).all (okD 0) = true
  rw [List.all_eq_true]
  intro x hx
  obtain ⟨y, _, rfl⟩ := List.mem_map.mp hx
  rfl
theorem cf_minT {X : Cx} (hc : X.calm = true) (hu : X.A.units + 65 < cLine) : CallF X (.builtin "min") minTD := by
  intro pins s σ H O xs us ds d Q I ok rv rb e c
  unfold minTD at e
  split at e
  · rename_i ys
    obtain ⟨v, rfl, r⟩ := repB1 rb
    obtain ⟨ks, e1, e2⟩ := bind_some' e
    cases ks with
    | nil => cases e2
    | cons k0 r0 =>
      cases e2
      have hy := tupsD_inv e1
      subst hy
      obtain ⟨a, vs, rfl, ha, ra⟩ := r.lst
      obtain ⟨its, rvs, hl, _⟩ := I.list (SqL.of ha)
      rw [Vals.ref1 rv]
      have hok : ((k0 :: r0).map fun k => D.t (k.map .i)).all (okD 1) = true := by
        rw [List.all_eq_true]
        intro x hx
        obtain ⟨k, _, rfl⟩ := List.mem_map.mp hx
        exact ok_tt k
      have hdp := repL_dp 1 ra hok
      rw [toPys_t] at hdp
      obtain ⟨as, hr⟩ := Dp.readsAll I _ _ _ hdp rvs
      have hdep : PyData.depthAll ((k0 :: r0).map tPy) ≤ 2 := by
        have := (lay_of_ok 2 (.l ((k0 :: r0).map fun k : List Int => D.t (k.map D.i))) hok).2
        rw [toPy, toPys_t, PyData.depth] at this
        omega
      refine min_list_data (I.ok.hd hc) hl.isList hr ⟨fun x hx y hy => ?_, fun x hx => ?_⟩ (by rw [← List.map_cons]; show X.A.units + 1 + PyData.depthAll _ < cLine; omega) fun i u h' tk bs hi hrd hk => ?_
      · rw [← List.map_cons] at hx hy
        obtain ⟨p, _, rfl⟩ := List.mem_map.mp hx
        obtain ⟨q, _, rfl⟩ := List.mem_map.mp hy
        rw [tPy, tPy, alike]
        exact alike_t p q
      · rw [← List.map_cons] at hx
        obtain ⟨p, _, rfl⟩ := List.mem_map.mp hx
        exact nofun
      · have hi' : its[i]? = some u := by simpa using hi
        obtain ⟨w, hw, rw'⟩ := vals_get rvs hi'
        obtain ⟨dd, hd, rep⟩ := ra.getV hw
        rw [List.getElem?_map] at hd
        cases hk2 : (k0 :: r0)[i]? with
        | none => rw [hk2] at hd; cases hd
        | some kk =>
          rw [hk2] at hd
          cases hd
          have h1 := rep_dp 1 rep (ok_tt kk)
          rw [toPy_t] at h1
          obtain ⟨as2, hr2⟩ := Dp.reads I _ _ _ h1 rw'
          have hr3 := reads_keeps hk hr2
          have := (Reads.unique hr3 _ _ hrd).1
          rw [minTL_py] at this
          have := tPy_inj this
          rw [← this] at c
          exact ⟨w, H, I.kept hk, rw', c _ _ (Same.refl _) rep⟩
  · cases e
theorem CallF.or {X : Cx} {fv : Value} {F G : List D → Option D} (h1 : CallF X fv F) (h2 : CallF X fv G) : CallF X fv fun xs => (F xs).or (G xs) := by
  intro pins s σ H O xs us ds d Q I ok rv rb e c
  cases hf : F ds with
  | some x =>
    have e : (F ds).or (G ds) = some d := e
    rw [hf] at e
    cases e
    exact h1 pins s σ H O xs us ds _ Q I ok rv rb hf c
  | none =>
    have e : (F ds).or (G ds) = some d := e
    rw [hf] at e
    exact h2 pins s σ H O xs us ds d Q I ok rv rb e c
/-- min, of ints or of tuples of ints -/
def minE (xs : List D) : Option D := (minD xs).or (minTD xs)
theorem cf_minE {X : Cx} (hc : X.calm = true) (hu : X.A.units + 65 < cLine) : CallF X (.builtin "min") minE := (cf_min hc).or (cf_minT hc hu)
/-! ### sum of a tuple of ints -/
section
variable {prog : Program} {w : World} {A : Around} {E : Value → Shared → Prop} {s : Shared} {l : Addr}
theorem iter_intTuple {xs : Array (Int × Tok)} {Q : Value → Shared → Prop} (hl : s.heap.IsTuple l (intItems xs))
    (h : ∀ s₂ : Shared, s₂ = { s with heap := s.heap.push { cls := .type "tuple_iterator", data := .fields #[.ref l, .int 0 0] } } →
      (s₂.heap.IsTupleIter s.heap.objs.size l 0 ∧ s₂.heap.IsTuple l (intItems xs)) → (∀ b ∈ [s.heap.objs.size, l], b < s₂.heap.objs.size) → l ≠ s.heap.objs.size → Q (.ref s.heap.objs.size) s₂) :
    wpAny (model prog w) A (pyIter (.ref l)) Q E s := by
  have hlt : l < s.heap.objs.size := by obtain ⟨_, e, _⟩ := hl; exact Heap.lt_size e
  refine wpAny_pyIter_tuple hl (h _ rfl ⟨⟨_, Heap.get?_push_size _ rfl, rfl, rfl⟩, hl.push _⟩ (fun b hb => ?_) (Nat.ne_of_lt hlt))
  show b < (s.heap.push _).objs.size
  rw [Heap.size_push]
  rcases List.mem_cons.mp hb with rfl | hb
  · exact Nat.lt_succ_self _
  · rcases List.mem_cons.mp hb with rfl | hb
    · exact Nat.lt_succ_of_lt hlt
    · cases hb
theorem old_keptT {h' : Heap} {o' : Obj} (hk : ∀ b o, b ∉ [s.heap.objs.size] → (s.heap.push o').get? b = some o → h'.get? b = some o) : ∀ b o, s.heap.get? b = some o → h'.get? b = some o := fun b o e =>
  hk b o (fun hb => absurd (Heap.lt_size e) ((List.mem_singleton.mp hb) ▸ Nat.lt_irrefl _)) (Heap.get?_push_of_some _ e)
theorem sum_tupG {xs : Array (Int × Tok)} {Q : Value → Shared → Prop} (hh : A.handled = none) (hl : s.heap.IsTuple l (intItems xs))
    (h : ∀ h' tk t', (∀ b o, s.heap.get? b = some o → h'.get? b = some o) → Q (.int (preSum (numAt xs) xs.size) t') { s with heap := h', toks := tk }) :
    wpAny (model prog w) A (call (.builtin "sum") [.ref l]) Q E s := by
  refine call_sum_walkG (iter_intTuple hl fun s₂ e st hfp hlI => ?_)
  subst e
  refine ⟨_, _, _, _, _, _, numAt xs, rfl, Walks.tuple (A := A.in1) hh _ l hlI (intItems xs), st, hfp, (fun _ _ => intItems_at), fun h' tk t' hk => ?_⟩
  have := h h' tk t' (old_keptT hk)
  simpa [intItems] using this
theorem sum_rawT {its : List Value} {ns : List Int} {Q : Value → Shared → Prop} (hh : A.handled = none) (hl : s.heap.IsTuple l its.toArray) (hi : IntsAre its ns)
    (h : ∀ h' tk t', (∀ b o, s.heap.get? b = some o → h'.get? b = some o) → Q (.int ns.sum t') { s with heap := h', toks := tk }) : wpAny (model prog w) A (call (.builtin "sum") [.ref l]) Q E s := by
  obtain ⟨xs, e⟩ := hi.allInts.items
  have hn : numsOf (intItems xs).toList = ns := by rw [← e]; exact hi.numsOf
  rw [nums_intItems] at hn
  rw [e] at hl
  refine sum_tupG hh hl fun h' tk t' hk => ?_
  have := h h' tk t' hk
  rw [preSum_eq, List.take_of_length_le (by simp), hn]; exact this
end
@[simp] def sumTD : List D → Option D
  | [.t xs] => (intsD xs).map fun ns => .i ns.sum
  | _ => none
theorem intsD_inv : ∀ {xs : List D} {k : List Int}, intsD xs = some k → xs = k.map .i
  | [], _, h => by cases h; rfl
  | .i x :: xs, k, h => by
    rw [intsD] at h
    obtain ⟨m, e, h⟩ := map_some' h
    subst h
    rw [intsD_inv e]; rfl
  | .n :: _, _, h => by cases h
  | .b _ :: _, _, h => by cases h
  | .t _ :: _, _, h => by cases h
  | .s _ :: _, _, h => by cases h
  | .l _ :: _, _, h => by cases h
  | .r _ _ :: _, _, h => by cases h
  | .z _ :: _, _, h => by cases h
theorem cf_sumT {X : Cx} (hc : X.calm = true) : CallF X (.builtin "sum") sumTD := by
  intro pins s σ H O xs us ds d Q I ok rv rb e c
  unfold sumTD at e
  split at e
  · rename_i ys
    obtain ⟨v, rfl, r⟩ := repB1 rb
    obtain ⟨ns, e1, e2⟩ := map_some' e
    subst e2
    have hy := intsD_inv e1
    subst hy
    obtain ⟨a, vs, rfl, ha, ra⟩ := r.tup
    have hv := RepL.ints ra
    subst hv
    obtain ⟨its, rvs, hl, _⟩ := I.tuple ha
    rw [Vals.ref1 rv]
    exact sum_rawT (I.ok.hd hc) hl rvs.ints fun h' tk t' hk => ⟨.int _, H, I.kept hk, ⟨_, rfl⟩, c _ _ (Same.refl _) (.i _)⟩
  · cases e
/-- sum, of a list or a tuple -/
def sumE (xs : List D) : Option D := (sumD xs).or (sumTD xs)
theorem cf_sumE {X : Cx} (hc : X.calm = true) : CallF X (.builtin "sum") sumE := (cf_sum hc).or (cf_sumT hc)
end PL
/-! PL cb: itertools.combinations, at the library's level. -/
namespace PL
open PySem PySem.Spec
open Sem (wp)

theorem cb_mro : mroOf (.type "itertools.combinations") = pure [.type "itertools.combinations", .type "object"] := by rw [mroOf_type]; kernel_rfl
theorem cb_lookup_new : typeLookup (.type "itertools.combinations") "__new__" = pure (some (.builtin "itertools.combinations.__new__")) := by rw [typeLookup_type, builtinLookup_eq_fast]; kernel_rfl
theorem cb_slot_init : Slot "itertools.combinations" "__init__" "object.__init__" :=
  .of (owner := "object") (n := "__init__") (by rw [typeLookup_type, builtinLookup_eq_fast]; kernel_rfl) (by decide +kernel) (by decide +kernel) (by decide +kernel)
    (by first | exact .inl (by decide +kernel) | exact .inr (by decide +kernel)) (by rw [isSubtype_type]; kernel_rfl)
theorem cb_sub : isSubtype (.type "itertools.combinations") (.type "itertools.combinations") = pure true := by rw [isSubtype_type]; kernel_rfl
theorem cb_called : TypeCalled "itertools.combinations" "itertools.combinations.__new__" "object.__init__" :=
  ⟨by decide +kernel, by decide +kernel, ⟨_, _, cb_mro⟩, madeBy_type cb_mro cb_lookup_new (by decide +kernel), by decide +kernel, cb_sub, cb_slot_init⟩
theorem cb_typeCall (a b : Value) : checkTypeCall "itertools.combinations" ⟨[a, b], []⟩ = pure () := by kernel_rfl
theorem cb_newCall (a b : Value) : checkBuiltinCall "itertools.combinations.__new__" ⟨[.type "itertools.combinations", a, b], []⟩ = pure () := by kernel_rfl
theorem cb_entry_new : entryFor table "itertools.combinations.__new__" = some Builtin.«itertools.combinations.__new__» := entryFor_of_tree (by kernel_rfl)
theorem cb_slot_iter : Slot "itertools.combinations" "__iter__" "itertools.combinations.__iter__" :=
  .of (owner := "itertools.combinations") (n := "__iter__") (by rw [typeLookup_type, builtinLookup_eq_fast]; kernel_rfl) (by decide +kernel) (by decide +kernel) (by decide +kernel)
    (by first | exact .inl (by decide +kernel) | exact .inr (by decide +kernel)) cb_sub
theorem cb_slot_next : Slot "itertools.combinations" "__next__" "itertools.combinations.__next__" :=
  .of (owner := "itertools.combinations") (n := "__next__") (by rw [typeLookup_type, builtinLookup_eq_fast]; kernel_rfl) (by decide +kernel) (by decide +kernel) (by decide +kernel)
    (by first | exact .inl (by decide +kernel) | exact .inr (by decide +kernel)) cb_sub
theorem cb_entry_next : entryFor table "itertools.combinations.__next__" = some Builtin.«itertools.combinations.__next__» := entryFor_of_tree (by kernel_rfl)
theorem cb_noDict : typeHasDict (.type "itertools.combinations") = false := by decide +kernel
end PL
namespace PL
open PySem PySem.Spec
theorem cb_entry_iter : entryFor table "itertools.combinations.__iter__" = some Builtin.«dict_keyiterator.__iter__» :=
  entryFor_alias (id' := "dict_keyiterator.__iter__") (by kernel_rfl) (by first | rfl | decide +kernel | (unfold String.splitOn; simp +decide [String.splitOnAux])) (by decide +kernel) (by kernel_rfl)
theorem cb_owner : Manifest.owners.lookup (String.ofList ['s', 'n', 'o', 'i', 't', 'a', 'n', 'i', 'b', 'm', 'o', 'c', '.', 's', 'l', 'o', 'o', 't', 'r', 'e', 't', 'i'].reverse) = some Manifest.sig_itertools_combinations := by kernel_rfl
theorem cb_args_iter (a : Value) : argsOk "itertools.combinations.__iter__" ⟨[a], []⟩ := by
  unfold argsOk; rw [signature?_of (id := "itertools.combinations.__iter__") (n := ['_', '_', 'r', 'e', 't', 'i', '_', '_']) (o := ['s', 'n', 'o', 'i', 't', 'a', 'n', 'i', 'b', 'm', 'o', 'c', '.', 's', 'l', 'o', 'o', 't', 'r', 'e', 't', 'i']) (by kernel_rfl) cb_owner]; kernel_rfl
theorem cb_args_next (a : Value) : argsOk "itertools.combinations.__next__" ⟨[a], []⟩ := by
  unfold argsOk; rw [signature?_of (id := "itertools.combinations.__next__") (n := ['_', '_', 't', 'x', 'e', 'n', '_', '_']) (o := ['s', 'n', 'o', 'i', 't', 'a', 'n', 'i', 'b', 'm', 'o', 'c', '.', 's', 'l', 'o', 'o', 't', 'r', 'e', 't', 'i']) (by kernel_rfl) cb_owner]; kernel_rfl
/-- a combinations object: its pool, how far it is (0 fresh, 1 amid, 2 ended), what it handed out last, its indices -/
def cbF (pool : Addr) (st : Int) (last : Value) (ix : List Nat) : Array Value := (.ref pool :: rawInt st :: last :: ix.map fun (i : Nat) => rawInt i).toArray
def cbObj (pool : Addr) (st : Int) (last : Value) (ix : List Nat) : Obj := { cls := .type "itertools.combinations", data := .fields (cbF pool st last ix) }
end PL
namespace PL
open PySem PySem.Spec
open Sem (wp)
def tupObj (items : List Value) : Obj := { cls := .type "tuple", data := .seq items.toArray }
theorem cb_str : "itertools." ++ "combinations" = "itertools.combinations" := by decide
theorem meets_cb_new (prog : Program) (w : World) (v : Value) (n : Nat) (t : Tok) (h1 : n ≤ 1000) :
    MeetsIn prog w (Builtin.«itertools.combinations.__new__» ⟨[.type "itertools.combinations", v, .int n t], []⟩)
      (fun A R s => wpAny (model prog w) A.in1 (collect v) (fun items s1 => items.length ≤ 1000 ∧ R (.ok (.ret (.ref (s1.heap.objs.size + 1)))) { s1 with heap := (s1.heap.push (tupObj items)).push (cbObj s1.heap.objs.size (if n > items.length then 2 else 0) .none (List.range n)) }) (fun e s' => R (.error e) s') s) :=
  .of_wp fun A R s h => by
    have hsub := cb_sub
    have hd := cb_noDict
    have hn : ¬ ((decide ((n : Int) < -(2 ^ 63 : Int)) || decide ((n : Int) ≥ (2 ^ 63 : Int))) = true) := by
      have a : decide ((n : Int) < -(2 ^ 63 : Int)) = false := decide_eq_false (by omega)
      have b : decide ((n : Int) ≥ (2 ^ 63 : Int)) = false := decide_eq_false (by omega)
      rw [a, b]
      decide
    repeat (first
      | wp_step
      | simp only [List.head?_cons, Option.some_or, List.getElem?_cons_succ, List.getElem?_cons_zero, List.length_cons, List.length_nil, List.forIn_nil, cb_str])
    refine wpAny_mono (Q := fun a s' => a = (n : Int) ∧ s' = s) ?_ ?_ (fun _ _ h => h)
    · rw [if_neg hn]
      exact wpAny_pure ⟨rfl, rfl⟩
    rintro a s' ⟨rfl, rfl⟩
    refine wpAny_bind (wpAny_mono h ?_ (fun _ _ h => h))
    rintro items s1 ⟨hl, h⟩
    have e1 : ¬ ((n : Int) < 0) := by omega
    have e2 : Builtin.Itertools.itTooMany (n : Int) = false := by unfold Builtin.Itertools.itTooMany; exact decide_eq_false (by omega)
    rw [if_neg e1, e2]
    show wpAny _ _ (newTuple items >>= _) _ _ _
    unfold newTuple
    refine wpAny_bind (wpAny_newObj_type ?_ (by size_fits))
    refine wpAny_pure ?_
    have e3 : ((n : Int)).toNat = n := by simp
    show wpAny _ _ (Builtin.Itertools.itNewRecord (Value.type "itertools.combinations") _ >>= _) _ _ _
    unfold Builtin.Itertools.itNewRecord
    rw [hd]
    rw [if_pos (show (!false) = true from rfl)]
    refine wpAny_bind ?_
    refine wpAny_newObj_type ?_ ?_
    · show wpAny _ _ (ret _) _ _ _
      refine wpAny_pure ⟨_, rfl, ?_⟩
      rw [e3]
      have e5 : (s1.heap.push (tupObj items)).objs.size = s1.heap.objs.size + 1 := Heap.size_push ..
      show R (.ok (.ret (.ref (s1.heap.push (tupObj items)).objs.size))) { s1 with heap := (s1.heap.push (tupObj items)).push (cbObj s1.heap.objs.size (if n > items.length then 2 else 0) .none (List.range n)) }
      rw [e5]
      exact h
    · show Array.size _ ≤ sizeLine + 2
      rw [sizeLine_eq, e3]
      simp
      omega
end PL
namespace PL
open PySem PySem.Spec
open Sem (wp)
/-- the indices behind these, of a pool of n -/
def cbNext (n : Nat) (ix : List Nat) : Option (List Nat) :=
  match (List.range ix.length).reverse.find? fun i => ix.getD i 0 != i + n - ix.length with
  | none => none
  | some i => some (ix.take i ++ (List.range (ix.length - i)).map fun j => ix.getD i 0 + 1 + j)
def cbPick (items : List Value) (ix : List Nat) : List Value := ix.map fun i => items.toArray.getD i .none
theorem cbF_ix (pool : Addr) (st : Int) (last : Value) (ix : List Nat) : ((cbF pool st last ix).toList.drop 3).map (fun | .int n _ => n.toNat | _ => 0) = ix := by
  unfold cbF
  show (ix.map fun (i : Nat) => rawInt i).map _ = ix
  rw [List.map_map]
  conv => rhs; rw [← List.map_id ix]
  apply List.map_congr_left
  intro i _
  show ((i : Int)).toNat = i
  simp
section
variable {prog : Program} {w : World} {A : Around} {E : Value → Shared → Prop} {s : Shared}
theorem cbF_size (pool : Addr) (st : Int) (last : Value) (ix : List Nat) : (cbF pool st last ix).size = ix.length + 3 := by simp [cbF]
theorem cbF_set1 (pool : Addr) (st st' : Int) (last : Value) (ix : List Nat) : (cbF pool st last ix).setIfInBounds 1 (rawInt st') = cbF pool st' last ix := by simp [cbF]
theorem cbF_set2 (pool : Addr) (st : Int) (last last' : Value) (ix : List Nat) : (cbF pool st last ix).setIfInBounds 2 last' = cbF pool st last' ix := by simp [cbF]
theorem cbF_ixs (pool : Addr) (st : Int) (last : Value) (ix jx : List Nat) : (cbF pool st last ix).extract 0 3 ++ (jx.map fun (n : Nat) => rawInt n).toArray = cbF pool st last jx := by
  simp [cbF]
theorem cb_out {it pool : Addr} {st : Int} {last : Value} {ix jx : List Nat} {items : List Value} {Q : Option Value → Shared → Prop} (hit : s.heap.get? it = some (cbObj pool st last ix)) (hp : s.heap.get? pool = some (tupObj items)) (hl : jx.length ≤ 1000)
    (hQ : ∀ h', h'.get? it = some (cbObj pool st (.ref s.heap.objs.size) ix) → h'.get? s.heap.objs.size = some (tupObj (cbPick items jx)) → h'.objs.size = s.heap.objs.size + 1 → (∀ b o, b ≠ it → s.heap.get? b = some o → h'.get? b = some o) → Q (some (.ref s.heap.objs.size)) { s with heap := h' }) :
    wpAny (model prog w) A ((Builtin.Itertools.itPoolItems (.ref pool) >>= fun xs => newTuple (jx.map fun i => xs.getD i .none)) >>= fun result => field (.ref it) 2 >>= fun before => setField (.ref it) 2 result >>= fun _ => letGo [before] [result] >>= fun _ => ret result)
      (fun fin s' => ∃ v, fin = Fin.done (Flow.ret v) ∧ Q (some v) s') E s := by
  refine wpAny_bind (wpAny_bind ?_)
  show wpAny _ _ (seqItems? (.ref pool) >>= _) _ _ _
  refine wpAny_bind ?_
  show wpAny _ _ (load pool >>= _) _ _ _
  refine wpAny_bind (wpAny_load hp ?_)
  show wpAny _ _ (pure (some items.toArray)) _ _ _
  refine wpAny_pure (wpAny_pure ?_)
  unfold newTuple
  have hlt : it < s.heap.objs.size := Heap.lt_size hit
  refine wpAny_newObj_type ?_ ?_
  · have hit2 : (s.heap.push (tupObj (cbPick items jx))).get? it = some (cbObj pool st last ix) := Heap.get?_push_of_some _ hit
    have hT2 : (s.heap.push (tupObj (cbPick items jx))).get? s.heap.objs.size = some (tupObj (cbPick items jx)) := Heap.get?_push_size _ rfl
    show wpAny _ _ _ _ _ { s with heap := s.heap.push (tupObj (cbPick items jx)) }
    refine wpAny_bind (wpAny_field hit2 rfl (x := last) rfl ?_)
    refine wpAny_bind (wpAny_setField hit2 rfl (by rw [cbF_size]; omega) ?_)
    refine wpAny_bind (wpAny_letGo ?_)
    refine wpAny_pure ⟨_, rfl, ?_⟩
    refine hQ _ ?_ ?_ ?_ ?_
    · have h1 := Heap.get?_update_self (Obj.mapFields fun x => x.setIfInBounds 2 (Value.ref s.heap.objs.size)) hit2 rfl
      have h2 : Obj.mapFields (fun x => x.setIfInBounds 2 (Value.ref s.heap.objs.size)) (cbObj pool st last ix) = cbObj pool st (.ref s.heap.objs.size) ix := by
        show ({ cls := _, data := .fields ((cbF pool st last ix).setIfInBounds 2 (Value.ref s.heap.objs.size)) } : Obj) = _
        rw [cbF_set2]
        rfl
      exact h1.trans (congrArg some h2)
    · rw [Heap.get?_update_other _ _ (Nat.ne_of_lt hlt)]
      exact hT2
    · rw [Heap.size_update, Heap.size_push]
    · intro b o hb e
      rw [Heap.get?_update_other _ _ (Ne.symm hb)]
      exact Heap.get?_push_of_some _ e
  · show Array.size _ ≤ sizeLine
    rw [sizeLine_eq]
    simp
    omega
theorem cb_next0 {it pool : Addr} {last : Value} {ix : List Nat} {items : List Value} {Q : Option Value → Shared → Prop} (hit : s.heap.get? it = some (cbObj pool 0 last ix)) (hp : s.heap.get? pool = some (tupObj items)) (hne : pool ≠ it) (hl : ix.length ≤ 1000)
    (hQ : ∀ h', h'.get? it = some (cbObj pool 1 (.ref s.heap.objs.size) ix) → h'.get? s.heap.objs.size = some (tupObj (cbPick items ix)) → h'.objs.size = s.heap.objs.size + 1 → (∀ b o, b ≠ it → s.heap.get? b = some o → h'.get? b = some o) → Q (some (.ref s.heap.objs.size)) { s with heap := h' }) :
    wpAny (model prog w) A (callSpecial? (.ref it) "__next__") Q E s := by
  have hT : s.TypeIs (.ref it) "itertools.combinations" := ⟨_, hit, rfl⟩
  refine wpAny_callSpecial?_slot (name := Str.ofString "__next__") hT cb_slot_next (wpAny_call_entry cb_slot_next hT cb_entry_next ?_ (cb_args_next _))
  show wpAny _ _ (field (.ref it) 0 >>= _) _ _ s
  refine wpAny_bind (wpAny_field hit rfl (x := .ref pool) rfl ?_)
  show wpAny _ _ (Builtin.Itertools.itNumbersFrom (.ref it) 3 >>= _) _ _ s
  refine wpAny_bind ?_
  show wpAny _ _ (load it >>= _) _ _ s
  refine wpAny_bind (wpAny_load hit ?_)
  show wpAny _ _ (pure (((cbF pool 0 last ix).toList.drop 3).map _)) _ _ s
  refine wpAny_pure ?_
  generalize hx : List.map _ (List.drop 3 (cbF pool 0 last ix).toList) = jx
  have ej : jx = ix := hx.symm.trans (cbF_ix pool 0 last ix)
  clear hx
  subst ej
  show wpAny _ _ (Builtin.Itertools.itIntField (.ref it) 1 >>= _) _ _ s
  refine wpAny_bind ?_
  show wpAny _ _ (field (.ref it) 1 >>= _) _ _ s
  refine wpAny_bind (wpAny_field hit rfl (x := rawInt 0) rfl (wpAny_pure ?_))
  show wpAny _ _ (setField (.ref it) 1 (rawInt 1) >>= _) _ _ s
  refine wpAny_bind (wpAny_setField hit rfl (by rw [cbF_size]; omega) ?_)
  have h1 := Heap.get?_update_self (Obj.mapFields fun x => x.setIfInBounds 1 (rawInt 1)) hit rfl
  have h2 : Obj.mapFields (fun x => x.setIfInBounds 1 (rawInt 1)) (cbObj pool 0 last jx) = cbObj pool 1 last jx := by
    show ({ cls := _, data := .fields ((cbF pool 0 last jx).setIfInBounds 1 (rawInt 1)) } : Obj) = _
    rw [cbF_set1]
    rfl
  have sz := Heap.size_update s.heap it (Obj.mapFields fun x => x.setIfInBounds 1 (rawInt 1))
  refine cb_out (s := { s with heap := s.heap.update it (Obj.mapFields fun x => x.setIfInBounds 1 (rawInt 1)) }) (h1.trans (congrArg some h2)) ((Heap.get?_update_other _ _ (Ne.symm hne)).trans hp) hl fun h' a b c d => ?_
  rw [show ({ s with heap := s.heap.update it (Obj.mapFields fun x => x.setIfInBounds 1 (rawInt 1)) } : Shared).heap.objs.size = s.heap.objs.size from sz] at a b c ⊢
  exact hQ h' a b c fun x o hx e => d x o hx ((Heap.get?_update_other _ _ (Ne.symm hx)).trans e)
theorem cb_next1 {it pool : Addr} {last : Value} {ix nx : List Nat} {items : List Value} {Q : Option Value → Shared → Prop} (hit : s.heap.get? it = some (cbObj pool 1 last ix)) (hp : s.heap.get? pool = some (tupObj items)) (hne : pool ≠ it) (hn : cbNext items.length ix = some nx) (hl : nx.length ≤ 1000)
    (hQ : ∀ h', h'.get? it = some (cbObj pool 1 (.ref s.heap.objs.size) nx) → h'.get? s.heap.objs.size = some (tupObj (cbPick items nx)) → h'.objs.size = s.heap.objs.size + 1 → (∀ b o, b ≠ it → s.heap.get? b = some o → h'.get? b = some o) → Q (some (.ref s.heap.objs.size)) { s with heap := h' }) :
    wpAny (model prog w) A (callSpecial? (.ref it) "__next__") Q E s := by
  have hT : s.TypeIs (.ref it) "itertools.combinations" := ⟨_, hit, rfl⟩
  refine wpAny_callSpecial?_slot (name := Str.ofString "__next__") hT cb_slot_next (wpAny_call_entry cb_slot_next hT cb_entry_next ?_ (cb_args_next _))
  show wpAny _ _ (field (.ref it) 0 >>= _) _ _ s
  refine wpAny_bind (wpAny_field hit rfl (x := .ref pool) rfl ?_)
  show wpAny _ _ (Builtin.Itertools.itNumbersFrom (.ref it) 3 >>= _) _ _ s
  refine wpAny_bind ?_
  show wpAny _ _ (load it >>= _) _ _ s
  refine wpAny_bind (wpAny_load hit ?_)
  show wpAny _ _ (pure (((cbF pool 1 last ix).toList.drop 3).map _)) _ _ s
  refine wpAny_pure ?_
  generalize hx : List.map _ (List.drop 3 (cbF pool 1 last ix).toList) = jx
  have ej : jx = ix := hx.symm.trans (cbF_ix pool 1 last ix)
  clear hx
  subst ej
  show wpAny _ _ (Builtin.Itertools.itIntField (.ref it) 1 >>= _) _ _ s
  refine wpAny_bind ?_
  show wpAny _ _ (field (.ref it) 1 >>= _) _ _ s
  refine wpAny_bind (wpAny_field hit rfl (x := rawInt 1) rfl (wpAny_pure ?_))
  show wpAny _ _ (Builtin.Itertools.itPoolItems (.ref pool) >>= _) _ _ s
  refine wpAny_bind ?_
  show wpAny _ _ (seqItems? (.ref pool) >>= _) _ _ _
  refine wpAny_bind ?_
  show wpAny _ _ (load pool >>= _) _ _ _
  refine wpAny_bind (wpAny_load hp ?_)
  show wpAny _ _ (pure (some items.toArray)) _ _ _
  refine wpAny_pure (wpAny_pure ?_)
  split
  rotate_left
  · rename_i hz
    have hz' : cbNext items.length jx = none := hz
    rw [hn] at hz'
    cases hz'
  rename_i next hz
  have hz' : cbNext items.length jx = some next := hz
  rw [hn] at hz'
  cases hz'
  show wpAny _ _ (Builtin.Itertools.itSetNumbersFrom (.ref it) 3 nx >>= _) _ _ s
  refine wpAny_bind ?_
  show wpAny _ _ (updateFields it fun fs => fs.extract 0 3 ++ (nx.map fun (n : Nat) => rawInt n).toArray) _ _ s
  have h1 := Heap.get?_update_self (Obj.mapFields fun fs => fs.extract 0 3 ++ (nx.map fun (n : Nat) => rawInt n).toArray) hit rfl
  have h2 : Obj.mapFields (fun fs => fs.extract 0 3 ++ (nx.map fun (n : Nat) => rawInt n).toArray) (cbObj pool 1 last jx) = cbObj pool 1 last nx := by
    show ({ cls := _, data := .fields ((cbF pool 1 last jx).extract 0 3 ++ (nx.map fun (n : Nat) => rawInt n).toArray) } : Obj) = _
    rw [cbF_ixs]
    rfl
  have sz := Heap.size_update s.heap it (Obj.mapFields fun fs => fs.extract 0 3 ++ (nx.map fun (n : Nat) => rawInt n).toArray)
  refine wpAny_updateFields hit rfl ?_ (by show ((cbF pool 1 last jx).extract 0 3 ++ (nx.map fun (n : Nat) => rawInt n).toArray).size ≤ _; rw [cbF_ixs, cbF_size, sizeLine_eq]; omega)
  refine cb_out (s := { s with heap := s.heap.update it (Obj.mapFields fun fs => fs.extract 0 3 ++ (nx.map fun (n : Nat) => rawInt n).toArray) }) (h1.trans (congrArg some h2)) ((Heap.get?_update_other _ _ (Ne.symm hne)).trans hp) hl fun h' a b c d => ?_
  rw [show ({ s with heap := s.heap.update it (Obj.mapFields fun fs => fs.extract 0 3 ++ (nx.map fun (n : Nat) => rawInt n).toArray) } : Shared).heap.objs.size = s.heap.objs.size from sz] at a b c ⊢
  exact hQ h' a b c fun x o hx e => d x o hx ((Heap.get?_update_other _ _ (Ne.symm hx)).trans e)
theorem cb_stop {it : Addr} {Q : Option Value → Shared → Prop} (hh : A.handled = none) (hQ : ∀ e h', CpRep.StopE e h' → Heap.ExtBut it s.heap h' → E e { s with heap := h' }) :
    wpAny (model prog w) A (Builtin.Itertools.itStop : Sem Fin) (fun fin s' => ∃ v, fin = Fin.done (Flow.ret v) ∧ Q (some v) s') E s := by
  show wpAny _ _ (newExc (.type "StopIteration") [] >>= _) _ _ _
  refine wpAny_bind ?_
  simp only [newExc, newTuple]
  refine wpAny_bind (wpAny_newObj_type ?_ (by size_fits))
  refine wpAny_bind (m := firstArgMember _ _) (wpAny_of_eq (a := Value.none) (by first | rfl | (simp only [firstArgMember]; rfl)) ?_)
  refine wpAny_newObj_type ?_ (by size_fits)
  simp only [raiseNew]
  refine wpAny_bind (wpAny_handled ?_)
  rw [hh]
  refine wpAny_bind (wpAny_pure (wpAny_throw ?_))
  exact hQ _ _ ⟨_, _, _, rfl, Heap.get?_push_size _ rfl, rfl, rfl, rfl⟩ (((Heap.ExtBut.refl it s.heap).push _).push _)
theorem cb_end {it pool : Addr} {st : Int} {last : Value} {ix : List Nat} {items : List Value} {Q : Option Value → Shared → Prop} (hh : A.handled = none) (hit : s.heap.get? it = some (cbObj pool st last ix)) (hp : s.heap.get? pool = some (tupObj items)) (hst : st = 2 ∨ (st = 1 ∧ cbNext items.length ix = none))
    (hQ : ∀ e h', CpRep.StopE e h' → Heap.ExtBut it s.heap h' → E e { s with heap := h' }) : wpAny (model prog w) A (callSpecial? (.ref it) "__next__") Q E s := by
  have hT : s.TypeIs (.ref it) "itertools.combinations" := ⟨_, hit, rfl⟩
  have hh1 : A.in1.handled = none := hh
  refine wpAny_callSpecial?_slot (name := Str.ofString "__next__") hT cb_slot_next (wpAny_call_entry cb_slot_next hT cb_entry_next ?_ (cb_args_next _))
  show wpAny _ _ (field (.ref it) 0 >>= _) _ _ s
  refine wpAny_bind (wpAny_field hit rfl (x := .ref pool) rfl ?_)
  show wpAny _ _ (Builtin.Itertools.itNumbersFrom (.ref it) 3 >>= _) _ _ s
  refine wpAny_bind ?_
  show wpAny _ _ (load it >>= _) _ _ s
  refine wpAny_bind (wpAny_load hit ?_)
  show wpAny _ _ (pure (((cbF pool st last ix).toList.drop 3).map _)) _ _ s
  refine wpAny_pure ?_
  generalize hx : List.map _ (List.drop 3 (cbF pool st last ix).toList) = jx
  have ej : jx = ix := hx.symm.trans (cbF_ix pool st last ix)
  clear hx
  subst ej
  show wpAny _ _ (Builtin.Itertools.itIntField (.ref it) 1 >>= _) _ _ s
  refine wpAny_bind ?_
  show wpAny _ _ (field (.ref it) 1 >>= _) _ _ s
  refine wpAny_bind (wpAny_field hit rfl (x := rawInt st) rfl (wpAny_pure ?_))
  rcases hst with e | ⟨e, hn⟩
  · subst e
    show wpAny _ _ (rule _ >>= _) _ _ _
    exact wpAny_bind (wpAny_rule (cb_stop hh1 hQ))
  · subst e
    show wpAny _ _ (Builtin.Itertools.itPoolItems (.ref pool) >>= _) _ _ s
    refine wpAny_bind ?_
    show wpAny _ _ (seqItems? (.ref pool) >>= _) _ _ _
    refine wpAny_bind ?_
    show wpAny _ _ (load pool >>= _) _ _ _
    refine wpAny_bind (wpAny_load hp ?_)
    show wpAny _ _ (pure (some items.toArray)) _ _ _
    refine wpAny_pure (wpAny_pure ?_)
    split
    · rename_i next hz
      have hz' : cbNext items.length jx = some next := hz
      rw [hn] at hz'
      cases hz'
    rename_i hz
    show wpAny _ _ (setField (.ref it) 1 (rawInt 2) >>= _) _ _ s
    refine wpAny_bind (wpAny_setField hit rfl (by rw [cbF_size]; omega) ?_)
    refine cb_stop hh1 fun e h' se eb => hQ e h' se fun b o hb x => eb b o hb ((Heap.get?_update_other _ _ (Ne.symm hb)).trans x)
/-- next of it -/
theorem pyNext_some {it : Addr} {Q : Option Value → Shared → Prop} (h : wpAny (model prog w) A (callSpecial? (.ref it) "__next__") (fun r s' => ∃ v, r = some v ∧ Q (some v) s') E s)
    : wpAny (model prog w) A (callSpecial? (.ref it) "__next__") (fun r s' => ∃ v, r = some v ∧ Q (some v) s') E s := h
theorem cb_stopNext {e : Value} {Q : Option Value → Shared → Prop} (se : CpRep.StopE e s.heap) (h : Q none s) : wpAny (model prog w) A (do
    if ← isInstance e (.type "StopIteration") then pure none else throw e) Q E s := by
  obtain ⟨a, o, vs, rfl, ho, hc, hd, _⟩ := se
  refine wpAny_bind (wpAny_isInstance (T := "StopIteration") (b := true) ⟨_, ho, hc⟩ isSubtype_stop ?_)
  exact wpAny_pure h
theorem cb_pyNext_end {it pool : Addr} {st : Int} {last : Value} {ix : List Nat} {items : List Value} {Q : Option Value → Shared → Prop} (hh : A.handled = none) (hit : s.heap.get? it = some (cbObj pool st last ix)) (hp : s.heap.get? pool = some (tupObj items)) (hst : st = 2 ∨ (st = 1 ∧ cbNext items.length ix = none))
    (hQ : ∀ h', Heap.ExtBut it s.heap h' → Q none { s with heap := h' }) : wpAny (model prog w) A (pyNext (.ref it)) Q E s := by
  unfold pyNext
  refine wpAny_bind (wpAny_attempt (cb_end hh hit hp hst fun e h' se eb => ?_))
  exact cb_stopNext (s := { s with heap := h' }) se (hQ h' eb)
theorem cb_pyNext0 {it pool : Addr} {last : Value} {ix : List Nat} {items : List Value} {Q : Option Value → Shared → Prop} (hit : s.heap.get? it = some (cbObj pool 0 last ix)) (hp : s.heap.get? pool = some (tupObj items)) (hne : pool ≠ it) (hl : ix.length ≤ 1000)
    (hQ : ∀ h', h'.get? it = some (cbObj pool 1 (.ref s.heap.objs.size) ix) → h'.get? s.heap.objs.size = some (tupObj (cbPick items ix)) → h'.objs.size = s.heap.objs.size + 1 → (∀ b o, b ≠ it → s.heap.get? b = some o → h'.get? b = some o) → Q (some (.ref s.heap.objs.size)) { s with heap := h' }) :
    wpAny (model prog w) A (pyNext (.ref it)) Q E s := by
  unfold pyNext
  exact wpAny_bind (wpAny_attempt (cb_next0 hit hp hne hl fun h' a b c d => wpAny_pure (hQ h' a b c d)))
theorem cb_pyNext1 {it pool : Addr} {last : Value} {ix nx : List Nat} {items : List Value} {Q : Option Value → Shared → Prop} (hit : s.heap.get? it = some (cbObj pool 1 last ix)) (hp : s.heap.get? pool = some (tupObj items)) (hne : pool ≠ it) (hn : cbNext items.length ix = some nx) (hl : nx.length ≤ 1000)
    (hQ : ∀ h', h'.get? it = some (cbObj pool 1 (.ref s.heap.objs.size) nx) → h'.get? s.heap.objs.size = some (tupObj (cbPick items nx)) → h'.objs.size = s.heap.objs.size + 1 → (∀ b o, b ≠ it → s.heap.get? b = some o → h'.get? b = some o) → Q (some (.ref s.heap.objs.size)) { s with heap := h' }) :
    wpAny (model prog w) A (pyNext (.ref it)) Q E s := by
  unfold pyNext
  exact wpAny_bind (wpAny_attempt (cb_next1 hit hp hne hn hl fun h' a b c d => wpAny_pure (hQ h' a b c d)))
theorem cb_pyIter {it : Addr} {pool : Addr} {st : Int} {last : Value} {ix : List Nat} {Q : Value → Shared → Prop} (hit : s.heap.get? it = some (cbObj pool st last ix)) (h : Q (.ref it) s) : wpAny (model prog w) A (pyIter (.ref it)) Q E s := by
  have hT : s.TypeIs (.ref it) "itertools.combinations" := ⟨_, hit, rfl⟩
  refine wpAny_pyIter_slot hT cb_slot_iter (wpAny_call_entry cb_slot_iter hT cb_entry_iter ?_ (cb_args_iter _))
  show wpAny _ _ (ret (.ref it)) _ _ s
  exact wpAny_pure ⟨_, rfl, "itertools.combinations", _, hT, cb_slot_next.lookup, h⟩
theorem cb_call {v : Value} {n : Nat} {t : Tok} {Q : Value → Shared → Prop} (h1 : n ≤ 1000)
    (h : wpAny (model prog w) A.in1.in1 (collect v) (fun items s1 => items.length ≤ 1000 ∧ Q (.ref (s1.heap.objs.size + 1)) { s1 with heap := (s1.heap.push (tupObj items)).push (cbObj s1.heap.objs.size (if n > items.length then 2 else 0) .none (List.range n)) }) E s) :
    wpAny (model prog w) A (call (.type "itertools.combinations") [v, .int n t]) Q E s := by
  refine callType_newIn cb_called (by decide) (cb_typeCall _ _) (cb_newCall _ _) (fun obj => F.args_object_init_3 obj _ _) cb_entry_new (meets_cb_new prog w v n t h1) ?_
  refine wpAny_mono h ?_ ?_
  · rintro items s1 ⟨hl, q⟩
    refine ⟨hl, ?_⟩
    show _ ∧ _
    have hz : (s1.heap.push (tupObj items)).objs.size = s1.heap.objs.size + 1 := Heap.size_push ..
    have := Heap.get?_push_size (s1.heap.push (tupObj items)) (o := cbObj s1.heap.objs.size (if n > items.length then 2 else 0) .none (List.range n)) rfl
    rw [hz] at this
    exact ⟨⟨_, this, rfl⟩, q⟩
  · intro e s' q
    exact q
end
end PL
/-! PL ce: what a for over combinations walks. -/
namespace PL
open PySem PySem.Spec PyProof.Rows L2

/-- all index rows from ix on -/
def cbSeq : Nat → Nat → List Nat → Option (List (List Nat))
  | 0, _, _ => none
  | f + 1, n, ix => match cbNext n ix with
    | none => some [ix]
    | some jx => (cbSeq f n jx).map (ix :: ·)
def cbIx (n r : Nat) : Option (List (List Nat)) := if (decide (n ≤ 100) && decide (r ≤ 100)) = true then (if r > n then some [] else cbSeq 2000 n (List.range r)) else none
theorem cbNext_length {n : Nat} {ix jx : List Nat} (h : cbNext n ix = some jx) : jx.length = ix.length := by
  unfold cbNext at h
  split at h
  · cases h
  · rename_i i e
    cases h
    have h1 := List.mem_of_find?_eq_some e
    rw [List.mem_reverse, List.mem_range] at h1
    simp
    omega
theorem cbSeq_ne : ∀ {f n : Nat} {ix : List Nat} {rows : List (List Nat)}, cbSeq f n ix = some rows → rows[0]? = some ix
  | 0, _, _, _, h => by cases h
  | f + 1, n, ix, rows, h => by
    unfold cbSeq at h
    split at h
    · cases h; rfl
    · obtain ⟨l, _, e⟩ := map_some' h
      subst e
      rfl
/-- row i + 1 is the next of row i; behind the last there is none -/
theorem cbSeq_step : ∀ {f n : Nat} {ix : List Nat} {rows : List (List Nat)}, cbSeq f n ix = some rows → ∀ {i : Nat} {jx : List Nat}, rows[i]? = some jx → cbNext n jx = rows[i + 1]? ∧ jx.length = ix.length
  | 0, _, _, _, h, _, _, _ => by cases h
  | f + 1, n, ix, rows, h, i, jx, hj => by
    unfold cbSeq at h
    split at h
    · rename_i e
      cases h
      cases i with
      | zero => cases hj; exact ⟨e, rfl⟩
      | succ i => cases hj
    · rename_i nx e
      obtain ⟨l, e1, e2⟩ := map_some' h
      subst e2
      cases i with
      | zero =>
        cases hj
        rw [List.getElem?_cons_succ, cbSeq_ne e1]
        exact ⟨e, rfl⟩
      | succ i =>
        rw [List.getElem?_cons_succ] at hj ⊢
        obtain ⟨h1, h2⟩ := cbSeq_step e1 hj
        exact ⟨h1, h2.trans (cbNext_length e)⟩
def cbRow (vs : List V) (ix : List Nat) : List V := ix.map fun i => vs.getD i .non
theorem vals_getD {vs : List V} {its : List Value} (r : Vals vs its) (i : Nat) : RelV (vs.getD i .non) (its.toArray.getD i .none) := by
  have e : its.toArray.getD i .none = its.getD i .none := by simp
  rw [e, List.getD_eq_getElem?_getD, List.getD_eq_getElem?_getD]
  cases h : vs[i]? with
  | some v =>
    obtain ⟨u, h1, h2⟩ := r.get h
    rw [h1]
    exact h2
  | none =>
    have h1 : its[i]? = none := by
      rw [List.getElem?_eq_none_iff] at h ⊢
      rw [← r.length]; exact h
    rw [h1]
    exact rfl
theorem vals_row {vs : List V} {its : List Value} (r : Vals vs its) : ∀ ix : List Nat, Vals (cbRow vs ix) (cbPick its ix)
  | [] => .nil
  | i :: ix => .cons (vals_getD r i) (vals_row r ix)
/-- where the walk stands ahead of turn i -/
def CbAt (h : Heap) (pool it : Addr) (items : List Value) (r : Nat) (rows : List (List Nat)) (i : Nat) : Prop :=
  h.get? pool = some (tupObj items) ∧ ((i = 0 ∧ h.get? it = some (cbObj pool (if r > items.length then 2 else 0) .none (List.range r))) ∨
    (∃ ix last, 0 < i ∧ rows[i - 1]? = some ix ∧ h.get? it = some (cbObj pool 1 last ix)))
def ItCb (vs : List V) (rows : List (List Nat)) : It :=
  ⟨fun i H => i < rows.length, fun i H v H' => ∃ T ix, v = .ref T ∧ H T = none ∧ H' = upd H T (.tup (cbRow vs ix)) ∧ rows[i]? = some ix, fun i H => i = rows.length⟩
theorem cbIx_ok {n r : Nat} {rows : List (List Nat)} (h : cbIx n r = some rows) : n ≤ 100 ∧ r ≤ 100 ∧ ((r > n ∧ rows = []) ∨ (¬ r > n ∧ cbSeq 2000 n (List.range r) = some rows)) := by
  unfold cbIx at h
  split at h
  · rename_i q
    rw [Bool.and_eq_true, decide_eq_true_eq, decide_eq_true_eq] at q
    split at h
    · rename_i q2; cases h; exact ⟨q.1, q.2, .inl ⟨q2, rfl⟩⟩
    · rename_i q2; exact ⟨q.1, q.2, .inr ⟨q2, h⟩⟩
  · cases h
theorem turn_cb {P : Program} {w : World} {K : PySem.W.Frag} {tg : Expr} {vs : List V} {items : List Value} {r : Nat} {rows : List (List Nat)} (pool it : Addr) (hne : pool ≠ it) (rv : Vals vs items) (hr : cbIx items.length r = some rows) :
    Turn P w K tg (ItCb vs rows) [it, pool] it (fun i h => CbAt h pool it items r rows i) where
  mem := by simp
  obj := fun i h st b hb => by
    obtain ⟨hp, st⟩ := st
    have e' : b = it ∨ b = pool := by simpa using hb
    rcases e' with z | z
    · rw [z]
      rcases st with ⟨_, e⟩ | ⟨ix, last, _, _, e⟩
      · exact ⟨_, e, fun v q => nomatch q⟩
      · exact ⟨_, e, fun v q => nomatch q⟩
    · rw [z]; exact ⟨_, hp, fun v q => nomatch q⟩
  keep := fun i h h' st k => by
    obtain ⟨hp, st⟩ := st
    refine ⟨k pool (by simp) _ hp, ?_⟩
    rcases st with ⟨a, e⟩ | ⟨ix, last, a, b, e⟩
    · exact .inl ⟨a, k it (by simp) _ e⟩
    · exact .inr ⟨ix, last, a, b, k it (by simp) _ e⟩
  item := by
    intro X hP hw hK hc i pins s σ H E I hf st hg
    subst hP hw hK
    obtain ⟨hp, st⟩ := st
    have hg : i < rows.length := hg
    obtain ⟨hn100, hr100, hrows⟩ := cbIx_ok hr
    have hpl : pool < s.heap.objs.size := Heap.lt_size hp
    have fin : ∀ (ix : List Nat), rows[i]? = some ix → ix.length ≤ 1000 → it < s.heap.objs.size → ∀ (h' : Heap), h'.get? it = some (cbObj pool 1 (.ref s.heap.objs.size) ix) → h'.get? s.heap.objs.size = some (tupObj (cbPick items ix)) → h'.objs.size = s.heap.objs.size + 1 → (∀ b o, b ≠ it → s.heap.get? b = some o → h'.get? b = some o) →
        (∃ u, some (Value.ref s.heap.objs.size) = some u ∧ wpAny (model X.prog X.w) X.A (letOwnedTupleGo tg (.ref it) u) (fun _ s2 => ∃ x H', Inv X pins σ H' s2 ∧ RelV x u ∧ (ItCb vs rows).yld i H x H' ∧ CbAt s2.heap pool it items r rows (i + 1) ∧ ∀ b ∈ [it, pool], H' b = none) E { s with heap := h' }) := by
      intro ix hx hl1 hil h' hit hT hsz hk
      have rr := vals_row rv ix
      have new : ObjOk X.prog X.w (upd H s.heap.objs.size (.tup (cbRow vs ix))) h' s.heap.objs.size (.tup (cbRow vs ix)) :=
        ⟨by show (cbRow vs ix).length ≤ sizeLine; rw [sizeLine_eq]; unfold cbRow; rw [List.length_map]; omega, cbPick items ix, rr, ⟨_, hT, rfl, _, rfl⟩⟩
      have I1 : Inv X pins σ (upd H s.heap.objs.size (.tup (cbRow vs ix))) { s with heap := h', toks := s.toks } :=
        I.turnedNew (ch := [it, pool]) (fun b ob hb q => hk b ob (fun z => hb (by simp [z])) q) hf (Nat.le_refl _) new
      refine ⟨_, rfl, go_of (s := { s with heap := h' }) (n := "itertools.combinations") hit rfl rfl (by decide) ⟨.ref s.heap.objs.size, _, I1, rfl, ⟨_, ix, rfl, I.hok.fresh (Nat.le_refl _), rfl, hx⟩, ⟨hk pool _ hne hp, .inr ⟨ix, _, Nat.succ_pos _, by simpa using hx, hit⟩⟩, fun b hb => ?_⟩⟩
      have hb' : b < s.heap.objs.size := by
        have e' : b = it ∨ b = pool := by simpa using hb
        rcases e' with z | z
        · rw [z]; exact hil
        · rw [z]; exact hpl
      rw [upd_ne (Nat.ne_of_lt hb')]
      exact (hf b hb).1
    rcases hrows with ⟨h1, h2⟩ | ⟨h1, h2⟩
    · subst h2; cases hg
    rcases st with ⟨a, e⟩ | ⟨ix, last, a, b, e⟩
    · subst a
      rw [if_neg h1] at e
      have h3 := cbSeq_ne h2
      have h4 : (List.range r).length ≤ 1000 := by simp; omega
      exact cb_pyNext0 e hp hne h4 fun h' a b c d => fin _ h3 h4 (Heap.lt_size e) h' a b c d
    · have h5 := cbSeq_step h2 b
      rw [show i - 1 + 1 = i by omega] at h5
      obtain ⟨nx, hnx⟩ : ∃ nx, rows[i]? = some nx := ⟨_, List.getElem?_eq_getElem hg⟩
      have h6 := cbSeq_step h2 hnx
      have h4 : nx.length ≤ 1000 := by rw [h6.2]; simp; omega
      exact cb_pyNext1 e hp hne (h5.1.trans hnx) h4 fun h' a b c d => fin _ hnx h4 (Heap.lt_size e) h' a b c d
  done := by
    intro X hP hw hK hc i pins s σ H E I hf st hg
    subst hP hw hK
    obtain ⟨hp, st⟩ := st
    have hg : i = rows.length := hg
    obtain ⟨hn100, hr100, hrows⟩ := cbIx_ok hr
    have fin : ∀ h', Heap.ExtBut it s.heap h' → ((none : Option Value) = none ∧ Inv X pins σ H { s with heap := h' }) := fun h' eb => by
      obtain ⟨f0, f1, f2, f3, f4, f5⟩ := hf it (by simp)
      exact ⟨rfl, I.turned (t' := s.toks) (fun b o hb q => eb b o hb q) f0 f1 f3 f4 f5⟩
    rcases st with ⟨a, e⟩ | ⟨ix, last, a, b, e⟩
    · rcases hrows with ⟨h1, h2⟩ | ⟨h1, h2⟩
      · rw [if_pos h1] at e
        exact cb_pyNext_end (I.ok.hd hc) e hp (.inl rfl) fin
      · have h3 := cbSeq_ne h2
        have h4 := (List.getElem?_eq_some_iff.mp h3).1
        omega
    · rcases hrows with ⟨h1, h2⟩ | ⟨h1, h2⟩
      · subst h2; cases b
      · have h5 := cbSeq_step h2 b
        rw [show i - 1 + 1 = i by omega] at h5
        refine cb_pyNext_end (I.ok.hd hc) e hp (.inr ⟨rfl, h5.1.trans ?_⟩) fin
        rw [hg]
        simp
  self := fun A i s Q E st h => by
    obtain ⟨hp, ⟨_, e⟩ | ⟨ix, last, _, _, e⟩⟩ := st
    · exact cb_pyIter e h
    · exact cb_pyIter e h
end PL
/-! PL cf: combinations on data. -/
namespace PL
open PySem PySem.Spec PyProof.Rows L2

@[simp] def combD : D → D → Option (List D)
  | d, .i r => if 0 ≤ r then (walkD d).bind fun ds => (cbIx ds.length r.toNat).map fun rows => rows.map fun ix => .t (ix.map fun i => ds.getD i .n) else none
  | _, _ => none
theorem cb_rep {K : PySem.W.Frag} {H1 H3 : Hp} {O O2 : Addr → Prop} {vs : List V} {ds : List D} (rl : RepL K H1 O vs ds) (go : ∀ {v : V} {d : D}, Rep K H1 O v d → Rep K H3 O2 v d) : ∀ ix : List Nat, RepL K H3 O2 (cbRow vs ix) (ix.map fun i => ds.getD i .n)
  | [] => .nil
  | i :: ix => .cons (by
      show Rep K H3 O2 (vs.getD i .non) (ds.getD i .n)
      rw [List.getD_eq_getElem?_getD, List.getD_eq_getElem?_getD]
      cases h : ds[i]? with
      | some d =>
        obtain ⟨v, h1, h2⟩ := rl.get h
        rw [h1]
        exact go h2
      | none =>
        have h1 : vs[i]? = none := by
          rw [List.getElem?_eq_none_iff] at h ⊢
          rw [rl.length]; exact h
        rw [h1]
        exact .n) (cb_rep rl go ix)
theorem itCb_ok {K : PySem.W.Frag} {E W : Addr → Prop} {vs : List V} {ds : List D} {rows : List (List Nat)} {H1 : Hp} (ew : ∀ a, E a → W a) (rl : RepL K H1 W vs ds) : ItOk K (ItCb vs rows) E W (rows.map fun ix => .t (ix.map fun i => ds.getD i .n)) H1 := by
  refine ⟨fun i H2 k hi => ?_, fun H2 k => ?_, fun i H2 x H3 d k y e => ?_⟩
  · rw [List.length_map] at hi; exact hi
  · show _ = rows.length
    rw [List.length_map]
  · obtain ⟨T, ix, e4, hT, e5, hx⟩ := y
    subst e4 e5
    rw [List.getElem?_map, hx] at e
    cases e
    exact ⟨same_new hT, fun O2 m ok2 => Rep.newT ok2 hT (cb_rep rl (fun h => h.go k ew m) ix)⟩
theorem vals_rng {lo : Int} : ∀ {n : Nat} {its : List Value}, its.length = n → (∀ (j : Nat) (v : Value), its[j]? = some v → ∃ t, v = Value.int (lo + (j : Nat) * 1) t) → Vals ((List.range n).map fun i => V.int (lo + (i : Nat))) its := by
  intro n its hl h
  have key : ∀ (its : List Value) (k : Nat), (∀ (j : Nat) (v : Value), its[j]? = some v → ∃ t, v = Value.int (lo + ((k + j : Nat) : Int)) t) → Vals ((List.range' k its.length).map fun i => V.int (lo + (i : Nat))) its := by
    intro its
    induction its with
    | nil => intro k h; exact .nil
    | cons v r ih =>
      intro k h
      rw [List.length_cons, List.range'_succ, List.map_cons]
      refine .cons ?_ (ih (k + 1) fun j v e => ?_)
      · obtain ⟨t, e⟩ := h 0 v rfl
        exact ⟨t, e⟩
      · have := h (j + 1) v e
        rw [show k + 1 + j = k + (j + 1) by omega]
        exact this
  rw [List.range_eq_range', ← hl]
  refine key its 0 fun j v e => ?_
  obtain ⟨t, e2⟩ := h j v e
  refine ⟨t, ?_⟩
  rw [e2, Nat.zero_add, Int.mul_one]
theorem repL_rng {K : PySem.W.Frag} {H : Hp} {O : Addr → Prop} {lo : Int} {n : Nat} : RepL K H O ((List.range n).map fun i => V.int (lo + (i : Nat))) (rngD lo n) := by
  unfold rngD
  induction List.range n with
  | nil => exact .nil
  | cons a r ih => exact .cons (.i _) ih
section
variable {X : Cx}
theorem collect_walk {A : Around} {E : Value → Shared → Prop} {pins : List (Addr × Obj)} {σ : L2.St} {H : Hp} {s : Shared} {b : Bool} {O : Addr → Prop} {v : V} {d : D} {ds : List D} {u : Value} {Q : List Value → Shared → Prop} (hh : A.handled = none) (I : Inv X pins σ H s) (r : RepX b X.K H O v d) (e : walkD d = some ds) (hl : ds.length ≤ 1000) (ru : RelV v u)
    (hQ : ∀ items vs h' tk, Vals vs items → RepL X.K H O vs ds → (∀ b o, s.heap.get? b = some o → h'.get? b = some o) → Q items { s with heap := h', toks := tk }) :
    wpAny (model X.prog X.w) A (collect u) Q E s := by
  cases hd : seqD d with
  | some xs =>
    have e3 : xs = ds := by
      cases d <;> first
        | (cases hd; done)
        | (cases hd; cases e; rfl)
    subst e3
    obtain ⟨kd, a, vs, rfl, st, rl⟩ := r.seq hd
    cases ru
    rcases st H Kp.refl with ⟨_, hq⟩ | ⟨_, hq⟩
    · obtain ⟨its, rv, ⟨o, n, ho, hc, _, hs⟩, hz⟩ := I.list hq
      refine wpAny_collect_seq a (.inl rfl) ho hc hs (fun h' k => ?_) (by rw [List.size_toArray, ← rv.length]; exact hz)
      exact hQ its vs h' s.toks rv rl k
    · obtain ⟨its, rv, ⟨o, ho, hc, n, hs⟩, hz⟩ := I.tuple hq
      refine wpAny_collect_seq a (.inr rfl) ho hc hs (fun h' k => ?_) (by rw [List.size_toArray, ← rv.length]; exact hz)
      exact hQ its vs h' s.toks rv rl k
  | none =>
    cases d <;> first
      | (cases e; done)
      | (cases hd; done)
      | skip
    rename_i lo hi
    have e2 : (if (smI lo && smI hi) = true then some (rngD lo (hi - lo).toNat) else none) = some ds := e
    split at e2
    · rename_i hg
      cases e2
      rw [Bool.and_eq_true] at hg
      obtain ⟨g1, g2⟩ := smI_ok hg.1
      obtain ⟨g3, g4⟩ := smI_ok hg.2
      have hB : RepB X.K H O v (.r lo hi) := by
        unfold RepX at r
        split at r
        · exact .inl r
        · exact r
      obtain ⟨a, rfl, ha⟩ := hB.rng
      cases ru
      obtain ⟨t, u, w, e0⟩ := I.hok _ _ ha
      rw [rngD_length] at hl
      have e5 : Builtin.Range.rangeSize lo hi 1 = (((hi - lo).toNat : Nat) : Int) := by rw [rangeSize_one]; split <;> omega
      refine collect_range (r := a) (a := lo) (b := hi) (c := 1) (t := t) (u := u) (v := w) (n := (hi - lo).toNat) hh e0 (small_one g1 g2 g3 g4) e5 (by omega) fun h' tk acc k hacc => ?_
      exact hQ acc.toList _ h' tk (vals_rng (by rw [Array.length_toList]; exact hacc.1) fun j v e => hacc.2 j v (by simpa using e)) repL_rng k
    · cases e2
/-- for .. in combinations(a, r) -/
theorem di_comb {tg e e2 : Expr} {f g : EvF} {b : Bool} {x : Str} {p pos : Pos} (hg : Gl X x) (hm : X.mg x = some (.type "itertools.combinations")) (hc : X.calm = true) (hdb : (x == ("__debug__" : Str)) = false) (ha : DX b X e f) (hb : DB X e2 g)
    (hs : starEach [e, e2] X.env = (false, eval e X.env) :: starEach [e2] X.env) (hs2 : starEach [e2] X.env = [(false, eval e2 X.env)]) (hpl : (backTo pos (starEach [e2] X.env)).any (·.1) = false) :
    DI b X tg (.Call (.Name x p) [e, e2] [] pos) (fun env => (f env).bind fun d => (g env).bind fun d' => combD d d') := by
  intro σ H O env ds R ok Rc z c
  obtain ⟨d, e1, z⟩ := bind_some' z
  obtain ⟨d', e2', z⟩ := bind_some' z
  have hA : wA X [e, e2] σ H fun vs H2 => ∃ v w, vs = [v, w] ∧ Same H H2 ∧ RepX b X.K H2 O v d ∧ RepB X.K H2 O w d' :=
    PAw (pa_cons wE_pe (pa_cons wE_pe pa_nil (by rw [hs2]; rfl)) hs) (ha σ H O env d _ ok Rc e1 fun v H1 k1 r1 => hb σ H1 O env d' _ (ok.same k1) (Rc.same k1) e2' fun w H2 k2 r2 => ⟨v, w, rfl, k1.trans k2, r1.same k2, r2⟩)
  unfold combD at z
  split at z
  · rename_i d r
    split at z
    · rename_i hr0
      obtain ⟨xs, z1, z2⟩ := bind_some' z
      obtain ⟨rows, z3, z4⟩ := map_some' z2
      subst z4
      obtain ⟨hn100, hr100, _⟩ := cbIx_ok z3
      intro pins s I
      refine Call_ (ld_glob I hg hm (PyProof.Rows.callWith_type1 (thn (hA pos pins s I) fun us s1 ⟨vs, H1, I1, r1, q1⟩ => ?_) hs hpl) hdb)
      obtain ⟨v, w, rfl, k, rv, rw'⟩ := q1
      cases r1 with
      | cons ru rr =>
        cases rr with
        | cons ru2 rr =>
          cases rr
          obtain rfl := rw'.int
          obtain ⟨t, rfl⟩ := ru2
          obtain ⟨n, rfl⟩ := Int.eq_ofNat_of_zero_le hr0
          have z3' : cbIx xs.length n = some rows := z3
          have hn : n ≤ 100 := hr100
          refine cb_call (by omega) (collect_walk (by show X.A.handled = none; exact I.ok.hd hc) I1 rv z1 (by omega) ru fun items ws h' tk rv' rl' hk => ⟨by rw [← rv'.length, rl'.length]; omega, ?_⟩)
          have I2 : Inv X pins σ H1 { s1 with heap := h', toks := tk } := I1.kept hk
          have hlen : items.length = xs.length := by rw [← rv'.length, rl'.length]
          have hz : (h'.push (tupObj items)).objs.size = h'.objs.size + 1 := Heap.size_push ..
          have hp : ((h'.push (tupObj items)).push (cbObj h'.objs.size (if n > items.length then 2 else 0) .none (List.range n))).get? h'.objs.size = some (tupObj items) := Heap.get?_push_of_some _ (Heap.get?_push_size _ rfl)
          have hit := Heap.get?_push_size (h'.push (tupObj items)) (o := cbObj h'.objs.size (if n > items.length then 2 else 0) .none (List.range n)) rfl
          rw [hz] at hit
          have I3 : Inv X pins σ H1 { s1 with heap := (h'.push (tupObj items)).push (cbObj h'.objs.size (if n > items.length then 2 else 0) .none (List.range n)), toks := tk } :=
            I2.kept fun b o e => Heap.get?_push_of_some _ (Heap.get?_push_of_some _ e)
          refine cb_pyIter hit ?_
          refine ⟨h'.objs.size + 1, [h'.objs.size + 1, h'.objs.size], _, _, H1, rfl, I3, turn_cb (r := n) (rows := rows) h'.objs.size (h'.objs.size + 1) (Nat.ne_of_lt (Nat.lt_succ_self _)) rv' (by rw [hlen]; exact z3'), ⟨hp, .inl ⟨rfl, hit⟩⟩, fun b hb => ?_, c _ _ k (itCb_ok eo_sub rl')⟩
          have e' : b = h'.objs.size + 1 ∨ b = h'.objs.size := by simpa using hb
          have hle : h'.objs.size ≤ b := by
            rcases e' with z | z
            · rw [z]; exact Nat.le_add_right _ _
            · rw [z]; exact Nat.le_refl _
          exact I2.fpOk hle (I2.hok.fresh hle)
    · cases z
  · cases z
end
end PL
/-! PL cg: gcd, lcm, tuple(reversed(..)). -/
namespace PL
open PySem PySem.Spec PyProof.Rows L2

@[simp] def gcdD : List D → Option D
  | [.i a, .i b] => some (.i ((Nat.gcd a.natAbs b.natAbs : Nat) : Int))
  | _ => none
@[simp] def lcmD : List D → Option D
  | [.i a, .i b] => if (absLe a 4611686018427387903 && absLe b 4611686018427387903) = true then some (.i ((Nat.lcm a.natAbs b.natAbs : Nat) : Int)) else none
  | _ => none
@[simp] def revD : D → Option D
  | .l xs => some (.t xs.reverse)
  | _ => none
@[simp] def lrgD : D → D → Option D
  | .i a, .i b => if (absLe a 4611686018427387903 && absLe b 4611686018427387903 && decide ((b - a).toNat ≤ 1000000)) = true then some (.l (rngD a (b - a).toNat)) else none
  | _, _ => none
section
variable {X : Cx}
def rLcm : List V → Hp → VK → Prop := fun vs H Q => ∃ a b : Int, vs = [.int a, .int b] ∧ a.natAbs < 2 ^ 63 ∧ b.natAbs < 2 ^ 63 ∧ Q (.int ((Nat.lcm a.natAbs b.natAbs : Nat) : Int)) H
theorem cr_lcm : CallR X (.builtin "math.lcm") rLcm := by
  intro pins s σ H vs us Q I r h
  obtain ⟨a, b, rfl, ha, hb, q⟩ := h
  obtain ⟨t, u, rfl⟩ := Vals.int2 r
  refine PySem.W.mg_lcm_v (c := ((Nat.lcm a.natAbs b.natAbs : Nat) : Int)) (by omega) (by omega) (by rw [Nat.lcm_one_left]) ?_ ⟨.int _, H, I.tok _, ⟨_, rfl⟩, q⟩
  have e : ((Nat.lcm a.natAbs b.natAbs : Nat) : Int).natAbs = Nat.lcm a.natAbs b.natAbs := rfl
  rw [e]
  have h1 : Nat.lcm a.natAbs b.natAbs ≤ a.natAbs * b.natAbs := by
    unfold Nat.lcm
    exact Nat.div_le_self _ _
  have h2 : a.natAbs * b.natAbs ≤ 2 ^ 63 * 2 ^ 63 := Nat.mul_le_mul (Nat.le_of_lt ha) (Nat.le_of_lt hb)
  have h3 : Nat.lcm a.natAbs b.natAbs < 2 ^ (126 + 1) := by
    refine Nat.lt_of_le_of_lt (Nat.le_trans h1 h2) (by decide)
  have h4 := PySem.W.mg_log h3
  exact Nat.lt_of_le_of_lt h4 (by decide)
theorem repB2i {H : Hp} {O : Addr → Prop} {xs : List V} {a b : Int} (rb : RepBs X.K H O xs [.i a, .i b]) : xs = [.int a, .int b] := by
  cases rb with
  | cons r1 rr =>
    cases rr with
    | cons r2 rr =>
      cases rr
      rw [r1.int, r2.int]
theorem cf_gcd : CallF X (.builtin "math.gcd") gcdD := .of cr_gcd fun H O xs ds d Q ok rb e c => by
  unfold gcdD at e
  split at e
  · cases e
    exact ⟨_, _, repB2i rb, c _ _ (Same.refl _) (.i _)⟩
  · cases e
theorem cf_lcm : CallF X (.builtin "math.lcm") lcmD := .of cr_lcm fun H O xs ds d Q ok rb e c => by
  unfold lcmD at e
  split at e
  · split at e
    · rename_i q
      rw [Bool.and_eq_true] at q
      have h1 := absLe_ok q.1
      have h2 := absLe_ok q.2
      cases e
      exact ⟨_, _, repB2i rb, by omega, by omega, c _ _ (Same.refl _) (.i _)⟩
    · cases e
  · cases e
variable {e : Expr} {es : List Expr} {f : EvF} {fs : List Cell → Option (List D)} {pos : Pos}
/-- f(..), f a module's name for a built-in -/
theorem de_callM {x : Str} {p : Pos} {id : String} {F : List D → Option D} (hc : CallF X (.builtin id) F) (hg : Gl X x) (hm : X.mg x = some (.builtin id)) (ha : DM X (e :: es) fs) (hdb : (x == ("__debug__" : Str)) = false)
    (he : starEach (e :: es) X.env = (false, eval e X.env) :: starEach es X.env) (hpl : (backTo pos (starEach es X.env)).any (·.1) = false) : DE X (.Call (.Name x p) (e :: es) [] pos) (callV F fs) := by
  intro σ H O env d Q ok R z c
  obtain ⟨ds, e1, e2⟩ := bind_some' z
  exact PEw (pe_callBfun can_ok hg hm wA_pa hdb he hpl) (ha σ H O env ds _ ok R e1 fun vs H1 s1 r1 => fun pins s σ us I r => hc pins s σ H1 O vs us ds d Q I (ok.same s1) r r1 e2 fun v H' k q => c v H' (s1.trans k) q)
theorem repL_rev {K : PySem.W.Frag} {H : Hp} {O : Addr → Prop} : ∀ {vs : List V} {ds : List D}, RepL K H O vs ds → RepL K H O vs.reverse ds.reverse := by
  have key : ∀ {vs : List V} {ds : List D}, RepL K H O vs ds → ∀ {ws : List V} {es : List D}, RepL K H O ws es → RepL K H O (vs.reverseAux ws) (ds.reverseAux es) := by
    intro vs
    induction vs with
    | nil => intro ds r ws es r'; cases r; exact r'
    | cons v vs ih => intro ds r ws es r'; cases r with
      | cons a r => exact ih r (.cons a r')
  intro vs ds r
  exact key r .nil
theorem de_tupRev {p p2 pos pos2 : Pos} (hc : X.calm = true) (hg : Gl X "tuple") (hm : X.mg "tuple" = none) (hg2 : Gl X "reversed") (hm2 : X.mg "reversed" = none) (ha : DB X e f) (hs : starEach [e] X.env = (false, eval e X.env) :: starEach [] X.env) :
    DE X (.Call (.Name "tuple" p) [.Call (.Name "reversed" p2) [e] [] pos2] [] pos) (fun env => (f env).bind revD) := by
  intro σ H O env d Q ok R z c
  obtain ⟨q, e1, e2⟩ := bind_some' z
  refine PEw (RT.pe_tupRev hc hg hm hg2 hm2 wE_pe hs rfl) (ha σ H O env q _ ok R e1 fun v H1 s1 r1 => ?_)
  unfold revD at e2
  split at e2
  · cases e2
    obtain ⟨a, vs, rfl, h1, h2⟩ := r1.lst
    exact ⟨a, vs, rfl, SqL.of h1, fun q hq => c _ _ (s1.trans (same_new hq)) (Rep.newT (ok.same s1) hq (repL_rev h2))⟩
  · cases e2
/-- list(range(a, b)) -/
theorem df_lrg {a c : Expr} {g : EvF} {p p2 pos pos2 : Pos} (hc : X.calm = true) (hg : Gl X "list") (hm : X.mg "list" = none) (hg2 : Gl X "range") (hm2 : X.mg "range" = none) (ha : DB X a f) (hb : DB X c g) (na : starEach [a, c] X.env = (false, eval a X.env) :: starEach [c] X.env)
    (nb : starEach [c] X.env = (false, eval c X.env) :: starEach [] X.env) (hp : (backTo p2 (starEach [c] X.env)).any (·.1) = false) (hp2 : (backTo pos2 (starEach [c] X.env)).any (·.1) = false) :
    DF X (.Call (.Name "list" p) [.Call (.Name "range" p2) [a, c] [] pos2] [] pos) (fun env => (f env).bind fun x => (g env).bind fun y => lrgD x y) := by
  intro σ H O env d Q ok R z k
  obtain ⟨x, e1, z⟩ := bind_some' z
  obtain ⟨y, e2, e3⟩ := bind_some' z
  refine PEw (pe_listRg hc hg hm (prg_2 hg2 hm2 wE_pe wE_pe na nb hp2) rfl) (ha σ H O env x _ ok R e1 fun v H1 s1 r1 => hb σ H1 O env y _ (ok.same s1) (R.same s1) e2 fun w H2 s2 r2 => ?_)
  unfold lrgD at e3
  split at e3
  · split at e3
    · rename_i q
      rw [Bool.and_eq_true, Bool.and_eq_true, decide_eq_true_eq] at q
      obtain ⟨⟨q1, q2⟩, q3⟩ := q
      have h1 := absLe_ok q1
      have h2 := absLe_ok q2
      cases e3
      refine ⟨_, _, r1.int, r2.int, ⟨by omega, by omega, by omega, by omega, by omega⟩, fun q hq => ?_⟩
      exact k q _ _ _ ((s1.trans s2).trans (same_new hq)) ((s1.trans s2).free hq) rfl upd_same (newF hq repL_rng)
    · cases e3
  · cases e3
end
end PL
/-! PL n: calls, targets, iterables, comprehensions; the evaluator. -/
namespace PL
open PySem PySem.Spec PyProof.Rows L2

/-! ### built-ins -/
inductive Bl where
  | len | int | abs | max | min | sum | any | all | tuple | list
def blOf (x : Str) : Option Bl :=
  if x = "len" then some .len else if x = "int" then some .int else if x = "tuple" then some .tuple else if x = "all" then some .all else if x = "any" then some .any else if x = "list" then some .list
  else if x = "max" then some .max else if x = "min" then some .min else if x = "abs" then some .abs else if x = "sum" then some .sum else none
def Bl.val : Bl → Value
  | .len => .builtin "len" | .int => .type "int" | .abs => .builtin "abs" | .max => .builtin "max" | .min => .builtin "min" | .sum => .builtin "sum" | .any => .builtin "any" | .all => .builtin "all" | .tuple => .type "tuple" | .list => .type "list"
def Bl.fn : Bl → List D → Option D
  | .len => lenD | .int => intD | .abs => absD | .max => maxD | .min => minE | .sum => sumE | .any => anyD | .all => allD | .tuple => tupleD | .list => listD
theorem blOf_ok {x : Str} {b : Bl} (h : blOf x = some b) : bootBuiltins x = some b.val := by
  unfold blOf at h
  repeat' split at h
  all_goals first
    | (cases h; done)
    | (rename_i e; cases h; subst e; first
        | exact PyProof.Rows.boot_len | exact PyProof.Rows.boot_int | exact PyProof.Rows.boot_tuple | exact PyProof.Rows.boot_all | exact PyProof.Rows.boot_any | exact PyProof.Rows.boot_list | exact PyProof.Rows.boot_max | exact PyProof.Rows.boot_min | exact PyProof.Rows.boot_abs | exact PyProof.Rows.boot_sum
        | decide +kernel)
def tyOf (x : Str) : Option Ty5 := if x = "int" then some .int else if x = "str" then some .str else if x = "bool" then some .bool else if x = "tuple" then some .tuple else if x = "list" then some .list else none
theorem tyOf_ok {x : Str} {T : Ty5} (h : tyOf x = some T) : bootBuiltins x = some (.type T.name) := by
  unfold tyOf at h
  repeat' split at h
  all_goals first
    | (cases h; done)
    | (rename_i e; cases h; subst e; decide +kernel)
def Ga.bl (Γ : Ga) (x : Str) : Bool := Γ.gl x && Γ.free.contains x
section
variable {Γ : Ga} {X : Cx} {rec : Rc}
theorem GOk.bl {x : Str} (g : GOk Γ X) (h : Γ.bl x = true) : Gl X x ∧ X.mg x = none ∧ (x == ("__debug__" : Str)) = false ∧ x ≠ "__name__" := by
  unfold Ga.bl at h
  rw [Bool.and_eq_true] at h
  obtain ⟨h1, h2, h3⟩ := g.gl h.1
  exact ⟨h1, g.free x h.2, h2, h3⟩
@[simp] def rngv (f : EvF) : EvF := fun env => (f env).bind fun d => match d with
  | .i j => some (.r 0 j)
  | _ => none
def instS (Γ : Ga) (x : Expr) (ev : Expr → Ev) (args : List Expr) : Ev := match args with
  | [a, .Name y _] => if (Γ.bl y && noStar a) = true then (match tyOf y with
    | some T => .ofE x (instV [T] (ev a).b)
    | none => .bad) else .bad
  | [a, .Tuple [.Name y _, .Name z _] _ _] => if (Γ.bl y && Γ.bl z && noStar a) = true then (match tyOf y, tyOf z with
    | some T, some U => .ofE x (instV [T, U] (ev a).b)
    | _, _ => .bad) else .bad
  | _ => .bad
theorem boot_isi : bootBuiltins "isinstance" = some (.builtin "isinstance") := by decide +kernel
theorem instS_ok {ev : Expr → Ev} (g : GOk Γ X) (h : ∀ x, EvOk X x (ev x)) {p pos : Pos} {args : List Expr} (hb : Γ.bl "isinstance" = true) : EvOk X (.Call (.Name "isinstance" p) args [] pos) (instS Γ (.Call (.Name "isinstance" p) args [] pos) ev args) := by
  obtain ⟨g1, g2, g3, g4⟩ := g.bl hb
  unfold instS
  split
  · refine if_ok fun q => ?_
    rw [Bool.and_eq_true] at q
    obtain ⟨q1, q2, q3, q4⟩ := g.bl q.1
    split
    · rename_i T e
      exact ofE_ok (de_inst1 g1 g2 boot_isi g4 g3 q1 q2 (tyOf_ok e) q4 q3 (h _).b (star_cons q.2))
    · exact bad_ok
  · refine if_ok fun q => ?_
    rw [Bool.and_eq_true, Bool.and_eq_true] at q
    obtain ⟨q1, q2, q3, q4⟩ := g.bl q.1.1
    obtain ⟨r1, r2, r3, r4⟩ := g.bl q.1.2
    split
    · rename_i T U e e'
      exact ofE_ok (de_inst2 g1 g2 boot_isi g4 g3 q1 q2 (tyOf_ok e) q4 q3 r1 r2 (tyOf_ok e') r4 r3 (h _).b (star_cons q.2))
    · exact bad_ok
  · exact bad_ok
/-- sorted(set(e)) -/
def sortS (Γ : Ga) (x : Expr) (ev : Expr → Ev) (a : Expr) (r : List Expr) : Ev := match a, r with
  | .Call (.Name g _) [e] [] _, [] => if (decide (g = "set") && Γ.bl g && noStar e) = true then .ofF x (fun env => ((ev e).b env).bind srtSetD) else .bad
  | _, _ => .bad
theorem sortS_ok {ev : Expr → Ev} (g : GOk Γ X) (h : ∀ x, EvOk X x (ev x)) {p pos : Pos} {a : Expr} {r : List Expr} (hb : Γ.bl "sorted" = true) : EvOk X (.Call (.Name "sorted" p) (a :: r) [] pos) (sortS Γ (.Call (.Name "sorted" p) (a :: r) [] pos) ev a r) := by
  obtain ⟨g1, g2, g3, g4⟩ := g.bl hb
  unfold sortS
  split
  · refine if_ok fun q => ?_
    rw [Bool.and_eq_true, Bool.and_eq_true, decide_eq_true_eq] at q
    obtain ⟨⟨e, q1⟩, q2⟩ := q
    subst e
    obtain ⟨r1, r2, r3, r4⟩ := g.bl q1
    have hu := g.un
    exact ofF_ok (df_srtSet g.calm (by omega) g1 g2 r1 r2 (h _).b (star_cons q2))
  · exact bad_ok
theorem blOf_tup {x : Str} (h : blOf x = some .tuple) : x = "tuple" := by
  unfold blOf at h
  repeat' split at h
  all_goals first
    | assumption
    | (cases h; done)
theorem bl_ok {ev : Expr → Ev} (g : GOk Γ X) (h : ∀ x, EvOk X x (ev x)) {p pos : Pos} {f : Str} {a : Expr} {r : List Expr} {b : Bl} (e : blOf f = some b) (hb : Γ.bl f = true) (h1 : noStar a = true) (h2 : r.all noStar = true) (nl : b ≠ .list) :
    DE X (.Call (.Name f p) (a :: r) [] pos) (callV b.fn (argsB ev (a :: r))) := by
  obtain ⟨g1, g2, g3, g4⟩ := g.bl hb
  have hv := blOf_ok e
  have hm : DM X (a :: r) (argsB ev (a :: r)) := argsB_ok h (by rw [List.all_cons, h1, h2]; rfl)
  have he := star_cons (es := r) (env := X.env) h1
  have hp := star_any (pos := pos) (env := X.env) h2
  cases b with
  | len => exact de_callB cf_len g1 g2 hv hm g4 g3 he hp
  | int => exact de_callTy cf_int g1 g2 hv hm g4 g3 he hp
  | abs => exact de_callB cf_abs g1 g2 hv hm g4 g3 he hp
  | max => exact de_callB (cf_max g.calm) g1 g2 hv hm g4 g3 he hp
  | min => exact de_callB (cf_minE g.calm g.un) g1 g2 hv hm g4 g3 he hp
  | sum => exact de_callB (cf_sumE g.calm) g1 g2 hv hm g4 g3 he hp
  | any => exact de_callB (cf_any g.calm) g1 g2 hv hm g4 g3 he hp
  | all => exact de_callB (cf_all g.calm) g1 g2 hv hm g4 g3 he hp
  | tuple => exact de_callTy cf_tuple g1 g2 hv hm g4 g3 he hp
  | list => exact absurd rfl nl
/-- f(..), f imported from the library -/
def Ga.md (Γ : Ga) (x : Str) : Bool := Γ.gl x && (match modOf x with
  | some (m, _) => Γ.free.contains m
  | none => false)
theorem GOk.md {x : Str} (g : GOk Γ X) (h : Γ.md x = true) : Gl X x ∧ (x == ("__debug__" : Str)) = false ∧ ∃ m v, modOf x = some (m, v) ∧ X.mg x = some v := by
  unfold Ga.md at h
  rw [Bool.and_eq_true] at h
  obtain ⟨h1, h2, h3⟩ := g.gl h.1
  refine ⟨h1, h2, ?_⟩
  have hh := h.2
  split at hh
  · rename_i m v e
    exact ⟨m, v, e, g.mods x m v e hh⟩
  · cases hh
def modS (Γ : Ga) (x : Expr) (ev : Expr → Ev) (f : Str) (as : List Expr) : Ev :=
  if (Γ.md f && decide (f = "gcd")) = true then .ofE x (callV gcdD (argsB ev as)) else if (Γ.md f && decide (f = "lcm")) = true then .ofE x (callV lcmD (argsB ev as)) else .bad
theorem modS_ok {ev : Expr → Ev} (g : GOk Γ X) (h : ∀ x, EvOk X x (ev x)) {p pos : Pos} {f : Str} {a : Expr} {r : List Expr} (h1 : noStar a = true) (h2 : r.all noStar = true) : EvOk X (.Call (.Name f p) (a :: r) [] pos) (modS Γ (.Call (.Name f p) (a :: r) [] pos) ev f (a :: r)) := by
  have hm : DM X (a :: r) (argsB ev (a :: r)) := argsB_ok h (by rw [List.all_cons, h1, h2]; rfl)
  unfold modS
  split
  · rename_i q
    rw [Bool.and_eq_true, decide_eq_true_eq] at q
    obtain ⟨q, e⟩ := q
    subst e
    obtain ⟨g1, g2, m, v, e, g3⟩ := g.md q
    cases e
    exact ofE_ok (de_callM cf_gcd g1 g3 hm g2 (star_cons h1) (star_any h2))
  · split
    · rename_i q
      rw [Bool.and_eq_true, decide_eq_true_eq] at q
      obtain ⟨q, e⟩ := q
      subst e
      obtain ⟨g1, g2, m, v, e, g3⟩ := g.md q
      cases e
      exact ofE_ok (de_callM cf_lcm g1 g3 hm g2 (star_cons h1) (star_any h2))
    · exact bad_ok
/-- tuple(..), or tuple(reversed(e)) -/
def tuqS (Γ : Ga) (x : Expr) (ev : Expr → Ev) (a : Expr) (r : List Expr) : Ev := match a, r with
  | .Call (.Name g _) [e] [] _, [] => if (decide (g = "reversed") && Γ.bl g && noStar e) = true then .ofE x (fun env => ((ev e).b env).bind revD) else .ofE x (callV tupleD (argsB ev (a :: r)))
  | _, _ => .ofE x (callV tupleD (argsB ev (a :: r)))
theorem tuqS_ok {ev : Expr → Ev} (g : GOk Γ X) (h : ∀ x, EvOk X x (ev x)) {p pos : Pos} {a : Expr} {r : List Expr} (hb : Γ.bl "tuple" = true) (h1 : noStar a = true) (h2 : r.all noStar = true) : EvOk X (.Call (.Name "tuple" p) (a :: r) [] pos) (tuqS Γ (.Call (.Name "tuple" p) (a :: r) [] pos) ev a r) := by
  have pl := ofE_ok (bl_ok (p := p) (pos := pos) g h (b := .tuple) (by rfl) hb h1 h2 (by intro z; cases z))
  unfold tuqS
  split
  · split
    · rename_i q
      rw [Bool.and_eq_true, Bool.and_eq_true, decide_eq_true_eq] at q
      obtain ⟨⟨e, q1⟩, q2⟩ := q
      subst e
      obtain ⟨g1, g2, _, _⟩ := g.bl hb
      obtain ⟨r1, r2, _, _⟩ := g.bl q1
      exact ofE_ok (de_tupRev g.calm g1 g2 r1 r2 (h _).b (star_cons q2))
    · exact pl
  · exact pl
/-- list(..), or list(range(a, b)) -/
def lisS (Γ : Ga) (x : Expr) (ev : Expr → Ev) (a : Expr) (r : List Expr) : Ev := match a, r with
  | .Call (.Name g _) [u, w] [] _, [] => if (decide (g = "range") && Γ.bl g && noStar u && noStar w) = true then .ofF x (fun env => ((ev u).b env).bind fun i => ((ev w).b env).bind fun j => lrgD i j) else .ofF x (callV listD (argsB ev (a :: r)))
  | _, _ => .ofF x (callV listD (argsB ev (a :: r)))
theorem lisS_ok {ev : Expr → Ev} (g : GOk Γ X) (h : ∀ x, EvOk X x (ev x)) {p pos : Pos} {a : Expr} {r : List Expr} (hb : Γ.bl "list" = true) (h1 : noStar a = true) (h2 : r.all noStar = true) : EvOk X (.Call (.Name "list" p) (a :: r) [] pos) (lisS Γ (.Call (.Name "list" p) (a :: r) [] pos) ev a r) := by
  obtain ⟨g1, g2, g3, g4⟩ := g.bl hb
  have pl : EvOk X (.Call (.Name "list" p) (a :: r) [] pos) (.ofF (.Call (.Name "list" p) (a :: r) [] pos) (callV listD (argsB ev (a :: r)))) :=
    ofF_ok (df_callTy cn_list g1 g2 (by rfl) (argsB_ok h (by rw [List.all_cons, h1, h2]; rfl)) g4 g3 (star_cons h1) (star_any h2))
  unfold lisS
  split
  · split
    · rename_i q
      rw [Bool.and_eq_true, Bool.and_eq_true, Bool.and_eq_true, decide_eq_true_eq] at q
      obtain ⟨⟨⟨e, q1⟩, q2⟩, q3⟩ := q
      subst e
      obtain ⟨r1, r2, _, _⟩ := g.bl q1
      exact ofF_ok (df_lrg g.calm g1 g2 r1 r2 (h _).b (h _).b (star_cons q2) (star_cons q3) (star_any (by rw [List.all_cons, q3]; rfl)) (star_any (by rw [List.all_cons, q3]; rfl)))
    · exact pl
  · exact pl
theorem blOf_lst {x : Str} (h : blOf x = some .list) : x = "list" := by
  unfold blOf at h
  repeat' split at h
  all_goals first
    | assumption
    | (cases h; done)
/-- f(..), f a def of the program or a built-in -/
def callS (Γ : Ga) (x : Expr) (ev : Expr → Ev) (f : Str) (args : List Expr) : Ev :=
  match args with
  | [] => .bad
  | a :: r => if (Γ.gl f && noStar a && r.all noStar) = true then (match Γ.fns.lookup f with
    | some n => if r.length + 1 = n then .ofE x (callV (Γ.call f) (argsE ev (a :: r))) else .bad
    | none => if Γ.free.contains f = true then (if f = "isinstance" then instS Γ x ev (a :: r) else if f = "range" then (match r with
        | [] => .ofE x (rngv (ev a).b)
        | _ => .bad)
      else if f = "sorted" then sortS Γ x ev a r
      else match blOf f with
        | some .list => lisS Γ x ev a r
        | some .tuple => tuqS Γ x ev a r
        | some b => .ofE x (callV b.fn (argsB ev (a :: r)))
        | none => .bad) else modS Γ x ev f (a :: r)) else .bad
theorem callS_ok {ev : Expr → Ev} (g : GOk Γ X) (h : ∀ x, EvOk X x (ev x)) {p pos : Pos} {f : Str} {args : List Expr} : EvOk X (.Call (.Name f p) args [] pos) (callS Γ (.Call (.Name f p) args [] pos) ev f args) := by
  unfold callS
  split
  · exact bad_ok
  · rename_i a r
    refine if_ok fun q => ?_
    rw [Bool.and_eq_true, Bool.and_eq_true] at q
    obtain ⟨⟨q1, q2⟩, q3⟩ := q
    obtain ⟨g1, g2, g3⟩ := g.gl q1
    split
    · rename_i n e
      split
      · rename_i hn
        obtain ⟨k, fa, fd, ps, G, hr, hm, hk, hb⟩ := g.fns f n e
        exact ofE_ok (de_call G hr g1 hm hk hb (argsE_ok h (by rw [List.all_cons, q2, q3]; rfl)) hn g2 (fun env ds z => by rw [argsE_len z]; exact hn) (star_cons q2) (star_any q3))
      · exact bad_ok
    · split
      rotate_left
      · exact modS_ok g h q2 q3
      rename_i q4
      have hb : Γ.bl f = true := by unfold Ga.bl; rw [q1, q4]; rfl
      split
      · rename_i e
        subst e
        exact instS_ok g h hb
      · split
        · rename_i e
          subst e
          split
          · exact ofE_ok (de_rngv1 g1 (g.free _ q4) (h a).b (star_cons q2) rfl)
          · exact bad_ok
        · split
          · rename_i e
            subst e
            exact sortS_ok g h hb
          split
          · rename_i e
            have e2 := blOf_lst e
            subst e2
            exact lisS_ok g h hb q2 q3
          · rename_i e
            have e2 := blOf_tup e
            subst e2
            exact tuqS_ok g h hb q2 q3
          · rename_i b nl nt e
            exact ofE_ok (bl_ok g h e hb q2 q3 nl)
          · exact bad_ok

/-! ### targets -/
def allO {α : Type} : List (Option α) → Option (List α)
  | [] => some []
  | none :: _ => none
  | some a :: r => (allO r).map (a :: ·)
def tgO (Γ : Ga) : Nat → Expr → Option Tg
  | 0, _ => none
  | n + 1, .Name x _ => if Γ.loc x = true then (Γ.slot x).map .nm else none
  | n + 1, .Tuple es _ _ => (allO (es.map (tgO Γ n))).map .tp
  | n + 1, _ => none
theorem tgO_plain {n : Nat} {e : Expr} {t : Tg} (h : tgO Γ n e = some t) : ∀ env : Env, ∀ es : List Expr, assignEach (e :: es) env = (false, assign e env) :: assignEach es env := by
  intro env es
  cases n with
  | zero => cases h
  | succ n =>
    cases e <;> first
      | (cases h; done)
      | rfl
theorem tgOs_len {n : Nat} {env : Env} : ∀ {es : List Expr} {ts : List Tg}, allO (es.map (tgO Γ n)) = some ts → (assignEach es env).length = ts.length ∧ (assignEach es env).findIdx? (·.1) = none
  | [], ts, h => by cases h; exact ⟨rfl, rfl⟩
  | e :: es, ts, h => by
    rw [List.map_cons] at h
    cases z : tgO Γ n e with
    | none => rw [z] at h; cases h
    | some t =>
      rw [z] at h
      obtain ⟨ts', h1, h2⟩ := map_some' (show (allO (es.map (tgO Γ n))).map (t :: ·) = some ts from h)
      subst h2
      obtain ⟨g1, g2⟩ := tgOs_len (env := env) h1
      rw [tgO_plain z env es]
      refine ⟨by rw [List.length_cons, List.length_cons, g1], ?_⟩
      rw [List.findIdx?_cons, g2]
      rfl
theorem tgO_ok (g : GOk Γ X) : ∀ {n : Nat} {e : Expr} {t : Tg}, tgO Γ n e = some t → DG X e t
  | 0, _, _, h => by cases h
  | n + 1, e, t, h => by
    have go : ∀ {es : List Expr} {ts : List Tg}, allO (es.map (tgO Γ n)) = some ts → DGs X es ts := by
      intro es
      induction es with
      | nil => intro ts h; cases h; exact dgs_nil
      | cons e es ih =>
        intro ts h
        rw [List.map_cons] at h
        cases z : tgO Γ n e with
        | none => rw [z] at h; cases h
        | some t =>
          rw [z] at h
          obtain ⟨ts', h1, h2⟩ := map_some' (show (allO (es.map (tgO Γ n))).map (t :: ·) = some ts from h)
          subst h2
          exact dgs_cons (tgO_ok g z) (ih h1) (by rw [tgO_plain z X.env es]; rfl)
    cases e <;> first
      | (cases h; done)
      | skip
    · rename_i x pos
      have h : (if Γ.loc x = true then (Γ.slot x).map Tg.nm else none) = some t := h
      split at h
      · rename_i q
        obtain ⟨i, h1, h2⟩ := map_some' h
        subst h2
        obtain ⟨l1, l2⟩ := g.loc q
        exact dg_name g.nd (g.slot h1) l1 l2
      · cases h
    · rename_i es k pos
      obtain ⟨ts, h1, h2⟩ := map_some' (show (allO (es.map (tgO Γ n))).map Tg.tp = some t from h)
      subst h2
      obtain ⟨g1, g2⟩ := tgOs_len (env := X.env) h1
      exact dg_tup g.calm (go h1) g1 g2

/-! ### what is walked -/
def isTup : Expr → Bool
  | .Tuple .. => true
  | _ => false
def evX (b : Bool) (r : Ev) : EvF := if b = true then r.e else r.b
theorem evX_ok {x : Expr} {r : Ev} (h : EvOk X x r) : ∀ b, DX b X x (evX b r)
  | true => h.e.dx
  | false => h.b.dx
def plainI (ev : Expr → Ev) (b : Bool) (iter : Expr) : List Cell → Option (List D) := fun env => (evX b (ev iter) env).bind walkD
def rngI (ev : Expr → Ev) : List Expr → List Cell → Option (List D)
  | [a] => fun env => ((ev a).b env).bind rng1
  | [a, b] => fun env => ((ev a).b env).bind fun x => ((ev b).b env).bind fun y => rng2 x y
  | [a, b, c] => fun env => ((ev a).b env).bind fun x => ((ev b).b env).bind fun y => ((ev c).b env).bind fun z => rng3 x y z
  | _ => fun _ => none
def itS (Γ : Ga) (ev : Expr → Ev) (b : Bool) (tg iter : Expr) : List Cell → Option (List D) := match iter with
  | .Call (.Name f _) args [] _ => if (Γ.bl f && args.all noStar) = true then
      (if f = "range" then rngI ev args
      else if (decide (f = "enumerate") && isTup tg) = true then (match args with
        | [a] => fun env => (evX b (ev a) env).bind fun d => (seqD d).map (enumD 0)
        | _ => fun _ => none)
      else if (decide (f = "zip") && isTup tg) = true then (match args with
        | [a, c] => fun env => (evX b (ev a) env).bind fun d => (evX b (ev c) env).bind fun d' => (seqD d).bind fun xs => (seqD d').map fun ys => zipD xs ys
        | _ => fun _ => none)
      else plainI ev b iter) else if (Γ.md f && decide (f = "combinations") && args.all noStar) = true then (match args with
        | [a, c] => fun env => (evX b (ev a) env).bind fun d => ((ev c).b env).bind fun d' => combD d d'
        | _ => fun _ => none)
      else plainI ev b iter
  | _ => plainI ev b iter
theorem di_no {b : Bool} {tg iter : Expr} : DI b X tg iter (fun _ => none) := fun _ _ _ _ _ _ _ _ h => nomatch h
theorem rngI_ok {ev : Expr → Ev} (g : GOk Γ X) (h : ∀ x, EvOk X x (ev x)) {b : Bool} {tg : Expr} {p pos : Pos} (hb : Γ.bl "range" = true) : ∀ {args : List Expr}, args.all noStar = true → DI b X tg (.Call (.Name "range" p) args [] pos) (rngI ev args)
  | [], _ => di_no
  | [a], q => by
    obtain ⟨g1, g2, _, _⟩ := g.bl hb
    rw [List.all_cons, Bool.and_eq_true] at q
    exact di_range1 g1 g2 (h a).b (starE1 (star_cons q.1))
  | [a, c], q => by
    obtain ⟨g1, g2, _, _⟩ := g.bl hb
    rw [List.all_cons, Bool.and_eq_true, List.all_cons, Bool.and_eq_true] at q
    exact di_range2 g1 g2 (h a).b (h c).b (star_cons q.1) (starE1 (star_cons q.2.1))
  | [a, c, d], q => by
    obtain ⟨g1, g2, _, _⟩ := g.bl hb
    rw [List.all_cons, Bool.and_eq_true] at q
    have q2 := q.2
    rw [List.all_cons, Bool.and_eq_true, List.all_cons, Bool.and_eq_true] at q2
    exact di_range3 g1 g2 (h a).b (h c).b (h d).b (star_cons q.1) (star_cons q2.1) (starE1 (star_cons q2.2.1)) (star_any q.2)
  | _ :: _ :: _ :: _ :: _, _ => di_no
theorem itS_ok' {ev : Expr → Ev} (g : GOk Γ X) (h : ∀ x, EvOk X x (ev x)) {b : Bool} {tg iter : Expr} : DI b X tg iter (itS Γ ev b tg iter) := by
  unfold itS
  split
  · rename_i f p args pos
    split
    · rename_i q
      rw [Bool.and_eq_true] at q
      split
      · rename_i e
        subst e
        exact rngI_ok g h q.1 q.2
      · split
        · rename_i e
          rw [Bool.and_eq_true, decide_eq_true_eq] at e
          obtain ⟨e, e2⟩ := e
          subst e
          obtain ⟨g1, g2, _, _⟩ := g.bl q.1
          cases tg <;> first
            | (cases e2; done)
            | skip
          split
          · rename_i a
            have q2 := q.2
            rw [List.all_cons, Bool.and_eq_true] at q2
            exact di_enum g1 g2 (evX_ok (h a) b) (starE1 (star_cons q2.1))
          · exact di_no
        · split
          · rename_i e
            rw [Bool.and_eq_true, decide_eq_true_eq] at e
            obtain ⟨e, e2⟩ := e
            subst e
            obtain ⟨g1, g2, _, _⟩ := g.bl q.1
            cases tg <;> first
              | (cases e2; done)
              | skip
            split
            · rename_i a c
              have q2 := q.2
              rw [List.all_cons, Bool.and_eq_true] at q2
              have q3 := q2.2
              rw [List.all_cons, Bool.and_eq_true] at q3
              exact di_zip g1 g2 (evX_ok (h a) b) (evX_ok (h c) b) (star_cons q2.1) (starE1 (star_cons q3.1)) (star_any q2.2)
            · exact di_no
          · exact di_of (evX_ok (h _) b)
    · split
      · rename_i q
        rw [Bool.and_eq_true, Bool.and_eq_true, decide_eq_true_eq] at q
        obtain ⟨⟨q0, e⟩, q2⟩ := q
        subst e
        obtain ⟨g1, g2, m, v, e, g3⟩ := g.md q0
        cases e
        split
        · rename_i a c _
          rw [List.all_cons, Bool.and_eq_true] at q2
          have q3 := q2.2
          rw [List.all_cons, Bool.and_eq_true] at q3
          exact di_comb g1 g3 g.calm g2 (evX_ok (h a) b) (h c).b (star_cons q2.1) (starE1 (star_cons q3.1)) (star_any q2.2)
        · exact di_no
      · exact di_of (evX_ok (h _) b)
  · exact di_of (evX_ok (h _) b)
def isSet : Expr → Bool
  | .Set .. => true
  | _ => false
theorem noSet {e : Expr} (h : isSet e = false) (env : Env) : ∀ x, foldedSetIterable e env x = pure x := by
  intro x
  cases e <;> first | (cases h; done) | rfl

/-! ### comprehensions -/
/-- the block's own names, with their slots -/
def ownOf (Γ : Ga) : List (Str × NameKind) → List (Str × Nat)
  | [] => []
  | (x, k) :: r => if (k == .local || k == .cell) = true then (match Γ.slot x with
    | some i => (x, i) :: ownOf Γ r
    | none => ownOf Γ r) else ownOf Γ r
def testsS (ev : Expr → Ev) : List Expr → List Cell → Option Bool
  | [] => fun _ => some true
  | [c] => (ev c).t
  | _ => fun _ => none
theorem testsS_ok {ev : Expr → Ev} (h : ∀ x, EvOk X x (ev x)) : ∀ {cs : List Expr}, DTs X cs (testsS ev cs)
  | [] => dts_nil
  | [c] => dts_one (h c).t
  | _ :: _ :: _ => fun _ _ _ _ _ _ _ _ h => nomatch h
def subB (a b : List Nat) : Bool := a.all fun i => b.contains i
theorem subB_ok {a b : List Nat} (h : subB a b = true) : ∀ i ∈ a, i ∈ b := fun i hi => by
  have q := List.all_eq_true.mp h i hi
  exact List.contains_iff_mem.mp q
def lcS (Γ : Ga) (rec : Rc) (elt : Expr) (gs : List Comprehension) (scope : Scope) : EvF := match gs with
  | [⟨tg, iter, ifs, 0⟩] => (match tgO (Γ.blk scope) 4 tg with
    | some t => if (blkC Γ.N Γ.sc scope (ownOf Γ scope.names) && subB t.slots ((ownOf Γ scope.names).map (·.2)) && !isSet iter) = true then
        lcV (itS Γ (rec Γ) false tg iter) t (testsS (rec (Γ.blk scope)) ifs) (rec (Γ.blk scope) elt).e ((ownOf Γ scope.names).map (·.2)) else noE
    | none => noE)
  | [⟨tg, iter, ifs, 0⟩, ⟨tg1, iter1, ifs1, 0⟩] => (match tgO (Γ.blk scope) 4 tg, tgO (Γ.blk scope) 4 tg1 with
    | some t, some t1 => if (blkC Γ.N Γ.sc scope (ownOf Γ scope.names) && subB t.slots ((ownOf Γ scope.names).map (·.2)) && subB t1.slots ((ownOf Γ scope.names).map (·.2)) && !isSet iter && !isSet iter1) = true then
        lcV2 (itS Γ (rec Γ) false tg iter) t (testsS (rec (Γ.blk scope)) ifs) (itS (Γ.blk scope) (rec (Γ.blk scope)) true tg1 iter1) t1 (testsS (rec (Γ.blk scope)) ifs1) (rec (Γ.blk scope) elt).e ((ownOf Γ scope.names).map (·.2)) else noE
    | _, _ => noE)
  | _ => noE
theorem lcS_ok (g : GOk Γ X) (h : Snd rec) {elt : Expr} {gs : List Comprehension} {scope : Scope} {pos : Pos} : DF X (.ListComp elt gs scope pos) (lcS Γ rec elt gs scope) := by
  unfold lcS
  split
  · rename_i tg iter ifs
    split
    · rename_i t ht
      split
      · rename_i q
        rw [Bool.and_eq_true, Bool.and_eq_true, Bool.not_eq_true'] at q
        obtain ⟨⟨q1, q2⟩, q3⟩ := q
        exact df_lc g.calm g.nd (by rw [g.N, g.sc]; exact q1) (noSet q3 X.env) (itS_ok' g (fun x => h Γ X x g)) (fun Y hY => tgO_ok (g.blk hY) ht) (fun Y hY => testsS_ok fun x => h _ Y x (g.blk hY)) (fun Y hY => (h _ Y elt (g.blk hY)).e) (subB_ok q2)
      · exact df_no
    · exact df_no
  · rename_i tg iter ifs tg1 iter1 ifs1
    split
    · rename_i t t1 ht ht1
      split
      · rename_i q
        rw [Bool.and_eq_true, Bool.and_eq_true, Bool.and_eq_true, Bool.and_eq_true, Bool.not_eq_true', Bool.not_eq_true'] at q
        obtain ⟨⟨⟨⟨q1, q2⟩, q3⟩, q4⟩, q5⟩ := q
        exact df_lc2 g.calm g.nd (by rw [g.N, g.sc]; exact q1) (noSet q4 X.env) (fun env => noSet q5 env) (itS_ok' g (fun x => h Γ X x g)) (fun Y hY => tgO_ok (g.blk hY) ht) (fun Y hY => testsS_ok fun x => h _ Y x (g.blk hY))
          (fun Y hY => itS_ok' (g.blk hY) fun x => h _ Y x (g.blk hY)) (fun Y hY => tgO_ok (g.blk hY) ht1) (fun Y hY => testsS_ok fun x => h _ Y x (g.blk hY)) (fun Y hY => (h _ Y elt (g.blk hY)).e) (subB_ok q2) (subB_ok q3)
      · exact df_no
    · exact df_no
  · exact df_no

/-! ### the evaluator -/
def step (rec : Rc) (Γ : Ga) (x : Expr) : Ev := match x with
  | .Name y pos => nameS Γ y pos
  | .Constant c k pos => constS c k pos
  | .BinOp a op b _ => binS x op (rec Γ a) (rec Γ b)
  | .UnaryOp op a _ => unS x op (rec Γ a)
  | .BoolOp op es _ => boolS op (rec Γ) es
  | .Compare a ops bs _ => compS (rec Γ) a ops bs
  | .IfExp c a b _ => iteS (rec Γ c) (rec Γ a) (rec Γ b)
  | .Tuple es _ _ => tupS x (rec Γ) es
  | .List es _ => lstS x (rec Γ) es
  | .Subscript a b _ => subS x (rec Γ) a b
  | .Call (.Name f _) args [] _ => callS Γ x (rec Γ) f args
  | .ListComp elt gs scope _ => .ofF x (lcS Γ rec elt gs scope)
  | _ => .bad
theorem step_ok (h : Snd rec) : Snd (step rec) := by
  intro Γ X x g
  have hh : ∀ x, EvOk X x (rec Γ x) := fun x => h Γ X x g
  unfold step
  split
  · exact nameS_ok g _ _
  · exact constS_ok _ _ _
  · exact binS_ok (hh _) (hh _)
  · exact unS_ok (hh _)
  · exact boolS_ok hh
  · exact compS_ok g.un hh
  · exact iteS_ok (hh _) (hh _) (hh _)
  · exact tupS_ok hh
  · exact lstS_ok hh
  · exact subS_ok hh
  · exact callS_ok g hh
  · exact ofF_ok (lcS_ok g h)
  · exact bad_ok
def ev : Nat → Rc
  | 0 => fun _ _ => .bad
  | n + 1 => step (ev n)
theorem ev_ok : ∀ n, Snd (ev n)
  | 0 => fun _ _ _ _ => bad_ok
  | n + 1 => step_ok (ev_ok n)
end
end PL
/-! PL o: the evaluator of statements and of defs, and that the model keeps to it. -/
namespace PL
open PySem PySem.Spec PyProof.Rows L2

/-! ### name = [.. for ..] -/
/-- a fresh list stored in a name -/
def DA (X : Cx) (st : Stmt) (i : Nat) (f : EvF) : Prop := ∀ (σ : L2.St) (H : Hp) (O : Addr → Prop) (env : List Cell) (d : D) (D : Ends), OkO H O → RelC X.K H O σ env → f env = some d →
  (∀ a xs ds H', Same H H' → H a = none → d = .l ds → H' a = some (.lst xs) → RepL X.K H' (fun b => O b ∨ b = a) xs ds → D.nx (σ.set i (some (.ref a))) H') → wS X st D σ H
section
variable {Γ : Ga} {X : Cx} {rec : Rc}
theorem da_no {st : Stmt} {i : Nat} : DA X st i noE := fun _ _ _ _ _ _ _ _ h => nomatch h
theorem da_lc (g : GOk Γ X) (h : Snd rec) {elt : Expr} {gs : List Comprehension} {scope : Scope} {y : Str} {py pos spos : Pos} {i : Nat} (hy : Γ.slot y = some i) (hl : Γ.sc.names.lookup y = some .local) (hk : Γ.sc.kind = .function) (hline : (py.line == pos.line) = true)
    (hno : (scope.names.any fun (n, k) => n == y && (k == .local || k == .cell)) = false) : DA X (.Assign [.Name y py] (.ListComp elt gs scope pos) spos) i (lcS Γ rec elt gs scope) := by
  have hyl : X.env.scope.names.lookup y = some .local := by rw [g.sc]; exact hl
  have hkk : X.env.scope.kind = .function := by rw [g.sc]; exact hk
  unfold lcS
  split
  · rename_i tg iter ifs
    split
    · rename_i t ht
      split
      · rename_i q
        rw [Bool.and_eq_true, Bool.and_eq_true, Bool.not_eq_true'] at q
        obtain ⟨⟨q1, q2⟩, q3⟩ := q
        intro σ H O env d D ok R z c
        exact PSw (ps_setLc g.calm g.nd (g.slot hy) hyl (sw_true hkk hyl hline hno) wI_pi (blkOk_by (by rw [g.N, g.sc]; exact q1)) bG_pg bTs_pts bE_pe (noSet q3 X.env))
          (tlc_go (Q := fun x H1 => gName i x σ H1 D.nx) (itS_ok' g (fun x => h Γ X x g)) (fun Y hY => tgO_ok (g.blk hY) ht) (fun Y hY => testsS_ok fun x => h _ Y x (g.blk hY)) (fun Y hY => (h _ Y elt (g.blk hY)).e) (subB_ok q2) ok R z c)
      · exact da_no
    · exact da_no
  · rename_i tg iter ifs tg1 iter1 ifs1
    split
    · rename_i t t1 ht ht1
      split
      · rename_i q
        rw [Bool.and_eq_true, Bool.and_eq_true, Bool.and_eq_true, Bool.and_eq_true, Bool.not_eq_true', Bool.not_eq_true'] at q
        obtain ⟨⟨⟨⟨q1, q2⟩, q3⟩, q4⟩, q5⟩ := q
        intro σ H O env d D ok R z c
        exact PSw (ps_setLc2 g.calm g.nd (g.slot hy) hyl (sw_true hkk hyl hline hno) wI_pi (blkOk_by (by rw [g.N, g.sc]; exact q1)) (subB_ok q3) bG_pg bTs_pts bI_pi bG_pg bTs_pts bE_pe (noSet q4 X.env) (fun env => noSet q5 env))
          (tlc2_go (Q := fun x H1 => gName i x σ H1 D.nx) (itS_ok' g (fun x => h Γ X x g)) (fun Y hY => tgO_ok (g.blk hY) ht) (fun Y hY => testsS_ok fun x => h _ Y x (g.blk hY))
            (fun Y hY => itS_ok' (g.blk hY) fun x => h _ Y x (g.blk hY)) (fun Y hY => tgO_ok (g.blk hY) ht1) (fun Y hY => testsS_ok fun x => h _ Y x (g.blk hY)) (fun Y hY => (h _ Y elt (g.blk hY)).e) (subB_ok q2) ok R z c)
      · exact da_no
    · exact da_no
  · exact da_no
theorem DA.own {st : Stmt} {i : Nat} {f : EvF} (h : DA X st i f) : DS X st (ownF i f) := by
  intro H0 M0 H O σ env fl D R z k
  obtain ⟨d, e1, z⟩ := map_some' z
  subst z
  refine h σ H _ env d D R.okW R.rel e1 fun a xs ds H1 s na ed ha r => ?_
  subst ed
  exact k _ H1 (R.fresh s na ha r)
theorem DA.asg {st : Stmt} {i : Nat} {f : EvF} (h : DA X st i f) : DS X st (asgF (.nm i) f) := by
  intro H0 M0 H O σ env fl D R z k
  obtain ⟨d, e1, z⟩ := bind_some' z
  obtain ⟨env', e2, z⟩ := map_some' z
  subst z
  refine h σ H _ env d D R.okW R.rel e1 fun a xs ds H1 s na ed ha r => ?_
  subst ed
  have rr : Rep X.K H1 (Ow O σ env) (.ref a) (.l ds) := .l ha (fun q => R.okW a q na) (r.less fun b q => .inl q)
  have e3 := e2
  rw [bindT] at e2
  cases e2
  exact k _ H1 ((R.same s).bind e3 ((R.same s).rel.set rr) (by rw [Tg.slots]; exact Off.set))
theorem sw_cell {y : Str} {e : Expr} {py : Pos} {l : Nat} {env : Env} (h : env.scope.names.lookup y = some .cell) : swapsWith e (some (.Name y py)) l env = pure false := by
  have ky : env.kindOf y = some .cell := h
  unfold swapsWith
  cases e <;> first
    | rfl
    | (simp only [ky]; rw [show (some NameKind.cell == some NameKind.local) = false from rfl, Bool.and_false]; rfl)
theorem sws_cell {y : Str} {e : Expr} {py : Pos} {l : Nat} {env : Env} (h : env.scope.names.lookup y = some .cell) : swapsWithSole [.Name y py] e l env = pure false := by
  unfold swapsWithSole
  first
  | exact sw_cell h
  | (split <;> first | exact sw_cell h | rfl)
  | (cases e <;> first | exact sw_cell h | rfl)
def isComp : Expr → Bool
  | .ListComp .. => true
  | .SetComp .. => true
  | .DictComp .. => true
  | _ => false
theorem sw_plain {e : Expr} (h : isComp e = false) {t : Option Expr} {l : Nat} {env : Env} : swapsWith e t l env = pure false := by
  unfold swapsWith
  cases e <;> first
    | (cases h; done)
    | rfl
theorem sws_plain {e tg : Expr} (h : isComp e = false) {l : Nat} {env : Env} : swapsWithSole [tg] e l env = pure false := sw_plain h
theorem sst_none {tg e : Expr} (h : isTup e = false ∨ (isTup tg = false ∧ (match tg with | .List .. => false | _ => true) = true)) {env : Env} : swappedStores [tg] e env = pure none := by
  unfold swappedStores
  rcases h with h | ⟨h, h2⟩
  · cases tg <;> first
      | rfl
      | (cases e <;> first | (cases h; done) | rfl)
  · cases tg <;> first
      | (cases h; done)
      | (cases h2; done)
      | rfl

theorem names_lt {f : Expr → Option Str} (hf : ∀ x, isTup x = true → f x = none) : ∀ ts : List Expr, ts.any isTup = true → (ts.filterMap f).length < ts.length
  | [], h => by cases h
  | a :: r, h => by
    rw [List.any_cons, Bool.or_eq_true] at h
    cases e : isTup a with
    | true =>
      rw [List.filterMap_cons_none (hf a e), List.length_cons]
      exact Nat.lt_succ_of_le (List.length_filterMap_le f r)
    | false =>
      rw [e] at h
      have ih := names_lt hf r (h.resolve_left (by decide))
      cases e2 : f a with
      | none => rw [List.filterMap_cons_none e2, List.length_cons]; omega
      | some b => rw [List.filterMap_cons_some e2, List.length_cons, List.length_cons]; omega
theorem sst_nest {ts : List Expr} {kk : Nat} {p : Pos} {e : Expr} (h : ts.any isTup = true) {env : Env} : swappedStores [.Tuple ts kk p] e env = pure none := by
  unfold swappedStores
  cases e <;> first
    | rfl
    | skip
  rename_i vs k2 p2
  dsimp only
  split
  · rfl
  · split
    · rfl
    · split
      · rfl
      · rename_i hn
        exfalso
        apply hn
        rw [Bool.or_eq_true]
        left
        rw [bne_iff_ne]
        refine Nat.ne_of_lt (names_lt ?_ ts h)
        intro x hx
        cases x <;> first
          | (cases hx; done)
          | rfl

/-! ### statements -/
def mutL : Nat → List Stmt → List Str
  | 0, _ => []
  | _ + 1, [] => []
  | n + 1, st :: r => (match st with
    | .Expr (.Call (.Attribute (.Name x _) _ _) _ _ _) _ => [x]
    | .Assign [.Subscript (.Name x _) _ _] _ _ => [x]
    | .AugAssign (.Subscript (.Name x _) _ _) _ _ _ => [x]
    | .For _ _ b _ _ => mutL n b
    | .While _ b _ _ => mutL n b
    | .If _ a b _ => mutL n a ++ mutL n b
    | _ => []) ++ mutL n r
def keepB (Γ : Ga) (names : List Str) (i : Nat) : Bool := match Γ.N[i]? with
  | some x => names.contains x
  | none => false
def isRet : Stmt → Bool
  | .Return .. => true
  | _ => false
def frS (Γ : Ga) (M names : List Str) (st : Stmt) (f : StF) : StF := if (isRet st || M.all fun x => names.contains x) = true then f else fun env => f (frC (keepB Γ names) 0 env)
def assignS (Γ : Ga) (rec : Rc) (M : List Str) (tg e : Expr) : StF := match tg with
  | .Name y py => (match Γ.slot y with
    | some i => if Γ.loc y = true then (match e with
      | .ListComp elt gs scope pos => (match Γ.sc.names.lookup y with
        | some .local => if (decide (Γ.sc.kind = .function) && (py.line == pos.line) && !(scope.names.any fun (n, k) => n == y && (k == .local || k == .cell))) = true then
            (if M.contains y = true then ownF i (lcS Γ rec elt gs scope) else asgF (.nm i) (lcS Γ rec elt gs scope)) else fun _ => none
        | some .cell => if M.contains y = true then ownF i (lcS Γ rec elt gs scope) else asgF (.nm i) (lcS Γ rec elt gs scope)
        | _ => fun _ => none)
      | e => if isComp e = true then fun _ => none else if M.contains y = true then ownF i (rec Γ e).f else asgF (.nm i) (rec Γ e).e) else fun _ => none
    | none => fun _ => none)
  | .Subscript (.Name x _) k _ => (match Γ.slot x with
    | some i => if (Γ.vis x && !isComp e && !isSlice k) = true then setF i (rec Γ k).e (rec Γ e).e else fun _ => none
    | none => fun _ => none)
  | .Tuple ts _ _ => (match tgO Γ 4 tg with
    | some t => if (!isComp e && (!isTup e || ts.any isTup)) = true then asgF t (rec Γ e).e else fun _ => none
    | none => fun _ => none)
  | _ => fun _ => none
theorem ds_no {st : Stmt} : DS X st (fun _ => none) := ds_never
theorem dsif {c : Bool} {st : Stmt} {f : StF} (h : c = true → DS X st f) : DS X st (if c = true then f else fun _ => none) := by
  split
  · rename_i q; exact h q
  · exact ds_no
theorem assignS_ok (g : GOk Γ X) (h : Snd rec) {M : List Str} {tg e : Expr} {pos : Pos} : DS X (.Assign [tg] e pos) (assignS Γ rec M tg e) := by
  have hh : ∀ x, EvOk X x (rec Γ x) := fun x => h Γ X x g
  unfold assignS
  split
  · rename_i y py
    split
    · rename_i i hy
      refine dsif fun hl => ?_
      obtain ⟨l1, l2⟩ := g.loc hl
      split
      · rename_i elt gs scope lpos
        split
        · rename_i hloc
          refine dsif fun q => ?_
          rw [Bool.and_eq_true, Bool.and_eq_true, Bool.not_eq_true', decide_eq_true_eq] at q
          have A := da_lc (spos := pos) g h (elt := elt) (gs := gs) hy hloc q.1.1 q.1.2 q.2
          split
          · exact A.own
          · exact A.asg
        · rename_i hcell
          split
          · exact ds_own g.nd (g.slot hy) l1 l2 (lcS_ok g h) (sw_cell (by rw [g.sc]; exact hcell))
          · exact ds_asg (ofF_ok (lcS_ok g h)).e (dg_name g.nd (g.slot hy) l1 l2) (sws_cell (by rw [g.sc]; exact hcell)) (sst_none (.inr ⟨rfl, rfl⟩)) rfl
        · exact ds_no
      · split
        · exact ds_no
        · rename_i hc
          have hc := Bool.not_eq_true _ ▸ hc
          split
          · exact ds_own g.nd (g.slot hy) l1 l2 (hh e).f (sw_plain hc)
          · exact ds_asg (hh e).e (dg_name g.nd (g.slot hy) l1 l2) (sws_plain hc) (sst_none (.inr ⟨rfl, rfl⟩)) rfl
    · exact ds_no
  · rename_i x p1 k p2
    split
    · rename_i i hy
      refine dsif fun q => ?_
      rw [Bool.and_eq_true, Bool.and_eq_true, Bool.not_eq_true', Bool.not_eq_true'] at q
      obtain ⟨⟨q1, q2⟩, q3⟩ := q
      obtain ⟨v1, v2, v3⟩ := g.vis q1
      exact ds_setIx (g.slot hy) v1 v2 v3 (hh k).e (hh e).e (fun v => by cases k <;> first | (cases q3; done) | rfl) (sws_plain q2) (sst_none (.inr ⟨rfl, rfl⟩)) rfl
    · exact ds_no
  · rename_i ts k p2
    split
    · rename_i t ht
      refine dsif fun q => ?_
      rw [Bool.and_eq_true, Bool.not_eq_true', Bool.or_eq_true, Bool.not_eq_true'] at q
      refine ds_asg (hh e).e (tgO_ok g ht) (sws_plain q.1) ?_ rfl
      rcases q.2 with q2 | q2
      · exact sst_none (.inl q2)
      · exact sst_nest q2
    · exact ds_no
  · exact ds_no
def exprS (Γ : Ga) (rec : Rc) (e : Expr) : StF := match e with
  | .Call (.Attribute (.Name x _) m apos) [a] [] cpos => (match Γ.slot x with
    | some i => if (decide (m = "append") && Γ.vis x && noStar a && (apos.endLine == cpos.line)) = true then appF i (rec Γ a).e else fun _ => none
    | none => fun _ => none)
  | e => if isComp e = true then fun _ => none else fun env => ((rec Γ e).e env).map fun _ => .nx env
theorem exprS_ok (g : GOk Γ X) (h : Snd rec) {e : Expr} {pos : Pos} : DS X (.Expr e pos) (exprS Γ rec e) := by
  have hh : ∀ x, EvOk X x (rec Γ x) := fun x => h Γ X x g
  unfold exprS
  split
  · rename_i x p1 m apos a cpos
    split
    · rename_i i hy
      refine dsif fun q => ?_
      rw [Bool.and_eq_true, Bool.and_eq_true, Bool.and_eq_true, decide_eq_true_eq] at q
      obtain ⟨⟨⟨e, q1⟩, q2⟩, q3⟩ := q
      subst e
      obtain ⟨v1, v2, v3⟩ := g.vis q1
      exact ds_append (g.slot hy) v1 v2 v3 (hh a).e q3 (star_cons q2) rfl
    · exact ds_no
  · split
    · exact ds_no
    · rename_i hc
      have hc := Bool.not_eq_true _ ▸ hc
      exact ds_expr (hh e).e (sw_plain hc)
def augS (Γ : Ga) (rec : Rc) (op : Operator) (x : Str) (e : Expr) : StF := match Γ.slot x with
  | some i => if Γ.loc x = true then (match op with
    | .Add => augF i (fun a b => a + b) (rec Γ e).e
    | .Sub => augF i (fun a b => a - b) (rec Γ e).e
    | _ => fun _ => none) else fun _ => none
  | none => fun _ => none
theorem augS_ok (g : GOk Γ X) (h : Snd rec) {op : Operator} {x : Str} {e : Expr} {p pos : Pos} : DS X (.AugAssign (.Name x p) op e pos) (augS Γ rec op x e) := by
  have hh : ∀ x, EvOk X x (rec Γ x) := fun x => h Γ X x g
  unfold augS
  split
  · rename_i i hy
    refine dsif fun hl => ?_
    obtain ⟨l1, l2⟩ := g.loc hl
    split
    · exact ds_aug g.nd (g.slot hy) l1 l2 ip_add (hh e).e
    · exact ds_aug g.nd (g.slot hy) l1 l2 ip_sub (hh e).e
    · exact ds_no
  · exact ds_no
def oneS (Γ : Ga) (rec : Rc) (W : Nat) (M : List Str) (ba bl : List Stmt → StF) (st : Stmt) : StF := match st with
  | .Assign [tg] e _ => assignS Γ rec M tg e
  | .AugAssign (.Name x _) op e _ => augS Γ rec op x e
  | .Expr e _ => exprS Γ rec e
  | .Return (some e) _ => retF (rec Γ e).e
  | .Return none _ => fun _ => some (.rt .n)
  | .If c a b _ => ifF (rec Γ c).t (ba a) (ba b)
  | .For tg iter body [] _ => (match tgO Γ 4 tg with
    | some t => if isSet iter = false then forF (itS Γ (rec Γ) true tg iter) t (bl body) else fun _ => none
    | none => fun _ => none)
  | .While c body [] _ => whileV (rec Γ c).t (bl body) W
  | .Pass _ => fun env => some (.nx env)
  | .Break _ => fun env => some (.bk env)
  | .Continue _ => fun env => some (.ct env)
  | _ => fun _ => none
/-- n: how deep; W: turns of a while -/
def stS (Γ : Ga) (rec : Rc) (W : Nat) : Nat → List Str → List Str → List Stmt → StF
  | 0, _, _, _ => fun _ => none
  | n + 1, M, later, [] => fun env => some (.nx env)
  | n + 1, M, later, st :: rest => seqF (frS Γ M (mutL 100 (st :: rest) ++ later) st (oneS Γ rec W (M.filter fun x => (mutL 100 (st :: rest) ++ later).contains x)
      (stS Γ rec W n (M.filter fun x => (mutL 100 (st :: rest) ++ later).contains x) (mutL 100 rest ++ later)) (stS Γ rec W n (M.filter fun x => (mutL 100 (st :: rest) ++ later).contains x) (mutL 100 (st :: rest) ++ later)) st))
      (stS Γ rec W n (M.filter fun x => (mutL 100 (st :: rest) ++ later).contains x) later rest)
theorem frS_ok {M names : List Str} {st st' : Stmt} {f : StF} (h : DS X st f) : DS X st (frS Γ M names st' f) := by
  unfold frS
  split
  · exact h
  · exact ds_free _ h
theorem oneS_ok (g : GOk Γ X) (h : Snd rec) (hp : PassesOwn (model X.prog X.w) X.A X.env X.xe) {W : Nat} {M : List Str} {ba bl : List Stmt → StF} (ha : ∀ sts, DSs X sts (ba sts)) (hl : ∀ sts, DSs X sts (bl sts)) {st : Stmt} : DS X st (oneS Γ rec W M ba bl st) := by
  have hh : ∀ x, EvOk X x (rec Γ x) := fun x => h Γ X x g
  unfold oneS
  split
  · exact assignS_ok g h
  · exact augS_ok g h
  · exact exprS_ok g h
  · exact ds_ret (hh _).e
  · exact ds_retN
  · exact ds_if (hh _).t (ha _) (ha _)
  · split
    · rename_i t ht
      split
      · rename_i hs
        exact ds_for hp g.calm (itS_ok' g hh) (tgO_ok g ht) (hl _) (noSet hs X.env)
      · exact ds_no
    · exact ds_no
  · exact ds_while W hp (hh _).t (hl _)
  · exact ds_pass
  · exact ds_break
  · exact ds_cont
  · exact ds_no
theorem stS_ok (g : GOk Γ X) (h : Snd rec) (hp : PassesOwn (model X.prog X.w) X.A X.env X.xe) {W : Nat} : ∀ (n : Nat) (M later : List Str) (sts : List Stmt), DSs X sts (stS Γ rec W n M later sts)
  | 0, _, _, _ => fun _ _ _ _ _ _ _ _ _ e => nomatch e
  | n + 1, M, later, [] => dss_nil
  | n + 1, M, later, st :: rest => by
    rw [stS]
    exact dss_cons (frS_ok (oneS_ok g h hp (stS_ok g h hp n _ _) (stS_ok g h hp n _ _))) (stS_ok g h hp n _ later rest)
end
end PL
/-! PL p: defs: what a call gives; every def keeps its promise. -/
namespace PL
open PySem PySem.Spec PyProof.Rows L2

/-! ### binding, by position alone -/
theorem zip_look {as : List Str} (nd : as.Nodup) : ∀ {us : List Value}, us.length = as.length → (as.filterMap fun n => ((as.zip us).lookup n).map (n, ·)) = as.zip us := by
  have aux : ∀ (as : List Str) (us : List Value) (pre : List (Str × Value)), as.Nodup → us.length = as.length → (∀ n ∈ as, pre.lookup n = none) → (as.filterMap fun n => ((pre ++ as.zip us).lookup n).map (n, ·)) = as.zip us := by
    intro as
    induction as with
    | nil => intro us pre _ _ _; rfl
    | cons a as ih =>
      intro us pre nd hl hp
      cases us with
      | nil => cases hl
      | cons u us =>
        rw [List.zip_cons_cons, List.filterMap_cons]
        have h1 : (pre ++ (a, u) :: as.zip us).lookup a = some u := by
          rw [List.lookup_append, hp a List.mem_cons_self]
          simp [List.lookup]
        rw [h1]
        have h2 : pre ++ (a, u) :: as.zip us = (pre ++ [(a, u)]) ++ as.zip us := by simp
        rw [h2]
        rw [List.nodup_cons] at nd
        have h3 := ih us (pre ++ [(a, u)]) nd.2 (by simpa using hl) (fun n hn => by
          rw [List.lookup_append, hp n (List.mem_cons_of_mem _ hn)]
          have ne : (n == a) = false := by
            rw [beq_eq_false_iff_ne]
            intro e
            exact nd.1 (e ▸ hn)
          simp [List.lookup, ne])
        show (a, u) :: _ = _
        rw [h3]
  intro us hl
  have := aux as us [] nd hl (fun _ _ => rfl)
  simpa using this
theorem zip_none {as : List Str} : ∀ {us : List Value}, us.length = as.length → (as.filter fun n => ((as.zip us).lookup n).isNone) = [] := by
  intro us hl
  rw [List.filter_eq_nil_iff]
  intro n hn
  have aux : ∀ (as : List Str) (us : List Value), us.length = as.length → n ∈ as → ((as.zip us).lookup n).isSome = true := by
    intro as
    induction as with
    | nil => intro us _ h; cases h
    | cons a as ih =>
      intro us hl h
      cases us with
      | nil => cases hl
      | cons u us =>
        rw [List.zip_cons_cons, List.lookup_cons]
        split
        · rfl
        · rcases List.mem_cons.mp h with e | e
          · subst e; rename_i z; simp at z
          · exact ih us (by simpa using hl) e
  have q := aux as us hl hn
  cases z : (as.zip us).lookup n with
  | none => rw [z] at q; cases q
  | some v => simp
theorem bind_gen {x qual : Str} {body : List Stmt} {scope : Scope} {kV doc pm : Value} {an : Option Addr} {cdv ct : Value} {as : List Arg} (nd : (as.map (·.arg)).Nodup) {us : List Value} (hl : us.length = (as.map (·.arg)).length) :
    bindArgs (PySem.W.fnOf x qual ⟨[], as, none, [], [], none, []⟩ body scope .none kV doc pm an cdv ct) ⟨us, []⟩ = pure ((as.map (·.arg)).zip us) := by
  have h1 := zip_look nd hl
  have h2 := zip_none hl
  have h3 : ¬ us.length > (as.map (·.arg)).length := by omega
  have h4 : seqItems? Value.none = pure none := rfl
  have h5 : decide (us.length > (as.map (·.arg)).length) = false := decide_eq_false h3
  unfold bindArgs
  simp only [h4, List.map_nil, List.nil_append, List.append_nil, pure_bind, List.forIn_nil, h5, Bool.false_and, Option.isNone_none, Option.getD_none, List.length_nil, Nat.zero_sub, List.drop_nil, Nat.sub_zero, List.take_length, h2, List.isEmpty_nil, Bool.not_true, List.zip_nil_right, Bool.false_eq_true, if_false, h1]

/-! ### a def -/
def plainArgs (p : Arguments) : Option (List Str) := match p with
  | ⟨[], as, none, [], [], none, []⟩ => some (as.map (·.arg))
  | _ => none
/-- the blocks of comprehensions within -/
def scE : Nat → Expr → List Scope
  | 0, _ => []
  | n + 1, x => match x with
    | .BinOp a _ b _ => scE n a ++ scE n b
    | .UnaryOp _ a _ => scE n a
    | .BoolOp _ es _ => es.flatMap (scE n)
    | .Compare a _ bs _ => scE n a ++ bs.flatMap (scE n)
    | .IfExp c a b _ => scE n c ++ (scE n a ++ scE n b)
    | .Tuple es _ _ => es.flatMap (scE n)
    | .List es _ => es.flatMap (scE n)
    | .Subscript a b _ => scE n a ++ scE n b
    | .Slice a b _ _ => (match a with | some a => scE n a | none => []) ++ (match b with | some b => scE n b | none => [])
    | .Call f args _ _ => scE n f ++ args.flatMap (scE n)
    | .Attribute a _ _ => scE n a
    | .ListComp elt gs scope _ => scope :: (scE n elt ++ gs.flatMap fun g => scE n g.iter ++ g.ifs.flatMap (scE n))
    | .SetComp elt gs scope _ => scope :: (scE n elt ++ gs.flatMap fun g => scE n g.iter ++ g.ifs.flatMap (scE n))
    | .DictComp k v gs scope _ => scope :: (scE n k ++ (scE n v ++ gs.flatMap fun g => scE n g.iter ++ g.ifs.flatMap (scE n)))
    | .Dict ks vs _ => (ks.flatMap fun k => match k with | some k => scE n k | none => []) ++ vs.flatMap (scE n)
    | _ => []
def scL : Nat → List Stmt → List Scope
  | 0, _ => []
  | n + 1, [] => []
  | n + 1, st :: r => (match st with
    | .Expr e _ => scE 40 e
    | .Assign ts e _ => scE 40 e ++ ts.flatMap (scE 40)
    | .AugAssign t _ e _ => scE 40 e ++ scE 40 t
    | .Return (some e) _ => scE 40 e
    | .For _ i b o _ => scE 40 i ++ (scL n b ++ scL n o)
    | .While c b o _ => scE 40 c ++ (scL n b ++ scL n o)
    | .If c a b _ => scE 40 c ++ (scL n a ++ scL n b)
    | .Raise (some e) _ _ => scE 40 e
    | _ => []) ++ scL n r
def addS (acc : List Str) (x : Str) : List Str := if acc.contains x = true then acc else acc ++ [x]
def locN (names : List (Str × NameKind)) : List Str := (names.filter fun y => y.2 == .local || y.2 == .cell).map (·.1)
def namesOf (ps : List Str) (sc : Scope) (body : List Stmt) : List Str := ((locN sc.names) ++ (scL 100 body).flatMap fun s => locN s.names).foldl addS ps
def fsB (N ps : List Str) (sc : Scope) : Bool := decide (sc.kind = .function) && decide (sc.isCoroutine = false) && decide (sc.isGenerator = false) && decide N.Nodup && decide (N.take ps.length = ps) &&
  (ps.all fun x => match sc.names.lookup x with
    | some .local => true
    | some .cell => true
    | _ => false) && sc.names.all fun y => decide (y.2 ≠ .free)
theorem fsB_ok {N ps : List Str} {sc : Scope} (h : fsB N ps sc = true) : FnScope N ps sc := by
  unfold fsB at h
  simp only [Bool.and_eq_true, List.all_eq_true, decide_eq_true_eq] at h
  obtain ⟨⟨⟨⟨⟨⟨h1, h2⟩, h3⟩, h4⟩, h5⟩, h6⟩, h7⟩ := h
  refine ⟨h1, h2, h3, h4, h5, fun x hx => ?_, h7⟩
  have q := h6 x hx
  split at q
  · rename_i e; exact .inl e
  · rename_i e; exact .inr e
  · cases q
abbrev Dfs := List He.DefD
def okDef (d : He.DefD) : Bool := decide (d.at_ = (d.name, none)) && d.dfl.isEmpty && d.kwd.isEmpty && (match plainArgs d.params with
  | some ps => fsB (namesOf ps d.scope d.body) ps d.scope
  | none => false)
def parsOf (d : He.DefD) : List Str := (plainArgs d.params).getD []
def gaOf (fns : List (Str × Nat)) (free : List Str) (call : Str → List D → Option D) (d : He.DefD) : Ga := ⟨namesOf (parsOf d) d.scope d.body, d.scope, fun _ => true, fns, free, call⟩
/-- a while's turns, at most -/
def WH : Nat := 100000
/-- what the body does -/
def bodyF (fns : List (Str × Nat)) (free : List Str) (call : Str → List D → Option D) (d : He.DefD) : StF := stS (gaOf fns free call d) (ev 60) WH 60 (mutL 100 d.body) [] d.body
@[simp] def startC (n : Nat) (ds : List D) : List Cell := ds.map .v ++ List.replicate (n - ds.length) .no
@[simp] def outF : Fl → Option D
  | .rt d => some d
  | .nx _ => some .n
  | _ => none
def defF (fns : List (Str × Nat)) (free : List Str) (call : Str → List D → Option D) (d : He.DefD) : List D → Option D := fun ds => (bodyF fns free call d (startC (namesOf (parsOf d) d.scope d.body).length ds)).bind outF
def fnsOf (fn : Dfs) : List (Str × Nat) := fn.map fun d => (d.name, (parsOf d).length)
def findD (x : Str) : Dfs → Option He.DefD
  | [] => none
  | d :: r => if d.name = x then some d else findD x r
theorem findD_mem {x : Str} {d : He.DefD} : ∀ {fn : Dfs}, findD x fn = some d → d ∈ fn ∧ d.name = x
  | [], h => by cases h
  | e :: r, h => by
    unfold findD at h
    split at h
    · rename_i q
      cases h
      exact ⟨List.mem_cons_self, q⟩
    · obtain ⟨h1, h2⟩ := findD_mem h
      exact ⟨List.mem_cons_of_mem _ h1, h2⟩
theorem findD_look {x : Str} {n : Nat} : ∀ {fn : Dfs}, (fnsOf fn).lookup x = some n → ∃ d, findD x fn = some d ∧ n = (parsOf d).length
  | [], h => by cases h
  | e :: r, h => by
    unfold fnsOf at h
    rw [List.map_cons, List.lookup_cons] at h
    unfold findD
    split at h
    · rename_i q
      cases h
      exact ⟨e, if_pos (eq_of_beq q).symm, rfl⟩
    · rename_i q
      obtain ⟨d, h1, h2⟩ := findD_look (fn := r) h
      rw [if_neg fun z => by rw [z, beq_self_eq_true] at q; cases q]
      exact ⟨d, h1, h2⟩
/-- a call, at most k deep -/
def callD (fn : Dfs) (free : List Str) : Nat → Str → List D → Option D
  | 0, _ => fun _ => none
  | k + 1, x => match findD x fn with
    | some d => defF (fnsOf fn) free (callD fn free k) d
    | none => fun _ => none

section
variable {P : Program} {w : World} {K : PySem.W.Frag} {mg : Str → Option Value} {base : Heap} {fn : Dfs} {free : List Str}
theorem startC_rel {H : Hp} {O : Addr → Prop} {N : List Str} {vs : List V} {ds : List D} (ok : OkO H O) (r : RepL K H O vs ds) : RelM K H (fun _ => False) H O (L2.start N vs) (startC N.length ds) := by
  have l := r.length
  have no : ∀ i d, (startC N.length ds)[i]? ≠ some (Cell.o d) := fun i d e => by
    unfold startC at e
    rw [List.getElem?_append] at e
    split at e
    · rw [List.getElem?_map] at e
      obtain ⟨a, _, h⟩ := map_some' e
      cases h
    · rw [List.getElem?_replicate] at e
      split at e <;> cases e
  have nown : ∀ i a, ¬ Own (L2.start N vs) (startC N.length ds) i a := fun i a o => let ⟨⟨d, e⟩, _⟩ := o; no i d e
  refine ⟨⟨?_, fun i c e => ?_⟩, ok, fun i a o => (nown i a o).elim, fun i j a o _ => (nown i a o).elim, Kp.refl, fun i a o => (nown i a o).elim⟩
  · unfold startC L2.start
    rw [List.length_append, List.length_append, List.length_map, List.length_map, List.length_replicate, List.length_replicate, l]
    exact Nat.le_refl _
  · unfold startC at e
    rw [List.getElem?_append] at e
    split at e
    · rename_i hi
      rw [List.getElem?_map] at e
      obtain ⟨d, h1, h2⟩ := map_some' e
      subst h2
      obtain ⟨v, g1, g2⟩ := r.get h1
      refine ⟨v, ?_, g2.less fun a z => z.elim id fun ⟨j, o⟩ => (nown j a o).elim⟩
      unfold L2.start
      rw [List.getElem?_append_left (by rw [List.length_map, l]; rw [List.length_map] at hi; exact hi), List.getElem?_map, g1]
      rfl
    · rw [List.getElem?_replicate] at e
      split at e
      · cases e; trivial
      · cases e
/-- the defs as the head tells them -/
structure Known (K : PySem.W.Frag) (mg : Str → Option Value) (fn : Dfs) (free : List Str) : Prop where
  def_ : ∀ d ∈ fn, ∃ fd, FunD K d.name d.qual d.params d.body d.scope [] [] (He.ga K d.name) fd
  glo : ∀ d ∈ fn, mg d.name = some (.ref (He.ga K d.name))
  mods : ∀ x m v, modOf x = some (m, v) → free.contains m = true → mg x = some v
  free : ∀ x, free.contains x = true → mg x = none
theorem plainArgs_some {p : Arguments} {ps : List Str} (h : plainArgs p = some ps) : ∃ as : List Arg, p = ⟨[], as, none, [], [], none, []⟩ ∧ ps = as.map (·.arg) := by
  unfold plainArgs at h
  split at h
  · cases h; exact ⟨_, rfl, rfl⟩
  · cases h
theorem okDef_some {d : He.DefD} (h : okDef d = true) : ∃ as : List Arg, d.params = ⟨[], as, none, [], [], none, []⟩ ∧ parsOf d = as.map (·.arg) ∧ FnScope (namesOf (parsOf d) d.scope d.body) (parsOf d) d.scope := by
  unfold okDef at h
  rw [Bool.and_eq_true] at h
  obtain ⟨_, h⟩ := h
  split at h
  · rename_i ps e
    obtain ⟨as, e1, e2⟩ := plainArgs_some e
    have e3 : parsOf d = ps := by unfold parsOf; rw [e]; rfl
    rw [e3]
    exact ⟨as, e1, e2, fsB_ok h⟩
  · cases h
theorem binds_of {d : He.DefD} {f : Addr} {fd : FuncData} (ok : okDef d = true) (F : FunD K d.name d.qual d.params d.body d.scope [] [] f fd) : Binds K fd (parsOf d) [] := by
  obtain ⟨as, e1, e2, S⟩ := okDef_some ok
  have nd : (as.map (·.arg)).Nodup := by
    rw [← e2, ← S.pre]
    exact S.nd.sublist (List.take_sublist _ _)
  rw [e1] at F
  rw [e2]
  exact F.bindsN fun kV doc pm an cdv ct us hl => bind_gen nd hl
theorem bindsA_of {d : He.DefD} {f : Addr} {fd : FuncData} (ok : okDef d = true) (F : FunD K d.name d.qual d.params d.body d.scope [] [] f fd) (s : Shared) (us : List Value) (hl : us.length = (parsOf d).length) : BindsTo s fd ⟨us, []⟩ ((parsOf d).zip us) := by
  obtain ⟨as, e1, e2, S⟩ := okDef_some ok
  have nd : (as.map (·.arg)).Nodup := by
    rw [← e2, ← S.pre]
    exact S.nd.sublist (List.take_sublist _ _)
  rw [e1] at F
  rw [e2] at hl ⊢
  exact F.bindsA (fun kV doc pm an cdv ct us hl => bind_gen nd hl) s us hl
/-- every def does what callD says -/
theorem call_ok (hok : fn.all okDef = true) (kn : Known K mg fn free) : ∀ (k : Nat) (x : Str) (d : He.DefD), findD x fn = some d → ∀ fd, FunD K d.name d.qual d.params d.body d.scope [] [] (He.ga K d.name) fd →
    FnOk P w K mg base CX0 k (He.ga K d.name) fd (parsOf d) (spD K (parsOf d).length (callD fn free k x))
  | 0, x, d, hd, fd, F => ⟨fun vs H Q E h => h.1, fun A outer s H args us vs Q E _ _ _ _ h => by
      obtain ⟨_, ds, d', O, _, _, e, _⟩ := h
      cases e⟩
  | k + 1, x, d, hd, fd, F => by
    have hm := findD_mem hd
    have okd := List.all_eq_true.mp hok d hm.1
    obtain ⟨as, e1, e2, S⟩ := okDef_some okd
    refine F.ok S (fun vs H Q E h => h.1) (fun cdv A outer s H vs Q E hr h => ⟨wSs (cxOf CX0 P w K mg base (namesOf (parsOf d) d.scope d.body) d.qual d.scope (He.ga K d.name) cdv A outer s H E).nox d.body, PSs.nox wSs_pss, ?_⟩)
    obtain ⟨hl, ds, r, O, ok, rl, e, c⟩ := h
    have e : (match findD x fn with
      | some d => defF (fnsOf fn) free (callD fn free k) d
      | none => fun _ => none) ds = some r := e
    rw [hd] at e
    have e : (bodyF (fnsOf fn) free (callD fn free k) d (startC (namesOf (parsOf d) d.scope d.body).length ds)).bind outF = some r := e
    obtain ⟨fl, e3, e4⟩ := bind_some' e
    have g : GOk (gaOf (fnsOf fn) free (callD fn free k) d) (cxOf CX0 P w K mg base (namesOf (parsOf d) d.scope d.body) d.qual d.scope (He.ga K d.name) cdv A outer s H E).nox := by
      refine ⟨rfl, S.nd, rfl, fun _ _ => rfl, rfl, ?_, fun y hy => kn.free y hy, fun y m v e hy => kn.mods y m v e hy, fun y n hy => ?_⟩
      · have := hr.un
        show (A.deeper _).units + 65 < cLine
        omega
      · obtain ⟨d', h1, h2⟩ := findD_look hy
        have hm' := findD_mem h1
        obtain ⟨fd', F'⟩ := kn.def_ d' hm'.1
        have okd' := List.all_eq_true.mp hok d' hm'.1
        refine ⟨k, He.ga K d'.name, fd', parsOf d', ?_, hr, ?_, F'.kp, binds_of okd' F'⟩
        · rw [h2]
          exact call_ok hok kn k y d' h1 fd' F'
        · rw [← hm'.2]
          exact kn.glo d' hm'.1
    refine stS_ok g (ev_ok 60) .never 60 (mutL 100 d.body) [] d.body H (fun _ => False) H O _ _ fl _ (startC_rel ok rl) e3 ?_
    cases fl with
    | rt q =>
      cases e4
      exact fun v H' kp ok' rp => c v H' (fun a o z => kp a o z fun f => f) rp
    | nx env' =>
      cases e4
      exact fun σ' H' R => c .non H' (fun a o z => R.kp a o z fun f => f) .n
    | bk _ => cases e4
    | ct _ => cases e4
end
end PL
/-! PL r: a law's end. -/
namespace PL
open PySem PySem.Spec PySem.W PyProof.Rows L2

def defD : Stmt → Option He.DefD
  | .FunctionDef n a b _ _ _ sc _ _ _ => some ⟨(n, none), n, n, a, b, sc, [], []⟩
  | _ => none
def defsOf (P : Program) : Dfs := P.main.body.filterMap defD
def faOf (fn : Dfs) (free : List Str) : List He.Fa := fn.map (fun d => .glo d.name) ++ free.map .free
theorem says_fact {fa : List He.Fa} {fn : List He.DefD} {K : PySem.W.Frag} (c : He.SaysD fa fn K) : ∀ f ∈ fa, f.ok K = true := fun f hf => by
  obtain ⟨i, hi⟩ := List.mem_iff_getElem?.mp hf
  exact c.fact i hi
theorem says_def {fa : List He.Fa} {fn : List He.DefD} {K : PySem.W.Frag} (c : He.SaysD fa fn K) (hok : fn.all okDef = true) : ∀ d ∈ fn, ∃ fd, FunD K d.name d.qual d.params d.body d.scope [] [] (He.ga K d.name) fd := fun d hd => by
  obtain ⟨i, hi⟩ := List.mem_iff_getElem?.mp hd
  obtain ⟨fd, F⟩ := c.def_ i hi
  have ok := List.all_eq_true.mp hok d hd
  unfold okDef at ok
  rw [Bool.and_eq_true, Bool.and_eq_true, Bool.and_eq_true, decide_eq_true_eq, List.isEmpty_iff, List.isEmpty_iff] at ok
  obtain ⟨⟨⟨e1, e2⟩, e3⟩, _⟩ := ok
  have f1 : d.dvs K = [] := by unfold He.DefD.dvs; rw [e2]; rfl
  have f2 : d.kws K = [] := by unfold He.DefD.kws; rw [e3]; rfl
  have f3 : He.fAd K d.at_ = He.ga K d.name := by rw [e1]; rfl
  rw [f1, f2, f3] at F
  exact ⟨fd, F⟩
theorem known_of {fn : Dfs} {free : List Str} {K : PySem.W.Frag} {mg : Str → Option Value} {h : Heap} (X : K.In h) (G : h.Ns mainGlobals mg) (hok : fn.all okDef = true) (c : He.SaysD (faOf fn free) fn K) (hm : ∀ x m v, modOf x = some (m, v) → free.contains m = true → mg x = some v) : Known K mg fn free where
  def_ := says_def c hok
  glo := fun d hd => He.glo_ok X G (says_fact c (.glo d.name) (List.mem_append_left _ (List.mem_map_of_mem hd)))
  free := fun x hx => He.free_ok X G (says_fact c (.free x) (List.mem_append_right _ (List.mem_map_of_mem (List.contains_iff_mem.mp hx))))
  mods := hm
/-- the names imported from the library, as the marks in the list of free names tell them -/
def modsOf (free : List Str) : List (Str × Value) := (["gcd", "lcm", "combinations"] : List Str).filterMap fun x => match modOf x with
  | some (m, v) => if free.contains m = true then some (x, v) else none
  | none => none
theorem modOf_mem {x m : Str} {v : Value} (h : modOf x = some (m, v)) : x ∈ (["gcd", "lcm", "combinations"] : List Str) := by
  unfold modOf at h
  repeat' split at h
  all_goals first
    | (cases h; done)
    | (rename_i e; subst e; decide)
abbrev AlM : Type := Bool × He.AlD
def obsM (ms : List (Str × Value)) (fa : List He.Fa) (fn : List He.DefD) (K : PySem.W.Frag) : AlM := (ms.all fun p => He.eqO (PySem.W.nsIn K mainGlobals p.1) (some (some p.2)), He.obsD fa fn K)
def valM (fn : List He.DefD) : AlM := (true, He.valD fn)
def SaysM (ms : List (Str × Value)) (fa : List He.Fa) (fn : List He.DefD) (K : PySem.W.Frag) : Prop := obsM ms fa fn K = valM fn
def obsMG (n : Nat) (ms : List (Str × Value)) (fa : List He.Fa) (fn : List He.DefD) (g : Addr → Option Obj) : AlM := obsM ms fa fn (He.frG g (He.asD g n))
def hookM (n : Nat) (ms : List (Str × Value)) (fa : List He.Fa) (fn : List He.DefD) : PySem.W.Hook where
  α := AlM
  obs := fun s => obsMG n ms fa fn s.heap.get?
  val := fun _ => valM fn
  says := fun _ h => ∃ K : PySem.W.Frag, K.In h ∧ SaysM ms fa fn K
  of := fun _ _ e => ⟨_, He.frG_in, e⟩
  keeps := fun _ _ _ ⟨K, hK, c⟩ k => ⟨K, PySem.W.Frag.In.keeps hK k, c⟩
theorem obsMG_eq {n : Nat} {ms : List (Str × Value)} {fa : List He.Fa} {fn : List He.DefD} {g : Addr → Option Obj} {s : Shared} (h : ∀ a, g a = s.heap.get? a) : obsMG n ms fa fn g = (hookM n ms fa fn).obs s := by
  have e : g = s.heap.get? := funext h
  rw [e] <;> rfl
theorem SaysM.d {ms : List (Str × Value)} {fa : List He.Fa} {fn : List He.DefD} {K : PySem.W.Frag} (c : SaysM ms fa fn K) : He.SaysD fa fn K := congrArg (fun z : AlM => z.2) c
theorem knownM_of {fn : Dfs} {free : List Str} {K : PySem.W.Frag} {mg : Str → Option Value} {h : Heap} (X : K.In h) (G : h.Ns mainGlobals mg) (hok : fn.all okDef = true) (c : SaysM (modsOf free) (faOf fn free) fn K) : Known K mg fn free :=
  known_of X G hok c.d fun x m v e hm => by
    have c1 : ((modsOf free).all fun p => He.eqO (PySem.W.nsIn K mainGlobals p.1) (some (some p.2))) = true := congrArg (fun z : AlM => z.1) c
    have hx : (x, v) ∈ modsOf free := by
      unfold modsOf
      refine List.mem_filterMap.mpr ⟨x, modOf_mem e, ?_⟩
      rw [e]
      show (if free.contains m = true then some (x, v) else none) = some (x, v)
      rw [if_pos hm]
    exact PySem.W.mg_of X G (He.eqO_ok (List.all_eq_true.mp c1 _ hx))
/-- what the law's def promises -/
def spLaw (K : PySem.W.Frag) : Sp := fun vs H Q _ => ∃ (a : Addr) (ns : List Int), vs = [.ref a] ∧ ns.length ≤ 63 ∧ (∀ z ∈ ns, Builtin.Int.intBits z ≤ 1048576) ∧ SqL K H a (ns.map V.int) ∧ ∀ H', Q (.bl true) H'
theorem lawOk {P : Program} {w : World} {K : PySem.W.Frag} {mg : Str → Option Value} {base : Heap} {fn : Dfs} {free : List Str} {d : He.DefD} {fd : FuncData} {k : Nat} {x : Str} (hok : fn.all okDef = true) (kn : Known K mg fn free) (hd : findD x fn = some d) (hp : (parsOf d).length = 1)
    (F : FunD K d.name d.qual d.params d.body d.scope [] [] (He.ga K d.name) fd)
    (h : ∀ ns : List Int, ns.length ≤ 63 → (∀ z ∈ ns, Builtin.Int.intBits z ≤ 1048576) → callD fn free k x [.z (ns.map .i)] = some (.b true)) : FnOk P w K mg base CX0 k (He.ga K d.name) fd (parsOf d) (spLaw K) := by
  refine (call_ok hok kn k x d hd fd F).imp fun vs H Q E q => ?_
  obtain ⟨a, ns, rfl, hl, hb, hs, q⟩ := q
  refine ⟨hp.symm, [.z (ns.map .i)], .b true, fun _ => False, fun a z => z.elim, .cons ?_ .nil, h ns hl hb, fun v H' _ r => ?_⟩
  · rcases hs with hs | ⟨o, its, n, e1, e2, e3, e4, e5⟩
    · exact .z hs (fun z => z) (RepL.of_ints ns)
    · exact .zk (fun G => .inr ⟨o, its, n, e1, e2, e3, e4, e5⟩) (RepL.of_ints ns)
  · cases r
    exact q H'
theorem walk_fin {l : PySem.W.OpenLaw} {n k : Nat} {q : Program} {loose : List Str} {XP : (Str → Option Value) → Heap → Prop} {YP : World → Heap → Prop} {d : DefRec} {x : Str}
    (hn : l.most = some n) (hn2 : n ≤ sizeLine) (hdf : d.params.defaults = []) (hr : Room k callerA)
    (F : ∀ (w : World) (mg : Str → Option Value) (fa : Addr) (h : Heap), YP w h → h.Ns mainGlobals mg → mg d.name = some (.ref fa) →
      ∃ (K : PySem.W.Frag) (fd : FuncData) (sp : Sp), K.In h ∧ (∀ (s : Shared) (u : Value), BindsTo s fd ⟨[u], []⟩ [(x, u)]) ∧
        (∀ (H : Hp) (a : Addr) (ns : List Int), ns.length ≤ n → (∀ z ∈ ns, Builtin.Int.intBits z ≤ 1048576) → SqL K H a (ns.map V.int) → sp [.ref a] H (fun v _ => v = .bl true) fun _ _ _ => False) ∧
        ∀ base : Heap, K.In base → base.Ns mainGlobals mg → FnOk l.prog w K mg base CX0 k fa fd [x] sp) :
    PySem.W.WalkO q loose XP YP l.row.toRowW d [] (fun f vs => PySem.call f vs) := by
  refine Att.attach_callB hn hdf fun w s₀ s₁ mg mb fa o pm cd doc a vs ns G Y ho hd hcd hmg hobj hints hlen hbits hg => ?_
  obtain ⟨K, fd, sp, KX, hb, hsp, hF⟩ := F w mg fa _ Y G.T.g hmg
  exact law_call KX G.T.g G.T.b G.T.builtins G.T.nolimit hg hobj hints (Nat.le_trans hlen hn2) hr hF hb (fun H hO hS => hsp H a ns hlen hbits hS) fun H e s' z => z
end PL
/-! PL s: short names of the evaluator's forms. -/
namespace PL
open PySem PySem.Spec PyProof.Rows L2
@[simp] def vV (i : Nat) : EvF := fun env => getV env i
@[simp] def vB (i : Nat) : EvF := fun env => getB env i
@[simp] def kI (i : Int) : EvF := fun _ => some (.i i)
@[simp] def kB (b : Bool) : EvF := fun _ => some (.b b)
@[simp] def kN : EvF := fun _ => some .n
@[simp] def kS (s : Str) : EvF := fun _ => some (.s s)
@[simp] def tupV (f : List Cell → Option (List D)) : EvF := fun env => (f env).bind fun xs => if xs.length ≤ SZ then some (.t xs) else none
@[simp] def lstV (f : List Cell → Option (List D)) : EvF := fun env => (f env).bind fun xs => if xs.length ≤ SZ then some (.l xs) else none
@[simp] def srtV (f : EvF) : EvF := fun env => (f env).bind srtSetD
@[simp] def a0 : List Cell → Option (List D) := fun _ => some []
@[simp] def p0 : List Cell → Option (Option Int) := fun _ => some none
@[simp] def itR1 (f : EvF) : List Cell → Option (List D) := fun env => (f env).bind rng1
@[simp] def itR2 (f g : EvF) : List Cell → Option (List D) := fun env => (f env).bind fun x => (g env).bind fun y => rng2 x y
@[simp] def itR3 (f g h : EvF) : List Cell → Option (List D) := fun env => (f env).bind fun x => (g env).bind fun y => (h env).bind fun z => rng3 x y z
@[simp] def itE (f : EvF) : List Cell → Option (List D) := fun env => (f env).bind fun d => (seqD d).map (enumD 0)
@[simp] def itZ (f g : EvF) : List Cell → Option (List D) := fun env => (f env).bind fun d => (g env).bind fun d' => (seqD d).bind fun xs => (seqD d').map fun ys => zipD xs ys
@[simp] def itP (f : EvF) : List Cell → Option (List D) := fun env => (f env).bind walkD
@[simp] def itC (f g : EvF) : List Cell → Option (List D) := fun env => (f env).bind fun d => (g env).bind fun d' => combD d d'
@[simp] def trV (f : EvF) : EvF := fun env => (f env).bind revD
@[simp] def lrV (f g : EvF) : EvF := fun env => (f env).bind fun i => (g env).bind fun j => lrgD i j
@[simp] def tY : List Cell → Option Bool := fun _ => some true
@[simp] def plI (a b : Int) : Int := a + b
@[simp] def miI (a b : Int) : Int := a - b
@[simp] def dropF (f : EvF) : StF := fun env => (f env).map fun _ => .nx env
@[simp] def ret0 : StF := fun _ => some (.rt .n)
@[simp] def nop : StF := fun env => some (.nx env)
@[simp] def brk : StF := fun env => some (.bk env)
@[simp] def cnt : StF := fun env => some (.ct env)
@[simp] def stk : StF := fun _ => none
@[simp] def keepL (N names : List Str) (i : Nat) : Bool := match N[i]? with
  | some x => names.contains x
  | none => false
@[simp] def freeF (N names : List Str) (f : StF) : StF := fun env => f (frC (keepL N names) 0 env)
@[simp] def runF (n : Nat) (b : StF) : List D → Option D := fun ds => (b (startC n ds)).bind outF
end PL
/-! PL t: loops and comprehensions on mapped lists; defs that the laws share. -/
namespace PL
open PySem PySem.Spec PyProof.Rows L2

/-! ### mapped lists -/
theorem compD_filter {α : Type} {t : Tg} {ft : List Cell → Option Bool} {f : EvF} {env : List Cell} (enc g : α → D) (p : α → Bool) : ∀ (l : List α), (∀ a ∈ l, ∃ env1, bindT t (enc a) env = some env1 ∧ ft env1 = some (p a) ∧ (p a = true → f env1 = some (g a))) →
    compD t ft f env (l.map enc) = some ((l.filter p).map g)
  | [], _ => rfl
  | a :: l, h => by
    obtain ⟨env1, h1, h2, h3⟩ := h a List.mem_cons_self
    have ih := compD_filter enc g p l fun b hb => h b (List.mem_cons_of_mem _ hb)
    rw [List.map_cons, compD, h1, Option.bind_some, h2, Option.bind_some, ih]
    cases hp : p a with
    | true => rw [if_pos rfl, h3 hp, List.filter_cons_of_pos hp]; rfl
    | false => rw [if_neg Bool.false_ne_true, List.filter_cons_of_neg (by rw [hp]; exact Bool.false_ne_true)]
theorem compD_map {α : Type} {t : Tg} {ft : List Cell → Option Bool} {f : EvF} {env : List Cell} (enc g : α → D) (l : List α) (h : ∀ a ∈ l, ∃ env1, bindT t (enc a) env = some env1 ∧ ft env1 = some true ∧ f env1 = some (g a)) :
    compD t ft f env (l.map enc) = some (l.map g) := by
  have := compD_filter (t := t) (ft := ft) (f := f) (env := env) enc g (fun _ => true) l fun a ha => by
    obtain ⟨env1, h1, h2, h3⟩ := h a ha
    exact ⟨env1, h1, h2, fun _ => h3⟩
  rwa [List.filter_eq_self.mpr fun _ _ => rfl] at this
theorem blsD_map {α : Type} (q : α → Bool) : ∀ l : List α, blsD (l.map fun a => .b (q a)) = some (l.map q)
  | [] => rfl
  | a :: l => by rw [List.map_cons, blsD, blsD_map q l]; rfl
theorem allD_map {α : Type} (q : α → Bool) (l : List α) : allD [.l (l.map fun a => .b (q a))] = some (.b (l.all q)) := by
  rw [allD, blsD_map q l]
  simp [List.all_map]
theorem anyD_map {α : Type} (q : α → Bool) (l : List α) : anyD [.l (l.map fun a => .b (q a))] = some (.b (l.any q)) := by
  rw [anyD, blsD_map q l]
  simp [List.any_map]
theorem intsD_map : ∀ l : List Int, intsD (l.map .i) = some l
  | [] => rfl
  | a :: l => by rw [List.map_cons, intsD, intsD_map l]; rfl
theorem zipD_map {α β : Type} (f : α → D) (g : β → D) : ∀ (l : List α) (m : List β), zipD (l.map f) (m.map g) = (List.zip l m).map fun p => .t [f p.1, g p.2]
  | [], _ => by simp [zipD]
  | _ :: _, [] => by simp [zipD]
  | a :: l, b :: m => by rw [List.map_cons, List.map_cons, zipD, zipD_map f g l m, List.zip_cons_cons, List.map_cons]
theorem enumD_map {α : Type} (f : α → D) : ∀ (l : List α) (n : Nat), enumD n (l.map f) = (l.zipIdx n).map fun p => .t [.i p.2, f p.1]
  | [], _ => rfl
  | a :: l, n => by rw [List.map_cons, enumD, enumD_map f l (n + 1), List.zipIdx_cons, List.map_cons]
theorem rngD_map (lo : Int) (n : Nat) : rngD lo n = (List.range n).map fun i => .i (lo + (i : Nat)) := rfl
/-- a loop, by what holds ahead of each turn -/
theorem forV_inv {t : Tg} {fb : StF} (P : Nat → List Cell → Prop) : ∀ (ds : List D) (i : Nat) (env : List Cell), P i env →
    (∀ j d env, ds[j]? = some d → P (i + j) env → ∃ env1 env2, bindT t d env = some env1 ∧ (fb env1 = some (.nx env2) ∨ fb env1 = some (.ct env2)) ∧ P (i + j + 1) env2) → ∃ env', forV t fb ds env = some (.nx env') ∧ P (i + ds.length) env'
  | [], i, env, h0, _ => ⟨env, rfl, h0⟩
  | d :: ds, i, env, h0, hs => by
    obtain ⟨env1, env2, h1, h2, h3⟩ := hs 0 d env rfl h0
    obtain ⟨env', h4, h5⟩ := forV_inv P ds (i + 1) env2 h3 fun j d' e q p => by
      have := hs (j + 1) d' e (by rw [List.getElem?_cons_succ]; exact q) (by rw [show i + (j + 1) = i + 1 + j by omega]; exact p)
      rw [show i + (j + 1) + 1 = i + 1 + j + 1 by omega] at this
      exact this
    refine ⟨env', ?_, by rw [List.length_cons, show i + (ds.length + 1) = i + 1 + ds.length by omega]; exact h5⟩
    rw [forV, h1, Option.bind_some]
    rcases h2 with h2 | h2 <;> (rw [h2, Option.bind_some]; exact h4)
/-- .. over a mapped list, the state a fold -/
theorem forV_fold {α β : Type} {t : Tg} {fb : StF} (enc : α → D) (P : β → List Cell → Prop) (stp : β → α → β) : ∀ (l : List α) (b : β) (env : List Cell), P b env →
    (∀ a b env, a ∈ l → P b env → ∃ env1 env2, bindT t (enc a) env = some env1 ∧ (fb env1 = some (.nx env2) ∨ fb env1 = some (.ct env2)) ∧ P (stp b a) env2) → ∃ env', forV t fb (l.map enc) env = some (.nx env') ∧ P (l.foldl stp b) env'
  | [], b, env, h0, _ => ⟨env, rfl, h0⟩
  | a :: l, b, env, h0, hs => by
    obtain ⟨env1, env2, h1, h2, h3⟩ := hs a b env List.mem_cons_self h0
    obtain ⟨env', h4, h5⟩ := forV_fold enc P stp l (stp b a) env2 h3 fun a' b' e m p => hs a' b' e (List.mem_cons_of_mem _ m) p
    refine ⟨env', ?_, h5⟩
    rw [List.map_cons, forV, h1, Option.bind_some]
    rcases h2 with h2 | h2 <;> (rw [h2, Option.bind_some]; exact h4)

/-! ### shared defs -/
/-- need(good, at); slots [good, at] -/
def S_need (c : Str → List D → Option D) : List D → Option D := runF 2 (
  (seqF (ifF (notT (asT (vB 0)))
    (seqF stk
    nop)
    nop)
  nop))

/-- is_seq(value); slots [value] -/
def S_is_seq (c : Str → List D → Option D) : List D → Option D := runF 1 (
  (seqF (retF (instV [.tuple, .list] (vB 0)))
  nop))

/-- is_long(value, low, high); slots [value, low, high] -/
def S_is_long (c : Str → List D → Option D) : List D → Option D := runF 3 (
  (seqF (retF (andV (callV (c "is_seq") (consL (vV 0) a0)) (chainV fLe fLe (vB 1) (callV lenD (consL (vB 0) a0)) (vB 2))))
  nop))

/-- is_int(value); slots [value] -/
def S_is_int (c : Str → List D → Option D) : List D → Option D := runF 1 (
  (seqF (retF (andV (instV [.int] (vB 0)) (notV (instV [.bool] (vB 0)))))
  nop))

/-- is_from(value, low, high); slots [value, low, high] -/
def S_is_from (c : Str → List D → Option D) : List D → Option D := runF 3 (
  (seqF (retF (andV (callV (c "is_int") (consL (vV 0) a0)) (chainV fLe fLe (vB 1) (vB 0) (vB 2))))
  nop))

/-- plain(value); slots [value, .0, part] -/
def S_plain (c : Str → List D → Option D) : List D → Option D := runF 3 (
  (seqF (ifF (asT (callV (c "is_seq") (consL (vV 0) a0)))
    (seqF (retF (callV tupleD (consL (lcV (itP (vB 0)) (.nm 2) tY (callV (c "plain") (consL (vV 2) a0)) [1, 2]) a0)))
    nop)
    nop)
  (seqF (retF (vV 0))
  nop)))

/-- _law_power(base, many); slots [base, many, result, k] -/
def S__law_power (c : Str → List D → Option D) : List D → Option D := runF 4 (
  (seqF (asgF (.nm 2) (kI 1))
  (seqF (forF (itR1 (vB 1)) (.nm 3)
    (seqF (asgF (.nm 2) (bind2 mulD (vB 2) (vB 0)))
    nop))
  (seqF (retF (vV 2))
  nop))))

/-- _law_cell(script, place); slots [script, place] -/
def S__law_cell (c : Str → List D → Option D) : List D → Option D := runF 2 (
  (seqF (ifF (asB (bind2 ltE (vB 1) (callV lenD (consL (vB 0) a0))))
    (seqF (retF (callV intD (consL (bind2 ixD (vB 0) (vB 1)) a0)))
    nop)
    nop)
  (seqF (retF (kI 0))
  nop)))

/-- _law_numbers(script, place, many); slots [script, place, many, cell, numbers, rest, k, twice] -/
def S__law_numbers (c : Str → List D → Option D) : List D → Option D := runF 8 (
  (seqF (asgF (.nm 3) (callV (c "_law_cell") (consL (vV 0) (consL (vV 1) a0))))
  (seqF (ownF 4 (lstV a0))
  (seqF (asgF (.nm 5) (vV 3))
  (seqF (forF (itR1 (vB 2)) (.nm 6)
    (seqF (ifF (asB (bind2 (cmpI fGe) (vB 3) (bind2 powD (kI 10) (kI 18))))
      (seqF (appF 4 (bind2 modD (callV intD (consL (vB 5) a0)) (bind2 powD (kI 10) (kI 9))))
      (seqF (asgF (.nm 5) (bind2 fdivD (vB 5) (bind2 powD (kI 10) (kI 9))))
      nop))
      (seqF (asgF (.nm 7) (bind2 modD (callV intD (consL (bind2 addD (bind2 addD (bind2 mulD (vB 3) (kI 48271)) (bind2 mulD (bind2 addD (vB 6) (kI 1)) (kI 69621))) (vB 1)) a0)) (kI 2147483647)))
      (seqF (appF 4 (bind2 modD (bind2 modD (callV intD (consL (bind2 addD (bind2 mulD (vB 7) (kI 16807)) (bind2 mulD (bind2 addD (vB 6) (kI 3)) (kI 40692))) a0)) (kI 2147483399)) (bind2 powD (kI 10) (kI 9))))
      nop)))
    nop))
  (seqF (retF (vV 4))
  nop))))))

/-- _law_same(one, other); slots [one, other, k] -/
def S__law_same (c : Str → List D → Option D) : List D → Option D := runF 3 (
  (seqF (ifF (orT (asT (instV [.tuple] (vB 1))) (asT (instV [.tuple] (vB 0))))
    (seqF (ifF (orT (notT (asT (instV [.tuple] (vB 0)))) (orT (notT (asT (instV [.tuple] (vB 1)))) (asB (bind2 neqD (callV lenD (consL (vB 0) a0)) (callV lenD (consL (vB 1) a0))))))
      (seqF (retF (kB false))
      nop)
      nop)
    (seqF (forF (itR1 (callV lenD (consL (vB 1) a0))) (.nm 2)
      (seqF (ifF (notT (asT (callV (c "_law_same") (consL (bind2 ixD (vB 0) (vB 2)) (consL (bind2 ixD (vB 1) (vB 2)) a0)))))
        (seqF (retF (kB false))
        nop)
        nop)
      nop))
    (seqF (retF (kB true))
    nop)))
    nop)
  (seqF (ifF (orT (asB (bind2 isD (vB 0) kN)) (asB (bind2 isD (vB 1) kN)))
    (seqF (retF (andV (bind2 isD (vB 0) kN) (bind2 isD (vB 1) kN)))
    nop)
    nop)
  (seqF (ifF (orT (asB (bind2 neqD (instV [.bool] (vB 0)) (instV [.bool] (vB 1)))) (asB (bind2 neqD (instV [.str] (vB 0)) (instV [.str] (vB 1)))))
    (seqF (retF (kB false))
    nop)
    nop)
  (seqF (retF (andV (instV [.int, .str] (vB 0)) (andV (instV [.int, .str] (vB 1)) (bind2 eqqD (vB 0) (vB 1)))))
  nop)))))

/-- _law_listed(value); slots [value, .0, part] -/
def S__law_listed (c : Str → List D → Option D) : List D → Option D := runF 3 (
  (seqF (ifF (asT (instV [.tuple] (vB 0)))
    (seqF (retF (lcV (itP (vB 0)) (.nm 2) tY (callV (c "_law_listed") (consL (vV 2) a0)) [1, 2]))
    nop)
    nop)
  (seqF (retF (vV 0))
  nop)))


section
variable {c : Str → List D → Option D}
theorem is_seq_t (xs : List D) : S_is_seq c [.t xs] = some (.b true) := by simp [S_is_seq]
theorem is_seq_l (xs : List D) : S_is_seq c [.l xs] = some (.b true) := by simp [S_is_seq]
theorem is_seq_n : S_is_seq c [.n] = some (.b false) := by simp [S_is_seq]
theorem is_seq_i (x : Int) : S_is_seq c [.i x] = some (.b false) := by simp [S_is_seq]
theorem is_seq_s (x : Str) : S_is_seq c [.s x] = some (.b false) := by simp [S_is_seq]
theorem is_seq_b (x : Bool) : S_is_seq c [.b x] = some (.b false) := by simp [S_is_seq]
theorem is_long_t {xs : List D} {lo hi : Int} (h : c "is_seq" [.t xs] = some (.b true)) : S_is_long c [.t xs, .i lo, .i hi] = some (.b (decide (lo ≤ xs.length) && decide ((xs.length : Int) ≤ hi))) := by
  simp [S_is_long, h]
  by_cases h1 : lo ≤ (xs.length : Int) <;> simp [h1]
theorem is_long_l {xs : List D} {lo hi : Int} (h : c "is_seq" [.l xs] = some (.b true)) : S_is_long c [.l xs, .i lo, .i hi] = some (.b (decide (lo ≤ xs.length) && decide ((xs.length : Int) ≤ hi))) := by
  simp [S_is_long, h]
  by_cases h1 : lo ≤ (xs.length : Int) <;> simp [h1]
theorem is_long_no {d : D} {lo hi : Int} (h : c "is_seq" [d] = some (.b false)) : S_is_long c [d, .i lo, .i hi] = some (.b false) := by simp [S_is_long, h]
theorem is_int_i (x : Int) : S_is_int c [.i x] = some (.b true) := by simp [S_is_int]
theorem is_int_b (x : Bool) : S_is_int c [.b x] = some (.b false) := by simp [S_is_int]
theorem is_int_n : S_is_int c [.n] = some (.b false) := by simp [S_is_int]
theorem is_int_s (x : Str) : S_is_int c [.s x] = some (.b false) := by simp [S_is_int]
theorem is_int_t (x : List D) : S_is_int c [.t x] = some (.b false) := by simp [S_is_int]
theorem is_int_l (x : List D) : S_is_int c [.l x] = some (.b false) := by simp [S_is_int]
theorem is_from_i {x lo hi : Int} (h : c "is_int" [.i x] = some (.b true)) : S_is_from c [.i x, .i lo, .i hi] = some (.b (decide (lo ≤ x) && decide (x ≤ hi))) := by
  simp [S_is_from, h]
  by_cases h1 : lo ≤ x <;> simp [h1]
theorem is_from_no {d : D} {lo hi : Int} (h : c "is_int" [d] = some (.b false)) : S_is_from c [d, .i lo, .i hi] = some (.b false) := by simp [S_is_from, h]
theorem need_t {d : D} : S_need c [.b true, d] = some .n := by simp [S_need]
theorem ixN_nat {n p : Nat} (h : p < n) : ixN n (p : Int) = some p := by
  unfold ixN
  rw [if_pos (Int.natCast_nonneg p), if_pos (by omega)]
  simp
theorem atI_nat {α : Type} {xs : List α} {p : Nat} (h : p < xs.length) : atI xs (p : Int) = some xs[p] := by
  unfold atI
  rw [ixN_nat h]
  simp [h]
theorem atI_map {α β : Type} (f : α → β) {xs : List α} {p : Nat} (h : p < xs.length) : atI (xs.map f) (p : Int) = some (f xs[p]) := by
  rw [atI_nat (by simpa using h)]
  simp
theorem law_cell_eq (s : List Int) (p : Nat) : S__law_cell c [.z (s.map .i), .i p] = some (.i (s.getD p 0)) := by
  by_cases h : p < s.length
  · simp [S__law_cell, h, atI_map D.i h]
  · have h' : s.length ≤ p := by omega
    simp [S__law_cell, h, h']
theorem smallI_of {x : Int} (h : -(2 ^ 64) < x ∧ x < 2 ^ 64) : smallI x = true := absLe_of (by omega)
theorem smI_nat {n : Nat} (h : n ≤ 4611686018427387903) : smI n = true := absLe_of (by simpa using h)
theorem law_power_eq {b : Int} {n : Nat} (hb : smallI b = true) (hn : smI n = true) : S__law_power c [.i b, .i n] = some (.i (b ^ n)) := by
  have hl := forV_inv (t := .nm 3) (fb := seqF (asgF (.nm 2) (bind2 mulD (vB 2) (vB 0))) nop) (fun j env => ∃ x, env = [.v (.i b), .v (.i n), .v (.i (b ^ j)), x]) (rngD 0 n) 0 [.v (.i b), .v (.i n), .v (.i 1), .no] ⟨.no, by simp⟩ (fun j d env hd hp => by
    obtain ⟨x, rfl⟩ := hp
    refine ⟨_, _, rfl, .inl ?_, .v d, rfl⟩
    have hm : (smallI (b ^ (0 + j)) || smallI b) = true := by rw [hb, Bool.or_true]
    have e : mulD (.i (b ^ (0 + j))) (.i b) = some (.i (b ^ (0 + j + 1))) := by
      rw [mulD, if_pos hm, Int.pow_succ]
    simp only [seqF, asgF, bind2, vB, getB, Cell.any, List.set, Option.bind_some, e, bindT, Option.map_some, nop])
  obtain ⟨env', h1, x, h2⟩ := hl
  rw [rngD_length, Nat.zero_add] at h2
  subst h2
  simp [S__law_power, hn, h1]
theorem pow18 : powD (.i 10) (.i 18) = some (.i 1000000000000000000) := by decide +kernel
theorem pow9 : powD (.i 10) (.i 9) = some (.i 1000000000) := by decide +kernel
theorem mul_r {x y : Int} (h : smallI y = true) : mulD (.i x) (.i y) = some (.i (x * y)) := by rw [mulD, if_pos (by rw [h, Bool.or_true])]
theorem mul_l {x y : Int} (h : smallI x = true) : mulD (.i x) (.i y) = some (.i (x * y)) := by rw [mulD, if_pos (by rw [h, Bool.true_or])]
def Small9 (xs : List Int) : Prop := ∀ x ∈ xs, 0 ≤ x ∧ x < 1000000000
def numsB : StF := (seqF (ifF (asB (bind2 (cmpI fGe) (vB 3) (bind2 powD (kI 10) (kI 18))))
      (seqF (appF 4 (bind2 modD (callV intD (consL (vB 5) a0)) (bind2 powD (kI 10) (kI 9))))
      (seqF (asgF (.nm 5) (bind2 fdivD (vB 5) (bind2 powD (kI 10) (kI 9))))
      nop))
      (seqF (asgF (.nm 7) (bind2 modD (callV intD (consL (bind2 addD (bind2 addD (bind2 mulD (vB 3) (kI 48271)) (bind2 mulD (bind2 addD (vB 6) (kI 1)) (kI 69621))) (vB 1)) a0)) (kI 2147483647)))
      (seqF (appF 4 (bind2 modD (bind2 modD (callV intD (consL (bind2 addD (bind2 mulD (vB 7) (kI 16807)) (bind2 mulD (bind2 addD (vB 6) (kI 3)) (kI 40692))) a0)) (kI 2147483399)) (bind2 powD (kI 10) (kI 9))))
      nop)))
    nop)
theorem numsB_step {z : D} {p m cell rest kk : Int} {xs : List Int} {tw : Cell} (hx : Small9 xs) (hl : xs.length < 1000) :
    ∃ y rest' tw', numsB [.v z, .v (.i p), .v (.i m), .v (.i cell), .o (.l (xs.map .i)), .v (.i rest), .v (.i kk), tw] = some (.nx [.v z, .v (.i p), .v (.i m), .v (.i cell), .o (.l ((xs ++ [y]).map .i)), .v (.i rest'), .v (.i kk), tw']) ∧ 0 ≤ y ∧ y < 1000000000 := by
  have hz : xs.length < SZ := by unfold SZ; omega
  by_cases h : (1000000000000000000 : Int) ≤ cell
  · refine ⟨rest % 1000000000, rest / 1000000000, tw, ?_, by omega, by omega⟩
    have hf : fdivD (.i rest) (.i 1000000000) = some (.i (rest / 1000000000)) := by rw [fdivD, if_pos ⟨by decide, by decide +kernel⟩]
    simp [-powD, -fdivD, numsB, pow18, pow9, h, hz, hf]
  · refine ⟨(((cell * 48271 + (kk + 1) * 69621 + p) % 2147483647 * 16807 + (kk + 3) * 40692) % 2147483399) % 1000000000, rest, .v (.i ((cell * 48271 + (kk + 1) * 69621 + p) % 2147483647)), ?_, by omega, by omega⟩
    simp [-powD, -mulD, numsB, pow18, pow9, h, hz, mul_r (y := 48271) (by decide +kernel), mul_r (y := 69621) (by decide +kernel), mul_r (y := 16807) (by decide +kernel), mul_r (y := 40692) (by decide +kernel)]
theorem law_numbers_ex {ns : List Int} {p : Int} {m : Nat} {cell : Int} (hm : m ≤ 100) (hc : c "_law_cell" [.z (ns.map .i), .i p] = some (.i cell)) :
    ∃ xs : List Int, S__law_numbers c [.z (ns.map .i), .i p, .i m] = some (.l (xs.map .i)) ∧ xs.length = m ∧ Small9 xs := by
  obtain ⟨env', h1, xs, rest, kk, tw, rfl, h3, h4⟩ := forV_inv (t := .nm 6) (fb := numsB) (fun j env => ∃ (xs : List Int) (rest : Int) (kk tw : Cell), env = [.v (.z (ns.map .i)), .v (.i p), .v (.i m), .v (.i cell), .o (.l (xs.map .i)), .v (.i rest), kk, tw] ∧ xs.length = j ∧ Small9 xs)
    (rngD 0 m) 0 [.v (.z (ns.map .i)), .v (.i p), .v (.i m), .v (.i cell), .o (.l []), .v (.i cell), .no, .no] ⟨[], cell, .no, .no, rfl, rfl, fun _ h => nomatch h⟩ (fun j d env hd hp => by
      obtain ⟨xs, rest, kk, tw, rfl, h3, h4⟩ := hp
      obtain ⟨e, hj⟩ := rngD_get hd
      subst e
      obtain ⟨y, rest', tw', h5, h6, h7⟩ := numsB_step (z := .z (ns.map .i)) (p := p) (m := m) (cell := cell) (rest := rest) (kk := 0 + (j : Int)) (tw := tw) h4 (by omega)
      refine ⟨_, _, rfl, .inl h5, xs ++ [y], rest', _, tw', rfl, by simp [h3], fun x hx => ?_⟩
      rcases List.mem_append.mp hx with h | h
      · exact h4 x h
      · rw [List.mem_singleton.mp h]; exact ⟨h6, h7⟩)
  refine ⟨xs, ?_, by rw [h3, rngD_length]; simp, h4⟩
  have hn : smI m = true := smI_nat (by omega)
  unfold numsB at h1
  simp [-powD, -mulD, -fdivD, -modD, -addD, S__law_numbers, hc, hn, h1]
end
end PL
/-! PL u: more of the shared defs. -/
namespace PL
open PySem PySem.Spec PyProof.Rows L2
theorem ok_i (n : Nat) (x : Int) : okD n (.i x) = true := by cases n <;> rfl
theorem ok_b (n : Nat) (x : Bool) : okD n (.b x) = true := by cases n <;> rfl
theorem ok_n (n : Nat) : okD n .n = true := by cases n <;> rfl
theorem ok_s {n : Nat} {x : Str} (h : PyData.canLay0 (.str x) = true) : okD n (.s x) = true := by cases n <;> exact h
theorem nb_i (n : Nat) (x : Int) : nbD n (.i x) = true := by cases n <;> rfl
theorem nb_n (n : Nat) : nbD n .n = true := by cases n <;> rfl
theorem nb_s {n : Nat} {x : Str} (h : PyData.canLay0 (.str x) = true) : nbD n (.s x) = true := by cases n <;> exact h
theorem eq_i (x y : Int) : eqD (.i x) (.i y) = decide (x = y) := by
  rw [eqD_nb 0 _ _ (nb_i 0 x) (nb_i 0 y)]
  simp
theorem eq_s {x y : Str} (hx : PyData.canLay0 (.str x) = true) (hy : PyData.canLay0 (.str y) = true) : eqD (.s x) (.s y) = decide (x = y) := by
  rw [eqD_nb 0 _ _ (nb_s (n := 0) hx) (nb_s (n := 0) hy)]
  simp
theorem eqq_i (x y : Int) : eqqD (.i x) (.i y) = some (.b (decide (x = y))) := by rw [eqqD, ok_i, ok_i, eq_i]; rfl
theorem neq_i (x y : Int) : neqD (.i x) (.i y) = some (.b (!decide (x = y))) := by rw [neqD, ok_i, ok_i, eq_i]; rfl
theorem eqq_s {x y : Str} (hx : PyData.canLay0 (.str x) = true) (hy : PyData.canLay0 (.str y) = true) : eqqD (.s x) (.s y) = some (.b (decide (x = y))) := by rw [eqqD, ok_s hx, ok_s hy, eq_s hx hy]; rfl
theorem eqq_b : ∀ x y : Bool, eqqD (.b x) (.b y) = some (.b (x == y))
  | true, true => by decide +kernel
  | true, false => by decide +kernel
  | false, true => by decide +kernel
  | false, false => by decide +kernel
theorem neq_b : ∀ x y : Bool, neqD (.b x) (.b y) = some (.b (x != y))
  | true, true => by decide +kernel
  | true, false => by decide +kernel
  | false, true => by decide +kernel
  | false, false => by decide +kernel
/-- without bools: == is equality -/
theorem eqq_nb {n : Nat} {x y : D} (hn : n ≤ 20) (hx : nbD n x = true) (hy : nbD n y = true) (ox : okD DP x = true) (oy : okD DP y = true) : eqqD x y = some (.b (decide (x = y))) := by rw [eqqD, ox, oy, eqD_nb n _ _ hx hy]; rfl
section
variable {c : Str → List D → Option D}
theorem law_same_i (x : Int) : S__law_same c [.i x, .i x] = some (.b true) := by
  simp [-eqqD, -neqD, S__law_same, eqq_i, neq_b, isND]
theorem law_same_b (x y : Bool) : S__law_same c [.b x, .b y] = some (.b (x == y)) := by
  simp [-eqqD, -neqD, S__law_same, eqq_b, neq_b, isND]
theorem law_same_n : S__law_same c [.n, .n] = some (.b true) := by
  simp [-eqqD, -neqD, S__law_same, isND]
theorem law_same_s {x : Str} (h : PyData.canLay0 (.str x) = true) : S__law_same c [.s x, .s x] = some (.b true) := by
  simp [-eqqD, -neqD, S__law_same, eqq_s h h, neq_b, isND]
end
end PL
namespace PL
open PySem PySem.Spec PyProof.Rows L2
section
variable {c : Str → List D → Option D}
theorem law_same_t {xs : List D} (hl : xs.length ≤ 1000) (h : ∀ x ∈ xs, c "_law_same" [x, x] = some (.b true)) : S__law_same c [.t xs, .t xs] = some (.b true) := by
  obtain ⟨env', h1, k, rfl⟩ := forV_inv (t := .nm 2) (fb := (seqF (ifF (notT (asT (callV (c "_law_same") (consL (bind2 ixD (vB 0) (vB 2)) (consL (bind2 ixD (vB 1) (vB 2)) a0)))))
        (seqF (retF (kB false))
        nop)
        nop)
      nop)) (fun j env => ∃ k, env = [.v (.t xs), .v (.t xs), k]) (rngD 0 xs.length) 0 [.v (.t xs), .v (.t xs), .no] ⟨.no, rfl⟩ (fun j d env hd hp => by
      obtain ⟨k, rfl⟩ := hp
      obtain ⟨e, hj⟩ := rngD_get hd
      subst e
      have hx := h xs[j] (List.getElem_mem hj)
      refine ⟨_, [.v (.t xs), .v (.t xs), .v (.i (0 + (j : Int)))], rfl, .inl ?_, _, rfl⟩
      simp [atI_nat hj, hx])
  have hn : smI xs.length = true := smI_nat (by omega)
  simp [-eqqD, -neqD, S__law_same, isND, hn, h1, neq_i]
theorem law_listed_t {α : Type} (enc dec : α → D) {l : List α} (hl : l.length ≤ SZ) (h : ∀ a ∈ l, c "_law_listed" [enc a] = some (dec a)) : S__law_listed c [.t (l.map enc)] = some (.l (l.map dec)) := by
  have e := compD_map (t := .nm 2) (ft := tY) (f := callV (c "_law_listed") (consL (vV 2) a0)) (env := [.v (.t (l.map enc)), .no, .no]) enc dec l fun a ha => ⟨_, rfl, rfl, by simp [h a ha]⟩
  simp [S__law_listed, e, hl]
theorem law_listed_i (x : Int) : S__law_listed c [.i x] = some (.i x) := by simp [S__law_listed]
theorem law_listed_s (x : Str) : S__law_listed c [.s x] = some (.s x) := by simp [S__law_listed]
theorem plain_t {α : Type} (enc dec : α → D) {l : List α} (hl : l.length ≤ SZ) (hs : c "is_seq" [.t (l.map enc)] = some (.b true)) (h : ∀ a ∈ l, c "plain" [enc a] = some (dec a)) : S_plain c [.t (l.map enc)] = some (.t (l.map dec)) := by
  have e := compD_map (t := .nm 2) (ft := tY) (f := callV (c "plain") (consL (vV 2) a0)) (env := [.v (.t (l.map enc)), .no, .no]) enc dec l fun a ha => ⟨_, rfl, rfl, by simp [h a ha]⟩
  simp [S_plain, e, hl, hs]
theorem plain_l {α : Type} (enc dec : α → D) {l : List α} (hl : l.length ≤ SZ) (hs : c "is_seq" [.l (l.map enc)] = some (.b true)) (h : ∀ a ∈ l, c "plain" [enc a] = some (dec a)) : S_plain c [.l (l.map enc)] = some (.t (l.map dec)) := by
  have e := compD_map (t := .nm 2) (ft := tY) (f := callV (c "plain") (consL (vV 2) a0)) (env := [.v (.l (l.map enc)), .no, .no]) enc dec l fun a ha => ⟨_, rfl, rfl, by simp [h a ha]⟩
  simp [S_plain, e, hl, hs]
theorem plain_no {d : D} (hs : c "is_seq" [d] = some (.b false)) : S_plain c [d] = some d := by simp [S_plain, hs]
end
/-- a loop that appends -/
theorem forV_app {α γ : Type} {t : Tg} {fb : StF} (enc : α → D) (g : α → List γ) (P : List γ → List Cell → Prop) : ∀ (l : List α) (f0 : List γ) (env : List Cell), P f0 env →
    (∀ a f env, a ∈ l → f.length + (g a).length ≤ f0.length + (l.flatMap g).length → P f env → ∃ env1 env2, bindT t (enc a) env = some env1 ∧ (fb env1 = some (.nx env2) ∨ fb env1 = some (.ct env2)) ∧ P (f ++ g a) env2) →
    ∃ env', forV t fb (l.map enc) env = some (.nx env') ∧ P (f0 ++ l.flatMap g) env'
  | [], f0, env, h0, _ => ⟨env, rfl, by simpa using h0⟩
  | a :: l, f0, env, h0, hs => by
    have e : f0.length + ((a :: l).flatMap g).length = (f0 ++ g a).length + (l.flatMap g).length := by rw [List.flatMap_cons, List.length_append, List.length_append]; omega
    obtain ⟨env1, env2, h1, h2, h3⟩ := hs a f0 env List.mem_cons_self (by rw [List.flatMap_cons, List.length_append]; omega) h0
    obtain ⟨env', h4, h5⟩ := forV_app enc g P l (f0 ++ g a) env2 h3 fun a' f' e' m hl p => hs a' f' e' (List.mem_cons_of_mem _ m) (by rw [e]; exact hl) p
    refine ⟨env', ?_, by rw [List.flatMap_cons, ← List.append_assoc]; exact h5⟩
    rw [List.map_cons, forV, h1, Option.bind_some]
    rcases h2 with h2 | h2 <;> (rw [h2, Option.bind_some]; exact h4)
/-! ### slices -/
theorem cut_to {xs : List D} {k : Nat} (h : k ≤ xs.length) : cutD xs none (some (k : Int)) = xs.take k := by
  have e1 : HT.sIx xs.length 0 none = 0 := rfl
  have e2 : HT.sIx xs.length xs.length (some (k : Int)) = k := by
    rw [HT.sIx_nat]
    omega
  unfold cutD
  rw [e1, e2]
  simp
theorem cut_from {xs : List D} {k : Nat} (h : k ≤ xs.length) : cutD xs (some (k : Int)) none = xs.drop k := by
  have e1 : HT.sIx xs.length 0 (some (k : Int)) = k := by
    rw [HT.sIx_nat]
    omega
  have e2 : HT.sIx xs.length xs.length none = xs.length := rfl
  unfold cutD
  rw [e1, e2, List.take_of_length_le]
  rw [List.length_drop]; exact Nat.le_refl _
@[simp] def Cell.fr : Cell → Cell
  | .o d => .v d
  | .v d => .v d
  | .no => .no
/-- all given up, whatever the cell is -/
@[simp] theorem frC_any (n : Nat) (x : Cell) (r : List Cell) : frC (fun _ => false) n (x :: r) = x.fr :: frC (fun _ => false) (n + 1) r := by cases x <;> simp
end PL
/-! PL x: the rows' forms for simp; loops by a rule. -/
namespace PL
open PySem PySem.Spec PyProof.Rows L2

/-! ### statements, opaque to simp but for these; what comes behind stands in a box, into which simp does not look -/
class Bx (α : Type) where
  v : α
def bd {α β : Type} (x : Option α) [f : Bx (α → Option β)] : Option β := x.bind f.v
@[simp] theorem bd_some {α β : Type} {a : α} {f : Bx (α → Option β)} : @bd α β (some a) f = f.v a := rfl
@[simp] theorem bd_none {α β : Type} {f : Bx (α → Option β)} : @bd α β none f = none := rfl
@[simp] theorem bd_ite {α β : Type} {c : Prop} [Decidable c] {a b : Option α} {f : Bx (α → Option β)} : @bd α β (if c then a else b) f = if c then @bd α β a f else @bd α β b f := by
  by_cases h : c <;> simp [h]
def sQ [f : Bx StF] [g : Bx StF] : StF := seqF f.v g.v
def fr (it : List Cell → Option (List D)) (t : Tg) (b : StF) : StF := forF it t b
def wh (c : List Cell → Option Bool) (b : StF) (n : Nat) : StF := whileV c b n
section
variable {f g : StF} {h : Bx StF} {env : List Cell}
@[simp] theorem sq_asg {t : Tg} {e : EvF} : @sQ ⟨asgF t e⟩ h env = @bd _ _ (e env) ⟨fun d => @bd _ _ (bindT t d env) h⟩ := by
  simp only [sQ, seqF, asgF, bd]
  cases e env with
  | none => rfl
  | some d => cases h : bindT t d env <;> simp [h]
@[simp] theorem sq_own {i : Nat} {e : EvF} : @sQ ⟨ownF i e⟩ h env = @bd _ _ (e env) ⟨fun d => h.v (env.set i (.o d))⟩ := by
  simp only [sQ, seqF, ownF, bd]
  cases e env <;> rfl
@[simp] theorem sq_app {i : Nat} {e : EvF} : @sQ ⟨appF i e⟩ h env = @bd _ _ (getO env i) ⟨fun ds => @bd _ _ (e env) ⟨fun y => if ds.length < SZ then h.v (env.set i (.o (.l (ds ++ [y])))) else none⟩⟩ := by
  simp only [sQ, seqF, appF, bd]
  cases getO env i with
  | none => rfl
  | some ds =>
    cases e env with
    | none => rfl
    | some y =>
      simp only [Option.bind_some]
      split <;> rfl
@[simp] theorem sq_set {i : Nat} {k e : EvF} : @sQ ⟨setF i k e⟩ h env = @bd _ _ (setF i k e env) ⟨fun fl => match fl with
  | .nx e => h.v e
  | fl => some fl⟩ := rfl
@[simp] theorem sq_aug {i : Nat} {op : Int → Int → Int} {e : EvF} : @sQ ⟨augF i op e⟩ h env = @bd _ _ (augF i op e env) ⟨fun fl => match fl with
  | .nx e => h.v e
  | fl => some fl⟩ := rfl
@[simp] theorem sq_drop {e : EvF} : @sQ ⟨dropF e⟩ h env = @bd _ _ (e env) ⟨fun _ => h.v env⟩ := by
  simp only [sQ, seqF, dropF, bd]
  cases e env <;> rfl
@[simp] theorem sq_ret {e : EvF} : @sQ ⟨retF e⟩ h env = (e (frC (fun _ => false) 0 env)).map .rt := by
  simp only [sQ, seqF, retF]
  cases e (frC (fun _ => false) 0 env) <;> rfl
@[simp] theorem sq_ret0 : @sQ ⟨ret0⟩ h env = some (.rt .n) := rfl
@[simp] theorem sq_nop : @sQ ⟨nop⟩ h env = h.v env := rfl
@[simp] theorem sq_brk : @sQ ⟨brk⟩ h env = some (.bk env) := rfl
@[simp] theorem sq_cnt : @sQ ⟨cnt⟩ h env = some (.ct env) := rfl
@[simp] theorem sq_stk : @sQ ⟨stk⟩ h env = none := rfl
@[simp] theorem sq_if {c : List Cell → Option Bool} : @sQ ⟨ifF c f g⟩ h env = @bd _ _ (c env) ⟨fun x => if x = true then @sQ ⟨f⟩ h env else @sQ ⟨g⟩ h env⟩ := by
  simp only [sQ, seqF, ifF, bd]
  cases c env with
  | none => rfl
  | some x => cases x <;> rfl
@[simp] theorem sq_sq {f g : Bx StF} : @sQ ⟨@sQ f g⟩ h env = @sQ f ⟨@sQ g h⟩ env := by
  simp only [sQ, seqF]
  cases f.v env with
  | none => rfl
  | some fl => cases fl <;> rfl
@[simp] theorem sq_free {N names : List Str} : @sQ ⟨freeF N names f⟩ h env = @sQ ⟨f⟩ h (frC (keepL N names) 0 env) := rfl
end

@[simp] theorem ite_bind {α β : Type} {c : Prop} [Decidable c] {a b : Option α} {f : α → Option β} : (if c then a else b).bind f = if c then a.bind f else b.bind f := by
  by_cases h : c <;> simp [h]
@[simp] theorem ite_map {α β : Type} {c : Prop} [Decidable c] {a b : Option α} {f : α → β} : Option.map f (if c then a else b) = if c then a.map f else b.map f := by
  by_cases h : c <;> simp [h]
/-! ### what a run ends with -/
def Wf (r : Option Fl) (Q : Fl → Prop) : Prop := ∃ fl, r = some fl ∧ Q fl
@[simp] theorem Wf_some {fl : Fl} {Q : Fl → Prop} : Wf (some fl) Q ↔ Q fl := ⟨fun ⟨_, e, h⟩ => by cases e; exact h, fun h => ⟨_, rfl, h⟩⟩
@[simp] theorem Wf_none {Q : Fl → Prop} : Wf none Q ↔ False := ⟨fun ⟨_, e, _⟩ => (nomatch e), fun h => h.elim⟩
@[simp] theorem Wf_ite {c : Prop} [Decidable c] {a b : Option Fl} {Q : Fl → Prop} : Wf (if c then a else b) Q ↔ (c → Wf a Q) ∧ (¬ c → Wf b Q) := by
  by_cases h : c <;> simp [h]
@[simp] theorem Wf_map {a : Option D} {g : D → Fl} {Q : Fl → Prop} : Wf (a.map g) Q ↔ ∃ d, a = some d ∧ Q (g d) := by
  cases a <;> simp
theorem Wf.imp {r : Option Fl} {Q Q' : Fl → Prop} (h : Wf r Q) (k : ∀ fl, Q fl → Q' fl) : Wf r Q' := let ⟨fl, e, q⟩ := h; ⟨fl, e, k fl q⟩
theorem run_of {n : Nat} {b : StF} {ds : List D} {d : D} (h : Wf (b (startC n ds)) fun fl => outF fl = some d) : runF n b ds = some d := by
  obtain ⟨fl, e, q⟩ := h
  rw [runF, e]
  exact q
@[simp] def LQ (Pn : List Cell → Prop) (Q : Fl → Prop) (Bk : List Cell → Prop) : Fl → Prop
  | .nx e => Pn e
  | .ct e => Pn e
  | .rt d => Q (.rt d)
  | .bk e => Bk e
section
variable {α : Type} {it : List Cell → Option (List D)} {t : Tg} {fb : StF} {g : Bx StF} {env : List Cell} {Q : Fl → Prop}
theorem Wf_forV (enc : α → D) (g : StF) (Q : Fl → Prop) : ∀ (l pre : List α) (P : List α → List Cell → Prop) (env : List Cell), P pre env →
    (∀ pre' a post env, pre ++ l = pre' ++ a :: post → P pre' env → Wf ((bindT t (enc a) env).bind fb) (LQ (P (pre' ++ [a])) Q fun e => Wf (g e) Q)) →
    (∀ env, P (pre ++ l) env → Wf (g env) Q) → Wf ((forV t fb (l.map enc) env).bind fun fl => match fl with
      | .nx e => g e
      | fl => some fl) Q
  | [], pre, P, env, h0, _, hk => by
    rw [List.append_nil] at hk
    exact hk env h0
  | a :: l, pre, P, env, h0, hs, hk => by
    obtain ⟨fl, e, q⟩ := hs pre a l env rfl h0
    have e' : pre ++ a :: l = (pre ++ [a]) ++ l := by simp
    rw [List.map_cons, forV]
    cases hb : bindT t (enc a) env with
    | none => rw [hb] at e; cases e
    | some env1 =>
      rw [hb, Option.bind_some] at e
      rw [Option.bind_some, e, Option.bind_some]
      cases fl with
      | nx e1 =>
        rw [e'] at hs hk
        exact Wf_forV enc g Q l (pre ++ [a]) P e1 q hs hk
      | ct e1 =>
        rw [e'] at hs hk
        exact Wf_forV enc g Q l (pre ++ [a]) P e1 q hs hk
      | bk e1 => exact q
      | rt d => exact ⟨_, rfl, q⟩
theorem Wf_fr (enc : α → D) (l : List α) (P : List α → List Cell → Prop) (hit : it env = some (l.map enc)) (h0 : P [] env)
    (hs : ∀ pre a post env, l = pre ++ a :: post → P pre env → Wf (@bd _ _ (bindT t (enc a) env) ⟨fb⟩) (LQ (P (pre ++ [a])) Q fun e => Wf (g.v e) Q))
    (hk : ∀ env, P l env → Wf (g.v env) Q) : Wf (@sQ ⟨fr it t fb⟩ g env) Q := by
  have := Wf_forV (t := t) (fb := fb) enc g.v Q l [] P env h0 (fun pre' a post env e h => hs pre' a post env e h) hk
  simp only [sQ, seqF, fr, forF, hit, Option.bind_some]
  exact this
/-- by the index -/
theorem Wf_fri (enc : α → D) (l : List α) (P : Nat → List Cell → Prop) (hit : it env = some (l.map enc)) (h0 : P 0 env)
    (hs : ∀ i (h : i < l.length) env, P i env → Wf (@bd _ _ (bindT t (enc l[i]) env) ⟨fb⟩) (LQ (P (i + 1)) Q fun e => Wf (g.v e) Q))
    (hk : ∀ env, P l.length env → Wf (g.v env) Q) : Wf (@sQ ⟨fr it t fb⟩ g env) Q := by
  refine Wf_fr enc l (fun pre => P pre.length) hit h0 (fun pre a post env e h => ?_) hk
  have hl : pre.length < l.length := by rw [e]; simp
  have ha : l[pre.length] = a := by subst e; simp
  have := hs pre.length hl env h
  rw [ha] at this
  rw [List.length_append, List.length_singleton]
  exact this
/-- over range(n), from lo on -/
theorem Wf_frr (lo : Int) (n : Nat) (P : Nat → List Cell → Prop) (hit : it env = some (rngD lo n)) (h0 : P 0 env)
    (hs : ∀ i, i < n → ∀ env, P i env → Wf (@bd _ _ (bindT t (.i (lo + (i : Nat))) env) ⟨fb⟩) (LQ (P (i + 1)) Q fun e => Wf (g.v e) Q))
    (hk : ∀ env, P n env → Wf (g.v env) Q) : Wf (@sQ ⟨fr it t fb⟩ g env) Q := by
  refine Wf_fri (fun i : Nat => D.i (lo + (i : Nat))) (List.range n) P hit h0 (fun i h env p => ?_) (by rw [List.length_range]; exact hk)
  rw [List.length_range] at h
  rw [List.getElem_range]
  exact hs i h env p
/-- a while loop: what holds ahead of each test, and what falls -/
theorem Wf_wh {c : List Cell → Option Bool} {n : Nat} (P : Nat → List Cell → Prop) : ∀ (m : Nat), m < n → P m env →
    (∀ m env, P m env → ∃ b, c env = some b ∧ (b = true → Wf (fb env) (LQ (fun e => ∃ m', m' < m ∧ P m' e) Q fun e => Wf (g.v e) Q)) ∧ (b = false → Wf (g.v env) Q)) → Wf (@sQ ⟨wh c fb n⟩ g env) Q := by
  have go : ∀ (n m : Nat) (env : List Cell), m < n → P m env → (∀ m env, P m env → ∃ b, c env = some b ∧ (b = true → Wf (fb env) (LQ (fun e => ∃ m', m' < m ∧ P m' e) Q fun e => Wf (g.v e) Q)) ∧ (b = false → Wf (g.v env) Q)) → Wf ((whileV c fb n env).bind fun fl => match fl with
      | .nx e => g.v e
      | fl => some fl) Q := by
    intro n
    induction n with
    | zero => intro m env h; omega
    | succ n ih =>
      intro m env hm hp hs
      obtain ⟨b, e1, e2, e3⟩ := hs m env hp
      rw [whileV, e1, Option.bind_some]
      cases b with
      | false => simpa using e3 rfl
      | true =>
        obtain ⟨fl, e4, q⟩ := e2 rfl
        rw [if_pos rfl, e4, Option.bind_some]
        cases fl with
        | nx e =>
          obtain ⟨m', h1, h2⟩ := q
          exact ih m' e (by omega) h2 hs
        | ct e =>
          obtain ⟨m', h1, h2⟩ := q
          exact ih m' e (by omega) h2 hs
        | bk e => exact q
        | rt d => exact ⟨_, rfl, q⟩
  intro m hm hp hs
  exact go n m env hm hp hs
end

/-- some cells stored anew -/
@[simp] def setS (env : List Cell) : List Nat → (Nat → Cell) → List Cell
  | [], _ => env
  | i :: r, c => (setS env r c).set i (c i)
theorem setS_len (env : List Cell) (c : Nat → Cell) : ∀ is, (setS env is c).length = env.length
  | [] => rfl
  | i :: r => by rw [setS, List.length_set, setS_len env c r]
theorem setS_get (env : List Cell) (c : Nat → Cell) (j : Nat) : ∀ is, (setS env is c)[j]? = if j ∈ is ∧ j < env.length then some (c j) else env[j]?
  | [] => by simp
  | i :: r => by
    rw [setS, List.getElem?_set, setS_len, setS_get env c j r]
    by_cases e : i = j
    · subst e
      by_cases h : i < env.length
      · simp [h]
      · simp [h, List.getElem?_eq_none (show env.length ≤ i by omega)]
    · have e' : ¬ j = i := fun z => e z.symm
      simp [e, e']
theorem wipe_set (env : List Cell) : ∀ is, wipeC env is = setS env is fun _ => .no
  | [] => rfl
  | i :: r => by rw [wipeC, setS, wipe_set env r]
theorem stale_ex {env env' : List Cell} {is : List Nat} (h : wipeC env' is = wipeC env is) : ∃ c, env' = setS env is c := by
  refine ⟨fun i => env'.getD i .no, List.ext_getElem? fun j => ?_⟩
  rw [wipe_set, wipe_set] at h
  have hl : env'.length = env.length := by
    have := congrArg List.length h
    rwa [setS_len, setS_len] at this
  have hj := congrArg (·[j]?) h
  simp only [setS_get] at hj
  rw [setS_get]
  by_cases m : j ∈ is
  · by_cases l : j < env.length
    · rw [if_pos ⟨m, l⟩]
      simp [List.getD, show j < env'.length by omega]
    · rw [if_neg fun z => l z.2, List.getElem?_eq_none (by omega), List.getElem?_eq_none (by omega)]
  · rw [if_neg fun z => m z.1, if_neg fun z => m z.1] at hj
    rw [if_neg fun z => m z.1, hj]
section
variable {α : Type} {it : List Cell → Option (List D)} {t : Tg} {fb : StF} {g : Bx StF} {env : List Cell} {Q : Fl → Prop}
/-- a loop that stores nothing of which anything comes -/
theorem Wf_frs (is : List Nat) (enc : α → D) (l : List α) (hit : it env = some (l.map enc))
    (hs : ∀ a ∈ l, ∀ c : Nat → Cell, Wf (@bd _ _ (bindT t (enc a) (setS env is c)) ⟨fb⟩) (LQ (fun e => wipeC e is = wipeC env is) Q fun e => Wf (g.v e) Q))
    (hk : ∀ c : Nat → Cell, Wf (g.v (setS env is c)) Q) : Wf (@sQ ⟨fr it t fb⟩ g env) Q := by
  refine Wf_fr enc l (fun _ e => wipeC e is = wipeC env is) hit rfl (fun pre a post e he h => ?_) fun e h => ?_
  · obtain ⟨c, rfl⟩ := stale_ex h
    exact hs a (by rw [he]; simp) c
  · obtain ⟨c, rfl⟩ := stale_ex h
    exact hk c
/-- .. with a fact that grows -/
theorem Wf_frp (is : List Nat) (enc : α → D) (l : List α) (P : List α → Prop) (hit : it env = some (l.map enc)) (h0 : P [])
    (hs : ∀ pre a post, l = pre ++ a :: post → P pre → ∀ c : Nat → Cell, Wf (@bd _ _ (bindT t (enc a) (setS env is c)) ⟨fb⟩) (LQ (fun e => P (pre ++ [a]) ∧ wipeC e is = wipeC env is) Q fun e => Wf (g.v e) Q))
    (hk : P l → ∀ c : Nat → Cell, Wf (g.v (setS env is c)) Q) : Wf (@sQ ⟨fr it t fb⟩ g env) Q := by
  refine Wf_fr enc l (fun pre e => P pre ∧ wipeC e is = wipeC env is) hit ⟨h0, rfl⟩ (fun pre a post e he h => ?_) fun e h => ?_
  · obtain ⟨c, rfl⟩ := stale_ex h.2
    exact hs pre a post he h.1 c
  · obtain ⟨c, rfl⟩ := stale_ex h.2
    exact hk h.1 c
end

/-! ### comprehensions over mapped lists -/
def compM {α : Type} (p : α → Option Bool) (g : α → Option D) : List α → Option (List D)
  | [] => some []
  | a :: l => (p a).bind fun c => if c = true then (g a).bind fun y => (compM p g l).bind fun ys => some (y :: ys) else compM p g l
section
variable {α : Type} {t : Tg} {ft : List Cell → Option Bool} {f : EvF} {env : List Cell}
theorem compD_M (enc : α → D) (l : List α) : compD t ft f env (l.map enc) = compM (fun a => (bindT t (enc a) env).bind ft) (fun a => (bindT t (enc a) env).bind f) l := by
  induction l with
  | nil => rfl
  | cons a l ih =>
    rw [List.map_cons, compD, compM, ← ih]
    cases h : bindT t (enc a) env with
    | none => rfl
    | some env1 => rfl
theorem compM_congr {p q : α → Option Bool} {g h : α → Option D} {l : List α} (h1 : ∀ a ∈ l, p a = q a) (h2 : ∀ a ∈ l, q a = some true → g a = h a) : compM p g l = compM q h l := by
  induction l with
  | nil => rfl
  | cons a l ih =>
    rw [compM, compM, h1 a List.mem_cons_self, ih (fun b hb => h1 b (List.mem_cons_of_mem _ hb)) fun b hb => h2 b (List.mem_cons_of_mem _ hb)]
    have := h2 a List.mem_cons_self
    cases hq : q a with
    | none => rfl
    | some c =>
      cases c with
      | false => rfl
      | true => rw [this hq]
theorem compM_some (p : α → Bool) (g : α → D) (l : List α) : compM (fun a => some (p a)) (fun a => some (g a)) l = some ((l.filter p).map g) := by
  induction l with
  | nil => rfl
  | cons a l ih =>
    rw [compM, ih]
    cases h : p a <;> simp [h]
@[simp] theorem compM_tt (g : α → D) (l : List α) : compM (fun _ => some true) (fun a => some (g a)) l = some (l.map g) := by
  have := compM_some (fun _ => true) g l
  rw [this, List.filter_eq_self.mpr fun _ _ => rfl]
/-- with what is known of the members -/
theorem compM_eq {p : α → Option Bool} {g : α → Option D} {l : List α} (q : α → Bool) (h : α → D) (h1 : ∀ a ∈ l, p a = some (q a)) (h2 : ∀ a ∈ l, q a = true → g a = some (h a)) : compM p g l = some ((l.filter q).map h) := by
  rw [← compM_some]
  exact compM_congr h1 fun a ha e => h2 a ha (by cases e' : q a with | true => rfl | false => rw [e'] at e; cases e)
theorem compM_all {p : α → Option Bool} {g : α → Option D} {l : List α} (h : α → D) (h1 : ∀ a ∈ l, p a = some true) (h2 : ∀ a ∈ l, g a = some (h a)) : compM p g l = some (l.map h) := by
  rw [compM_eq (fun _ => true) h h1 fun a ha _ => h2 a ha, List.filter_eq_self.mpr fun _ _ => rfl]
/-- two clauses -/
def comp2M (p : α → Option Bool) (g : α → Option (List D)) : List α → Option (List D)
  | [] => some []
  | a :: l => (p a).bind fun c => if c = true then (g a).bind fun y => (comp2M p g l).bind fun ys => some (y ++ ys) else comp2M p g l
theorem compD2_M {fs1 : List Cell → Option (List D)} {t1 : Tg} {ft1 : List Cell → Option Bool} {vs1 : List Nat} (enc : α → D) (l : List α) : compD2 t ft fs1 t1 ft1 f vs1 env (l.map enc) = comp2M (fun a => (bindT t (enc a) env).bind ft) (fun a => (bindT t (enc a) env).bind fun env1 => (fs1 env1).bind fun ds1 => compD t1 ft1 f (wipeC env1 vs1) ds1) l := by
  induction l with
  | nil => rfl
  | cons a l ih =>
    rw [List.map_cons, compD2, comp2M, ← ih]
    cases h : bindT t (enc a) env with
    | none => rfl
    | some env1 =>
      simp only [Option.bind_some]
      cases ft env1 with
      | none => rfl
      | some c =>
        cases c
        · rfl
        · simp only [if_true, Option.bind_some]
          cases fs1 env1 <;> rfl
theorem comp2M_eq {p : α → Option Bool} {g : α → Option (List D)} {l : List α} (q : α → Bool) (h : α → List D) (h1 : ∀ a ∈ l, p a = some (q a)) (h2 : ∀ a ∈ l, q a = true → g a = some (h a)) : comp2M p g l = some ((l.filter q).flatMap h) := by
  induction l with
  | nil => rfl
  | cons a l ih =>
    rw [comp2M, ih (fun b hb => h1 b (List.mem_cons_of_mem _ hb)) fun b hb => h2 b (List.mem_cons_of_mem _ hb), h1 a List.mem_cons_self]
    have := h2 a List.mem_cons_self
    cases hq : q a with
    | false => simp [hq]
    | true => rw [this hq]; simp [hq]
theorem comp2M_all {p : α → Option Bool} {g : α → Option (List D)} {l : List α} (h : α → List D) (h1 : ∀ a ∈ l, p a = some true) (h2 : ∀ a ∈ l, g a = some (h a)) : comp2M p g l = some (l.flatMap h) := by
  rw [comp2M_eq (fun _ => true) h h1 fun a ha _ => h2 a ha, List.filter_eq_self.mpr fun _ _ => rfl]
end

/-! ### displays -/
def mkT (xs : List D) : Option D := if xs.length ≤ SZ then some (.t xs) else none
def mkL (xs : List D) : Option D := if xs.length ≤ SZ then some (.l xs) else none
theorem mkT_ok {xs : List D} (h : xs.length ≤ SZ) : mkT xs = some (.t xs) := if_pos h
theorem mkL_ok {xs : List D} (h : xs.length ≤ SZ) : mkL xs = some (.l xs) := if_pos h
theorem sz_le {n : Nat} (h : n ≤ 1000000) : n ≤ SZ := by unfold SZ; omega
section
variable {a b c d e f : D}
@[simp] theorem mkT_0 : mkT [] = some (.t []) := mkT_ok (sz_le (by simp))
@[simp] theorem mkT_1 : mkT [a] = some (.t [a]) := mkT_ok (sz_le (by simp))
@[simp] theorem mkT_2 : mkT [a, b] = some (.t [a, b]) := mkT_ok (sz_le (by simp))
@[simp] theorem mkT_3 : mkT [a, b, c] = some (.t [a, b, c]) := mkT_ok (sz_le (by simp))
@[simp] theorem mkT_4 : mkT [a, b, c, d] = some (.t [a, b, c, d]) := mkT_ok (sz_le (by simp))
@[simp] theorem mkT_5 : mkT [a, b, c, d, e] = some (.t [a, b, c, d, e]) := mkT_ok (sz_le (by simp))
@[simp] theorem mkL_0 : mkL [] = some (.l []) := mkL_ok (sz_le (by simp))
@[simp] theorem mkL_1 : mkL [a] = some (.l [a]) := mkL_ok (sz_le (by simp))
@[simp] theorem mkL_2 : mkL [a, b] = some (.l [a, b]) := mkL_ok (sz_le (by simp))
@[simp] theorem mkL_3 : mkL [a, b, c] = some (.l [a, b, c]) := mkL_ok (sz_le (by simp))
@[simp] theorem mkL_4 : mkL [a, b, c, d] = some (.l [a, b, c, d]) := mkL_ok (sz_le (by simp))
@[simp] theorem mkL_5 : mkL [a, b, c, d, e] = some (.l [a, b, c, d, e]) := mkL_ok (sz_le (by simp))
end
@[simp] theorem mkT_6 {a b c d e f : D} : mkT [a, b, c, d, e, f] = some (.t [a, b, c, d, e, f]) := mkT_ok (sz_le (by simp))
@[simp] theorem mkL_6 {a b c d e f : D} : mkL [a, b, c, d, e, f] = some (.l [a, b, c, d, e, f]) := mkL_ok (sz_le (by simp))
@[simp] theorem mkT_7 {a b c d e f g : D} : mkT [a, b, c, d, e, f, g] = some (.t [a, b, c, d, e, f, g]) := mkT_ok (sz_le (by simp))
@[simp] theorem mkL_7 {a b c d e f g : D} : mkL [a, b, c, d, e, f, g] = some (.l [a, b, c, d, e, f, g]) := mkL_ok (sz_le (by simp))
@[simp] theorem mkT_8 {a b c d e f g h : D} : mkT [a, b, c, d, e, f, g, h] = some (.t [a, b, c, d, e, f, g, h]) := mkT_ok (sz_le (by simp))
@[simp] theorem mkL_8 {a b c d e f g h : D} : mkL [a, b, c, d, e, f, g, h] = some (.l [a, b, c, d, e, f, g, h]) := mkL_ok (sz_le (by simp))
@[simp] theorem mkT_9 {a b c d e f g h i : D} : mkT [a, b, c, d, e, f, g, h, i] = some (.t [a, b, c, d, e, f, g, h, i]) := mkT_ok (sz_le (by simp))
@[simp] theorem mkL_9 {a b c d e f g h i : D} : mkL [a, b, c, d, e, f, g, h, i] = some (.l [a, b, c, d, e, f, g, h, i]) := mkL_ok (sz_le (by simp))
@[simp] theorem mkT_10 {a b c d e f g h i j : D} : mkT [a, b, c, d, e, f, g, h, i, j] = some (.t [a, b, c, d, e, f, g, h, i, j]) := mkT_ok (sz_le (by simp))
@[simp] theorem mkL_10 {a b c d e f g h i j : D} : mkL [a, b, c, d, e, f, g, h, i, j] = some (.l [a, b, c, d, e, f, g, h, i, j]) := mkL_ok (sz_le (by simp))
def tupW (f : List Cell → Option (List D)) : EvF := tupV f
def lstW (f : List Cell → Option (List D)) : EvF := lstV f
@[simp] theorem tupW_e (f : List Cell → Option (List D)) (env : List Cell) : tupW f env = (f env).bind mkT := rfl
@[simp] theorem lstW_e (f : List Cell → Option (List D)) (env : List Cell) : lstW f env = (f env).bind mkL := rfl
def lcW (fs : List Cell → Option (List D)) (t : Tg) (ft : List Cell → Option Bool) (f : EvF) (vs : List Nat) : EvF := lcV fs t ft f vs
@[simp] theorem lcW_e (fs : List Cell → Option (List D)) (t : Tg) (ft : List Cell → Option Bool) (f : EvF) (vs : List Nat) (env : List Cell) : lcW fs t ft f vs env = (fs env).bind fun ds => (compD t ft f (wipeC env vs) ds).bind mkL := rfl
def lcW2 (fs : List Cell → Option (List D)) (t : Tg) (ft : List Cell → Option Bool) (fs1 : List Cell → Option (List D)) (t1 : Tg) (ft1 : List Cell → Option Bool) (f : EvF) (vs : List Nat) : EvF := lcV2 fs t ft fs1 t1 ft1 f vs
@[simp] theorem lcW2_e (fs : List Cell → Option (List D)) (t : Tg) (ft : List Cell → Option Bool) (fs1 : List Cell → Option (List D)) (t1 : Tg) (ft1 : List Cell → Option Bool) (f : EvF) (vs : List Nat) (env : List Cell) :
    lcW2 fs t ft fs1 t1 ft1 f vs env = (fs env).bind fun ds => (compD2 t ft fs1 t1 ft1 f t1.slots (wipeC env vs) ds).bind mkL := rfl
theorem mkL_map {α : Type} {g : α → D} {l : List α} (h : l.length ≤ SZ) : mkL (l.map g) = some (.l (l.map g)) := mkL_ok (by simpa using h)
theorem mkL_fmap {α : Type} {g : α → D} {p : α → Bool} {l : List α} (h : l.length ≤ SZ) : mkL ((l.filter p).map g) = some (.l ((l.filter p).map g)) := mkL_ok (by
  have := List.length_filter_le p l
  simp; omega)

/-! ### equality, membership -/
def eqE (a b : D) : Option D := eqqD a b
def neE (a b : D) : Option D := neqD a b
def inE (a b : D) : Option D := inD a b
def niE (a b : D) : Option D := ninD a b
def muE (a b : D) : Option D := mulD a b
def muF (a b : D) : Option D := mulLD a b
def fdE (a b : D) : Option D := fdivD a b
def moE (a b : D) : Option D := modD a b
def poE (a b : D) : Option D := powD a b
def adE (a b : D) : Option D := addD a b
@[simp] theorem adE_i (x y : Int) : adE (.i x) (.i y) = some (.i (x + y)) := rfl
theorem adE_t {xs ys : List D} (h : xs.length + ys.length ≤ SZ) : adE (.t xs) (.t ys) = some (.t (xs ++ ys)) := if_pos h
theorem adE_l {xs ys : List D} (h : xs.length + ys.length ≤ SZ) : adE (.l xs) (.l ys) = some (.l (xs ++ ys)) := if_pos h
theorem adE_l' {xs ys : List D} (h : xs.length + ys.length ≤ 1000000) : adE (.l xs) (.l ys) = some (.l (xs ++ ys)) := adE_l (sz_le h)
theorem adE_t' {xs ys : List D} (h : xs.length + ys.length ≤ 1000000) : adE (.t xs) (.t ys) = some (.t (xs ++ ys)) := adE_t (sz_le h)
theorem mkL_map' {α : Type} {g : α → D} {l : List α} (h : l.length ≤ 1000000) : mkL (l.map g) = some (.l (l.map g)) := mkL_map (sz_le h)
theorem muE_r {x y : Int} (h : smallI y = true) : muE (.i x) (.i y) = some (.i (x * y)) := mul_r h
theorem muE_l {x y : Int} (h : smallI x = true) : muE (.i x) (.i y) = some (.i (x * y)) := mul_l h
theorem moE_ok {x y : Int} (h : 0 < y) : moE (.i x) (.i y) = some (.i (x % y)) := if_pos h
theorem fdE_ok {x y : Int} (h : 0 < y) (h2 : y < 1000000000000) : fdE (.i x) (.i y) = some (.i (x / y)) := if_pos ⟨h, absLe_of (by omega)⟩
theorem poE_ok {x y : Int} (h : 0 ≤ y) (h1 : y < 1000000) (h2 : smallI x = true) : poE (.i x) (.i y) = some (.i (x ^ y.toNat)) := if_pos ⟨h, absLe_of (by omega), h2⟩
/-- no bools, no ranges; not deep -/
abbrev Nb (d : D) : Prop := nbD 8 d = true
@[simp] theorem nb8_i (x : Int) : nbD 8 (.i x) = true := rfl
@[simp] theorem nb8_n : nbD 8 .n = true := rfl
@[simp] theorem nb8_t (xs : List D) : nbD 8 (.t xs) = xs.all (nbD 7) := rfl
@[simp] theorem nb8_l (xs : List D) : nbD 8 (.l xs) = xs.all (nbD 7) := rfl
@[simp] theorem nb7_i (x : Int) : nbD 7 (.i x) = true := rfl
@[simp] theorem nb7_n : nbD 7 .n = true := rfl
@[simp] theorem nb7_t (xs : List D) : nbD 7 (.t xs) = xs.all (nbD 6) := rfl
@[simp] theorem nb7_l (xs : List D) : nbD 7 (.l xs) = xs.all (nbD 6) := rfl
@[simp] theorem nb6_i (x : Int) : nbD 6 (.i x) = true := rfl
@[simp] theorem nb6_n : nbD 6 .n = true := rfl
@[simp] theorem nb6_t (xs : List D) : nbD 6 (.t xs) = xs.all (nbD 5) := rfl
@[simp] theorem nb6_l (xs : List D) : nbD 6 (.l xs) = xs.all (nbD 5) := rfl
@[simp] theorem nb5_i (x : Int) : nbD 5 (.i x) = true := rfl
@[simp] theorem nb5_n : nbD 5 .n = true := rfl
@[simp] theorem nb5_t (xs : List D) : nbD 5 (.t xs) = xs.all (nbD 4) := rfl
@[simp] theorem nb5_l (xs : List D) : nbD 5 (.l xs) = xs.all (nbD 4) := rfl
@[simp] theorem nb4_i (x : Int) : nbD 4 (.i x) = true := rfl
@[simp] theorem nb4_n : nbD 4 .n = true := rfl
theorem ok_mono : ∀ (k : Nat) (d : D), okD k d = true → okD (k + 1) d = true
  | _, .n, _ => rfl
  | _, .b _, _ => rfl
  | _, .i _, _ => rfl
  | k, .s x, h => by cases k <;> exact h
  | 0, .t _, h => by cases h
  | 0, .l _, h => by cases h
  | k + 1, .t xs, h => by
    have h : xs.all (okD k) = true := h
    show xs.all (okD (k + 1)) = true
    rw [List.all_eq_true] at h ⊢
    exact fun x hx => ok_mono k x (h x hx)
  | k + 1, .l xs, h => by
    have h : xs.all (okD k) = true := h
    show xs.all (okD (k + 1)) = true
    rw [List.all_eq_true] at h ⊢
    exact fun x hx => ok_mono k x (h x hx)
  | k, .r _ _, h => by cases k <;> cases h
  | k, .z _, h => by cases k <;> cases h
theorem ok_DP {d : D} (h : nbD 8 d = true) : okD DP d = true := by
  have := ok_of_nb 8 d h
  have go : ∀ m, okD (8 + m) d = true := by
    intro m
    induction m with
    | zero => exact this
    | succ m ih => exact ok_mono _ d ih
  exact go 12
theorem ok_DP7 {d : D} (h : nbD 7 d = true) : okD 19 d = true := by
  have := ok_of_nb 7 d h
  have go : ∀ m, okD (7 + m) d = true := by
    intro m
    induction m with
    | zero => exact this
    | succ m ih => exact ok_mono _ d ih
  exact go 12
theorem eqE_nb {x y : D} (hx : nbD 8 x = true) (hy : nbD 8 y = true) : eqE x y = some (.b (decide (x = y))) := eqq_nb (by omega) hx hy (ok_DP hx) (ok_DP hy)
theorem neE_nb {x y : D} (hx : nbD 8 x = true) (hy : nbD 8 y = true) : neE x y = some (.b (!decide (x = y))) := by
  rw [neE, neqD, ok_DP hx, ok_DP hy, eqD_nb 8 _ _ hx hy]; rfl
@[simp] theorem eqE_i (x y : Int) : eqE (.i x) (.i y) = some (.b (decide (x = y))) := eqq_i x y
@[simp] theorem neE_i (x y : Int) : neE (.i x) (.i y) = some (.b (!decide (x = y))) := neq_i x y
theorem eqE_s {x y : Str} (hx : PyData.canLay0 (.str x) = true) (hy : PyData.canLay0 (.str y) = true) : eqE (.s x) (.s y) = some (.b (decide (x = y))) := eqq_s hx hy
theorem neE_s {x y : Str} (hx : PyData.canLay0 (.str x) = true) (hy : PyData.canLay0 (.str y) = true) : neE (.s x) (.s y) = some (.b (!decide (x = y))) := by rw [neE, neqD, ok_s hx, ok_s hy, eq_s hx hy]; rfl
@[simp] theorem eqE_b (x y : Bool) : eqE (.b x) (.b y) = some (.b (x == y)) := eqq_b x y
@[simp] theorem neE_b (x y : Bool) : neE (.b x) (.b y) = some (.b (x != y)) := neq_b x y
theorem any_eqD {xs : List D} {a : D} (hx : xs.all (nbD 8) = true) (ha : nbD 8 a = true) : (xs.any fun x => eqD x a) = decide (a ∈ xs) := by
  induction xs with
  | nil => rfl
  | cons x xs ih =>
    rw [List.all_cons, Bool.and_eq_true] at hx
    rw [List.any_cons, ih hx.2, eqD_nb 8 _ _ hx.1 ha]
    by_cases h : a = x
    · simp [h]
    · have h' : ¬ x = a := fun e => h e.symm
      simp [h, h']
theorem nb_mono : ∀ (k : Nat) (d : D), nbD k d = true → nbD (k + 1) d = true
  | _, .n, _ => rfl
  | k, .b _, h => by cases k <;> cases h
  | _, .i _, _ => rfl
  | k, .s x, h => by cases k <;> exact h
  | 0, .t _, h => by cases h
  | 0, .l _, h => by cases h
  | k + 1, .t xs, h => by
    have h : xs.all (nbD k) = true := h
    show xs.all (nbD (k + 1)) = true
    rw [List.all_eq_true] at h ⊢
    exact fun x hx => nb_mono k x (h x hx)
  | k + 1, .l xs, h => by
    have h : xs.all (nbD k) = true := h
    show xs.all (nbD (k + 1)) = true
    rw [List.all_eq_true] at h ⊢
    exact fun x hx => nb_mono k x (h x hx)
  | k, .r _ _, h => by cases k <;> cases h
  | k, .z _, h => by cases k <;> cases h
theorem all8 {xs : List D} (h : xs.all (nbD 7) = true) : xs.all (nbD 8) = true := by
  rw [List.all_eq_true] at h ⊢
  exact fun x hx => nb_mono 7 x (h x hx)
theorem inE_l {a : D} {xs : List D} (ha : nbD 8 a = true) (hx : xs.all (nbD 7) = true) : inE a (.l xs) = some (.b (decide (a ∈ xs))) := by
  have e : okD DP (.l xs) = true := ok_DP (d := .l xs) hx
  rw [inE, inD, ok_DP ha, e, any_eqD (all8 hx) ha]; rfl
theorem inE_t {a : D} {xs : List D} (ha : nbD 8 a = true) (hx : xs.all (nbD 7) = true) : inE a (.t xs) = some (.b (decide (a ∈ xs))) := by
  have e : okD DP (.t xs) = true := ok_DP (d := .t xs) hx
  rw [inE, inD, ok_DP ha, e, any_eqD (all8 hx) ha]; rfl
theorem niE_l {a : D} {xs : List D} (ha : nbD 8 a = true) (hx : xs.all (nbD 7) = true) : niE a (.l xs) = some (.b (!decide (a ∈ xs))) := by
  have e : okD DP (.l xs) = true := ok_DP (d := .l xs) hx
  rw [niE, ninD, ok_DP ha, e, any_eqD (all8 hx) ha]; rfl
theorem niE_t {a : D} {xs : List D} (ha : nbD 8 a = true) (hx : xs.all (nbD 7) = true) : niE a (.t xs) = some (.b (!decide (a ∈ xs))) := by
  have e : okD DP (.t xs) = true := ok_DP (d := .t xs) hx
  rw [niE, ninD, ok_DP ha, e, any_eqD (all8 hx) ha]; rfl
theorem map_i_iff {a b : List Int} : a.map D.i = b.map D.i ↔ a = b := ⟨fun h => by
  induction a generalizing b with
  | nil => cases b with | nil => rfl | cons y b => cases h
  | cons x a ih => cases b with
    | nil => cases h
    | cons y b =>
      rw [List.map_cons, List.map_cons, List.cons.injEq] at h
      rw [D.i.inj h.1, ih h.2], fun h => by rw [h]⟩
theorem map_inj {α : Type} {enc : α → D} (hi : ∀ a b, enc a = enc b → a = b) {a b : List α} : a.map enc = b.map enc ↔ a = b := ⟨fun h => by
  induction a generalizing b with
  | nil => cases b with | nil => rfl | cons y b => cases h
  | cons x a ih => cases b with
    | nil => cases h
    | cons y b =>
      rw [List.map_cons, List.map_cons, List.cons.injEq] at h
      rw [hi _ _ h.1, ih h.2], fun h => by rw [h]⟩
theorem nb_ints (k : Nat) (l : List Int) : (l.map D.i).all (nbD k) = true := by
  rw [List.all_eq_true]
  intro x hx
  obtain ⟨y, _, rfl⟩ := List.mem_map.mp hx
  exact nb_i k y

/-! ### operations at constructors -/
@[simp] theorem ixD_t (xs : List D) (k : Int) : ixD (.t xs) (.i k) = atI xs k := rfl
@[simp] theorem ixD_l (xs : List D) (k : Int) : ixD (.l xs) (.i k) = atI xs k := rfl
@[simp] theorem ixD_z (xs : List D) (k : Int) : ixD (.z xs) (.i k) = atI xs k := rfl
@[simp] theorem seqD_t (xs : List D) : seqD (.t xs) = some xs := rfl
@[simp] theorem seqD_l (xs : List D) : seqD (.l xs) = some xs := rfl
@[simp] theorem walkD_t (xs : List D) : walkD (.t xs) = some xs := rfl
@[simp] theorem walkD_l (xs : List D) : walkD (.l xs) = some xs := rfl
@[simp] theorem walkD_r (lo hi : Int) : walkD (.r lo hi) = if (smI lo && smI hi) = true then some (rngD lo (hi - lo).toNat) else none := rfl
@[simp] theorem lenD_t (xs : List D) : lenD [.t xs] = some (.i xs.length) := rfl
@[simp] theorem lenD_l (xs : List D) : lenD [.l xs] = some (.i xs.length) := rfl
@[simp] theorem lenD_z (xs : List D) : lenD [.z xs] = some (.i xs.length) := rfl
@[simp] theorem fLt_e (x y : Int) : fLt x y = decide (x < y) := rfl
@[simp] theorem fLe_e (x y : Int) : fLe x y = decide (x ≤ y) := rfl
@[simp] theorem fGt_e (x y : Int) : fGt x y = decide (y < x) := rfl
@[simp] theorem fGe_e (x y : Int) : fGe x y = decide (y ≤ x) := rfl
@[simp] theorem maxD_2 (x y : Int) : maxD [.i x, .i y] = some (.i (if y > x then y else x)) := rfl
@[simp] theorem minD_2 (x y : Int) : minD [.i x, .i y] = some (.i (if y < x then y else x)) := rfl
/-! ### the calls of a program -/
abbrev Cf := Nat → Str → List D → Option D
abbrev Fm := (Str → List D → Option D) → List D → Option D
def Sh (C : Cf) (f : Str) (S : Fm) : Prop := ∀ k, C (k + 1) f = S (C k)
theorem Sh.run {C : Cf} {f : Str} {S : Fm} (h : Sh C f S) {k : Nat} {xs : List D} {d : D} (e : S (C k) xs = some d) : C (k + 1) f xs = some d := by rw [h k]; exact e
end PL
/-! PL y: the shared defs at any data. -/
namespace PL
open PySem PySem.Spec PyProof.Rows L2

/-- no range, no script at the top -/
def calm : D → Bool
  | .r _ _ => false
  | .z _ => false
  | _ => true
def isSq : D → Bool
  | .t _ => true
  | .l _ => true
  | _ => false
def isTu : D → Bool
  | .t _ => true
  | _ => false
def isIn : D → Bool
  | .i _ => true
  | _ => false
def isBo : D → Bool
  | .b _ => true
  | _ => false
def isSt : D → Bool
  | .s _ => true
  | _ => false
/-- a sequence's members -/
def mem : D → List D
  | .t xs => xs
  | .l xs => xs
  | _ => []
def longB (d : D) (lo hi : Int) : Bool := isSq d && (decide (lo ≤ (mem d).length) && decide (((mem d).length : Int) ≤ hi))
def fromB (d : D) (lo hi : Int) : Bool := match d with
  | .i x => decide (lo ≤ x) && decide (x ≤ hi)
  | _ => false
@[simp] theorem calm_n : calm .n = true := rfl
@[simp] theorem calm_b (x : Bool) : calm (.b x) = true := rfl
@[simp] theorem calm_i (x : Int) : calm (.i x) = true := rfl
@[simp] theorem calm_s (x : Str) : calm (.s x) = true := rfl
@[simp] theorem calm_t (x : List D) : calm (.t x) = true := rfl
@[simp] theorem calm_l (x : List D) : calm (.l x) = true := rfl
@[simp] theorem calm_z (x : List D) : calm (.z x) = false := rfl
@[simp] theorem isSq_n : isSq .n = false := rfl
@[simp] theorem isSq_b (x : Bool) : isSq (.b x) = false := rfl
@[simp] theorem isSq_i (x : Int) : isSq (.i x) = false := rfl
@[simp] theorem isSq_s (x : Str) : isSq (.s x) = false := rfl
@[simp] theorem isSq_t (x : List D) : isSq (.t x) = true := rfl
@[simp] theorem isSq_l (x : List D) : isSq (.l x) = true := rfl
@[simp] theorem isTu_n : isTu .n = false := rfl
@[simp] theorem isTu_b (x : Bool) : isTu (.b x) = false := rfl
@[simp] theorem isTu_i (x : Int) : isTu (.i x) = false := rfl
@[simp] theorem isTu_s (x : Str) : isTu (.s x) = false := rfl
@[simp] theorem isTu_t (x : List D) : isTu (.t x) = true := rfl
@[simp] theorem isTu_l (x : List D) : isTu (.l x) = false := rfl
@[simp] theorem isIn_n : isIn .n = false := rfl
@[simp] theorem isIn_b (x : Bool) : isIn (.b x) = false := rfl
@[simp] theorem isIn_i (x : Int) : isIn (.i x) = true := rfl
@[simp] theorem isIn_s (x : Str) : isIn (.s x) = false := rfl
@[simp] theorem isIn_t (x : List D) : isIn (.t x) = false := rfl
@[simp] theorem isIn_l (x : List D) : isIn (.l x) = false := rfl
@[simp] theorem isBo_n : isBo .n = false := rfl
@[simp] theorem isBo_b (x : Bool) : isBo (.b x) = true := rfl
@[simp] theorem isBo_i (x : Int) : isBo (.i x) = false := rfl
@[simp] theorem isBo_s (x : Str) : isBo (.s x) = false := rfl
@[simp] theorem isBo_t (x : List D) : isBo (.t x) = false := rfl
@[simp] theorem isBo_l (x : List D) : isBo (.l x) = false := rfl
@[simp] theorem isSt_n : isSt .n = false := rfl
@[simp] theorem isSt_b (x : Bool) : isSt (.b x) = false := rfl
@[simp] theorem isSt_i (x : Int) : isSt (.i x) = false := rfl
@[simp] theorem isSt_s (x : Str) : isSt (.s x) = true := rfl
@[simp] theorem isSt_t (x : List D) : isSt (.t x) = false := rfl
@[simp] theorem isSt_l (x : List D) : isSt (.l x) = false := rfl
@[simp] theorem mem_n : mem .n = [] := rfl
@[simp] theorem fromB_n (lo hi : Int) : fromB .n lo hi = false := rfl
@[simp] theorem longB_n (lo hi : Int) : longB .n lo hi = false := rfl
@[simp] theorem mem_b (x : Bool) : mem (.b x) = [] := rfl
@[simp] theorem fromB_b (x : Bool) (lo hi : Int) : fromB (.b x) lo hi = false := rfl
@[simp] theorem longB_b (x : Bool) (lo hi : Int) : longB (.b x) lo hi = false := rfl
@[simp] theorem mem_i (x : Int) : mem (.i x) = [] := rfl
@[simp] theorem longB_i (x : Int) (lo hi : Int) : longB (.i x) lo hi = false := rfl
@[simp] theorem mem_s (x : Str) : mem (.s x) = [] := rfl
@[simp] theorem fromB_s (x : Str) (lo hi : Int) : fromB (.s x) lo hi = false := rfl
@[simp] theorem longB_s (x : Str) (lo hi : Int) : longB (.s x) lo hi = false := rfl
@[simp] theorem mem_t (x : List D) : mem (.t x) = x := rfl
@[simp] theorem fromB_t (x : List D) (lo hi : Int) : fromB (.t x) lo hi = false := rfl
@[simp] theorem mem_l (x : List D) : mem (.l x) = x := rfl
@[simp] theorem fromB_l (x : List D) (lo hi : Int) : fromB (.l x) lo hi = false := rfl
@[simp] theorem fromB_i (x lo hi : Int) : fromB (.i x) lo hi = (decide (lo ≤ x) && decide (x ≤ hi)) := rfl
@[simp] theorem longB_t (x : List D) (lo hi : Int) : longB (.t x) lo hi = (decide (lo ≤ x.length) && decide ((x.length : Int) ≤ hi)) := rfl
@[simp] theorem longB_l (x : List D) (lo hi : Int) : longB (.l x) lo hi = (decide (lo ≤ x.length) && decide ((x.length : Int) ≤ hi)) := rfl
def ndx (d : D) (i : Nat) : D := (mem d).getD i .n
@[simp] theorem nth_t0 (a : D) (xs : List D) : ndx (.t (a :: xs)) 0 = a := rfl
@[simp] theorem nth_t1 (a b : D) (xs : List D) : ndx (.t (a :: b :: xs)) 1 = b := rfl
@[simp] theorem nth_t2 (a b c : D) (xs : List D) : ndx (.t (a :: b :: c :: xs)) 2 = c := rfl
@[simp] theorem nth_l0 (a : D) (xs : List D) : ndx (.l (a :: xs)) 0 = a := rfl
@[simp] theorem nth_l1 (a b : D) (xs : List D) : ndx (.l (a :: b :: xs)) 1 = b := rfl
@[simp] theorem nth_l2 (a b c : D) (xs : List D) : ndx (.l (a :: b :: c :: xs)) 2 = c := rfl
theorem longB_iff {d : D} {lo hi : Int} : longB d lo hi = true ↔ isSq d = true ∧ lo ≤ (mem d).length ∧ ((mem d).length : Int) ≤ hi := by
  rw [longB, Bool.and_eq_true, Bool.and_eq_true, decide_eq_true_eq, decide_eq_true_eq]
theorem long_n {d : D} {n : Nat} (h : longB d n n = true) : isSq d = true ∧ (mem d).length = n := by
  have := longB_iff.mp h
  exact ⟨this.1, by omega⟩
theorem long_2 {d : D} (h : longB d 2 2 = true) : isSq d = true ∧ (mem d).length = 2 := long_n (n := 2) h
theorem long_3 {d : D} (h : longB d 3 3 = true) : isSq d = true ∧ (mem d).length = 3 := long_n (n := 3) h
theorem fromB_iff {d : D} {lo hi : Int} : fromB d lo hi = true ↔ ∃ x, d = .i x ∧ lo ≤ x ∧ x ≤ hi := by
  cases d <;> simp [fromB]
theorem ixD_nth {d : D} {i : Nat} (h : isSq d = true) (hi : i < (mem d).length) : ixD d (.i i) = some (ndx d i) := by
  cases d <;> first
    | (cases h; done)
    | (simp only [ndx, mem] at hi ⊢; rw [ixD, atI_nat hi]; simp [List.getD, hi])
theorem ixD_n0 {d : D} (h : isSq d = true) (hi : 0 < (mem d).length) : ixD d (.i 0) = some (ndx d 0) := ixD_nth h hi
theorem ixD_n1 {d : D} (h : isSq d = true) (hi : 1 < (mem d).length) : ixD d (.i 1) = some (ndx d 1) := ixD_nth h hi
theorem ixD_n2 {d : D} (h : isSq d = true) (hi : 2 < (mem d).length) : ixD d (.i 2) = some (ndx d 2) := ixD_nth h hi
theorem walk_mem {d : D} (h : isSq d = true) : walkD d = some (mem d) := by
  cases d <;> first
    | (cases h; done)
    | rfl
theorem seq_mem {d : D} (h : isSq d = true) : seqD d = some (mem d) := by
  cases d <;> first
    | (cases h; done)
    | rfl
theorem len_mem {d : D} (h : isSq d = true) : lenD [d] = some (.i (mem d).length) := by
  cases d <;> first
    | (cases h; done)
    | rfl
@[simp] theorem isND_n : isND .n = true := rfl
@[simp] theorem isND_i (x : Int) : isND (.i x) = false := rfl
@[simp] theorem isND_b (x : Bool) : isND (.b x) = false := rfl
@[simp] theorem isND_s (x : Str) : isND (.s x) = false := rfl
@[simp] theorem isND_t (x : List D) : isND (.t x) = false := rfl
@[simp] theorem isND_l (x : List D) : isND (.l x) = false := rfl
section
variable {C : Cf} {k : Nat}
theorem seq_d (s : Sh C "is_seq" S_is_seq) {d : D} (h : calm d = true) : C (k + 1) "is_seq" [d] = some (.b (isSq d)) := s.run (by cases d <;> first | (cases h; done) | simp [S_is_seq])
theorem int_d (s : Sh C "is_int" S_is_int) {d : D} (h : calm d = true) : C (k + 1) "is_int" [d] = some (.b (isIn d)) := s.run (by cases d <;> first | (cases h; done) | simp [S_is_int])
theorem long_d (s : Sh C "is_seq" S_is_seq) (s2 : Sh C "is_long" S_is_long) {d : D} {lo hi : Int} (h : calm d = true) : C (k + 2) "is_long" [d, .i lo, .i hi] = some (.b (longB d lo hi)) := s2.run (by
  have e := seq_d (k := k) s h
  cases d <;> first
    | (cases h; done)
    | (simp only [isSq] at e; exact is_long_no e)
    | (simp only [isSq] at e; rw [is_long_t e]; rfl)
    | (simp only [isSq] at e; rw [is_long_l e]; rfl))
theorem from_d (s : Sh C "is_int" S_is_int) (s2 : Sh C "is_from" S_is_from) {d : D} {lo hi : Int} (h : calm d = true) : C (k + 2) "is_from" [d, .i lo, .i hi] = some (.b (fromB d lo hi)) := s2.run (by
  have e := int_d (k := k) s h
  cases d <;> first
    | (cases h; done)
    | (simp only [isIn] at e; exact is_from_no e)
    | (simp only [isIn] at e; rw [is_from_i e]; simp))
theorem need_d (s : Sh C "need" S_need) {d : D} : C (k + 1) "need" [.b true, d] = some .n := s.run need_t
end

/-! ### plain, listed -/
mutual
/-- lists made tuples -/
def plD : D → D
  | .t xs => .t (plDs xs)
  | .l xs => .t (plDs xs)
  | d => d
def plDs : List D → List D
  | [] => []
  | x :: xs => plD x :: plDs xs
end
mutual
/-- tuples made lists -/
def liD : D → D
  | .t xs => .l (liDs xs)
  | d => d
def liDs : List D → List D
  | [] => []
  | x :: xs => liD x :: liDs xs
end
theorem plDs_map : ∀ xs, plDs xs = xs.map plD
  | [] => rfl
  | x :: xs => by rw [plDs, plDs_map xs]; rfl
theorem liDs_map : ∀ xs, liDs xs = xs.map liD
  | [] => rfl
  | x :: xs => by rw [liDs, liDs_map xs]; rfl
/-- no range within, at most n deep, no sequence longer than a million -/
def fin : Nat → D → Bool
  | _, .r _ _ => false
  | _, .z _ => false
  | 0, .t _ => false
  | 0, .l _ => false
  | n + 1, .t xs => xs.all (fin n) && decide (xs.length ≤ 1000000)
  | n + 1, .l xs => xs.all (fin n) && decide (xs.length ≤ 1000000)
  | _, .s x => PyData.canLay0 (.str x)
  | _, _ => true
theorem fin_calm {n : Nat} {d : D} (h : fin n d = true) : calm d = true := by
  cases d <;> first
    | rfl
    | (cases n <;> cases h)
theorem fin_t {n : Nat} {xs : List D} (h : fin (n + 1) (.t xs) = true) : (∀ x ∈ xs, fin n x = true) ∧ xs.length ≤ 1000000 := by
  have h : (xs.all (fin n) && decide (xs.length ≤ 1000000)) = true := h
  rw [Bool.and_eq_true, List.all_eq_true, decide_eq_true_eq] at h
  exact h
theorem fin_l {n : Nat} {xs : List D} (h : fin (n + 1) (.l xs) = true) : (∀ x ∈ xs, fin n x = true) ∧ xs.length ≤ 1000000 := fin_t (n := n) h
@[simp] theorem fin_i (n : Nat) (x : Int) : fin n (.i x) = true := by cases n <;> rfl
@[simp] theorem fin_b (n : Nat) (x : Bool) : fin n (.b x) = true := by cases n <;> rfl
@[simp] theorem fin_n (n : Nat) : fin n .n = true := by cases n <;> rfl
theorem fin_s {n : Nat} {x : Str} (h : PyData.canLay0 (.str x) = true) : fin n (.s x) = true := by cases n <;> exact h
theorem ok_fin : ∀ {n : Nat} {d : D}, fin n d = true → okD n d = true
  | n, .n, _ => by cases n <;> rfl
  | n, .b _, _ => by cases n <;> rfl
  | n, .i _, _ => by cases n <;> rfl
  | n, .s _, h => by cases n <;> exact h
  | n, .r _ _, h => by cases n <;> cases h
  | n, .z _, h => by cases n <;> cases h
  | 0, .t _, h => by cases h
  | 0, .l _, h => by cases h
  | n + 1, .t xs, h => by
    have h := (fin_t h).1
    show xs.all (okD n) = true
    rw [List.all_eq_true]
    exact fun x hx => ok_fin (h x hx)
  | n + 1, .l xs, h => by
    have h := (fin_l h).1
    show xs.all (okD n) = true
    rw [List.all_eq_true]
    exact fun x hx => ok_fin (h x hx)
theorem fin_mono : ∀ {n : Nat} {d : D}, fin n d = true → fin (n + 1) d = true
  | n, .n, _ => by cases n <;> rfl
  | n, .b _, _ => by cases n <;> rfl
  | n, .i _, _ => by cases n <;> rfl
  | n, .s _, h => by cases n <;> exact h
  | n, .r _ _, h => by cases n <;> cases h
  | n, .z _, h => by cases n <;> cases h
  | 0, .t _, h => by cases h
  | 0, .l _, h => by cases h
  | n + 1, .t xs, h => by
    obtain ⟨h1, h2⟩ := fin_t h
    show (xs.all (fin (n + 1)) && decide (xs.length ≤ 1000000)) = true
    rw [Bool.and_eq_true, List.all_eq_true, decide_eq_true_eq]
    exact ⟨fun x hx => fin_mono (h1 x hx), h2⟩
  | n + 1, .l xs, h => by
    obtain ⟨h1, h2⟩ := fin_l h
    show (xs.all (fin (n + 1)) && decide (xs.length ≤ 1000000)) = true
    rw [Bool.and_eq_true, List.all_eq_true, decide_eq_true_eq]
    exact ⟨fun x hx => fin_mono (h1 x hx), h2⟩
theorem fin_le {n m : Nat} {d : D} (h : fin n d = true) (l : n ≤ m) : fin m d = true := by
  obtain ⟨j, rfl⟩ := Nat.exists_eq_add_of_le l
  induction j with
  | zero => exact h
  | succ j ih => exact fin_mono (ih (by omega))
theorem ok_fin20 {n : Nat} {d : D} (h : fin n d = true) (l : n ≤ 20) : okD DP d = true := ok_fin (fin_le h l)
/-- == of any two -/
theorem eqE_f {n m : Nat} {x y : D} (hx : fin n x = true) (hy : fin m y = true) (hn : n ≤ 20) (hm : m ≤ 20) : eqE x y = some (.b (eqD x y)) := by
  rw [eqE, eqqD, ok_fin20 hx hn, ok_fin20 hy hm]; rfl
theorem neE_f {n m : Nat} {x y : D} (hx : fin n x = true) (hy : fin m y = true) (hn : n ≤ 20) (hm : m ≤ 20) : neE x y = some (.b (!eqD x y)) := by
  rw [neE, neqD, ok_fin20 hx hn, ok_fin20 hy hm]; rfl
theorem fin_mem {n : Nat} {d : D} (h : fin (n + 1) d = true) : ∀ x ∈ mem d, fin n x = true := by
  cases d <;> first
    | exact (fin_t h).1
    | exact (fin_l h).1
    | (intro x hx; exact (nomatch hx))
theorem fin_nth {n : Nat} {d : D} (h : fin (n + 1) d = true) (i : Nat) : fin n (ndx d i) = true := by
  unfold ndx
  rw [List.getD_eq_getElem?_getD]
  cases e : (mem d)[i]? with
  | none => simp
  | some x => exact fin_mem h x (List.mem_of_getElem? e)
theorem fin_len {n : Nat} {d : D} (h : fin (n + 1) d = true) : (mem d).length ≤ 1000000 := by
  cases d <;> first
    | exact (fin_t h).2
    | exact (fin_l h).2
    | exact Nat.zero_le _
section
variable {C : Cf}
theorem compD_id {t : Tg} {ft : List Cell → Option Bool} {f : EvF} {env : List Cell} (xs : List D) : compD t ft f env xs = compM (fun a => (bindT t a env).bind ft) (fun a => (bindT t a env).bind f) xs := by
  have := compD_M (t := t) (ft := ft) (f := f) (env := env) id xs
  rw [List.map_id] at this
  exact this
theorem plain_d (s : Sh C "is_seq" S_is_seq) (s2 : Sh C "plain" S_plain) : ∀ (n k : Nat) (d : D), fin n d = true → C (k + n + 2) "plain" [d] = some (plD d)
  | n, k, .n, _ => s2.run (plain_no (seq_d (k := k + n) s rfl))
  | n, k, .b _, _ => s2.run (plain_no (seq_d (k := k + n) s rfl))
  | n, k, .i _, _ => s2.run (plain_no (seq_d (k := k + n) s rfl))
  | n, k, .s _, _ => s2.run (plain_no (seq_d (k := k + n) s rfl))
  | n, _, .r _ _, h => by cases n <;> cases h
  | n, _, .z _, h => by cases n <;> cases h
  | 0, _, .t _, h => by cases h
  | 0, _, .l _, h => by cases h
  | n + 1, k, .t xs, h => by
    obtain ⟨h1, h2⟩ := fin_t h
    have := plain_t (c := C (k + n + 2)) id plD (l := xs) (sz_le h2) (by rw [List.map_id]; exact seq_d (k := k + n + 1) s rfl) fun x hx => plain_d s s2 n k x (h1 x hx)
    rw [List.map_id] at this
    rw [plD, plDs_map]
    exact s2.run this
  | n + 1, k, .l xs, h => by
    obtain ⟨h1, h2⟩ := fin_l h
    have := plain_l (c := C (k + n + 2)) id plD (l := xs) (sz_le h2) (by rw [List.map_id]; exact seq_d (k := k + n + 1) s rfl) fun x hx => plain_d s s2 n k x (h1 x hx)
    rw [List.map_id] at this
    rw [plD, plDs_map]
    exact s2.run this
theorem listed_no {c : Str → List D → Option D} {d : D} (h : calm d = true) (h2 : isTu d = false) : S__law_listed c [d] = some d := by
  cases d <;> first
    | (cases h; done)
    | (cases h2; done)
    | simp [S__law_listed]
theorem listed_d (s2 : Sh C "_law_listed" S__law_listed) : ∀ (n k : Nat) (d : D), fin n d = true → C (k + n + 1) "_law_listed" [d] = some (liD d)
  | n, k, .n, _ => s2.run (listed_no rfl rfl)
  | n, k, .b _, _ => s2.run (listed_no rfl rfl)
  | n, k, .i _, _ => s2.run (listed_no rfl rfl)
  | n, k, .s _, _ => s2.run (listed_no rfl rfl)
  | n, k, .l _, _ => s2.run (listed_no rfl rfl)
  | n, _, .r _ _, h => by cases n <;> cases h
  | n, _, .z _, h => by cases n <;> cases h
  | 0, _, .t _, h => by cases h
  | n + 1, k, .t xs, h => by
    obtain ⟨h1, h2⟩ := fin_t h
    have := law_listed_t (c := C (k + n + 1)) id liD (l := xs) (sz_le h2) fun x hx => listed_d s2 n k x (h1 x hx)
    rw [List.map_id] at this
    rw [liD, liDs_map]
    exact s2.run this
end

/-! ### same -/
/-- what _law_same may be asked of: tuples, strings that == may be asked of; at most n deep -/
def sam : Nat → D → Bool
  | _, .n => true
  | _, .b _ => true
  | _, .i _ => true
  | _, .s x => PyData.canLay0 (.str x)
  | 0, .t _ => false
  | n + 1, .t xs => xs.all (sam n) && decide (xs.length ≤ 1000)
  | _, _ => false
theorem sam_t {n : Nat} {xs : List D} (h : sam (n + 1) (.t xs) = true) : (∀ x ∈ xs, sam n x = true) ∧ xs.length ≤ 1000 := by
  have h : (xs.all (sam n) && decide (xs.length ≤ 1000)) = true := h
  rw [Bool.and_eq_true, List.all_eq_true, decide_eq_true_eq] at h
  exact h
theorem sam_s {n : Nat} {x : Str} (h : sam n (.s x) = true) : PyData.canLay0 (.str x) = true := by cases n <;> exact h
@[simp] theorem sam_i (n : Nat) (x : Int) : sam n (.i x) = true := by cases n <;> rfl
@[simp] theorem sam_b (n : Nat) (x : Bool) : sam n (.b x) = true := by cases n <;> rfl
@[simp] theorem sam_n (n : Nat) : sam n .n = true := by cases n <;> rfl
theorem sam_ts {n : Nat} {xs : List D} (h : ∀ x ∈ xs, sam n x = true) (hl : xs.length ≤ 1000) : sam (n + 1) (.t xs) = true := by
  show (xs.all (sam n) && decide (xs.length ≤ 1000)) = true
  rw [Bool.and_eq_true, List.all_eq_true, decide_eq_true_eq]
  exact ⟨h, hl⟩
theorem fin_ts {n : Nat} {xs : List D} (h : ∀ x ∈ xs, fin n x = true) (hl : xs.length ≤ 1000000) : fin (n + 1) (.t xs) = true := by
  show (xs.all (fin n) && decide (xs.length ≤ 1000000)) = true
  rw [Bool.and_eq_true, List.all_eq_true, decide_eq_true_eq]
  exact ⟨h, hl⟩
theorem fin_ls {n : Nat} {xs : List D} (h : ∀ x ∈ xs, fin n x = true) (hl : xs.length ≤ 1000000) : fin (n + 1) (.l xs) = true := fin_ts (xs := xs) h hl
section
variable {C : Cf}
theorem same_d (s : Sh C "_law_same" S__law_same) : ∀ (n k : Nat) (d : D), sam n d = true → C (k + n + 1) "_law_same" [d, d] = some (.b true)
  | n, k, .n, _ => s.run law_same_n
  | n, k, .b x, _ => s.run (by rw [law_same_b]; simp)
  | n, k, .i x, _ => s.run (law_same_i x)
  | n, k, .s x, h => s.run (law_same_s (sam_s h))
  | 0, _, .t _, h => by cases h
  | n + 1, k, .t xs, h => by
    obtain ⟨h1, h2⟩ := sam_t h
    exact s.run (law_same_t h2 fun x hx => same_d s n k x (h1 x hx))
  | n, _, .r _ _, h => by cases n <;> cases h
  | n, _, .z _, h => by cases n <;> cases h
  | n, _, .l _, h => by cases n <;> cases h
/-- of two bools -/
theorem same_bb (s : Sh C "_law_same" S__law_same) {k : Nat} {x y : Bool} : C (k + 1) "_law_same" [.b x, .b y] = some (.b (x == y)) := s.run (law_same_b x y)
end
end PL
namespace PL
open PySem PySem.Spec PyProof.Rows L2
@[simp] theorem atI_0 {α : Type} (a : α) (xs : List α) : atI (a :: xs) 0 = some a := atI_nat (xs := a :: xs) (p := 0) (by simp)
@[simp] theorem atI_1 {α : Type} (a b : α) (xs : List α) : atI (a :: b :: xs) 1 = some b := atI_nat (xs := a :: b :: xs) (p := 1) (by simp)
@[simp] theorem atI_2 {α : Type} (a b c : α) (xs : List α) : atI (a :: b :: c :: xs) 2 = some c := atI_nat (xs := a :: b :: c :: xs) (p := 2) (by simp)
@[simp] theorem atI_3 {α : Type} (a b c d : α) (xs : List α) : atI (a :: b :: c :: d :: xs) 3 = some d := atI_nat (xs := a :: b :: c :: d :: xs) (p := 3) (by simp)
theorem fin_eq {n : Nat} {d d' : D} (h : fin n d = true) (e : d = d') : fin n d' = true := e ▸ h
theorem eqD_len {x : D} {xs : List D} : eqD (.l (x :: xs)) (.l []) = false := by
  rw [eqD, toPy, toPy, toPys, toPys]
  simp [PyData.eqv, PyData.eqvAll]
theorem eqE_nil {n : Nat} {xs : List D} (h : fin n (.l xs) = true) (hn : n ≤ 20) : eqE (.l xs) (.l []) = some (.b xs.isEmpty) := by
  rw [eqE_f (m := 1) h rfl hn (by omega)]
  cases xs with
  | nil => decide +kernel
  | cons x xs => rw [eqD_len]; rfl
theorem neE_nil {n : Nat} {xs : List D} (h : fin n (.l xs) = true) (hn : n ≤ 20) : neE (.l xs) (.l []) = some (.b (!xs.isEmpty)) := by
  rw [neE_f (m := 1) h rfl hn (by omega)]
  cases xs with
  | nil => decide +kernel
  | cons x xs => rw [eqD_len]; rfl
theorem fin_map {α : Type} {n : Nat} {g : α → D} {l : List α} (h : ∀ a ∈ l, fin n (g a) = true) (hl : l.length ≤ 1000000) : fin (n + 1) (.l (l.map g)) = true := fin_ls (fun x hx => by
  obtain ⟨a, ha, rfl⟩ := List.mem_map.mp hx
  exact h a ha) (by simpa using hl)
theorem fin_mapT {α : Type} {n : Nat} {g : α → D} {l : List α} (h : ∀ a ∈ l, fin n (g a) = true) (hl : l.length ≤ 1000000) : fin (n + 1) (.t (l.map g)) = true := fin_map (g := g) h hl
/-- [1 for a in l if p(a)] == [] -/
theorem ones_nil {α : Type} {p : α → Bool} {l : List α} (hl : l.length ≤ 1000000) : eqE (.l ((l.filter p).map fun _ => D.i 1)) (.l []) = some (.b (l.all fun a => !p a)) := by
  have h2 := List.length_filter_le p l
  rw [eqE_nil (n := 1) (fin_map (fun a _ => by simp) (by omega)) (by omega)]
  congr 2
  rw [Bool.eq_iff_iff]
  simp
theorem ones_ne {α : Type} {p : α → Bool} {l : List α} (hl : l.length ≤ 1000000) : neE (.l ((l.filter p).map fun _ => D.i 1)) (.l []) = some (.b (l.any p)) := by
  have h2 := List.length_filter_le p l
  rw [neE_nil (n := 1) (fin_map (fun a _ => by simp) (by omega)) (by omega)]
  congr 2
  rw [Bool.eq_iff_iff]
  simp
theorem atI_mapS {α β : Type} {f : α → β} {xs : List α} {p : Nat} (h : p < xs.length) : atI (xs.map f) (p : Int) = some (f xs[p]) := atI_map f h
/-- p of none -/
def Nope {α : Type} (p : α → Bool) (l : List α) : Prop := ∀ a ∈ l, p a = false
section
variable {α : Type} {p : α → Bool} {l m : List α} {a : α}
theorem nope_nil : Nope p [] := fun _ h => nomatch h
theorem Nope.snoc (h : Nope p l) (e : p a = false) : Nope p (l ++ [a]) := fun b hb => by
  rcases List.mem_append.mp hb with hb | hb
  · exact h b hb
  · rw [List.mem_singleton.mp hb]; exact e
theorem Nope.take {i : Nat} (h : Nope p (l.take i)) (hi : i < l.length) (e : p l[i] = false) : Nope p (l.take (i + 1)) := by
  rw [List.take_succ_eq_append_getElem hi]
  exact h.snoc e
theorem Nope.find (h : Nope p l) : l.find? p = none := List.find?_eq_none.mpr fun a ha => by rw [h a ha]; exact Bool.false_ne_true
theorem Nope.find_at (h : Nope p l) (e : p a = true) : (l ++ a :: m).find? p = some a := by rw [List.find?_append, h.find]; simp [e]
theorem Nope.idx (h : Nope p l) : l.findIdx? p = none := List.findIdx?_eq_none_iff.mpr h
theorem Nope.idx_at {i : Nat} (h : Nope p (l.take i)) (hi : i < l.length) (e : p l[i] = true) : l.findIdx? p = some i := by
  rw [List.findIdx?_eq_some_iff_getElem]
  exact ⟨hi, e, fun i' hi' => by
    have := h l[i'] (List.mem_take_iff_getElem.mpr ⟨i', by omega, rfl⟩)
    simp [this]⟩
theorem Nope.all (h : Nope p l) : l.all (fun a => !p a) = true := List.all_eq_true.mpr fun a ha => by rw [h a ha]; rfl
theorem Nope.any (h : Nope p l) : l.any p = false := by
  rw [← Bool.not_eq_true, List.any_eq_true]
  rintro ⟨a, ha, e⟩
  rw [h a ha] at e
  cases e
end
theorem enumD_id (xs : List D) : enumD 0 xs = xs.zipIdx.map fun p => D.t [.i p.2, p.1] := by
  have := enumD_map id xs 0
  rw [List.map_id] at this
  exact this
theorem zipIdx_split {α : Type} {l : List α} {pre post : List (α × Nat)} {p : α × Nat} (h : l.zipIdx = pre ++ p :: post) : p.2 = pre.length ∧ p.2 < l.length ∧ l[p.2]? = some p.1 := by
  have e : (l.zipIdx)[pre.length]? = some p := by rw [h]; simp
  rw [List.getElem?_zipIdx] at e
  cases e2 : l[pre.length]? with
  | none => rw [e2] at e; cases e
  | some a =>
    rw [e2] at e
    simp at e
    subst e
    have := (List.getElem?_eq_some_iff.mp e2).1
    exact ⟨by simp, by simpa using this, by simpa using e2⟩
/-- the j-th of ints -/
def gI (b : List Int) (j : Nat) : Int := b.getD j 0
theorem atI_gI {b : List Int} {j : Nat} (h : j < b.length) : atI (b.map D.i) (j : Int) = some (.i (gI b j)) := by rw [atI_mapS h]; simp [gI, List.getD, h]
theorem gI_get {b : List Int} {j : Nat} (h : j < b.length) : gI b j = b[j] := by simp [gI, List.getD, h]
theorem idx_filter {α : Type} (p : α → Bool) (l : List α) (q : Nat → Bool) (hq : ∀ i (h : i < l.length), q i = p l[i]) : ((List.range l.length).filter q).head? = l.findIdx? p := by
  cases e : l.findIdx? p with
  | none =>
    rw [List.findIdx?_eq_none_iff] at e
    have : (List.range l.length).filter q = [] := List.filter_eq_nil_iff.mpr fun i hi => by
      rw [List.mem_range] at hi
      rw [hq i hi, e l[i] (List.getElem_mem hi)]
      exact Bool.false_ne_true
    rw [this]; rfl
  | some i =>
    rw [List.findIdx?_eq_some_iff_getElem] at e
    obtain ⟨h, e1, e2⟩ := e
    have e3 : List.range l.length = List.range i ++ i :: (List.range (l.length - i - 1)).map (· + (i + 1)) := by
      have : l.length = i + (1 + (l.length - i - 1)) := by omega
      rw [this, List.range_add, List.range_add]
      simp [Nat.add_comm, Nat.add_left_comm]
    have e4 : (List.range i).filter q = [] := List.filter_eq_nil_iff.mpr fun j hj => by
      rw [List.mem_range] at hj
      rw [hq j (by omega)]
      have := e2 j hj
      simpa using this
    rw [e3, List.filter_append, e4, List.nil_append, List.filter_cons_of_pos (by rw [hq i h]; exact e1)]
    rfl
theorem rng1_nat {n : Nat} (h : n ≤ 1000000) : rng1 (.i n) = some ((List.range n).map fun i : Nat => D.i i) := by
  rw [rng1, if_pos (smI_nat (by omega)), Int.toNat_natCast, rngD_map]
  simp
theorem minL_foldl : ∀ (r : List Int) (m : Int), minL m r = r.foldl (fun m x => if x < m then x else m) m
  | [], _ => rfl
  | x :: r, m => by rw [minL, List.foldl_cons, minL_foldl r]
theorem minD_l {m : Int} {r : List Int} : minD [.l (D.i m :: r.map D.i)] = some (.i (minL m r)) := by
  have : intsD (D.i m :: r.map D.i) = some (m :: r) := by have := intsD_map (m :: r); simpa using this
  rw [minD, this]; rfl
theorem maxD_l {m : Int} {r : List Int} : maxD [.l (D.i m :: r.map D.i)] = some (.i (maxL m r)) := by
  have : intsD (D.i m :: r.map D.i) = some (m :: r) := by have := intsD_map (m :: r); simpa using this
  rw [maxD, this]; rfl
@[simp] theorem ity_n_tuple  : isTys (.n) [.tuple] = some false := rfl
@[simp] theorem ity_b_tuple (x : Bool) : isTys (.b x) [.tuple] = some false := rfl
@[simp] theorem ity_i_tuple (x : Int) : isTys (.i x) [.tuple] = some false := rfl
@[simp] theorem ity_s_tuple (x : Str) : isTys (.s x) [.tuple] = some false := rfl
@[simp] theorem ity_t_tuple (x : List D) : isTys (.t x) [.tuple] = some true := rfl
@[simp] theorem ity_l_tuple (x : List D) : isTys (.l x) [.tuple] = some false := rfl
@[simp] theorem ity_n_int  : isTys (.n) [.int] = some false := rfl
@[simp] theorem ity_b_int (x : Bool) : isTys (.b x) [.int] = some true := rfl
@[simp] theorem ity_i_int (x : Int) : isTys (.i x) [.int] = some true := rfl
@[simp] theorem ity_s_int (x : Str) : isTys (.s x) [.int] = some false := rfl
@[simp] theorem ity_t_int (x : List D) : isTys (.t x) [.int] = some false := rfl
@[simp] theorem ity_l_int (x : List D) : isTys (.l x) [.int] = some false := rfl
@[simp] theorem ity_n_bool  : isTys (.n) [.bool] = some false := rfl
@[simp] theorem ity_b_bool (x : Bool) : isTys (.b x) [.bool] = some true := rfl
@[simp] theorem ity_i_bool (x : Int) : isTys (.i x) [.bool] = some false := rfl
@[simp] theorem ity_s_bool (x : Str) : isTys (.s x) [.bool] = some false := rfl
@[simp] theorem ity_t_bool (x : List D) : isTys (.t x) [.bool] = some false := rfl
@[simp] theorem ity_l_bool (x : List D) : isTys (.l x) [.bool] = some false := rfl
@[simp] theorem ity_n_str  : isTys (.n) [.str] = some false := rfl
@[simp] theorem ity_b_str (x : Bool) : isTys (.b x) [.str] = some false := rfl
@[simp] theorem ity_i_str (x : Int) : isTys (.i x) [.str] = some false := rfl
@[simp] theorem ity_s_str (x : Str) : isTys (.s x) [.str] = some true := rfl
@[simp] theorem ity_t_str (x : List D) : isTys (.t x) [.str] = some false := rfl
@[simp] theorem ity_l_str (x : List D) : isTys (.l x) [.str] = some false := rfl
@[simp] theorem ity_n_list  : isTys (.n) [.list] = some false := rfl
@[simp] theorem ity_b_list (x : Bool) : isTys (.b x) [.list] = some false := rfl
@[simp] theorem ity_i_list (x : Int) : isTys (.i x) [.list] = some false := rfl
@[simp] theorem ity_s_list (x : Str) : isTys (.s x) [.list] = some false := rfl
@[simp] theorem ity_t_list (x : List D) : isTys (.t x) [.list] = some false := rfl
@[simp] theorem ity_l_list (x : List D) : isTys (.l x) [.list] = some true := rfl
@[simp] theorem ity_n_tuple_list  : isTys (.n) [.tuple, .list] = some false := rfl
@[simp] theorem ity_b_tuple_list (x : Bool) : isTys (.b x) [.tuple, .list] = some false := rfl
@[simp] theorem ity_i_tuple_list (x : Int) : isTys (.i x) [.tuple, .list] = some false := rfl
@[simp] theorem ity_s_tuple_list (x : Str) : isTys (.s x) [.tuple, .list] = some false := rfl
@[simp] theorem ity_t_tuple_list (x : List D) : isTys (.t x) [.tuple, .list] = some true := rfl
@[simp] theorem ity_l_tuple_list (x : List D) : isTys (.l x) [.tuple, .list] = some true := rfl
@[simp] theorem ity_n_int_str  : isTys (.n) [.int, .str] = some false := rfl
@[simp] theorem ity_b_int_str (x : Bool) : isTys (.b x) [.int, .str] = some true := rfl
@[simp] theorem ity_i_int_str (x : Int) : isTys (.i x) [.int, .str] = some true := rfl
@[simp] theorem ity_s_int_str (x : Str) : isTys (.s x) [.int, .str] = some true := rfl
@[simp] theorem ity_t_int_str (x : List D) : isTys (.t x) [.int, .str] = some false := rfl
@[simp] theorem ity_l_int_str (x : List D) : isTys (.l x) [.int, .str] = some false := rfl
theorem inst_t {d : D} (h : calm d = true) : isTys d [.tuple] = some (isTu d) := by cases d <;> first | (cases h; done) | simp
theorem inst_i {d : D} (h : calm d = true) : isTys d [.int] = some (isIn d || isBo d) := by cases d <;> first | (cases h; done) | simp
theorem inst_b {d : D} (h : calm d = true) : isTys d [.bool] = some (isBo d) := by cases d <;> first | (cases h; done) | simp
theorem sam_fin : ∀ {m : Nat} {d : D}, sam m d = true → fin m d = true
  | m, .n, _ => by simp
  | m, .b _, _ => by simp
  | m, .i _, _ => by simp
  | m, .s _, h => fin_s (sam_s h)
  | 0, .t _, h => by cases h
  | m + 1, .t xs, h => by
    obtain ⟨h1, h2⟩ := sam_t h
    exact fin_ts (fun x hx => sam_fin (h1 x hx)) (by omega)
  | m, .r _ _, h => by cases m <;> cases h
  | m, .z _, h => by cases m <;> cases h
  | m, .l _, h => by cases m <;> cases h
theorem sam_mem {m : Nat} {d : D} (h : sam (m + 1) d = true) : ∀ x ∈ mem d, sam m x = true := by
  cases d <;> first
    | exact (sam_t h).1
    | (cases h; done)
    | (intro x hx; exact (nomatch hx))
theorem sam_nth {m : Nat} {d : D} (h : sam (m + 1) d = true) (i : Nat) : sam m (ndx d i) = true := by
  unfold ndx
  rw [List.getD_eq_getElem?_getD]
  cases e : (mem d)[i]? with
  | none => simp
  | some x => exact sam_mem h x (List.mem_of_getElem? e)
theorem sam_tu {m : Nat} {d : D} (h : sam m d = true) : isTu d = isSq d := by
  cases d <;> first
    | rfl
    | (cases m <;> cases h)
theorem all_zip {d : D} {p : D × Nat → Bool} : (mem d).zipIdx.all p = (List.range (mem d).length).all fun j => p (ndx d j, j) := by
  rw [Bool.eq_iff_iff, List.all_eq_true, List.all_eq_true]
  constructor
  · intro h j hj
    have hj := List.mem_range.mp hj
    exact h _ (by
      rw [List.mem_iff_getElem]
      exact ⟨j, by simpa using hj, by simp [ndx, List.getD, hj]⟩)
  · intro h q hq
    obtain ⟨j, hj, e⟩ := List.mem_iff_getElem.mp hq
    have hj' : j < (mem d).length := by simpa using hj
    have := h j (List.mem_range.mpr hj')
    simp at e
    subst e
    simpa [ndx, List.getD, hj'] using this
@[simp] theorem minE_2 (x y : Int) : minE [.i x, .i y] = some (.i (if y < x then y else x)) := rfl
theorem minE_l {m : Int} {r : List Int} : minE [.l (D.i m :: r.map D.i)] = some (.i (minL m r)) := by rw [minE, minD_l]; rfl
theorem minE_t {k : List Int} {r : List (List Int)} : minE [.l ((k :: r).map fun k => .t (k.map .i))] = some (.t ((minTL k r).map .i)) := by
  have e1 : minD [.l ((k :: r).map fun k => D.t (k.map .i))] = none := by rw [List.map_cons]; rfl
  have e2 : ∀ ks : List (List Int), tupsD (ks.map fun k => D.t (k.map .i)) = some ks := by
    intro ks
    induction ks with
    | nil => rfl
    | cons k ks ih => rw [List.map_cons, tupsD, intsD_map, ih]; rfl
  rw [minE, e1, minTD, e2]; rfl
theorem sumE_l {r : List Int} : sumE [.l (r.map D.i)] = some (.i r.sum) := by rw [sumE, sumD, intsD_map]; rfl
theorem sumE_t {r : List Int} : sumE [.t (r.map D.i)] = some (.i r.sum) := by
  have : sumD [.t (r.map D.i)] = none := rfl
  rw [sumE, this, sumTD, intsD_map]; rfl
theorem flat_le {α β : Type} (g : α → List β) (m : Nat) : ∀ l : List α, (∀ a ∈ l, (g a).length ≤ m) → (l.flatMap g).length ≤ m * l.length
  | [], _ => by simp
  | a :: l, h => by
    have h1 := h a List.mem_cons_self
    have h2 := flat_le g m l fun b hb => h b (List.mem_cons_of_mem _ hb)
    rw [List.flatMap_cons, List.length_append, List.length_cons, Nat.mul_add]
    omega
theorem maxD_map {α : Type} (f : α → Int) {a : α} {l : List α} : PL.maxD [.l ((a :: l).map fun a => D.i (f a))] = some (.i (maxL (f a) (l.map f))) := by
  have := maxD_l (m := f a) (r := l.map f)
  rw [List.map_map] at this
  exact this
theorem minE_map {α : Type} (f : α → Int) {a : α} {l : List α} : minE [.l ((a :: l).map fun a => D.i (f a))] = some (.i (minL (f a) (l.map f))) := by
  have := minE_l (m := f a) (r := l.map f)
  rw [List.map_map] at this
  exact this
/-- a slice of a sequence -/
theorem cut_seg {xs : List D} {f l : Nat} (h : f ≤ l) (hl : l ≤ xs.length) : PL.cutD xs (some (f : Int)) (some (l : Int)) = (xs.take l).drop f := by
  unfold cutD
  rw [HT.sIx_nat, HT.sIx_nat, List.drop_take]
  congr 2 <;> omega
end PL
namespace K43
open PySem PySem.Spec PyProof.Rows L2 PL
abbrev thP : Program := PySem.Challenge.pw_surelysound_k43_whole_meetings_and_parti
def fn : Dfs := defsOf thP
def free : List Str := ["isinstance", "tuple", "list", "len", "int", "bool", "all", "any", "zip", "min", "max", "sum", "abs", "enumerate", "range", "str", "reversed", "im:lcm", "im:combinations"]
end K43
namespace K43
open PySem PySem.Spec PyProof.Rows L2 PL 
/-- is_set(value, many); slots [value, many, last, number] -/
def S_is_set (c : Str → List D → Option D) : List D → Option D := runF 4 (
  (@sQ ⟨(ifF (notT (asT (callV (c "is_seq") (consL (vV 0) a0))))
    (@sQ ⟨(retF (kB false))⟩
    ⟨nop⟩)
    nop)⟩
  ⟨(@sQ ⟨(asgF (.nm 2) (negV (kI 1)))⟩
  ⟨(@sQ ⟨(fr (itP (vV 0)) (.nm 3)
    (@sQ ⟨(ifF (notT (asT (callV (c "is_from") (consL (vV 3) (consL (bind2 adE (vB 2) (kI 1)) (consL (bind2 subD (vB 1) (kI 1)) a0))))))
      (@sQ ⟨(retF (kB false))⟩
      ⟨nop⟩)
      nop)⟩
    ⟨(@sQ ⟨(asgF (.nm 2) (vV 3))⟩
    ⟨nop⟩)⟩))⟩
  ⟨(@sQ ⟨(retF (kB true))⟩
  ⟨nop⟩)⟩)⟩)⟩))

/-- is_some(value, many); slots [value, many] -/
def S_is_some (c : Str → List D → Option D) : List D → Option D := runF 2 (
  (@sQ ⟨(retF (andV (callV (c "is_set") (consL (vV 0) (consL (vV 1) a0))) (bind2 (cmpI fGt) (callV lenD (consL (vB 0) a0)) (kI 0))))⟩
  ⟨nop⟩))

/-- is_watch(value); slots [value] -/
def S_is_watch (c : Str → List D → Option D) : List D → Option D := runF 1 (
  (@sQ ⟨(retF (andV (callV (c "is_long") (consL (vV 0) (consL (kI 2) (consL (kI 2) a0)))) (andV (callV (c "is_from") (consL (bind2 ixD (vB 0) (kI 0)) (consL (kI 0) (consL (kI 99) a0)))) (callV (c "is_from") (consL (bind2 ixD (vB 0) (kI 1)) (consL (kI 1) (consL (kI 60) a0)))))))⟩
  ⟨nop⟩))

/-- is_watches(value); slots [value, .0, watch] -/
def S_is_watches (c : Str → List D → Option D) : List D → Option D := runF 3 (
  (@sQ ⟨(retF (andV (callV (c "is_long") (consL (vV 0) (consL (kI 1) (consL (kI 8) a0)))) (callV allD (consL (lcW (itP (vB 0)) (.nm 2) tY (callV (c "is_watch") (consL (vV 2) a0)) [1, 2]) a0))))⟩
  ⟨nop⟩))

/-- need_watches(value); slots [value] -/
def S_need_watches (c : Str → List D → Option D) : List D → Option D := runF 1 (
  (@sQ ⟨(dropF (callV (c "need") (consL (callV (c "is_watches") (consL (vV 0) a0)) (consL (kI 1) a0))))⟩
  ⟨(@sQ ⟨(retF (callV (c "plain") (consL (vV 0) a0)))⟩
  ⟨nop⟩)⟩))

/-- need_two(value, one, other); slots [value, one, other, watches] -/
def S_need_two (c : Str → List D → Option D) : List D → Option D := runF 4 (
  (@sQ ⟨(asgF (.nm 3) (callV (c "need_watches") (consL (vV 0) a0)))⟩
  ⟨(@sQ ⟨(dropF (callV (c "need") (consL (callV (c "is_from") (consL (vV 1) (consL (kI 0) (consL (bind2 subD (callV lenD (consL (vB 3) a0)) (kI 1)) a0)))) (consL (kI 2) a0))))⟩
  ⟨(@sQ ⟨(dropF (callV (c "need") (consL (andV (callV (c "is_from") (consL (vV 2) (consL (kI 0) (consL (bind2 subD (callV lenD (consL (vB 3) a0)) (kI 1)) a0)))) (bind2 neE (vB 2) (vB 1))) (consL (kI 3) a0))))⟩
  ⟨(@sQ ⟨(retF (vV 3))⟩
  ⟨nop⟩)⟩)⟩)⟩))

/-- is_night(value); slots [value] -/
def S_is_night (c : Str → List D → Option D) : List D → Option D := runF 1 (
  (@sQ ⟨(retF (andV (callV (c "is_int") (consL (vV 0) a0)) (bind2 (cmpI fGe) (vB 0) (kI 0))))⟩
  ⟨nop⟩))

/-- stands(watch, night); slots [watch, night, first, every] -/
def S_stands (c : Str → List D → Option D) : List D → Option D := runF 4 (
  (@sQ ⟨(asgF (.tp [(.nm 2), (.nm 3)]) (vV 0))⟩
  ⟨(@sQ ⟨(retF (andV (bind2 (cmpI fGe) (vB 1) (vB 2)) (bind2 eqE (bind2 moE (bind2 subD (vB 1) (vB 2)) (vB 3)) (kI 0))))⟩
  ⟨nop⟩)⟩))

/-- on_at(watches, night); slots [watches, night, .0, number, watch] -/
def S_on_at (c : Str → List D → Option D) : List D → Option D := runF 5 (
  (@sQ ⟨(retF (callV tupleD (consL (lcW (itE (vB 0)) (.tp [(.nm 3), (.nm 4)]) (asT (callV (c "stands") (consL (vV 4) (consL (vV 1) a0)))) (vV 3) [2, 3, 4]) a0)))⟩
  ⟨nop⟩))

/-- on(watches, night); slots [watches, night] -/
def S_on (c : Str → List D → Option D) : List D → Option D := runF 2 (
  (@sQ ⟨(asgF (.nm 0) (callV (c "need_watches") (consL (vV 0) a0)))⟩
  ⟨(@sQ ⟨(dropF (callV (c "need") (consL (callV (c "is_night") (consL (vV 1) a0)) (consL (kI 2) a0))))⟩
  ⟨(@sQ ⟨(retF (callV (c "on_at") (consL (vV 0) (consL (vV 1) a0))))⟩
  ⟨nop⟩)⟩)⟩))

/-- nights_round(watches); slots [watches, result, _, every] -/
def S_nights_round (c : Str → List D → Option D) : List D → Option D := runF 4 (
  (@sQ ⟨(asgF (.nm 1) (kI 1))⟩
  ⟨(@sQ ⟨(fr (itP (vV 0)) (.tp [(.nm 2), (.nm 3)])
    (@sQ ⟨(asgF (.nm 1) (callV lcmD (consL (vB 1) (consL (vB 3) a0))))⟩
    ⟨nop⟩))⟩
  ⟨(@sQ ⟨(retF (vV 1))⟩
  ⟨nop⟩)⟩)⟩))

/-- round_of(watches); slots [watches] -/
def S_round_of (c : Str → List D → Option D) : List D → Option D := runF 1 (
  (@sQ ⟨(retF (callV (c "nights_round") (consL (callV (c "need_watches") (consL (vV 0) a0)) a0)))⟩
  ⟨nop⟩))

/-- joint(one, other); slots [one, other, night, every, _] -/
def S_joint (c : Str → List D → Option D) : List D → Option D := runF 5 (
  (@sQ ⟨(asgF (.tp [(.nm 2), (.nm 3)]) (vV 0))⟩
  ⟨(@sQ ⟨(wh (asB (bind2 ltE (vB 2) (bind2 ixD (vB 1) (kI 0))))
    (@sQ ⟨(augF 2 plI (vV 3))⟩
    ⟨nop⟩) WH)⟩
  ⟨(@sQ ⟨(fr (itR1 (bind2 ixD (vB 1) (kI 1))) (.nm 4)
    (@sQ ⟨(ifF (asT (callV (c "stands") (consL (vV 1) (consL (vV 2) a0))))
      (@sQ ⟨(retF (tupW (consL (vV 2) (consL (callV lcmD (consL (vB 3) (consL (bind2 ixD (vB 1) (kI 1)) a0))) a0))))⟩
      ⟨nop⟩)
      nop)⟩
    ⟨(@sQ ⟨(augF 2 plI (vV 3))⟩
    ⟨nop⟩)⟩))⟩
  ⟨(@sQ ⟨(retF kN)⟩
  ⟨nop⟩)⟩)⟩)⟩))

/-- joint_of(watches, chosen); slots [watches, chosen, found, number] -/
def S_joint_of (c : Str → List D → Option D) : List D → Option D := runF 4 (
  (@sQ ⟨(asgF (.nm 2) (bind2 ixD (vB 0) (bind2 ixD (vB 1) (kI 0))))⟩
  ⟨(@sQ ⟨(fr (itP (sliceV (vB 1) (partV (kI 1)) p0)) (.nm 3)
    (@sQ ⟨(asgF (.nm 2) (callV (c "joint") (consL (vV 2) (consL (bind2 ixD (vB 0) (vB 3)) a0))))⟩
    ⟨(@sQ ⟨(ifF (asB (bind2 isD (vB 2) kN))
      (@sQ ⟨(retF kN)⟩
      ⟨nop⟩)
      nop)⟩
    ⟨nop⟩)⟩))⟩
  ⟨(@sQ ⟨(retF (vV 2))⟩
  ⟨nop⟩)⟩)⟩))

/-- meeting(watches, one, other); slots [watches, one, other, found] -/
def S_meeting (c : Str → List D → Option D) : List D → Option D := runF 4 (
  (@sQ ⟨(asgF (.nm 0) (callV (c "need_two") (consL (vV 0) (consL (vV 1) (consL (vV 2) a0)))))⟩
  ⟨(@sQ ⟨(asgF (.nm 3) (callV (c "joint") (consL (bind2 ixD (vB 0) (vB 1)) (consL (bind2 ixD (vB 0) (vB 2)) a0))))⟩
  ⟨(@sQ ⟨(retF (iteV (asB (bind2 isD (vB 3) kN)) kN (bind2 ixD (vB 3) (kI 0))))⟩
  ⟨nop⟩)⟩)⟩))

/-- divides(watches, one, other, value); slots [watches, one, other, value, first, every, later, often] -/
def S_divides (c : Str → List D → Option D) : List D → Option D := runF 8 (
  (@sQ ⟨(ifF (orT (notT (asT (callV (c "is_int") (consL (vV 3) a0)))) (asB (bind2 ltE (vB 3) (kI 2))))
    (@sQ ⟨(retF (kB false))⟩
    ⟨nop⟩)
    nop)⟩
  ⟨(@sQ ⟨(asgF (.tp [(.tp [(.nm 4), (.nm 5)]), (.tp [(.nm 6), (.nm 7)])]) (tupW (consL (bind2 ixD (vB 0) (vB 1)) (consL (bind2 ixD (vB 0) (vB 2)) a0))))⟩
  ⟨(@sQ ⟨(retF (andV (bind2 eqE (bind2 moE (vB 5) (vB 3)) (kI 0)) (andV (bind2 eqE (bind2 moE (vB 7) (vB 3)) (kI 0)) (bind2 neE (bind2 moE (vB 4) (vB 3)) (bind2 moE (vB 6) (vB 3))))))⟩
  ⟨nop⟩)⟩)⟩))

/-- is_parting(watches, one, other, value); slots [watches, one, other, value] -/
def S_is_parting (c : Str → List D → Option D) : List D → Option D := runF 4 (
  (@sQ ⟨(asgF (.nm 0) (callV (c "need_two") (consL (vV 0) (consL (vV 1) (consL (vV 2) a0)))))⟩
  ⟨(@sQ ⟨(retF (callV (c "divides") (consL (vV 0) (consL (vV 1) (consL (vV 2) (consL (vV 3) a0))))))⟩
  ⟨nop⟩)⟩))

/-- parting_of(watches, one, other); slots [watches, one, other, value] -/
def S_parting_of (c : Str → List D → Option D) : List D → Option D := runF 4 (
  (@sQ ⟨(asgF (.nm 0) (callV (c "need_two") (consL (vV 0) (consL (vV 1) (consL (vV 2) a0)))))⟩
  ⟨(@sQ ⟨(fr (itR3 (kI 60) (kI 1) (negV (kI 1))) (.nm 3)
    (@sQ ⟨(ifF (asT (callV (c "divides") (consL (vV 0) (consL (vV 1) (consL (vV 2) (consL (vV 3) a0))))))
      (@sQ ⟨(retF (vV 3))⟩
      ⟨nop⟩)
      nop)⟩
    ⟨nop⟩))⟩
  ⟨(@sQ ⟨(retF kN)⟩
  ⟨nop⟩)⟩)⟩))

/-- together(watches, set_of); slots [watches, set_of, found] -/
def S_together (c : Str → List D → Option D) : List D → Option D := runF 3 (
  (@sQ ⟨(asgF (.nm 0) (callV (c "need_watches") (consL (vV 0) a0)))⟩
  ⟨(@sQ ⟨(dropF (callV (c "need") (consL (callV (c "is_some") (consL (vV 1) (consL (callV lenD (consL (vB 0) a0)) a0))) (consL (kI 2) a0))))⟩
  ⟨(@sQ ⟨(asgF (.nm 2) (callV (c "joint_of") (consL (vV 0) (consL (vV 1) a0))))⟩
  ⟨(@sQ ⟨(retF (iteV (asB (bind2 isD (vB 2) kN)) kN (bind2 ixD (vB 2) (kI 0))))⟩
  ⟨nop⟩)⟩)⟩)⟩))

/-- apart_of(watches, set_of); slots [watches, set_of, one, other] -/
def S_apart_of (c : Str → List D → Option D) : List D → Option D := runF 4 (
  (@sQ ⟨(asgF (.nm 0) (callV (c "need_watches") (consL (vV 0) a0)))⟩
  ⟨(@sQ ⟨(dropF (callV (c "need") (consL (callV (c "is_some") (consL (vV 1) (consL (callV lenD (consL (vB 0) a0)) a0))) (consL (kI 2) a0))))⟩
  ⟨(@sQ ⟨(fr (itC (vV 1) (kI 2)) (.tp [(.nm 2), (.nm 3)])
    (@sQ ⟨(ifF (asB (bind2 isD (callV (c "joint") (consL (bind2 ixD (vB 0) (vB 2)) (consL (bind2 ixD (vB 0) (vB 3)) a0))) kN))
      (@sQ ⟨(retF (tupW (consL (vV 2) (consL (vV 3) a0))))⟩
      ⟨nop⟩)
      nop)⟩
    ⟨nop⟩))⟩
  ⟨(@sQ ⟨(retF kN)⟩
  ⟨nop⟩)⟩)⟩)⟩))

/-- nights_to(found, last); slots [found, last, first, every] -/
def S_nights_to (c : Str → List D → Option D) : List D → Option D := runF 4 (
  (@sQ ⟨(asgF (.tp [(.nm 2), (.nm 3)]) (vV 0))⟩
  ⟨(@sQ ⟨(retF (iteV (asB (bind2 ltE (vB 1) (vB 2))) (kI 0) (bind2 adE (bind2 fdE (bind2 subD (vB 1) (vB 2)) (vB 3)) (kI 1))))⟩
  ⟨nop⟩)⟩))

/-- counted(watches, set_of, first, last); slots [watches, set_of, first, last, found] -/
def S_counted (c : Str → List D → Option D) : List D → Option D := runF 5 (
  (@sQ ⟨(asgF (.nm 0) (callV (c "need_watches") (consL (vV 0) a0)))⟩
  ⟨(@sQ ⟨(dropF (callV (c "need") (consL (callV (c "is_some") (consL (vV 1) (consL (callV lenD (consL (vB 0) a0)) a0))) (consL (kI 2) a0))))⟩
  ⟨(@sQ ⟨(dropF (callV (c "need") (consL (callV (c "is_night") (consL (vV 2) a0)) (consL (kI 3) a0))))⟩
  ⟨(@sQ ⟨(dropF (callV (c "need") (consL (andV (callV (c "is_night") (consL (vV 3) a0)) (bind2 (cmpI fGe) (vB 3) (vB 2))) (consL (kI 4) a0))))⟩
  ⟨(@sQ ⟨(asgF (.nm 4) (callV (c "joint_of") (consL (vV 0) (consL (vV 1) a0))))⟩
  ⟨(@sQ ⟨(retF (iteV (asB (bind2 isD (vB 4) kN)) (kI 0) (bind2 subD (callV (c "nights_to") (consL (vV 4) (consL (vV 3) a0))) (callV (c "nights_to") (consL (vV 4) (consL (bind2 subD (vB 2) (kI 1)) a0))))))⟩
  ⟨nop⟩)⟩)⟩)⟩)⟩)⟩))

/-- fullest(watches); slots [watches, best, size, found] -/
def S_fullest (c : Str → List D → Option D) : List D → Option D := runF 4 (
  (@sQ ⟨(asgF (.nm 0) (callV (c "need_watches") (consL (vV 0) a0)))⟩
  ⟨(@sQ ⟨(asgF (.nm 1) kN)⟩
  ⟨(@sQ ⟨(fr (itR2 (kI 1) (bind2 adE (callV lenD (consL (vB 0) a0)) (kI 1))) (.nm 2)
    (@sQ ⟨(asgF (.nm 3) (callV (c "first_together") (consL (vV 0) (consL (vV 2) a0))))⟩
    ⟨(@sQ ⟨(ifF (asB (bind2 isntD (vB 3) kN))
      (@sQ ⟨(asgF (.nm 1) (vV 3))⟩
      ⟨nop⟩)
      nop)⟩
    ⟨nop⟩)⟩))⟩
  ⟨(@sQ ⟨(retF (vV 1))⟩
  ⟨nop⟩)⟩)⟩)⟩))

/-- first_together(watches, size); slots [watches, size, chosen, found] -/
def S_first_together (c : Str → List D → Option D) : List D → Option D := runF 4 (
  (@sQ ⟨(fr (itC (rngv (callV lenD (consL (vB 0) a0))) (vB 1)) (.nm 2)
    (@sQ ⟨(asgF (.nm 3) (callV (c "joint_of") (consL (vV 0) (consL (vV 2) a0))))⟩
    ⟨(@sQ ⟨(ifF (asB (bind2 isntD (vB 3) kN))
      (@sQ ⟨(retF (tupW (consL (vV 2) (consL (bind2 ixD (vB 3) (kI 0)) a0))))⟩
      ⟨nop⟩)
      nop)⟩
    ⟨nop⟩)⟩))⟩
  ⟨(@sQ ⟨(retF kN)⟩
  ⟨nop⟩)⟩))

/-- _law_watches(numbers); slots [numbers, rows, k, number] -/
def S__law_watches (c : Str → List D → Option D) : List D → Option D := runF 4 (
  (@sQ ⟨(ownF 1 (lstW a0))⟩
  ⟨(@sQ ⟨(fr (itR1 (bind2 adE (kI 1) (bind2 moE (callV intD (consL (bind2 ixD (vB 0) (kI 0)) a0)) (kI 4)))) (.nm 2)
    (@sQ ⟨(asgF (.nm 3) (bind2 ixD (vB 0) (bind2 adE (kI 1) (vB 2))))⟩
    ⟨(@sQ ⟨(appF 1 (tupW (consL (bind2 moE (callV intD (consL (vB 3) a0)) (kI 14)) (consL (bind2 ixD (lstW (consL (kI 1) (consL (kI 2) (consL (kI 3) (consL (kI 4) (consL (kI 5) (consL (kI 6) (consL (kI 8) (consL (kI 9) (consL (kI 10) (consL (kI 12) a0))))))))))) (bind2 moE (callV intD (consL (bind2 fdE (vB 3) (kI 14)) a0)) (kI 10))) a0))))⟩
    ⟨nop⟩)⟩))⟩
  ⟨(@sQ ⟨(retF (callV tupleD (consL (vB 1) a0)))⟩
  ⟨nop⟩)⟩)⟩))

/-- _law_is_on(watch, night); slots [watch, night] -/
def S__law_is_on (c : Str → List D → Option D) : List D → Option D := runF 2 (
  (@sQ ⟨(retF (andV (bind2 (cmpI fGe) (vB 1) (bind2 ixD (vB 0) (kI 0))) (bind2 eqE (bind2 moE (callV intD (consL (bind2 subD (vB 1) (bind2 ixD (vB 0) (kI 0))) a0)) (bind2 ixD (vB 0) (kI 1))) (kI 0))))⟩
  ⟨nop⟩))

/-- _law_gcd(one, other); slots [one, other, turn, rest] -/
def S__law_gcd (c : Str → List D → Option D) : List D → Option D := runF 4 (
  (@sQ ⟨(fr (itR1 (kI 200)) (.nm 2)
    (@sQ ⟨(ifF (asB (bind2 eqE (vB 1) (kI 0)))
      (@sQ ⟨brk⟩
      ⟨nop⟩)
      nop)⟩
    ⟨(@sQ ⟨(asgF (.nm 3) (bind2 moE (callV intD (consL (vB 0) a0)) (vB 1)))⟩
    ⟨(@sQ ⟨(asgF (.nm 0) (vV 1))⟩
    ⟨(@sQ ⟨(asgF (.nm 1) (vV 3))⟩
    ⟨nop⟩)⟩)⟩)⟩))⟩
  ⟨(@sQ ⟨(retF (vV 0))⟩
  ⟨nop⟩)⟩))

/-- _law_round(watches); slots [watches, whole, first, every] -/
def S__law_round (c : Str → List D → Option D) : List D → Option D := runF 4 (
  (@sQ ⟨(asgF (.nm 1) (kI 1))⟩
  ⟨(@sQ ⟨(fr (itP (vV 0)) (.tp [(.nm 2), (.nm 3)])
    (@sQ ⟨(asgF (.nm 1) (callV intD (consL (bind2 fdE (bind2 muE (vB 1) (vB 3)) (callV (c "_law_gcd") (consL (vV 1) (consL (vV 3) a0)))) a0)))⟩
    ⟨nop⟩))⟩
  ⟨(@sQ ⟨(retF (vV 1))⟩
  ⟨nop⟩)⟩)⟩))

/-- _law_nights(watches, some, last); slots [watches, some, last, .0, night, k] -/
def S__law_nights (c : Str → List D → Option D) : List D → Option D := runF 6 (
  (@sQ ⟨(retF (lcW (itR1 (vB 2)) (.nm 4) (asB (bind2 eqE (lcW (itP (vB 1)) (.nm 5) (notT (asT (callV (c "_law_is_on") (consL (bind2 ixD (vB 0) (vB 5)) (consL (vV 4) a0))))) (vV 5) [3, 5]) (lstW a0))) (vV 4) [3, 4]))⟩
  ⟨nop⟩))

/-- _law_set(number, many); slots [number, many, .0, k] -/
def S__law_set (c : Str → List D → Option D) : List D → Option D := runF 4 (
  (@sQ ⟨(retF (callV tupleD (consL (lcW (itR1 (vB 1)) (.nm 3) (asB (bind2 eqE (bind2 moE (callV intD (consL (bind2 fdE (vB 0) (callV (c "_law_power") (consL (kI 2) (consL (vV 3) a0)))) a0)) (kI 2)) (kI 1))) (vV 3) [2, 3]) a0)))⟩
  ⟨nop⟩))

/-- _law_parting(watches, one, other); slots [watches, one, other, even, number] -/
def S__law_parting (c : Str → List D → Option D) : List D → Option D := runF 5 (
  (@sQ ⟨(asgF (.nm 3) (callV (c "_law_gcd") (consL (bind2 ixD (bind2 ixD (vB 0) (vB 1)) (kI 1)) (consL (bind2 ixD (bind2 ixD (vB 0) (vB 2)) (kI 1)) a0))))⟩
  ⟨(@sQ ⟨(fr (itR3 (vB 3) (kI 1) (negV (kI 1))) (.nm 4)
    (@sQ ⟨(ifF (andT (asB (bind2 eqE (bind2 moE (callV intD (consL (vB 3) a0)) (vB 4)) (kI 0))) (asB (bind2 neE (bind2 moE (callV intD (consL (bind2 ixD (bind2 ixD (vB 0) (vB 1)) (kI 0)) a0)) (vB 4)) (bind2 moE (callV intD (consL (bind2 ixD (bind2 ixD (vB 0) (vB 2)) (kI 0)) a0)) (vB 4)))))
      (@sQ ⟨(retF (vV 4))⟩
      ⟨nop⟩)
      nop)⟩
    ⟨nop⟩))⟩
  ⟨(@sQ ⟨(retF kN)⟩
  ⟨nop⟩)⟩)⟩))

/-- _law_two(watches, last); slots [watches, last, one, other, nights, due, number, value, fits] -/
def S__law_two (c : Str → List D → Option D) : List D → Option D := runF 9 (
  (@sQ ⟨(fr (itR1 (callV lenD (consL (vB 0) a0))) (.nm 2)
    (@sQ ⟨(fr (itR1 (callV lenD (consL (vB 0) a0))) (.nm 3)
      (@sQ ⟨(ifF (asB (bind2 neE (vB 2) (vB 3)))
        (@sQ ⟨(asgF (.nm 4) (callV (c "_law_nights") (consL (vV 0) (consL (tupW (consL (vV 2) (consL (vV 3) a0))) (consL (vV 1) a0)))))⟩
        ⟨(@sQ ⟨(asgF (.nm 5) kN)⟩
        ⟨(@sQ ⟨(ifF (asB (bind2 neE (vB 4) (lstW a0)))
          (@sQ ⟨(asgF (.nm 5) (bind2 ixD (vB 4) (kI 0)))⟩
          ⟨nop⟩)
          nop)⟩
        ⟨(@sQ ⟨(asgF (.nm 6) (callV (c "_law_parting") (consL (vV 0) (consL (vV 2) (consL (vV 3) a0)))))⟩
        ⟨(@sQ ⟨(ifF (asB (bind2 neE (bind2 isD (vB 5) kN) (bind2 isntD (vB 6) kN)))
          (@sQ ⟨(retF (kB false))⟩
          ⟨nop⟩)
          nop)⟩
        ⟨(@sQ ⟨(ifF (orT (notT (asT (callV (c "_law_same") (consL (callV (c "meeting") (consL (vV 0) (consL (vV 2) (consL (vV 3) a0)))) (consL (vV 5) a0))))) (notT (asT (callV (c "_law_same") (consL (callV (c "parting_of") (consL (vV 0) (consL (vV 2) (consL (vV 3) a0)))) (consL (vV 6) a0))))))
          (@sQ ⟨(retF (kB false))⟩
          ⟨nop⟩)
          nop)⟩
        ⟨(@sQ ⟨(fr (itR2 (negV (kI 1)) (kI 13)) (.nm 7)
          (@sQ ⟨(asgF (.nm 8) (andV (bind2 (cmpI fGt) (vB 7) (kI 1)) (andV (bind2 eqE (bind2 moE (callV intD (consL (bind2 ixD (bind2 ixD (vB 0) (vB 2)) (kI 1)) a0)) (callV maxD (consL (lstW (consL (vV 7) (consL (kI 1) a0))) a0))) (kI 0)) (bind2 eqE (bind2 moE (callV intD (consL (bind2 ixD (bind2 ixD (vB 0) (vB 3)) (kI 1)) a0)) (callV maxD (consL (lstW (consL (vV 7) (consL (kI 1) a0))) a0))) (kI 0)))))⟩
          ⟨(@sQ ⟨(asgF (.nm 8) (andV (vV 8) (bind2 neE (bind2 moE (callV intD (consL (bind2 subD (bind2 ixD (bind2 ixD (vB 0) (vB 2)) (kI 0)) (bind2 ixD (bind2 ixD (vB 0) (vB 3)) (kI 0))) a0)) (callV maxD (consL (lstW (consL (vV 7) (consL (kI 1) a0))) a0))) (kI 0))))⟩
          ⟨(@sQ ⟨(ifF (notT (asT (callV (c "_law_same") (consL (callV (c "is_parting") (consL (vV 0) (consL (vV 2) (consL (vV 3) (consL (vV 7) a0))))) (consL (vV 8) a0)))))
            (@sQ ⟨(retF (kB false))⟩
            ⟨nop⟩)
            nop)⟩
          ⟨nop⟩)⟩)⟩))⟩
        ⟨(@sQ ⟨(ifF (orT (asB (bind2 isntD (callV (c "is_parting") (consL (vV 0) (consL (vV 2) (consL (vV 3) (consL kN a0))))) (kB false))) (asB (bind2 isntD (callV (c "is_parting") (consL (vV 0) (consL (vV 2) (consL (vV 3) (consL (kB true) a0))))) (kB false))))
          (@sQ ⟨(retF (kB false))⟩
          ⟨nop⟩)
          nop)⟩
        ⟨nop⟩)⟩)⟩)⟩)⟩)⟩)⟩)⟩)
        nop)⟩
      ⟨nop⟩))⟩
    ⟨nop⟩))⟩
  ⟨(@sQ ⟨(retF (kB true))⟩
  ⟨nop⟩)⟩))

/-- law(script); slots [script, watches, many, value, whole, last, night, due, best, ends, number, some, nights, row, pairs, one, pair, first, until, shown, .0, k, other] -/
def S_law (c : Str → List D → Option D) : List D → Option D := runF 23 (
  (@sQ ⟨(asgF (.nm 1) (callV (c "_law_watches") (consL (callV (c "_law_numbers") (consL (vV 0) (consL (kI 0) (consL (kI 5) a0)))) a0)))⟩
  ⟨(@sQ ⟨(asgF (.nm 2) (callV lenD (consL (vB 1) a0)))⟩
  ⟨(@sQ ⟨(ifF (orT (asB (bind2 isntD (callV (c "is_watches") (consL (vV 1) a0)) (kB true))) (orT (asB (bind2 isntD (callV (c "is_watches") (consL (callV (c "_law_listed") (consL (vV 1) a0)) a0)) (kB true))) (asB (bind2 isntD (callV (c "is_watches") (consL (bind2 muE (tupW (consL (tupW (consL (kI 99) (consL (kI 60) a0))) a0)) (kI 8)) a0)) (kB true)))))
    (@sQ ⟨(retF (kB false))⟩
    ⟨nop⟩)
    nop)⟩
  ⟨(@sQ ⟨(fr (itP (lstW (consL kN (consL (kI 7) (consL (tupW a0) (consL (bind2 muE (vB 1) (kI 9)) (consL (tupW (consL (tupW (consL (kI 0) (consL (kI 0) a0))) a0)) (consL (tupW (consL (tupW (consL (kI 0) (consL (kI 61) a0))) a0)) (consL (tupW (consL (tupW (consL (kI 100) (consL (kI 1) a0))) a0)) (consL (tupW (consL (tupW (consL (negV (kI 1)) (consL (kI 1) a0))) a0)) (consL (tupW (consL (tupW (consL (kI 0) a0)) a0)) (consL (tupW (consL (tupW (consL (kB true) (consL (kI 1) a0))) a0)) a0)))))))))))) (.nm 3)
    (@sQ ⟨(ifF (asB (bind2 isntD (callV (c "is_watches") (consL (vV 3) a0)) (kB false)))
      (@sQ ⟨(retF (kB false))⟩
      ⟨nop⟩)
      nop)⟩
    ⟨nop⟩))⟩
  ⟨(@sQ ⟨(asgF (.nm 4) (callV (c "_law_round") (consL (vV 1) a0)))⟩
  ⟨(@sQ ⟨(asgF (.nm 5) (bind2 adE (kI 14) (vB 4)))⟩
  ⟨(@sQ ⟨(ifF (orT (notT (asT (callV (c "_law_same") (consL (callV (c "round_of") (consL (vV 1) a0)) (consL (vV 4) a0))))) (notT (asT (callV (c "_law_two") (consL (vV 1) (consL (vV 5) a0))))))
    (@sQ ⟨(retF (kB false))⟩
    ⟨nop⟩)
    nop)⟩
  ⟨(@sQ ⟨(fr (itP (lstW (consL (kI 0) (consL (kI 1) (consL (kI 5) (consL (kI 13) (consL (kI 14) (consL (bind2 adE (kI 14) (bind2 moE (callV intD (consL (callV (c "_law_cell") (consL (vV 0) (consL (kI 1) a0))) a0)) (kI 400))) (consL (kI 100000) a0))))))))) (.nm 6)
    (@sQ ⟨(asgF (.nm 7) (callV tupleD (consL (lcW (itR1 (vB 2)) (.nm 21) (asT (callV (c "_law_is_on") (consL (bind2 ixD (vB 1) (vB 21)) (consL (vV 6) a0)))) (vV 21) [20, 21]) a0)))⟩
    ⟨(@sQ ⟨(ifF (orT (notT (asT (callV (c "_law_same") (consL (callV (c "on") (consL (vV 1) (consL (vV 6) a0))) (consL (vV 7) a0))))) (notT (asT (callV (c "_law_same") (consL (callV (c "on") (consL (callV (c "_law_listed") (consL (vV 1) a0)) (consL (vV 6) a0))) (consL (vV 7) a0))))))
      (@sQ ⟨(retF (kB false))⟩
      ⟨nop⟩)
      nop)⟩
    ⟨nop⟩)⟩))⟩
  ⟨(@sQ ⟨(asgF (.nm 8) kN)⟩
  ⟨(@sQ ⟨(asgF (.nm 9) (callV (c "_law_numbers") (consL (vV 0) (consL (kI 2) (consL (kI 2) a0)))))⟩
  ⟨(@sQ ⟨(fr (itR2 (kI 1) (callV (c "_law_power") (consL (kI 2) (consL (vV 2) a0)))) (.nm 10)
    (@sQ ⟨(asgF (.nm 11) (callV (c "_law_set") (consL (vV 10) (consL (vV 2) a0))))⟩
    ⟨(@sQ ⟨(asgF (.nm 12) (callV (c "_law_nights") (consL (vV 1) (consL (vV 11) (consL (vV 5) a0)))))⟩
    ⟨(@sQ ⟨(asgF (.nm 7) kN)⟩
    ⟨(@sQ ⟨(ifF (asB (bind2 neE (vB 12) (lstW a0)))
      (@sQ ⟨(asgF (.nm 7) (bind2 ixD (vB 12) (kI 0)))⟩
      ⟨(@sQ ⟨(asgF (.nm 13) (tupW (consL (bind2 subD (kI 0) (callV lenD (consL (vB 11) a0))) (consL (vV 11) (consL (vV 7) a0)))))⟩
      ⟨(@sQ ⟨(ifF (orT (asB (bind2 isD (vB 8) kN)) (asB (bind2 ltE (vB 13) (vB 8))))
        (@sQ ⟨(asgF (.nm 8) (vV 13))⟩
        ⟨nop⟩)
        nop)⟩
      ⟨nop⟩)⟩)⟩)
      nop)⟩
    ⟨(@sQ ⟨(asgF (.nm 14) (lstW a0))⟩
    ⟨(@sQ ⟨(fr (itP (vV 11)) (.nm 15)
      (@sQ ⟨(asgF (.nm 14) (bind2 adE (vB 14) (lcW (itP (vB 11)) (.nm 22) (andT (asB (bind2 ltE (vB 15) (vB 22))) (asB (bind2 eqE (callV (c "_law_nights") (consL (vV 1) (consL (tupW (consL (vV 15) (consL (vV 22) a0))) (consL (vV 5) a0)))) (lstW a0)))) (tupW (consL (vV 15) (consL (vV 22) a0))) [20, 22])))⟩
      ⟨nop⟩))⟩
    ⟨(@sQ ⟨(asgF (.nm 16) kN)⟩
    ⟨(@sQ ⟨(ifF (asB (bind2 neE (vB 14) (lstW a0)))
      (@sQ ⟨(asgF (.nm 16) (bind2 ixD (vB 14) (kI 0)))⟩
      ⟨nop⟩)
      nop)⟩
    ⟨(@sQ ⟨(ifF (orT (asB (bind2 neE (bind2 isD (vB 7) kN) (bind2 isntD (vB 16) kN))) (orT (notT (asT (callV (c "_law_same") (consL (callV (c "together") (consL (vV 1) (consL (vV 11) a0))) (consL (vV 7) a0))))) (notT (asT (callV (c "_law_same") (consL (callV (c "apart_of") (consL (vV 1) (consL (callV listD (consL (vB 11) a0)) a0))) (consL (vV 16) a0)))))))
      (@sQ ⟨(retF (kB false))⟩
      ⟨nop⟩)
      nop)⟩
    ⟨(@sQ ⟨(asgF (.nm 17) (bind2 moE (callV intD (consL (bind2 ixD (vB 9) (kI 0)) a0)) (kI 30)))⟩
    ⟨(@sQ ⟨(asgF (.nm 18) (bind2 adE (vB 17) (bind2 moE (callV intD (consL (bind2 ixD (vB 9) (kI 1)) a0)) (kI 90))))⟩
    ⟨(@sQ ⟨(asgF (.nm 19) (lcW (itR2 (vB 17) (bind2 adE (vB 18) (kI 1))) (.nm 6) (asB (bind2 eqE (lcW (itP (vB 11)) (.nm 21) (notT (asT (callV (c "_law_is_on") (consL (bind2 ixD (vB 1) (vB 21)) (consL (vV 6) a0))))) (vV 21) [20, 21]) (lstW a0))) (vV 6) [20, 6]))⟩
    ⟨(@sQ ⟨(ifF (notT (asT (callV (c "_law_same") (consL (callV (c "counted") (consL (vV 1) (consL (vV 11) (consL (vV 17) (consL (vV 18) a0))))) (consL (callV lenD (consL (vB 19) a0)) a0)))))
      (@sQ ⟨(retF (kB false))⟩
      ⟨nop⟩)
      nop)⟩
    ⟨(@sQ ⟨(ifF (andT (asB (bind2 isntD (vB 7) kN)) (notT (asT (callV (c "_law_same") (consL (callV (c "counted") (consL (vV 1) (consL (vV 11) (consL (kI 14) (consL (bind2 adE (kI 13) (vB 4)) a0))))) (consL (callV intD (consL (bind2 fdE (vB 4) (callV (c "_law_round") (consL (lcW (itP (vB 11)) (.nm 21) tY (bind2 ixD (vB 1) (vB 21)) [20, 21]) a0))) a0)) a0))))))
      (@sQ ⟨(retF (kB false))⟩
      ⟨nop⟩)
      nop)⟩
    ⟨nop⟩)⟩)⟩)⟩)⟩)⟩)⟩)⟩)⟩)⟩)⟩)⟩)⟩)⟩))⟩
  ⟨(@sQ ⟨(retF (callV (c "_law_same") (consL (callV (c "fullest") (consL (vV 1) a0)) (consL (tupW (consL (bind2 ixD (vB 8) (kI 1)) (consL (bind2 ixD (vB 8) (kI 2)) a0))) a0))))⟩
  ⟨nop⟩)⟩)⟩)⟩)⟩)⟩)⟩)⟩)⟩)⟩)⟩)⟩))


theorem sh_need (k : Nat) : callD fn free (k + 1) "need" = S_need (callD fn free k) := by kernel_rfl
theorem sh_is_seq (k : Nat) : callD fn free (k + 1) "is_seq" = S_is_seq (callD fn free k) := by kernel_rfl
theorem sh_is_long (k : Nat) : callD fn free (k + 1) "is_long" = S_is_long (callD fn free k) := by kernel_rfl
theorem sh_is_int (k : Nat) : callD fn free (k + 1) "is_int" = S_is_int (callD fn free k) := by kernel_rfl
theorem sh_is_from (k : Nat) : callD fn free (k + 1) "is_from" = S_is_from (callD fn free k) := by kernel_rfl
theorem sh_is_set (k : Nat) : callD fn free (k + 1) "is_set" = S_is_set (callD fn free k) := by kernel_rfl
theorem sh_is_some (k : Nat) : callD fn free (k + 1) "is_some" = S_is_some (callD fn free k) := by kernel_rfl
theorem sh_plain (k : Nat) : callD fn free (k + 1) "plain" = S_plain (callD fn free k) := by kernel_rfl
theorem sh_is_watch (k : Nat) : callD fn free (k + 1) "is_watch" = S_is_watch (callD fn free k) := by kernel_rfl
theorem sh_is_watches (k : Nat) : callD fn free (k + 1) "is_watches" = S_is_watches (callD fn free k) := by kernel_rfl
theorem sh_need_watches (k : Nat) : callD fn free (k + 1) "need_watches" = S_need_watches (callD fn free k) := by kernel_rfl
theorem sh_need_two (k : Nat) : callD fn free (k + 1) "need_two" = S_need_two (callD fn free k) := by kernel_rfl
theorem sh_is_night (k : Nat) : callD fn free (k + 1) "is_night" = S_is_night (callD fn free k) := by kernel_rfl
theorem sh_stands (k : Nat) : callD fn free (k + 1) "stands" = S_stands (callD fn free k) := by kernel_rfl
theorem sh_on_at (k : Nat) : callD fn free (k + 1) "on_at" = S_on_at (callD fn free k) := by kernel_rfl
theorem sh_on (k : Nat) : callD fn free (k + 1) "on" = S_on (callD fn free k) := by kernel_rfl
theorem sh_nights_round (k : Nat) : callD fn free (k + 1) "nights_round" = S_nights_round (callD fn free k) := by kernel_rfl
theorem sh_round_of (k : Nat) : callD fn free (k + 1) "round_of" = S_round_of (callD fn free k) := by kernel_rfl
theorem sh_joint (k : Nat) : callD fn free (k + 1) "joint" = S_joint (callD fn free k) := by kernel_rfl
theorem sh_joint_of (k : Nat) : callD fn free (k + 1) "joint_of" = S_joint_of (callD fn free k) := by kernel_rfl
theorem sh_meeting (k : Nat) : callD fn free (k + 1) "meeting" = S_meeting (callD fn free k) := by kernel_rfl
theorem sh_divides (k : Nat) : callD fn free (k + 1) "divides" = S_divides (callD fn free k) := by kernel_rfl
theorem sh_is_parting (k : Nat) : callD fn free (k + 1) "is_parting" = S_is_parting (callD fn free k) := by kernel_rfl
theorem sh_parting_of (k : Nat) : callD fn free (k + 1) "parting_of" = S_parting_of (callD fn free k) := by kernel_rfl
theorem sh_together (k : Nat) : callD fn free (k + 1) "together" = S_together (callD fn free k) := by kernel_rfl
theorem sh_apart_of (k : Nat) : callD fn free (k + 1) "apart_of" = S_apart_of (callD fn free k) := by kernel_rfl
theorem sh_nights_to (k : Nat) : callD fn free (k + 1) "nights_to" = S_nights_to (callD fn free k) := by kernel_rfl
theorem sh_counted (k : Nat) : callD fn free (k + 1) "counted" = S_counted (callD fn free k) := by kernel_rfl
theorem sh_fullest (k : Nat) : callD fn free (k + 1) "fullest" = S_fullest (callD fn free k) := by kernel_rfl
theorem sh_first_together (k : Nat) : callD fn free (k + 1) "first_together" = S_first_together (callD fn free k) := by kernel_rfl
theorem sh__law_power (k : Nat) : callD fn free (k + 1) "_law_power" = S__law_power (callD fn free k) := by kernel_rfl
theorem sh__law_cell (k : Nat) : callD fn free (k + 1) "_law_cell" = S__law_cell (callD fn free k) := by kernel_rfl
theorem sh__law_numbers (k : Nat) : callD fn free (k + 1) "_law_numbers" = S__law_numbers (callD fn free k) := by kernel_rfl
theorem sh__law_same (k : Nat) : callD fn free (k + 1) "_law_same" = S__law_same (callD fn free k) := by kernel_rfl
theorem sh__law_listed (k : Nat) : callD fn free (k + 1) "_law_listed" = S__law_listed (callD fn free k) := by kernel_rfl
theorem sh__law_watches (k : Nat) : callD fn free (k + 1) "_law_watches" = S__law_watches (callD fn free k) := by kernel_rfl
theorem sh__law_is_on (k : Nat) : callD fn free (k + 1) "_law_is_on" = S__law_is_on (callD fn free k) := by kernel_rfl
theorem sh__law_gcd (k : Nat) : callD fn free (k + 1) "_law_gcd" = S__law_gcd (callD fn free k) := by kernel_rfl
theorem sh__law_round (k : Nat) : callD fn free (k + 1) "_law_round" = S__law_round (callD fn free k) := by kernel_rfl
theorem sh__law_nights (k : Nat) : callD fn free (k + 1) "_law_nights" = S__law_nights (callD fn free k) := by kernel_rfl
theorem sh__law_set (k : Nat) : callD fn free (k + 1) "_law_set" = S__law_set (callD fn free k) := by kernel_rfl
theorem sh__law_parting (k : Nat) : callD fn free (k + 1) "_law_parting" = S__law_parting (callD fn free k) := by kernel_rfl
theorem sh__law_two (k : Nat) : callD fn free (k + 1) "_law_two" = S__law_two (callD fn free k) := by kernel_rfl
theorem sh_law (k : Nat) : callD fn free (k + 1) "law" = S_law (callD fn free k) := by kernel_rfl
class All (C : Cf) : Prop where
  a_need : Sh C "need" S_need
  a_is_seq : Sh C "is_seq" S_is_seq
  a_is_long : Sh C "is_long" S_is_long
  a_is_int : Sh C "is_int" S_is_int
  a_is_from : Sh C "is_from" S_is_from
  a_is_set : Sh C "is_set" S_is_set
  a_is_some : Sh C "is_some" S_is_some
  a_plain : Sh C "plain" S_plain
  a_is_watch : Sh C "is_watch" S_is_watch
  a_is_watches : Sh C "is_watches" S_is_watches
  a_need_watches : Sh C "need_watches" S_need_watches
  a_need_two : Sh C "need_two" S_need_two
  a_is_night : Sh C "is_night" S_is_night
  a_stands : Sh C "stands" S_stands
  a_on_at : Sh C "on_at" S_on_at
  a_on : Sh C "on" S_on
  a_nights_round : Sh C "nights_round" S_nights_round
  a_round_of : Sh C "round_of" S_round_of
  a_joint : Sh C "joint" S_joint
  a_joint_of : Sh C "joint_of" S_joint_of
  a_meeting : Sh C "meeting" S_meeting
  a_divides : Sh C "divides" S_divides
  a_is_parting : Sh C "is_parting" S_is_parting
  a_parting_of : Sh C "parting_of" S_parting_of
  a_together : Sh C "together" S_together
  a_apart_of : Sh C "apart_of" S_apart_of
  a_nights_to : Sh C "nights_to" S_nights_to
  a_counted : Sh C "counted" S_counted
  a_fullest : Sh C "fullest" S_fullest
  a_first_together : Sh C "first_together" S_first_together
  a__law_power : Sh C "_law_power" S__law_power
  a__law_cell : Sh C "_law_cell" S__law_cell
  a__law_numbers : Sh C "_law_numbers" S__law_numbers
  a__law_same : Sh C "_law_same" S__law_same
  a__law_listed : Sh C "_law_listed" S__law_listed
  a__law_watches : Sh C "_law_watches" S__law_watches
  a__law_is_on : Sh C "_law_is_on" S__law_is_on
  a__law_gcd : Sh C "_law_gcd" S__law_gcd
  a__law_round : Sh C "_law_round" S__law_round
  a__law_nights : Sh C "_law_nights" S__law_nights
  a__law_set : Sh C "_law_set" S__law_set
  a__law_parting : Sh C "_law_parting" S__law_parting
  a__law_two : Sh C "_law_two" S__law_two
  a_law : Sh C "law" S_law
section
variable {C : Cf} [All C]
theorem s_need : Sh C "need" S_need := All.a_need
theorem s_is_seq : Sh C "is_seq" S_is_seq := All.a_is_seq
theorem s_is_long : Sh C "is_long" S_is_long := All.a_is_long
theorem s_is_int : Sh C "is_int" S_is_int := All.a_is_int
theorem s_is_from : Sh C "is_from" S_is_from := All.a_is_from
theorem s_is_set : Sh C "is_set" S_is_set := All.a_is_set
theorem s_is_some : Sh C "is_some" S_is_some := All.a_is_some
theorem s_plain : Sh C "plain" S_plain := All.a_plain
theorem s_is_watch : Sh C "is_watch" S_is_watch := All.a_is_watch
theorem s_is_watches : Sh C "is_watches" S_is_watches := All.a_is_watches
theorem s_need_watches : Sh C "need_watches" S_need_watches := All.a_need_watches
theorem s_need_two : Sh C "need_two" S_need_two := All.a_need_two
theorem s_is_night : Sh C "is_night" S_is_night := All.a_is_night
theorem s_stands : Sh C "stands" S_stands := All.a_stands
theorem s_on_at : Sh C "on_at" S_on_at := All.a_on_at
theorem s_on : Sh C "on" S_on := All.a_on
theorem s_nights_round : Sh C "nights_round" S_nights_round := All.a_nights_round
theorem s_round_of : Sh C "round_of" S_round_of := All.a_round_of
theorem s_joint : Sh C "joint" S_joint := All.a_joint
theorem s_joint_of : Sh C "joint_of" S_joint_of := All.a_joint_of
theorem s_meeting : Sh C "meeting" S_meeting := All.a_meeting
theorem s_divides : Sh C "divides" S_divides := All.a_divides
theorem s_is_parting : Sh C "is_parting" S_is_parting := All.a_is_parting
theorem s_parting_of : Sh C "parting_of" S_parting_of := All.a_parting_of
theorem s_together : Sh C "together" S_together := All.a_together
theorem s_apart_of : Sh C "apart_of" S_apart_of := All.a_apart_of
theorem s_nights_to : Sh C "nights_to" S_nights_to := All.a_nights_to
theorem s_counted : Sh C "counted" S_counted := All.a_counted
theorem s_fullest : Sh C "fullest" S_fullest := All.a_fullest
theorem s_first_together : Sh C "first_together" S_first_together := All.a_first_together
theorem s__law_power : Sh C "_law_power" S__law_power := All.a__law_power
theorem s__law_cell : Sh C "_law_cell" S__law_cell := All.a__law_cell
theorem s__law_numbers : Sh C "_law_numbers" S__law_numbers := All.a__law_numbers
theorem s__law_same : Sh C "_law_same" S__law_same := All.a__law_same
theorem s__law_listed : Sh C "_law_listed" S__law_listed := All.a__law_listed
theorem s__law_watches : Sh C "_law_watches" S__law_watches := All.a__law_watches
theorem s__law_is_on : Sh C "_law_is_on" S__law_is_on := All.a__law_is_on
theorem s__law_gcd : Sh C "_law_gcd" S__law_gcd := All.a__law_gcd
theorem s__law_round : Sh C "_law_round" S__law_round := All.a__law_round
theorem s__law_nights : Sh C "_law_nights" S__law_nights := All.a__law_nights
theorem s__law_set : Sh C "_law_set" S__law_set := All.a__law_set
theorem s__law_parting : Sh C "_law_parting" S__law_parting := All.a__law_parting
theorem s__law_two : Sh C "_law_two" S__law_two := All.a__law_two
theorem s_law : Sh C "law" S_law := All.a_law
end
theorem all_fn : All (fun k => callD fn free k) := ⟨sh_need, sh_is_seq, sh_is_long, sh_is_int, sh_is_from, sh_is_set, sh_is_some, sh_plain, sh_is_watch, sh_is_watches, sh_need_watches, sh_need_two, sh_is_night, sh_stands, sh_on_at, sh_on, sh_nights_round, sh_round_of, sh_joint, sh_joint_of, sh_meeting, sh_divides, sh_is_parting, sh_parting_of, sh_together, sh_apart_of, sh_nights_to, sh_counted, sh_fullest, sh_first_together, sh__law_power, sh__law_cell, sh__law_numbers, sh__law_same, sh__law_listed, sh__law_watches, sh__law_is_on, sh__law_gcd, sh__law_round, sh__law_nights, sh__law_set, sh__law_parting, sh__law_two, sh_law⟩
end K43
namespace K43
open PySem PySem.Spec PyProof.Rows L2 PL
def wD (p : Int × Int) : D := .t [.i p.1, .i p.2]
def wL (p : Int × Int) : D := .l [.i p.1, .i p.2]
def wsD (ws : List (Int × Int)) : D := .t (ws.map wD)
def wsL (ws : List (Int × Int)) : D := .l (ws.map wL)
def wsQ (l : Bool) (ws : List (Int × Int)) : D := if l = true then wsL ws else wsD ws
@[simp] theorem wsQ_f (ws : List (Int × Int)) : wsQ false ws = wsD ws := rfl
@[simp] theorem bind_w (p : Int × Int) (ts : List Tg) (env : List Cell) : bindT (.tp ts) (wD p) env = bindTs ts [.i p.1, .i p.2] env := by rw [wD, bindT_tp]
@[simp] theorem ix_w0 (p : Int × Int) : ixD (wD p) (.i 0) = some (.i p.1) := by simp [wD]
@[simp] theorem ix_w1 (p : Int × Int) : ixD (wD p) (.i 1) = some (.i p.2) := by simp [wD]
@[simp] theorem len_ws (ws : List (Int × Int)) : PL.lenD [wsD ws] = some (.i ws.length) := by simp [wsD]
@[simp] theorem seq_ws (ws : List (Int × Int)) : PL.seqD (wsD ws) = some (ws.map wD) := rfl
@[simp] theorem walk_ws (ws : List (Int × Int)) : PL.walkD (wsD ws) = some (ws.map wD) := rfl
def wk (ws : List (Int × Int)) (k : Nat) : Int × Int := ws.getD k (0, 1)
theorem ix_ws {ws : List (Int × Int)} {k : Nat} (h : k < ws.length) : ixD (wsD ws) (.i k) = some (wD (wk ws k)) := by
  show ixD (.t (ws.map wD)) _ = _
  rw [ixD_t, atI_mapS h, wk]
  simp [List.getD, h]
def watchB (d : D) : Bool := longB d 2 2 && (fromB (ndx d 0) 0 99 && fromB (ndx d 1) 1 60)
def watchesB (d : D) : Bool := longB d 1 8 && (mem d).all watchB
structure Ws (ws : List (Int × Int)) : Prop where
  n1 : 1 ≤ ws.length
  n2 : ws.length ≤ 8
  d : ∀ p ∈ ws, (0 ≤ p.1 ∧ p.1 ≤ 99) ∧ 1 ≤ p.2 ∧ p.2 ≤ 60
section
variable {C : Cf} [All C] {k : Nat}
theorem c_seq {d : D} (h : calm d = true) : C (k + 1) "is_seq" [d] = some (.b (isSq d)) := seq_d s_is_seq h
theorem c_int {d : D} (h : calm d = true) : C (k + 1) "is_int" [d] = some (.b (isIn d)) := int_d s_is_int h
theorem c_long {d : D} {lo hi : Int} (h : calm d = true) : C (k + 2) "is_long" [d, .i lo, .i hi] = some (.b (longB d lo hi)) := long_d s_is_seq s_is_long h
theorem c_from {d : D} {lo hi : Int} (h : calm d = true) : C (k + 2) "is_from" [d, .i lo, .i hi] = some (.b (fromB d lo hi)) := from_d s_is_int s_is_from h
theorem c_need {d : D} : C (k + 1) "need" [.b true, d] = some .n := need_d s_need
theorem c_watch {n : Nat} {d : D} (h : fin (n + 1) d = true) : C (k + 3) "is_watch" [d] = some (.b (watchB d)) := s_is_watch.run (by
  have e1 := c_long (C := C) (k := k) (lo := 2) (hi := 2) (fin_calm h)
  unfold watchB
  cases hb : longB d 2 2 with
  | false => simp -implicitDefEqProofs [-ixD, -seqD, -walkD, -allD, -anyD, -sumD, -maxD, -minD, -minTD, -rng1, -rng2, -rng3, -List.head?_filter, -isTys, -lenD, S_is_watch, e1, hb]
  | true =>
    obtain ⟨hs, hl⟩ := long_2 hb
    have e2 := ixD_n0 hs (by omega)
    have e3 := ixD_n1 hs (by omega)
    have e4 := c_from (C := C) (k := k) (lo := 0) (hi := 99) (fin_calm (fin_nth h 0))
    have e5 := c_from (C := C) (k := k) (lo := 1) (hi := 60) (fin_calm (fin_nth h 1))
    cases h4 : fromB (ndx d 0) 0 99 with
    | false => simp -implicitDefEqProofs [-ixD, -seqD, -walkD, -allD, -anyD, -sumD, -maxD, -minD, -minTD, -rng1, -rng2, -rng3, -List.head?_filter, -isTys, -lenD, S_is_watch, e1, hb, e2, e3, e4, h4]
    | true => simp -implicitDefEqProofs [-ixD, -seqD, -walkD, -allD, -anyD, -sumD, -maxD, -minD, -minTD, -rng1, -rng2, -rng3, -List.head?_filter, -isTys, -lenD, S_is_watch, e1, hb, e2, e3, e4, h4, e5])
theorem c_watches {n : Nat} {d : D} (h : fin (n + 2) d = true) : C (k + 4) "is_watches" [d] = some (.b (watchesB d)) := s_is_watches.run (by
  have e1 := c_long (C := C) (k := k + 1) (lo := 1) (hi := 8) (fin_calm h)
  unfold watchesB
  cases hb : longB d 1 8 with
  | false => simp -implicitDefEqProofs [-ixD, -seqD, -walkD, -allD, -anyD, -sumD, -maxD, -minD, -minTD, -rng1, -rng2, -rng3, -List.head?_filter, -isTys, -lenD, S_is_watches, e1, hb]
  | true =>
    have hs2 := (longB_iff.mp hb).1
    simp -implicitDefEqProofs [-ixD, -seqD, -walkD, -allD, -anyD, -sumD, -maxD, -minD, -minTD, -rng1, -rng2, -rng3, -List.head?_filter, -isTys, -lenD, S_is_watches, e1, hb, walk_mem hs2, compD_id]
    rw [compM_all (fun x => D.b (watchB x)) (fun _ _ => rfl) fun a ha => by have := c_watch (C := C) (k := k) (fin_mem h a ha); simpa using this]
    simp -implicitDefEqProofs [-ixD, -seqD, -walkD, -allD, -anyD, -sumD, -maxD, -minD, -minTD, -rng1, -rng2, -rng3, -List.head?_filter, -isTys, -lenD, mkL_map (sz_le (fin_len h)), allD_map])
variable {ws : List (Int × Int)}
theorem fin_w (m : Nat) (p : Int × Int) : fin (m + 1) (wD p) = true := fin_ts (by simp) (by simp)
theorem fin_wL (m : Nat) (p : Int × Int) : fin (m + 1) (wL p) = true := fin_ls (by simp) (by simp)
theorem fin_wsQ (m : Nat) (l : Bool) (h : ws.length ≤ 1000) : fin (m + 2) (wsQ l ws) = true := by
  cases l
  · exact fin_mapT (fun p _ => fin_w m p) (by omega)
  · exact fin_map (fun p _ => fin_wL m p) (by omega)
theorem watches_ws (o : Ws ws) (l : Bool) : watchesB (wsQ l ws) = true := by
  have h3 := o.n1; have h4 := o.n2
  cases l
  · simp [watchesB, wsQ, wsD]
    refine ⟨by omega, fun a b hp => ?_⟩
    have := o.d _ hp
    simp [watchB, wD]
    omega
  · simp [watchesB, wsQ, wsL]
    refine ⟨by omega, fun a b hp => ?_⟩
    have := o.d _ hp
    simp [watchB, wL]
    omega
theorem pl_wsQ (l : Bool) : plD (wsQ l ws) = wsD ws := by
  cases l
  · have : plDs (ws.map wD) = ws.map wD := by
      rw [plDs_map, List.map_map]
      exact List.map_congr_left fun p _ => by simp [wD, plD, plDs]
    simp [wsQ, wsD, plD, this]
  · have : plDs (ws.map wL) = ws.map wD := by
      rw [plDs_map, List.map_map]
      exact List.map_congr_left fun p _ => by simp [wD, wL, plD, plDs]
    simp [wsQ, wsD, wsL, plD, this]
theorem li_ws : liD (wsD ws) = wsQ true ws := by
  have : liDs (ws.map wD) = ws.map wL := by
    rw [liDs_map, List.map_map]
    exact List.map_congr_left fun p _ => by simp [wD, wL, liD, liDs]
  simp [wsQ, wsD, wsL, liD, this]
theorem c_nw (o : Ws ws) (l : Bool) : C (k + 5) "need_watches" [wsQ l ws] = some (wsD ws) := s_need_watches.run (by
  have hn := o.n2
  have hf : fin 2 (wsQ l ws) = true := fin_wsQ 0 l (by omega)
  have e1 := c_watches (C := C) (k := k) (n := 0) hf
  have e2 := plain_d (C := C) s_is_seq s_plain 2 k _ hf
  rw [watches_ws o l] at e1
  rw [pl_wsQ l] at e2
  rw [show k + 2 + 2 = k + 4 by omega] at e2
  simp -implicitDefEqProofs [-ixD, -seqD, -walkD, -allD, -anyD, -sumD, -maxD, -minD, -minTD, -rng1, -rng2, -rng3, -List.head?_filter, -isTys, -lenD, S_need_watches, e1, c_need (C := C), e2])
/-! ### nights -/
def onB (w : Int × Int) (n : Int) : Bool := decide (w.1 ≤ n) && decide ((n - w.1) % w.2 = 0)
theorem c_stands {w : Int × Int} {n : Int} (h : 0 < w.2) : C (k + 1) "stands" [wD w, .i n] = some (.b (onB w n)) := s_stands.run (by
  simp -implicitDefEqProofs [-ixD, -seqD, -walkD, -allD, -anyD, -sumD, -maxD, -minD, -minTD, -rng1, -rng2, -rng3, -List.head?_filter, -isTys, -lenD, S_stands, moE_ok h, onB]
  split <;> simp [*])
theorem c_lon {w : Int × Int} {n : Int} (h : 0 < w.2) : C (k + 1) "_law_is_on" [wD w, .i n] = some (.b (onB w n)) := s__law_is_on.run (by
  simp -implicitDefEqProofs [-ixD, -seqD, -walkD, -allD, -anyD, -sumD, -maxD, -minD, -minTD, -rng1, -rng2, -rng3, -List.head?_filter, -isTys, -lenD, S__law_is_on, moE_ok h, onB]
  split <;> simp [*])
def rowAt (ws : List (Int × Int)) (n : Int) : List Nat := (List.range ws.length).filter fun k => onB (wk ws k) n
end
end K43
namespace K43
open PySem PySem.Spec PyProof.Rows L2 PL
/-! ### gcd by turns -/
theorem gcd_turn {x y : Nat} (h : 0 < y) (hl : y < x) {z m : Nat} (hp : x * y * m ≤ z) : x % y < y ∧ y * (x % y) * (2 * m) ≤ z := by
  have h1 := Nat.mod_lt x h
  refine ⟨h1, Nat.le_trans ?_ hp⟩
  have h2 : x % y + y ≤ x := by
    have h3 := Nat.div_add_mod x y
    have h4 : 1 ≤ x / y := Nat.div_pos (by omega) h
    have h5 : y * 1 ≤ y * (x / y) := Nat.mul_le_mul_left _ h4
    omega
  have h6 : y * (x % y) * (2 * m) = (2 * (x % y)) * y * m := by
    rw [Nat.mul_comm 2 m, ← Nat.mul_assoc, Nat.mul_comm y, Nat.mul_right_comm _ m 2, Nat.mul_comm _ 2, ← Nat.mul_assoc]
  rw [h6]
  exact Nat.mul_le_mul_right _ (Nat.mul_le_mul_right _ (by omega))
section
variable {C : Cf} [All C] {k : Nat}
def GcP (a b : Nat) (i : Nat) (env : List Cell) : Prop := ∃ (x y : Nat) (c1 c2 : Cell), env = [.v (.i x), .v (.i y), c1, c2] ∧ Nat.gcd x y = Nat.gcd a b ∧ (i = 0 → x = a ∧ y = b) ∧ (0 < i → y < x ∧ x * y * 2 ^ (i - 1) ≤ a * b)
theorem c_gcd {a b : Nat} (hab : a * b < 2 ^ 100) : C (k + 1) "_law_gcd" [.i (a : Nat), .i (b : Nat)] = some (.i ((Nat.gcd a b : Nat) : Int)) := s__law_gcd.run (run_of (by
  simp -implicitDefEqProofs [-ixD, -seqD, -walkD, -allD, -anyD, -sumD, -maxD, -minD, -minTD, -rng1, -rng2, -rng3, -List.head?_filter, -isTys, -lenD]
  refine Wf_frr 0 200 (GcP a b) (by simp -implicitDefEqProofs [-ixD, -seqD, -walkD, -allD, -anyD, -sumD, -maxD, -minD, -minTD, -rng1, -rng2, -rng3, -List.head?_filter, -isTys, -lenD]; rfl) ⟨a, b, _, _, rfl, rfl, fun _ => ⟨rfl, rfl⟩, fun h => absurd h (Nat.lt_irrefl _)⟩ ?_ ?_
  · rintro i hi env ⟨x, y, c1, c2, rfl, e, e0, e1⟩
    by_cases hy : y = 0
    · subst hy
      simp -implicitDefEqProofs [-ixD, -seqD, -walkD, -allD, -anyD, -sumD, -maxD, -minD, -minTD, -rng1, -rng2, -rng3, -List.head?_filter, -isTys, -lenD]
      rw [Nat.gcd_zero_right] at e
      rw [e]
    · have hy' : (0 : Int) < y := by omega
      simp -implicitDefEqProofs [-ixD, -seqD, -walkD, -allD, -anyD, -sumD, -maxD, -minD, -minTD, -rng1, -rng2, -rng3, -List.head?_filter, -isTys, -lenD, moE_ok hy']
      refine ⟨fun h => absurd h hy, fun _ => ⟨y, x % y, .v (.i i), .v (.i ((x : Int) % y)), by simp, ?_, fun h => absurd h (by omega), fun _ => ?_⟩⟩
      · rw [Nat.gcd_comm y, ← Nat.gcd_rec, Nat.gcd_comm, e]
      · by_cases h0 : i = 0
        · obtain ⟨rfl, rfl⟩ := e0 h0
          subst h0
          refine ⟨Nat.mod_lt _ (by omega), ?_⟩
          rw [Nat.sub_self, Nat.pow_zero, Nat.mul_one, Nat.mul_comm]
          exact Nat.mul_le_mul_right _ (Nat.mod_le _ _)
        · obtain ⟨h1, h2⟩ := e1 (by omega)
          obtain ⟨h3, h4⟩ := gcd_turn (by omega) h1 h2
          refine ⟨h3, ?_⟩
          rw [← Nat.pow_succ', show (i - 1).succ = i + 1 - 1 by omega] at h4
          exact h4
  · rintro env ⟨x, y, c1, c2, rfl, e, e0, e1⟩
    simp -implicitDefEqProofs [-ixD, -seqD, -walkD, -allD, -anyD, -sumD, -maxD, -minD, -minTD, -rng1, -rng2, -rng3, -List.head?_filter, -isTys, -lenD]
    obtain ⟨h1, h2⟩ := e1 (by omega)
    have hy : y = 0 := by
      rcases Nat.eq_zero_or_pos y with h | h
      · exact h
      · have h3 : 1 ≤ x * y := Nat.mul_pos (by omega) h
        have h4 : 1 * 2 ^ (200 - 1) ≤ x * y * 2 ^ (200 - 1) := Nat.mul_le_mul_right _ h3
        have h5 : (2 : Nat) ^ 100 ≤ 1 * 2 ^ (200 - 1) := by decide +kernel
        omega
    subst hy
    rw [Nat.gcd_zero_right] at e
    rw [e]))
/-! ### rounds -/
def rnd (ws : List (Int × Int)) : Nat := ws.foldl (fun r w => Nat.lcm r w.2.natAbs) 1
/-- small everys -/
structure Wm (ws : List (Int × Int)) : Prop extends Ws ws where
  m : ws.length ≤ 4
  e : ∀ p ∈ ws, p.2 ≤ 12
theorem rnd_snoc (pre : List (Int × Int)) (w : Int × Int) : rnd (pre ++ [w]) = Nat.lcm (rnd pre) w.2.natAbs := by simp [rnd, List.foldl_append]
theorem rnd_le : ∀ (n : Nat) (l : List (Int × Int)) (r : Nat), l.length = n → (∀ p ∈ l, 1 ≤ p.2 ∧ p.2 ≤ 12) → 1 ≤ r → 1 ≤ l.foldl (fun r w => Nat.lcm r w.2.natAbs) r ∧ l.foldl (fun r w => Nat.lcm r w.2.natAbs) r ≤ r * 12 ^ n
  | 0, [], r, _, _, hr => by simp [hr]
  | n + 1, w :: l, r, hl, h, hr => by
    obtain ⟨h1, h2⟩ := h w List.mem_cons_self
    have h3 : 1 ≤ Nat.lcm r w.2.natAbs := Nat.lcm_pos (by omega) (by omega)
    have h4 : Nat.lcm r w.2.natAbs ≤ r * w.2.natAbs := Nat.le_of_dvd (Nat.mul_pos (by omega) (by omega)) (Nat.lcm_dvd_mul r w.2.natAbs)
    have h5 : r * w.2.natAbs ≤ r * 12 := Nat.mul_le_mul_left _ (by omega)
    obtain ⟨h6, h7⟩ := rnd_le n l (Nat.lcm r w.2.natAbs) (by simpa using hl) (fun p hp => h p (List.mem_cons_of_mem _ hp)) h3
    rw [List.foldl_cons]
    refine ⟨h6, Nat.le_trans h7 ?_⟩
    rw [Nat.pow_succ', ← Nat.mul_assoc]
    exact Nat.mul_le_mul_right _ (by omega)
variable {ws : List (Int × Int)}
theorem Wm.rnd_b (o : Wm ws) : 1 ≤ rnd ws ∧ rnd ws ≤ 20736 := by
  have h := rnd_le ws.length ws 1 rfl (fun p hp => ⟨(o.d p hp).2.1, o.e p hp⟩) (Nat.le_refl _)
  refine ⟨h.1, Nat.le_trans h.2 ?_⟩
  rw [Nat.one_mul]
  exact Nat.pow_le_pow_right (by omega) o.m
theorem Wm.pre (o : Wm ws) {pre post : List (Int × Int)} (e : ws = pre ++ post) : 1 ≤ rnd pre ∧ rnd pre ≤ 20736 := by
  have hl := congrArg List.length e
  rw [List.length_append] at hl
  have hm := o.m
  have h := rnd_le pre.length pre 1 rfl (fun p hp => by
    have hp' : p ∈ ws := by rw [e]; exact List.mem_append_left _ hp
    exact ⟨(o.d p hp').2.1, o.e p hp'⟩) (Nat.le_refl _)
  refine ⟨h.1, Nat.le_trans h.2 ?_⟩
  rw [Nat.one_mul]
  exact Nat.pow_le_pow_right (n := 12) (j := 4) (by omega) (by omega)
theorem c_nr (o : Wm ws) : C (k + 1) "nights_round" [wsD ws] = some (.i (rnd ws : Nat)) := s_nights_round.run (run_of (by
  simp -implicitDefEqProofs [-ixD, -seqD, -walkD, -allD, -anyD, -sumD, -maxD, -minD, -minTD, -rng1, -rng2, -rng3, -List.head?_filter, -isTys, -lenD]
  refine Wf_fr wD ws (fun pre e => ∃ c1 c2, e = [.v (wsD ws), .v (.i (rnd pre : Nat)), c1, c2]) (by simp -implicitDefEqProofs [-ixD, -seqD, -walkD, -allD, -anyD, -sumD, -maxD, -minD, -minTD, -rng1, -rng2, -rng3, -List.head?_filter, -isTys, -lenD]) ⟨_, _, rfl⟩ ?_ ?_
  · rintro pre w post env e ⟨c1, c2, rfl⟩
    obtain ⟨b1, b2⟩ := o.pre e
    have hw : w ∈ ws := by rw [e]; simp
    have h1 := (o.d w hw).2.1
    have h2 := o.e w hw
    have e1 : lcmD [.i (rnd pre : Nat), .i w.2] = some (.i (rnd (pre ++ [w]) : Nat)) := by
      rw [lcmD, if_pos (by rw [absLe_of (by omega), absLe_of (by omega)]; rfl), rnd_snoc]
      rfl
    simp -implicitDefEqProofs [-ixD, -seqD, -walkD, -allD, -anyD, -sumD, -maxD, -minD, -minTD, -rng1, -rng2, -rng3, -List.head?_filter, -isTys, -lenD, -lcmD, e1]
  · rintro env ⟨c1, c2, rfl⟩
    simp -implicitDefEqProofs [-ixD, -seqD, -walkD, -allD, -anyD, -sumD, -maxD, -minD, -minTD, -rng1, -rng2, -rng3, -List.head?_filter, -isTys, -lenD]))
theorem c_lr (o : Wm ws) : C (k + 2) "_law_round" [wsD ws] = some (.i (rnd ws : Nat)) := s__law_round.run (run_of (by
  simp -implicitDefEqProofs [-ixD, -seqD, -walkD, -allD, -anyD, -sumD, -maxD, -minD, -minTD, -rng1, -rng2, -rng3, -List.head?_filter, -isTys, -lenD]
  refine Wf_fr wD ws (fun pre e => ∃ c1 c2, e = [.v (wsD ws), .v (.i (rnd pre : Nat)), c1, c2]) (by simp -implicitDefEqProofs [-ixD, -seqD, -walkD, -allD, -anyD, -sumD, -maxD, -minD, -minTD, -rng1, -rng2, -rng3, -List.head?_filter, -isTys, -lenD]) ⟨_, _, rfl⟩ ?_ ?_
  · rintro pre w post env e ⟨c1, c2, rfl⟩
    obtain ⟨b1, b2⟩ := o.pre e
    have hw : w ∈ ws := by rw [e]; simp
    have h1 := (o.d w hw).2.1
    have h2 := o.e w hw
    obtain ⟨q, hq⟩ := Int.eq_ofNat_of_zero_le (show 0 ≤ w.2 by omega)
    have hqp : 0 < q := by omega
    have h3 : rnd pre * q ≤ 20736 * 12 := Nat.mul_le_mul b2 (by omega)
    have e1 := c_gcd (C := C) (k := k) (a := rnd pre) (b := q) (by omega)
    have h4 : 0 < Nat.gcd (rnd pre) q := Nat.gcd_pos_of_pos_right _ hqp
    have h5 : Nat.gcd (rnd pre) q ≤ q := Nat.gcd_le_right _ hqp
    have e2 : fdE (.i ((rnd pre : Nat) * (q : Int))) (.i ((Nat.gcd (rnd pre) q : Nat) : Int)) = some (.i (rnd (pre ++ [w]) : Nat)) := by
      rw [fdE_ok (by omega) (by omega), rnd_snoc, hq]
      rfl
    simp -implicitDefEqProofs [-ixD, -seqD, -walkD, -allD, -anyD, -sumD, -maxD, -minD, -minTD, -rng1, -rng2, -rng3, -List.head?_filter, -isTys, -lenD, hq, e1, muE_r (smallI_of (show -(2 ^ 64 : Int) < (q : Int) ∧ (q : Int) < 2 ^ 64 by omega)), e2]
  · rintro env ⟨c1, c2, rfl⟩
    simp -implicitDefEqProofs [-ixD, -seqD, -walkD, -allD, -anyD, -sumD, -maxD, -minD, -minTD, -rng1, -rng2, -rng3, -List.head?_filter, -isTys, -lenD]))
end
end K43
namespace K43
open PySem PySem.Spec PyProof.Rows L2 PL
theorem zipIdx_eq {α : Type} (l : List α) (d : α) : l.zipIdx = (List.range l.length).map fun k => (l.getD k d, k) := by
  apply List.ext_getElem
  · simp
  · intro i h1 h2
    have hi : i < l.length := by simpa using h1
    simp [List.getD, hi]
theorem zip_row (ws : List (Int × Int)) (n : Int) : (ws.zipIdx.filter fun p => onB p.1 n).map (fun p => D.i (p.2 : Nat)) = (rowAt ws n).map fun k : Nat => D.i k := by
  rw [zipIdx_eq ws (0, 1), List.filter_map, List.map_map]
  rfl
def rowD (ws : List (Int × Int)) (n : Int) : List D := (rowAt ws n).map fun k : Nat => D.i k
theorem rowAt_le (ws : List (Int × Int)) (n : Int) : (rowAt ws n).length ≤ ws.length := by
  have := List.length_filter_le (fun k => onB (wk ws k) n) (List.range ws.length)
  rw [List.length_range] at this
  exact this
theorem wk_pos {ws : List (Int × Int)} (h : ∀ p ∈ ws, 0 < p.2) (k : Nat) : 0 < (wk ws k).2 := by
  unfold wk
  rw [List.getD_eq_getElem?_getD]
  cases e : ws[k]? with
  | none => simp
  | some p => exact h p (List.mem_of_getElem? e)
theorem Ws.pos {ws : List (Int × Int)} (o : Ws ws) : ∀ p ∈ ws, 0 < p.2 := fun p hp => by have := o.d p hp; omega
section
variable {C : Cf} [All C] {k : Nat} {ws : List (Int × Int)}
theorem c_on_at (o : Ws ws) {n : Int} : C (k + 2) "on_at" [wsD ws, .i n] = some (.t (rowD ws n)) := s_on_at.run (by
  have hl := o.n2
  simp -implicitDefEqProofs [-ixD, -seqD, -walkD, -allD, -anyD, -sumD, -maxD, -minD, -minTD, -rng1, -rng2, -rng3, -List.head?_filter, -isTys, -lenD, S_on_at, enumD_map, compD_M]
  rw [compM_eq (fun p : (Int × Int) × Nat => onB p.1 n) (fun p => D.i (p.2 : Nat)) (fun p hp => ?_) (fun p _ _ => by simp -implicitDefEqProofs [-ixD, -seqD, -walkD, -allD, -anyD, -sumD, -maxD, -minD, -minTD, -rng1, -rng2, -rng3, -List.head?_filter, -isTys, -lenD])]
  · rw [Option.bind_some, zip_row, mkL_map' (by have := rowAt_le ws n; omega)]
    simp -implicitDefEqProofs [-ixD, -seqD, -walkD, -allD, -anyD, -sumD, -maxD, -minD, -minTD, -rng1, -rng2, -rng3, -List.head?_filter, -isTys, -lenD, rowD]
  · have hw : p.1 ∈ ws := by
      have := List.mem_zipIdx hp
      obtain ⟨h1, h2, h3⟩ := this
      rw [h3]
      exact List.getElem_mem _
    simp -implicitDefEqProofs [-ixD, -seqD, -walkD, -allD, -anyD, -sumD, -maxD, -minD, -minTD, -rng1, -rng2, -rng3, -List.head?_filter, -isTys, -lenD, c_stands (C := C) (k := k) (w := p.1) (n := n) (o.pos _ hw)])
theorem c_pow {j : Nat} (hj : j ≤ 60) : C (k + 1) "_law_power" [.i 2, .i j] = some (.i ((2 ^ j : Nat) : Int)) := s__law_power.run (by
  have := law_power_eq (c := C k) (b := 2) (n := j) (by decide +kernel) (smI_nat (by omega))
  rw [this]
  simp)
theorem pow_b {j : Nat} (hj : j ≤ 8) : 1 ≤ 2 ^ j ∧ 2 ^ j ≤ 256 := ⟨Nat.pos_of_ne_zero (by simp), by
  have : (2 : Nat) ^ j ≤ 2 ^ 8 := Nat.pow_le_pow_right (by omega) hj
  omega⟩
def bitsOf (num n : Nat) : List Nat := (List.range n).filter fun k => decide (num / 2 ^ k % 2 = 1)
theorem bits_len (num n : Nat) : (bitsOf num n).length ≤ n := by
  have := List.length_filter_le (fun k => decide (num / 2 ^ k % 2 = 1)) (List.range n)
  rw [List.length_range] at this
  exact this
theorem bits_lt {num n i : Nat} (h : i ∈ bitsOf num n) : i < n := List.mem_range.mp (List.mem_filter.mp h).1
theorem c_set {num n : Nat} (hn : n ≤ 8) : C (k + 2) "_law_set" [.i num, .i n] = some (.t ((bitsOf num n).map fun k : Nat => D.i k)) := s__law_set.run (run_of (by
  simp -implicitDefEqProofs [-ixD, -seqD, -walkD, -allD, -anyD, -sumD, -maxD, -minD, -minTD, -rng1, -rng2, -rng3, -List.head?_filter, -isTys, -lenD, rng1_nat (show n ≤ 1000000 by omega), compD_M]
  rw [compM_eq (fun j : Nat => decide (num / 2 ^ j % 2 = 1)) (fun j : Nat => D.i j) (fun j hj => ?_) (fun j _ _ => by simp -implicitDefEqProofs [-ixD, -seqD, -walkD, -allD, -anyD, -sumD, -maxD, -minD, -minTD, -rng1, -rng2, -rng3, -List.head?_filter, -isTys, -lenD])]
  · rw [Option.bind_some, mkL_map' (by have := bits_len num n; unfold bitsOf at this; omega)]
    simp -implicitDefEqProofs [-ixD, -seqD, -walkD, -allD, -anyD, -sumD, -maxD, -minD, -minTD, -rng1, -rng2, -rng3, -List.head?_filter, -isTys, -lenD, bitsOf]
  · have hj := List.mem_range.mp hj
    obtain ⟨p1, p2⟩ := pow_b (show j ≤ 8 by omega)
    have e1 : fdE (.i (num : Int)) (.i ((2 ^ j : Nat) : Int)) = some (.i ((num / 2 ^ j : Nat) : Int)) := by
      rw [fdE_ok (by omega) (by omega)]; rfl
    have e2 : moE (.i ((num / 2 ^ j : Nat) : Int)) (.i 2) = some (.i ((num / 2 ^ j % 2 : Nat) : Int)) := by
      rw [moE_ok (by omega)]; rfl
    simp -implicitDefEqProofs [-ixD, -seqD, -walkD, -allD, -anyD, -sumD, -maxD, -minD, -minTD, -rng1, -rng2, -rng3, -List.head?_filter, -isTys, -lenD, -Int.natCast_pow, -Int.natCast_ediv, -Int.natCast_emod, c_pow (C := C) (k := k) (j := j) (by omega), e1, e2]
    omega))
theorem wk_in {j : Nat} (h : j < ws.length) : wk ws j ∈ ws := by
  have : wk ws j = ws[j] := by simp [wk, List.getD, h]
  rw [this]
  exact List.getElem_mem h
theorem c_gcdI {x y : Int} (hx : 0 ≤ x) (hy : 0 ≤ y) (h1 : x ≤ 1000000) (h2 : y ≤ 1000000) : C (k + 1) "_law_gcd" [.i x, .i y] = some (.i ((Nat.gcd x.natAbs y.natAbs : Nat) : Int)) := by
  obtain ⟨a, rfl⟩ := Int.eq_ofNat_of_zero_le hx
  obtain ⟨b, rfl⟩ := Int.eq_ofNat_of_zero_le hy
  have h5 : a * b ≤ 1000000 * 1000000 := Nat.mul_le_mul (by omega) (by omega)
  exact c_gcd (by omega)
theorem c_on (o : Ws ws) (l : Bool) {n : Nat} : C (k + 6) "on" [wsQ l ws, .i n] = some (.t (rowD ws n)) := s_on.run (run_of (by
  have e0 := c_nw (C := C) (k := k) o l
  have e1 := c_on_at (C := C) (k := k + 3) o (n := n)
  have e2 : C (k + 5) "is_night" [.i (n : Int)] = some (.b true) := s_is_night.run (by
    have := c_int (C := C) (k := k + 3) (d := .i n) rfl
    simp -implicitDefEqProofs [-ixD, -seqD, -walkD, -allD, -anyD, -sumD, -maxD, -minD, -minTD, -rng1, -rng2, -rng3, -List.head?_filter, -isTys, -lenD, S_is_night, this])
  simp -implicitDefEqProofs [-ixD, -seqD, -walkD, -allD, -anyD, -sumD, -maxD, -minD, -minTD, -rng1, -rng2, -rng3, -List.head?_filter, -isTys, -lenD, e0, e1, e2, c_need (C := C)]))
theorem c_round (o : Wm ws) (l : Bool) : C (k + 6) "round_of" [wsQ l ws] = some (.i (rnd ws : Nat)) := s_round_of.run (run_of (by
  have e0 := c_nw (C := C) (k := k) o.toWs l
  have e1 := c_nr (C := C) (k := k + 4) o
  simp -implicitDefEqProofs [-ixD, -seqD, -walkD, -allD, -anyD, -sumD, -maxD, -minD, -minTD, -rng1, -rng2, -rng3, -List.head?_filter, -isTys, -lenD, e0, e1]))
/-! ### sets -/
def setD (l : Bool) (s : List Nat) : D := if l = true then .l (s.map fun k : Nat => D.i k) else .t (s.map fun k : Nat => D.i k)
@[simp] theorem walk_set (l : Bool) (s : List Nat) : PL.walkD (setD l s) = some (s.map fun k : Nat => D.i k) := by cases l <;> rfl
@[simp] theorem len_set (l : Bool) (s : List Nat) : PL.lenD [setD l s] = some (.i s.length) := by cases l <;> simp [setD]
theorem calm_set (l : Bool) (s : List Nat) : calm (setD l s) = true := by cases l <;> rfl
theorem sq_set (l : Bool) (s : List Nat) : isSq (setD l s) = true := by cases l <;> rfl
/-- rising, below n -/
def Rise (n : Nat) (s : List Nat) : Prop := s.Pairwise (· < ·) ∧ ∀ i ∈ s, i < n
theorem rise_bits (num n : Nat) : Rise n (bitsOf num n) := ⟨List.Pairwise.filter _ List.pairwise_lt_range, fun i hi => bits_lt hi⟩
theorem c_is_set {n : Nat} {s : List Nat} (h : Rise n s) (l : Bool) : C (k + 3) "is_set" [setD l s, .i n] = some (.b true) := s_is_set.run (run_of (by
  have e0 := c_seq (C := C) (k := k + 1) (calm_set l s)
  rw [sq_set] at e0
  simp -implicitDefEqProofs [-ixD, -seqD, -walkD, -allD, -anyD, -sumD, -maxD, -minD, -minTD, -rng1, -rng2, -rng3, -List.head?_filter, -isTys, -lenD, e0]
  refine Wf_fr (fun i : Nat => D.i i) s (fun pre e => ∃ (m : Int) (c : Cell), e = [.v (setD l s), .v (.i n), .v (.i m), c] ∧ m ≥ -1 ∧ (m = -1 ∨ ∃ j ∈ pre, m = (j : Nat))) (by simp -implicitDefEqProofs [-ixD, -seqD, -walkD, -allD, -anyD, -sumD, -maxD, -minD, -minTD, -rng1, -rng2, -rng3, -List.head?_filter, -isTys, -lenD]) ⟨-1, .no, by simp -implicitDefEqProofs [-ixD, -seqD, -walkD, -allD, -anyD, -sumD, -maxD, -minD, -minTD, -rng1, -rng2, -rng3, -List.head?_filter, -isTys, -lenD]⟩ ?_ ?_
  · rintro pre i post env e ⟨m, c, rfl, hm, hm2⟩
    have hi : i < n := h.2 i (by rw [e]; simp)
    have hlt : m + 1 ≤ i := by
      rcases hm2 with rfl | ⟨j, hj, rfl⟩
      · omega
      · have h1 := h.1
        rw [e, List.pairwise_append] at h1
        have := h1.2.2 j hj i List.mem_cons_self
        omega
    have e1 := c_from (C := C) (k := k) (d := .i i) (lo := m + 1) (hi := (n : Int) - 1) rfl
    have e2 : fromB (.i i) (m + 1) ((n : Int) - 1) = true := by simp; omega
    rw [e2] at e1
    simp -implicitDefEqProofs [-ixD, -seqD, -walkD, -allD, -anyD, -sumD, -maxD, -minD, -minTD, -rng1, -rng2, -rng3, -List.head?_filter, -isTys, -lenD, e1]
  · rintro env ⟨m, c, rfl, hm, hm2⟩
    simp -implicitDefEqProofs [-ixD, -seqD, -walkD, -allD, -anyD, -sumD, -maxD, -minD, -minTD, -rng1, -rng2, -rng3, -List.head?_filter, -isTys, -lenD]))
theorem c_is_some {n : Nat} {s : List Nat} (h : Rise n s) (l : Bool) (h1 : 1 ≤ s.length) : C (k + 4) "is_some" [setD l s, .i n] = some (.b true) := s_is_some.run (by
  have e0 := c_is_set (C := C) (k := k) h l
  simp -implicitDefEqProofs [-ixD, -seqD, -walkD, -allD, -anyD, -sumD, -maxD, -minD, -minTD, -rng1, -rng2, -rng3, -List.head?_filter, -isTys, -lenD, S_is_some, e0]
  omega)
theorem range_split {i n : Nat} (h : i < n) : ∃ m, List.range n = List.range i ++ i :: m := by
  refine ⟨(List.range n).drop (i + 1), ?_⟩
  have h1 := List.take_append_drop i (List.range n)
  rw [List.drop_eq_getElem_cons (by simpa using h), List.getElem_range, List.take_range, Nat.min_eq_left (Nat.le_of_lt h)] at h1
  exact h1.symm
/-! ### joint -/
def up (a p b : Int) : Nat := ((b - a + p - 1) / p).toNat
theorem up_ok {a p b : Int} (hp : 0 < p) : b ≤ a + p * up a p b ∧ ∀ t : Nat, t < up a p b → a + p * t < b := by
  have h1 := Int.ediv_mul_le (b - a + p - 1) (Int.ne_of_gt hp)
  have h2 := Int.lt_ediv_add_one_mul_self (b - a + p - 1) hp
  rw [Int.add_mul, Int.one_mul] at h2
  have hu : up a p b = ((b - a + p - 1) / p).toNat := rfl
  generalize (b - a + p - 1) / p = e at h1 h2 hu
  rw [Int.mul_comm e p] at h1 h2
  rcases Int.le_total 0 e with h | h
  · have e1 : ((up a p b : Nat) : Int) = e := by rw [hu]; omega
    refine ⟨by rw [e1]; omega, fun t ht => ?_⟩
    have h3 : (t : Int) + 1 ≤ e := by omega
    have h4 : p * ((t : Int) + 1) ≤ p * e := Int.mul_le_mul_of_nonneg_left h3 (Int.le_of_lt hp)
    rw [Int.mul_add, Int.mul_one] at h4
    omega
  · have e1 : up a p b = 0 := by rw [hu]; omega
    refine ⟨?_, fun t ht => by omega⟩
    rw [e1]
    have h3 : p * e ≤ p * 0 := Int.mul_le_mul_of_nonneg_left h (Int.le_of_lt hp)
    rw [Int.mul_zero] at h3
    simp
    rcases Int.lt_or_eq_of_le h with h' | h'
    · have h4 : p * e ≤ p * (-1) := Int.mul_le_mul_of_nonneg_left (by omega) (Int.le_of_lt hp)
      omega
    · subst h'
      rw [Int.mul_zero] at h1 h2
      omega
theorem up_le {a p b : Int} (hp : 0 < p) (ha : 0 ≤ a) (hb : b ≤ 1000) : up a p b ≤ 1000 := by
  obtain ⟨_, h⟩ := up_ok (a := a) (b := b) hp
  rcases Nat.eq_zero_or_pos (up a p b) with h0 | h0
  · omega
  · have h1 := h (up a p b - 1) (by omega)
    have h2 : 1 * ((up a p b - 1 : Nat) : Int) ≤ p * ((up a p b - 1 : Nat) : Int) := Int.mul_le_mul_of_nonneg_right (by omega) (by omega)
    omega
/-- the first night of one's from other's first on -/
def nig (one other : Int × Int) : Int := one.1 + one.2 * up one.1 one.2 other.1
def jnt (one other : Int × Int) : Option (Int × Int) := ((List.range other.2.toNat).find? fun i => onB other (nig one other + one.2 * (i : Nat))).map fun i => (nig one other + one.2 * (i : Nat), ((Nat.lcm one.2.natAbs other.2.natAbs : Nat) : Int))
def oW : Option (Int × Int) → D
  | some w => wD w
  | none => .n
theorem oW_s (a b : Int) : oW (some (a, b)) = .t [.i a, .i b] := rfl
theorem c_joint {one other : Int × Int} (h1 : 0 < one.2) (h2 : 0 < other.2) (h3 : one.2 ≤ 100000) (h4 : other.2 ≤ 1000) (h5 : other.1 ≤ 1000) (h6 : 0 ≤ one.1) : C (k + 2) "joint" [wD one, wD other] = some (oW (jnt one other)) := s_joint.run (run_of (by
  simp -implicitDefEqProofs [-ixD, -seqD, -walkD, -allD, -anyD, -sumD, -maxD, -minD, -minTD, -rng1, -rng2, -rng3, -List.head?_filter, -isTys, -lenD]
  refine Wf_wh (fun m e => ∃ (t : Nat) (c : Cell), e = [.v (wD one), .v (wD other), .v (.i (one.1 + one.2 * t)), .v (.i one.2), c] ∧ t ≤ up one.1 one.2 other.1 ∧ m = up one.1 one.2 other.1 - t) (up one.1 one.2 other.1) ?_ ⟨0, .no, by simp -implicitDefEqProofs [-ixD, -seqD, -walkD, -allD, -anyD, -sumD, -maxD, -minD, -minTD, -rng1, -rng2, -rng3, -List.head?_filter, -isTys, -lenD], by omega, rfl⟩ ?_
  · have := up_le (a := one.1) (p := one.2) (b := other.1) h1 h6 h5
    unfold WH
    omega
  · rintro m env ⟨t, c, rfl, ht, rfl⟩
    obtain ⟨u1, u2⟩ := up_ok (a := one.1) (b := other.1) h1
    by_cases q : one.1 + one.2 * (t : Int) < other.1
    · refine ⟨true, by simp -implicitDefEqProofs [-ixD, -seqD, -walkD, -allD, -anyD, -sumD, -maxD, -minD, -minTD, -rng1, -rng2, -rng3, -List.head?_filter, -isTys, -lenD, q], fun _ => ?_, fun h => by cases h⟩
      have hlt : t < up one.1 one.2 other.1 := by
        rcases Nat.lt_or_ge t (up one.1 one.2 other.1) with h | h
        · exact h
        · have : t = up one.1 one.2 other.1 := by omega
          rw [this] at q
          omega
      simp -implicitDefEqProofs [-ixD, -seqD, -walkD, -allD, -anyD, -sumD, -maxD, -minD, -minTD, -rng1, -rng2, -rng3, -List.head?_filter, -isTys, -lenD]
      refine ⟨up one.1 one.2 other.1 - (t + 1), by omega, t + 1, ?_, by omega, rfl⟩
      rw [Int.natCast_add, Int.mul_add]
      simp
      omega
    · refine ⟨false, by simp -implicitDefEqProofs [-ixD, -seqD, -walkD, -allD, -anyD, -sumD, -maxD, -minD, -minTD, -rng1, -rng2, -rng3, -List.head?_filter, -isTys, -lenD, q], (fun h => by cases h), fun _ => ?_⟩
      have htu : t = up one.1 one.2 other.1 := by
        rcases Nat.lt_or_ge t (up one.1 one.2 other.1) with h | h
        · exact absurd (u2 t h) q
        · omega
      have hN : one.1 + one.2 * (t : Int) = nig one other := by rw [htu]; rfl
      rw [hN]
      simp -implicitDefEqProofs [-ixD, -seqD, -walkD, -allD, -anyD, -sumD, -maxD, -minD, -minTD, -rng1, -rng2, -rng3, -List.head?_filter, -isTys, -lenD]
      have hne : Nat.lcm one.2.natAbs other.2.natAbs ≤ 100000 * 1000 := by
        have h8 := Nat.le_of_dvd (Nat.mul_pos (show 0 < one.2.natAbs by omega) (show 0 < other.2.natAbs by omega)) (Nat.lcm_dvd_mul one.2.natAbs other.2.natAbs)
        have h9 : one.2.natAbs * other.2.natAbs ≤ 100000 * 1000 := Nat.mul_le_mul (by omega) (by omega)
        omega
      have hlc : lcmD [.i one.2, .i other.2] = some (.i ((Nat.lcm one.2.natAbs other.2.natAbs : Nat) : Int)) := by
        rw [lcmD, if_pos (by rw [absLe_of (by omega), absLe_of (by omega)]; rfl)]
      refine Wf_fri (fun i : Nat => D.i i) (List.range other.2.toNat) (fun i e => (∃ c, e = [.v (wD one), .v (wD other), .v (.i (nig one other + one.2 * (i : Nat))), .v (.i one.2), c]) ∧ Nope (fun i : Nat => onB other (nig one other + one.2 * (i : Nat))) (List.range i)) ?_ ⟨⟨c, by simp -implicitDefEqProofs [-ixD, -seqD, -walkD, -allD, -anyD, -sumD, -maxD, -minD, -minTD, -rng1, -rng2, -rng3, -List.head?_filter, -isTys, -lenD]⟩, nope_nil⟩ ?_ ?_
      · have := rng1_nat (n := other.2.toNat) (by omega)
        rw [show ((other.2.toNat : Nat) : Int) = other.2 by omega] at this
        simp -implicitDefEqProofs [-ixD, -seqD, -walkD, -allD, -anyD, -sumD, -maxD, -minD, -minTD, -rng1, -rng2, -rng3, -List.head?_filter, -isTys, -lenD, this]
      · rintro i hi env ⟨⟨c, rfl⟩, hno⟩
        rw [List.length_range] at hi
        rw [List.getElem_range]
        have e1 := c_stands (C := C) (k := k) (w := other) (n := nig one other + one.2 * (i : Nat)) h2
        cases hq : onB other (nig one other + one.2 * (i : Nat)) with
        | true =>
          have : (List.range other.2.toNat).find? (fun i : Nat => onB other (nig one other + one.2 * (i : Nat))) = some i := by
            obtain ⟨m, hm⟩ := range_split hi
            rw [hm]
            exact hno.find_at hq
          rw [hq] at e1
          simp -implicitDefEqProofs [-ixD, -seqD, -walkD, -allD, -anyD, -sumD, -maxD, -minD, -minTD, -rng1, -rng2, -rng3, -List.head?_filter, -isTys, -lenD, -lcmD, e1, hlc, jnt, this, oW_s]
        | false =>
          rw [hq] at e1
          have h3 := hno.snoc hq
          rw [← List.range_succ] at h3
          simp -implicitDefEqProofs [-ixD, -seqD, -walkD, -allD, -anyD, -sumD, -maxD, -minD, -minTD, -rng1, -rng2, -rng3, -List.head?_filter, -isTys, -lenD, e1, h3]
          rw [Int.mul_add]
          simp
          omega
      · rintro env ⟨⟨c, rfl⟩, hno⟩
        rw [List.length_range] at hno
        have := hno.find
        simp -implicitDefEqProofs [-ixD, -seqD, -walkD, -allD, -anyD, -sumD, -maxD, -minD, -minTD, -rng1, -rng2, -rng3, -List.head?_filter, -isTys, -lenD, jnt, this, oW]))
end
end K43
namespace K43
open PL
/-! ### what joint tells -/
theorem onB_iff {w : Int × Int} {n : Int} : onB w n = true ↔ w.1 ≤ n ∧ w.2 ∣ n - w.1 := by
  unfold onB
  rw [Bool.and_eq_true, decide_eq_true_eq, decide_eq_true_eq, Int.dvd_iff_emod_eq_zero]
theorem lcm_dvd_int {p q x : Int} (h1 : p ∣ x) (h2 : q ∣ x) : ((Nat.lcm p.natAbs q.natAbs : Nat) : Int) ∣ x := by
  have h3 := Nat.lcm_dvd (Int.natAbs_dvd_natAbs.mpr h1) (Int.natAbs_dvd_natAbs.mpr h2)
  exact Int.natAbs_dvd_natAbs.mp h3
theorem dvd_lcm_l (p q : Int) : p ∣ ((Nat.lcm p.natAbs q.natAbs : Nat) : Int) := Int.natAbs_dvd_natAbs.mp (Nat.dvd_lcm_left _ _)
theorem dvd_lcm_r (p q : Int) : q ∣ ((Nat.lcm p.natAbs q.natAbs : Nat) : Int) := Int.natAbs_dvd_natAbs.mp (Nat.dvd_lcm_right _ _)
/-- a night of one's from other's first on is a step of the walk -/
theorem steps {a p b n : Int} (hp : 0 < p) (h1 : a ≤ n) (h2 : p ∣ n - a) (h3 : b ≤ n) : ∃ t : Nat, n = a + p * up a p b + p * t := by
  obtain ⟨u1, u2⟩ := up_ok (a := a) (b := b) hp
  obtain ⟨c, hc⟩ := h2
  have hc0 : 0 ≤ c := by
    rcases Int.lt_or_le c 0 with h | h
    · have : p * c ≤ p * (-1) := Int.mul_le_mul_of_nonneg_left (by omega) (Int.le_of_lt hp)
      omega
    · exact h
  obtain ⟨m, rfl⟩ := Int.eq_ofNat_of_zero_le hc0
  have hm : up a p b ≤ m := by
    rcases Nat.lt_or_ge m (up a p b) with h | h
    · have := u2 m h
      omega
    · exact h
  refine ⟨m - up a p b, ?_⟩
  have : ((m - up a p b : Nat) : Int) = (m : Int) - up a p b := by omega
  rw [this, Int.mul_sub]
  omega
theorem jnt_ok {one other : Int × Int} (h1 : 0 < one.2) (h2 : 0 < other.2) (n : Int) : (onB one n && onB other n) = match jnt one other with
    | some j => onB j n
    | none => false := by
  obtain ⟨u1, u2⟩ := up_ok (a := one.1) (b := other.1) h1
  have hN : nig one other = one.1 + one.2 * up one.1 one.2 other.1 := rfl
  have hN1 : one.1 ≤ nig one other := by
    have : 0 ≤ one.2 * ((up one.1 one.2 other.1 : Nat) : Int) := Int.mul_nonneg (Int.le_of_lt h1) (by omega)
    omega
  have h0 : ∀ i : Nat, 0 ≤ one.2 * (i : Int) := fun i => Int.mul_nonneg (Int.le_of_lt h1) (by omega)
  obtain ⟨q, hq⟩ := Int.eq_ofNat_of_zero_le (Int.le_of_lt h2)
  have hqt : other.2.toNat = q := by omega
  -- a step and its rest stand alike on other
  have rest : ∀ t : Nat, onB other (nig one other + one.2 * (t : Nat)) = true → onB other (nig one other + one.2 * ((t % q : Nat) : Int)) = true := fun t ht => by
    rw [onB_iff] at ht ⊢
    refine ⟨by have := h0 (t % q); omega, ?_⟩
    have e : (t : Int) = ((t % q : Nat) : Int) + (q : Int) * ((t / q : Nat) : Int) := by
      have := Nat.mod_add_div t q
      omega
    have e2 : nig one other + one.2 * (t : Int) - other.1 = (nig one other + one.2 * ((t % q : Nat) : Int) - other.1) + (q : Int) * (one.2 * ((t / q : Nat) : Int)) := by
      rw [e, Int.mul_add, Int.mul_left_comm one.2 (q : Int)]
      omega
    rw [e2] at ht
    have h3 : other.2 ∣ (q : Int) * (one.2 * ((t / q : Nat) : Int)) := by rw [hq]; exact Int.dvd_mul_right _ _
    have h4 := Int.dvd_sub ht.2 h3
    rwa [Int.add_sub_cancel] at h4
  cases hj : jnt one other with
  | none =>
    unfold jnt at hj
    rw [Option.map_eq_none_iff, List.find?_eq_none, hqt] at hj
    cases hc : (onB one n && onB other n) with
    | false => rfl
    | true =>
      exfalso
      rw [Bool.and_eq_true, onB_iff, onB_iff] at hc
      obtain ⟨⟨a1, a2⟩, b1, b2⟩ := hc
      obtain ⟨t, ht⟩ := steps h1 a1 a2 b1
      rw [← hN] at ht
      have h5 := rest t (by rw [onB_iff, ← ht]; exact ⟨b1, b2⟩)
      exact hj (t % q) (List.mem_range.mpr (Nat.mod_lt _ (by omega))) h5
  | some j =>
    unfold jnt at hj
    rw [Option.map_eq_some_iff] at hj
    obtain ⟨i, hi, hji⟩ := hj
    have hon := List.find?_some hi
    have hmin : ∀ t : Nat, t < i → onB other (nig one other + one.2 * (t : Nat)) = false := fun t ht => by
      rw [List.find?_range_eq_some] at hi
      have := hi.2.2 t ht
      simpa using this
    have hon2 := onB_iff.mp hon
    subst hji
    rw [Bool.eq_iff_iff, Bool.and_eq_true, onB_iff, onB_iff, onB_iff]
    constructor
    · rintro ⟨⟨a1, a2⟩, b1, b2⟩
      obtain ⟨t, ht⟩ := steps h1 a1 a2 b1
      rw [← hN] at ht
      have h5 : onB other (nig one other + one.2 * (t : Nat)) = true := by rw [onB_iff, ← ht]; exact ⟨b1, b2⟩
      have hti : i ≤ t := by
        rcases Nat.lt_or_ge t i with h | h
        · rw [hmin t h] at h5; cases h5
        · exact h
      have e : n - (nig one other + one.2 * (i : Int)) = one.2 * ((t - i : Nat) : Int) := by
        have : ((t - i : Nat) : Int) = (t : Int) - i := by omega
        rw [ht, this, Int.mul_sub]
        omega
      refine ⟨?_, ?_⟩
      · have := h0 (t - i)
        show nig one other + one.2 * (i : Int) ≤ n
        omega
      · show _ ∣ n - (nig one other + one.2 * (i : Int))
        refine lcm_dvd_int (by rw [e]; exact Int.dvd_mul_right _ _) ?_
        have e3 : n - (nig one other + one.2 * (i : Int)) = (n - other.1) - (nig one other + one.2 * (i : Int) - other.1) := by omega
        rw [e3]
        exact Int.dvd_sub b2 hon2.2
    · rintro ⟨c1, c2⟩
      have c1 : nig one other + one.2 * (i : Int) ≤ n := c1
      have c2 : ((Nat.lcm one.2.natAbs other.2.natAbs : Nat) : Int) ∣ n - (nig one other + one.2 * (i : Int)) := c2
      have d1 := Int.dvd_trans (dvd_lcm_l one.2 other.2) c2
      have d2 := Int.dvd_trans (dvd_lcm_r one.2 other.2) c2
      have := h0 i
      refine ⟨⟨by omega, ?_⟩, by omega, ?_⟩
      · have e3 : n - one.1 = (n - (nig one other + one.2 * (i : Int))) + one.2 * (((up one.1 one.2 other.1 : Nat) : Int) + i) := by
          rw [Int.mul_add, hN]; omega
        rw [e3]
        exact Int.dvd_add d1 (Int.dvd_mul_right _ _)
      · have e3 : n - other.1 = (n - (nig one other + one.2 * (i : Int))) + (nig one other + one.2 * (i : Int) - other.1) := by omega
        rw [e3]
        exact Int.dvd_add d2 hon2.2
theorem jnt_e {one other j : Int × Int} (h : jnt one other = some j) : j.2 = ((Nat.lcm one.2.natAbs other.2.natAbs : Nat) : Int) := by
  unfold jnt at h
  rw [Option.map_eq_some_iff] at h
  obtain ⟨i, _, rfl⟩ := h
  rfl
end K43
namespace K43
open PySem PySem.Spec PyProof.Rows L2 PL
def foldJ (ws : List (Int × Int)) (f : Option (Int × Int)) (s : List Nat) : Option (Int × Int) := s.foldl (fun f j => f.bind fun w => jnt w (wk ws j)) f
def jof (ws : List (Int × Int)) : List Nat → Option (Int × Int)
  | [] => none
  | i :: r => foldJ ws (some (wk ws i)) r
def onJ (j : Option (Int × Int)) (n : Int) : Bool := match j with
  | some w => onB w n
  | none => false
def allOn (ws : List (Int × Int)) (s : List Nat) (n : Int) : Bool := s.all fun k => onB (wk ws k) n
theorem foldJ_none (ws : List (Int × Int)) : ∀ s, foldJ ws none s = none
  | [] => rfl
  | _ :: s => foldJ_none ws s
theorem jnt_lo {one other j : Int × Int} (h1 : 0 < one.2) (h : jnt one other = some j) : one.1 ≤ j.1 := by
  unfold jnt at h
  rw [Option.map_eq_some_iff] at h
  obtain ⟨i, _, rfl⟩ := h
  have h2 : 0 ≤ one.2 * ((up one.1 one.2 other.1 : Nat) : Int) := Int.mul_nonneg (Int.le_of_lt h1) (by omega)
  have h3 : 0 ≤ one.2 * (i : Int) := Int.mul_nonneg (Int.le_of_lt h1) (by omega)
  show one.1 ≤ one.1 + one.2 * up one.1 one.2 other.1 + one.2 * (i : Int)
  omega
theorem foldJ_ok {ws : List (Int × Int)} (hw : ∀ p ∈ ws, 0 < p.2) (n : Int) : ∀ (s : List Nat) (w : Int × Int), 0 < w.2 → (onB w n && allOn ws s n) = onJ (foldJ ws (some w) s) n
  | [], w, _ => by simp [allOn, foldJ, onJ]
  | i :: s, w, hp => by
    have h1 := jnt_ok hp (wk_pos hw i) n
    have h2 : (onB w n && allOn ws (i :: s) n) = ((onB w n && onB (wk ws i) n) && allOn ws s n) := by simp [allOn, Bool.and_assoc]
    have h3 : foldJ ws (some w) (i :: s) = foldJ ws (jnt w (wk ws i)) s := rfl
    rw [h2, h1, h3]
    cases hj : jnt w (wk ws i) with
    | none => rw [foldJ_none]; rfl
    | some j =>
      have e := jnt_e hj
      have := wk_pos hw i
      have h4 : 0 < Nat.lcm w.2.natAbs (wk ws i).2.natAbs := Nat.lcm_pos (by omega) (by omega)
      exact foldJ_ok hw n s j (by omega)
/-- all of s are on just on the nights of their joint -/
theorem jof_ok {ws : List (Int × Int)} (hw : ∀ p ∈ ws, 0 < p.2) (n : Int) {s : List Nat} (h : s ≠ []) : allOn ws s n = onJ (jof ws s) n := by
  cases s with
  | nil => exact absurd rfl h
  | cons i s =>
    have := foldJ_ok hw n s (wk ws i) (wk_pos hw i)
    rw [jof, ← this]
    rfl
def sub (ws : List (Int × Int)) (s : List Nat) : List (Int × Int) := s.map (wk ws)
theorem foldJ_e {ws : List (Int × Int)} (hw : ∀ p ∈ ws, 0 < p.2) : ∀ (s : List Nat) (w j : Int × Int), 0 < w.2 → foldJ ws (some w) s = some j → j.2 = (((sub ws s).foldl (fun r w => Nat.lcm r w.2.natAbs) w.2.natAbs : Nat) : Int) ∧ w.1 ≤ j.1
  | [], w, j, hp, h => by
    cases h
    refine ⟨?_, Int.le_refl _⟩
    show w.2 = ((w.2.natAbs : Nat) : Int)
    omega
  | i :: s, w, j, hp, h => by
    have h3 : foldJ ws (some w) (i :: s) = foldJ ws (jnt w (wk ws i)) s := rfl
    rw [h3] at h
    cases hj : jnt w (wk ws i) with
    | none => rw [hj, foldJ_none] at h; cases h
    | some u =>
      rw [hj] at h
      have e := jnt_e hj
      have e2 := jnt_lo hp hj
      have := wk_pos hw i
      have h4 : 0 < Nat.lcm w.2.natAbs (wk ws i).2.natAbs := Nat.lcm_pos (by omega) (by omega)
      obtain ⟨h5, h6⟩ := foldJ_e hw s u j (by omega) h
      refine ⟨?_, by omega⟩
      rw [h5, e]
      rfl
theorem jof_e {ws : List (Int × Int)} (hw : ∀ p ∈ ws, 0 < p.2) {s : List Nat} {j : Int × Int} (h : jof ws s = some j) : j.2 = (rnd (sub ws s) : Nat) := by
  cases s with
  | nil => cases h
  | cons i s =>
    have h1 := wk_pos hw i
    obtain ⟨h2, _⟩ := foldJ_e hw s (wk ws i) j h1 h
    rw [h2, rnd, show sub ws (i :: s) = wk ws i :: sub ws s from rfl, List.foldl_cons, Nat.lcm_one_left]
section
variable {C : Cf} [All C] {k : Nat} {ws : List (Int × Int)}
theorem isND_w (w : Int × Int) : isND (wD w) = false := rfl
theorem cut_1 (xs : List D) : PL.cutD xs (some 1) none = xs.drop 1 := by
  unfold PL.cutD
  have e1 : HT.sIx xs.length 0 (some 1) = min 1 xs.length := HT.sIx_nat _ _ 1
  have e2 : HT.sIx xs.length xs.length none = xs.length := rfl
  rw [e1, e2]
  cases xs with
  | nil => rfl
  | cons a l => simp
theorem mem_pre {s pre po : List Nat} {i0 i : Nat} (e : s = pre ++ i :: po) : i ∈ i0 :: s := by rw [e]; simp
theorem c_joint_of (o : Wm ws) {i0 : Nat} {s : List Nat} (h : ∀ i ∈ i0 :: s, i < ws.length) (hl : s.length ≤ 3) : C (k + 3) "joint_of" [wsD ws, setD false (i0 :: s)] = some (oW (jof ws (i0 :: s))) := s_joint_of.run (run_of (by
  have hp := o.toWs.pos
  have h0 := h i0 List.mem_cons_self
  simp -implicitDefEqProofs [-ixD, -seqD, -walkD, -allD, -anyD, -sumD, -maxD, -minD, -minTD, -rng1, -rng2, -rng3, -List.head?_filter, -isTys, -lenD, setD, cut_1, ix_ws h0]
  refine Wf_fr (fun i : Nat => D.i i) s (fun pre e => ∃ w c, e = [.v (wsD ws), .v (.t ((i0 :: s).map fun k : Nat => D.i k)), .v (wD w), c] ∧ foldJ ws (some (wk ws i0)) pre = some w) ?_ ⟨wk ws i0, .no, by simp -implicitDefEqProofs [-ixD, -seqD, -walkD, -allD, -anyD, -sumD, -maxD, -minD, -minTD, -rng1, -rng2, -rng3, -List.head?_filter, -isTys, -lenD], rfl⟩ ?_ ?_
  · simp -implicitDefEqProofs [-ixD, -seqD, -walkD, -allD, -anyD, -sumD, -maxD, -minD, -minTD, -rng1, -rng2, -rng3, -List.head?_filter, -isTys, -lenD, cut_1]
  · rintro pre i po env e ⟨w, c, rfl, hf⟩
    have hi := h i (mem_pre e)
    have hwi := o.d _ (wk_in hi)
    have hwi2 := o.e _ (wk_in hi)
    have hw0 := o.d _ (wk_in h0)
    have hw02 := o.e _ (wk_in h0)
    obtain ⟨f1, f2⟩ := foldJ_e hp pre (wk ws i0) w (by omega) hf
    have hpl : pre.length ≤ 2 := by
      have := congrArg List.length e
      simp at this
      omega
    have hb := rnd_le pre.length (sub ws pre) (wk ws i0).2.natAbs (by simp [sub]) (fun p hp => by
      obtain ⟨j, hj, rfl⟩ := List.mem_map.mp hp
      have hj2 := h j (by rw [e]; simp [hj])
      have := o.d _ (wk_in hj2)
      have := o.e _ (wk_in hj2)
      omega) (by omega)
    have hpw : 12 ^ pre.length ≤ 12 ^ 2 := Nat.pow_le_pow_right (by omega) hpl
    have hm : (wk ws i0).2.natAbs * 12 ^ pre.length ≤ 12 * 12 ^ 2 := Nat.mul_le_mul (by omega) hpw
    have e1 := c_joint (C := C) (k := k) (one := w) (other := wk ws i) (by omega) (by omega) (by omega) (by omega) (by omega) (by omega)
    have e2 : foldJ ws (some (wk ws i0)) (pre ++ [i]) = jnt w (wk ws i) := by
      show (pre ++ [i]).foldl _ _ = _
      rw [List.foldl_append]
      show ((foldJ ws (some (wk ws i0)) pre).bind fun w => jnt w (wk ws i)) = _
      rw [hf]; rfl
    cases hj : jnt w (wk ws i) with
    | none =>
      have e3 : jof ws (i0 :: s) = none := by
        show foldJ ws (some (wk ws i0)) s = none
        rw [e, show pre ++ i :: po = (pre ++ [i]) ++ po by simp]
        show ((pre ++ [i]) ++ po).foldl _ _ = _
        rw [List.foldl_append]
        show foldJ ws (foldJ ws (some (wk ws i0)) (pre ++ [i])) po = none
        rw [e2, hj, foldJ_none]
      rw [hj] at e1
      simp -implicitDefEqProofs [-ixD, -seqD, -walkD, -allD, -anyD, -sumD, -maxD, -minD, -minTD, -rng1, -rng2, -rng3, -List.head?_filter, -isTys, -lenD, ix_ws hi, e1, oW, e3]
    | some u =>
      rw [hj] at e1 e2
      simp -implicitDefEqProofs [-ixD, -seqD, -walkD, -allD, -anyD, -sumD, -maxD, -minD, -minTD, -rng1, -rng2, -rng3, -List.head?_filter, -isTys, -lenD, ix_ws hi, e1, oW, isND_w, e2]
  · rintro env ⟨w, c, rfl, hf⟩
    have e3 : jof ws (i0 :: s) = some w := hf
    simp -implicitDefEqProofs [-ixD, -seqD, -walkD, -allD, -anyD, -sumD, -maxD, -minD, -minTD, -rng1, -rng2, -rng3, -List.head?_filter, -isTys, -lenD, e3, oW]))
end
end K43
namespace K43
open PySem PySem.Spec PyProof.Rows L2 PL
def fD : Option (Int × Int) → D
  | some w => .i w.1
  | none => .n
def divB (p q : Int × Int) (v : Int) : Bool := decide (2 ≤ v) && (decide (p.2 % v = 0) && (decide (q.2 % v = 0) && !decide (p.1 % v = q.1 % v)))
def parM (p q : Int × Int) : Option Int := ((List.range 59).find? fun i : Nat => divB p q (60 - (i : Nat))).map fun i => 60 - (i : Nat)
def iD : Option Int → D
  | some v => .i v
  | none => .n
@[simp] theorem iD_s (v : Int) : iD (some v) = .i v := rfl
@[simp] theorem iD_n : iD none = .n := rfl
section
variable {C : Cf} [All C] {k : Nat} {ws : List (Int × Int)}
theorem from_nat {i n : Nat} (h : i < n) : fromB (.i (i : Int)) 0 ((n : Int) - 1) = true := by simp; omega
theorem c_n2 (o : Ws ws) {i j : Nat} (hi : i < ws.length) (hj : j < ws.length) (hij : i ≠ j) : C (k + 6) "need_two" [wsD ws, .i i, .i j] = some (wsD ws) := s_need_two.run (run_of (by
  have e0 : C (k + 5) "need_watches" [wsD ws] = some (wsD ws) := c_nw (C := C) (k := k) o false
  have e1 := c_from (C := C) (k := k + 3) (d := .i i) (lo := 0) (hi := (ws.length : Int) - 1) rfl
  have e2 := c_from (C := C) (k := k + 3) (d := .i j) (lo := 0) (hi := (ws.length : Int) - 1) rfl
  rw [from_nat hi] at e1
  rw [from_nat hj] at e2
  have hd : decide ((j : Int) = i) = false := decide_eq_false (by omega)
  have hd2 : ¬ j = i := by omega
  simp -implicitDefEqProofs [-ixD, -seqD, -walkD, -allD, -anyD, -sumD, -maxD, -minD, -minTD, -rng1, -rng2, -rng3, -List.head?_filter, -isTys, -lenD, e0, e1, e2, c_need (C := C), hd, hd2]))
theorem c_meeting (o : Wm ws) {i j : Nat} (hi : i < ws.length) (hj : j < ws.length) (hij : i ≠ j) : C (k + 7) "meeting" [wsD ws, .i i, .i j] = some (fD (jnt (wk ws i) (wk ws j))) := s_meeting.run (run_of (by
  have e0 := c_n2 (C := C) (k := k) o.toWs hi hj hij
  have hwi := o.d _ (wk_in hi)
  have hwj := o.d _ (wk_in hj)
  have e1 := c_joint (C := C) (k := k + 4) (one := wk ws i) (other := wk ws j) (by omega) (by omega) (by omega) (by omega) (by omega) (by omega)
  simp -implicitDefEqProofs [-ixD, -seqD, -walkD, -allD, -anyD, -sumD, -maxD, -minD, -minTD, -rng1, -rng2, -rng3, -List.head?_filter, -isTys, -lenD, e0, ix_ws hi, ix_ws hj, e1]
  cases jnt (wk ws i) (wk ws j) with
  | none => simp -implicitDefEqProofs [-ixD, -seqD, -walkD, -allD, -anyD, -sumD, -maxD, -minD, -minTD, -rng1, -rng2, -rng3, -List.head?_filter, -isTys, -lenD, oW, fD]
  | some w => simp -implicitDefEqProofs [-ixD, -seqD, -walkD, -allD, -anyD, -sumD, -maxD, -minD, -minTD, -rng1, -rng2, -rng3, -List.head?_filter, -isTys, -lenD, oW, fD, isND_w]))
theorem c_div (o : Wm ws) {i j : Nat} (hi : i < ws.length) (hj : j < ws.length) {v : Int} : C (k + 2) "divides" [wsD ws, .i i, .i j, .i v] = some (.b (divB (wk ws i) (wk ws j) v)) := s_divides.run (run_of (by
  have e0 := c_int (C := C) (k := k) (d := .i v) rfl
  have e0 : C (k + 1) "is_int" [.i v] = some (.b true) := e0
  by_cases hv : v < 2
  · have : divB (wk ws i) (wk ws j) v = false := by
      unfold divB
      rw [decide_eq_false (by omega)]
      rfl
    simp -implicitDefEqProofs [-ixD, -seqD, -walkD, -allD, -anyD, -sumD, -maxD, -minD, -minTD, -rng1, -rng2, -rng3, -List.head?_filter, -isTys, -lenD, e0, hv, this]
  · have hvp : 0 < v := by omega
    have : decide (2 ≤ v) = true := decide_eq_true (by omega)
    simp -implicitDefEqProofs [-ixD, -seqD, -walkD, -allD, -anyD, -sumD, -maxD, -minD, -minTD, -rng1, -rng2, -rng3, -List.head?_filter, -isTys, -lenD, e0, hv, ix_ws hi, ix_ws hj, wD, moE_ok hvp, divB, this]
    by_cases g1 : (wk ws i).2 % v = 0
    · by_cases g2 : (wk ws j).2 % v = 0
      · simp [g1, g2]
      · simp [g1, g2]
    · simp [g1]))
theorem c_div_no {i j : Nat} {d : D} (h : calm d = true) (h2 : isIn d = false) : C (k + 2) "divides" [wsD ws, .i i, .i j, d] = some (.b false) := s_divides.run (run_of (by
  have e0 := c_int (C := C) (k := k) (d := d) h
  rw [h2] at e0
  simp -implicitDefEqProofs [-ixD, -seqD, -walkD, -allD, -anyD, -sumD, -maxD, -minD, -minTD, -rng1, -rng2, -rng3, -List.head?_filter, -isTys, -lenD, e0]))
theorem c_is_par (o : Wm ws) {i j : Nat} (hi : i < ws.length) (hj : j < ws.length) (hij : i ≠ j) {v : Int} : C (k + 7) "is_parting" [wsD ws, .i i, .i j, .i v] = some (.b (divB (wk ws i) (wk ws j) v)) := s_is_parting.run (run_of (by
  have e0 := c_n2 (C := C) (k := k) o.toWs hi hj hij
  have e1 := c_div (C := C) (k := k + 4) o hi hj (v := v)
  simp -implicitDefEqProofs [-ixD, -seqD, -walkD, -allD, -anyD, -sumD, -maxD, -minD, -minTD, -rng1, -rng2, -rng3, -List.head?_filter, -isTys, -lenD, e0, e1]))
theorem c_is_par_no (o : Wm ws) {i j : Nat} (hi : i < ws.length) (hj : j < ws.length) (hij : i ≠ j) {d : D} (h : calm d = true) (h2 : isIn d = false) : C (k + 7) "is_parting" [wsD ws, .i i, .i j, d] = some (.b false) := s_is_parting.run (run_of (by
  have e0 := c_n2 (C := C) (k := k) o.toWs hi hj hij
  have e1 := c_div_no (C := C) (k := k + 4) (ws := ws) (i := i) (j := j) h h2
  simp -implicitDefEqProofs [-ixD, -seqD, -walkD, -allD, -anyD, -sumD, -maxD, -minD, -minTD, -rng1, -rng2, -rng3, -List.head?_filter, -isTys, -lenD, e0, e1]))
theorem dwn_map (lo : Int) (n : Nat) : dwnD lo n = (List.range n).map fun i : Nat => D.i (lo - (i : Nat)) := rfl
theorem c_par (o : Wm ws) {i j : Nat} (hi : i < ws.length) (hj : j < ws.length) (hij : i ≠ j) : C (k + 7) "parting_of" [wsD ws, .i i, .i j] = some (iD (parM (wk ws i) (wk ws j))) := s_parting_of.run (run_of (by
  have e0 := c_n2 (C := C) (k := k) o.toWs hi hj hij
  simp -implicitDefEqProofs [-ixD, -seqD, -walkD, -allD, -anyD, -sumD, -maxD, -minD, -minTD, -rng1, -rng2, -rng3, -List.head?_filter, -isTys, -lenD, e0]
  refine Wf_frp [3] (fun i : Nat => D.i (60 - (i : Nat))) (List.range 59) (Nope fun x : Nat => divB (wk ws i) (wk ws j) (60 - (x : Nat))) ?_ nope_nil ?_ ?_
  · have : PL.rng3 (.i 60) (.i 1) (.i (-1)) = some (dwnD 60 59) := by decide +kernel
    simp -implicitDefEqProofs [-ixD, -seqD, -walkD, -allD, -anyD, -sumD, -maxD, -minD, -minTD, -rng1, -rng2, -rng3, -List.head?_filter, -isTys, -lenD, this, dwn_map]
  · intro pre x post e hno c
    have e1 := c_div (C := C) (k := k + 4) o hi hj (v := 60 - (x : Nat))
    cases hq : divB (wk ws i) (wk ws j) (60 - (x : Nat)) with
    | true =>
      have : (List.range 59).find? (fun x : Nat => divB (wk ws i) (wk ws j) (60 - (x : Nat))) = some x := by rw [e]; exact hno.find_at hq
      simp -implicitDefEqProofs [-ixD, -seqD, -walkD, -allD, -anyD, -sumD, -maxD, -minD, -minTD, -rng1, -rng2, -rng3, -List.head?_filter, -isTys, -lenD, e1, hq, parM, this]
    | false =>
      have h2 := hno.snoc hq
      simp -implicitDefEqProofs [-ixD, -seqD, -walkD, -allD, -anyD, -sumD, -maxD, -minD, -minTD, -rng1, -rng2, -rng3, -List.head?_filter, -isTys, -lenD, e1, hq, h2]
  · intro hno c
    have := hno.find
    simp -implicitDefEqProofs [-ixD, -seqD, -walkD, -allD, -anyD, -sumD, -maxD, -minD, -minTD, -rng1, -rng2, -rng3, -List.head?_filter, -isTys, -lenD, parM, this]))
/-! ### sets -/
theorem c_together (o : Wm ws) {s : List Nat} (h : Rise ws.length s) (h1 : s ≠ []) (hl : s.length ≤ 4) : C (k + 6) "together" [wsD ws, setD false s] = some (fD (jof ws s)) := s_together.run (run_of (by
  have e0 : C (k + 5) "need_watches" [wsD ws] = some (wsD ws) := c_nw (C := C) (k := k) o.toWs false
  have hs1 : 1 ≤ s.length := by cases s with
    | nil => exact absurd rfl h1
    | cons a l => simp
  have e1 := c_is_some (C := C) (k := k + 1) h false hs1
  obtain ⟨i0, r, rfl⟩ : ∃ i0 r, s = i0 :: r := by cases s with
    | nil => exact absurd rfl h1
    | cons a l => exact ⟨a, l, rfl⟩
  have e2 := c_joint_of (C := C) (k := k + 2) o (i0 := i0) (s := r) h.2 (by simp at hl; omega)
  simp -implicitDefEqProofs [-ixD, -seqD, -walkD, -allD, -anyD, -sumD, -maxD, -minD, -minTD, -rng1, -rng2, -rng3, -List.head?_filter, -isTys, -lenD, e0, e1, e2, c_need (C := C)]
  cases jof ws (i0 :: r) with
  | none => simp -implicitDefEqProofs [-ixD, -seqD, -walkD, -allD, -anyD, -sumD, -maxD, -minD, -minTD, -rng1, -rng2, -rng3, -List.head?_filter, -isTys, -lenD, oW, fD]
  | some w => simp -implicitDefEqProofs [-ixD, -seqD, -walkD, -allD, -anyD, -sumD, -maxD, -minD, -minTD, -rng1, -rng2, -rng3, -List.head?_filter, -isTys, -lenD, oW, fD, isND_w]))
end
end K43
namespace K43
open PySem PySem.Spec PyProof.Rows L2 PL
def nAt (l : List Nat) (i : Nat) : Nat := l.getD i 0
def cbR (n r : Nat) : List (List Nat) := (cbIx n r).getD []
def okIx (n r : Nat) : Bool := (cbIx n r).isSome && (cbR n r).all fun ix => ix.length == r && ix.all fun i => decide (i < n)
def okPr (r : Nat) : Bool := (cbR r 2).all fun jx => decide (jx = [nAt jx 0, nAt jx 1]) && (decide (nAt jx 0 < nAt jx 1) && decide (nAt jx 1 < r))
theorem ok_ix : ((List.range 5).all fun n => (List.range 5).all fun r => okIx n r) = true := by decide +kernel
theorem ok_pr : ((List.range 5).all fun r => okPr r) = true := by decide +kernel
theorem cb_ix {n r : Nat} (hn : n ≤ 4) (hr : r ≤ 4) : cbIx n r = some (cbR n r) ∧ ∀ ix ∈ cbR n r, ix.length = r ∧ ∀ i ∈ ix, i < n := by
  have h1 := List.all_eq_true.mp (List.all_eq_true.mp ok_ix n (List.mem_range.mpr (by omega))) r (List.mem_range.mpr (by omega))
  unfold okIx at h1
  rw [Bool.and_eq_true, List.all_eq_true] at h1
  refine ⟨?_, fun ix hx => ?_⟩
  · unfold cbR
    cases e : cbIx n r with
    | none => rw [e] at h1; cases h1.1
    | some l => rfl
  · have h2 := h1.2 ix hx
    rw [Bool.and_eq_true, List.all_eq_true] at h2
    exact ⟨by simpa using h2.1, fun i hi => by simpa using h2.2 i hi⟩
theorem cb_pr {r : Nat} (hr : r ≤ 4) {jx : List Nat} (h : jx ∈ cbR r 2) : jx = [nAt jx 0, nAt jx 1] ∧ nAt jx 0 < nAt jx 1 ∧ nAt jx 1 < r := by
  have h1 := List.all_eq_true.mp ok_pr r (List.mem_range.mpr (by omega))
  have h2 := List.all_eq_true.mp h1 jx h
  rw [Bool.and_eq_true, Bool.and_eq_true, decide_eq_true_eq, decide_eq_true_eq, decide_eq_true_eq] at h2
  exact h2
theorem comb_l {ds : List D} {r : Nat} (hn : ds.length ≤ 4) (hr : r ≤ 4) : combD (.l ds) (.i r) = some ((cbR ds.length r).map fun ix => .t (ix.map fun i => ds.getD i .n)) := by
  have h := (cb_ix hn hr).1
  simp only [combD]
  rw [if_pos (by omega)]
  simp [h]
theorem comb_t {ds : List D} {r : Nat} (hn : ds.length ≤ 4) (hr : r ≤ 4) : combD (.t ds) (.i r) = some ((cbR ds.length r).map fun ix => .t (ix.map fun i => ds.getD i .n)) := by
  have h := (cb_ix hn hr).1
  simp only [combD]
  rw [if_pos (by omega)]
  simp [h]
def pairsOf (s : List Nat) : List (Nat × Nat) := (cbR s.length 2).map fun jx => (nAt s (nAt jx 0), nAt s (nAt jx 1))
def pairD (p : Nat × Nat) : D := .t [.i (p.1 : Nat), .i (p.2 : Nat)]
def apart (ws : List (Int × Int)) (s : List Nat) : Option (Nat × Nat) := (pairsOf s).find? fun p => (jnt (wk ws p.1) (wk ws p.2)).isNone
def pD : Option (Nat × Nat) → D
  | some p => pairD p
  | none => .n
def ntF (w : Int × Int) (m : Int) : Int := if m < w.1 then 0 else (m - w.1) / w.2 + 1
def cntJ (j : Option (Int × Int)) (a b : Int) : Int := match j with
  | some w => ntF w b - ntF w (a - 1)
  | none => 0
def fT (ws : List (Int × Int)) (r : Nat) : Option (List Nat) := (cbR ws.length r).find? fun ix => (jof ws ix).isSome
def rowF (ws : List (Int × Int)) (ix : List Nat) : D := .t [setD false ix, fD (jof ws ix)]
def optR (ws : List (Int × Int)) : Option (List Nat) → D
  | some ix => rowF ws ix
  | none => .n
def fst1 (ws : List (Int × Int)) (best : Option (List Nat)) (i : Nat) : Option (List Nat) := match fT ws (i + 1) with
  | some ix => some ix
  | none => best
def full (ws : List (Int × Int)) : Option (List Nat) := (List.range ws.length).foldl (fst1 ws) none
theorem isND_oW (j : Option (Int × Int)) : isND (oW j) = j.isNone := by cases j <;> rfl
section
variable {C : Cf} [All C] {k : Nat} {ws : List (Int × Int)}
theorem comb_set {s : List Nat} (hl : s.length ≤ 4) (l : Bool) : combD (setD l s) (.i 2) = some ((pairsOf s).map pairD) := by
  have e : ∀ jx ∈ cbR s.length 2, D.t (jx.map fun i => (s.map fun k : Nat => D.i k).getD i .n) = pairD (nAt s (nAt jx 0), nAt s (nAt jx 1)) := fun jx hj => by
    obtain ⟨e4, h1, h2⟩ := cb_pr hl hj
    have g : ∀ j, j < s.length → (s.map fun k : Nat => D.i k).getD j .n = .i (nAt s j : Nat) := fun j hj => by simp [List.getD, nAt, hj]
    conv => lhs; rw [e4]
    rw [List.map_cons, List.map_cons, List.map_nil, g _ (by omega), g _ h2]
    rfl
  have e2 : ((cbR s.length 2).map fun jx => D.t (jx.map fun i => (s.map fun k : Nat => D.i k).getD i .n)) = (pairsOf s).map pairD := by
    rw [pairsOf, List.map_map]
    exact List.map_congr_left e
  cases l
  · have := comb_t (ds := s.map fun k : Nat => D.i k) (r := 2) (by simpa using hl) (by omega)
    rw [List.length_map, e2] at this
    exact this
  · have := comb_l (ds := s.map fun k : Nat => D.i k) (r := 2) (by simpa using hl) (by omega)
    rw [List.length_map, e2] at this
    exact this
theorem pairs_in {s : List Nat} (hl : s.length ≤ 4) {p : Nat × Nat} (h : p ∈ pairsOf s) : p.1 ∈ s ∧ p.2 ∈ s := by
  obtain ⟨jx, hj, rfl⟩ := List.mem_map.mp h
  obtain ⟨e4, h1, h2⟩ := cb_pr hl hj
  have g : ∀ j, j < s.length → nAt s j ∈ s := fun j hj => by
    have : nAt s j = s[j] := by simp [nAt, List.getD, hj]
    rw [this]
    exact List.getElem_mem hj
  exact ⟨g _ (by omega), g _ h2⟩
theorem c_apart (o : Wm ws) {s : List Nat} (h : Rise ws.length s) (h1 : 1 ≤ s.length) (hl : s.length ≤ 4) (l : Bool) : C (k + 6) "apart_of" [wsD ws, setD l s] = some (pD (apart ws s)) := s_apart_of.run (run_of (by
  have e0 : C (k + 5) "need_watches" [wsD ws] = some (wsD ws) := c_nw (C := C) (k := k) o.toWs false
  have e1 := c_is_some (C := C) (k := k + 1) h l h1
  simp -implicitDefEqProofs [-ixD, -seqD, -walkD, -allD, -anyD, -sumD, -maxD, -minD, -minTD, -rng1, -rng2, -rng3, -List.head?_filter, -isTys, -lenD, e0, e1, c_need (C := C)]
  refine Wf_frp [2, 3] pairD (pairsOf s) (Nope fun p : Nat × Nat => (jnt (wk ws p.1) (wk ws p.2)).isNone) ?_ nope_nil ?_ ?_
  · simp -implicitDefEqProofs [-ixD, -seqD, -walkD, -allD, -anyD, -sumD, -maxD, -minD, -minTD, -rng1, -rng2, -rng3, -List.head?_filter, -isTys, -lenD, -combD, comb_set hl l]
  · intro pre p post e hno c
    have hp : p ∈ pairsOf s := by rw [e]; simp
    obtain ⟨p1, p2⟩ := pairs_in hl hp
    have hi := h.2 _ p1
    have hj := h.2 _ p2
    have hwi := o.d _ (wk_in hi)
    have hwj := o.d _ (wk_in hj)
    have e2 := c_joint (C := C) (k := k + 3) (one := wk ws p.1) (other := wk ws p.2) (by omega) (by omega) (by omega) (by omega) (by omega) (by omega)
    cases hq : (jnt (wk ws p.1) (wk ws p.2)).isNone with
    | true =>
      have : apart ws s = some p := by rw [apart, e]; exact hno.find_at hq
      simp -implicitDefEqProofs [-ixD, -seqD, -walkD, -allD, -anyD, -sumD, -maxD, -minD, -minTD, -rng1, -rng2, -rng3, -List.head?_filter, -isTys, -lenD, pairD, ix_ws hi, ix_ws hj, e2, isND_oW, hq, this, pD]
    | false =>
      have h2 := hno.snoc hq
      simp -implicitDefEqProofs [-ixD, -seqD, -walkD, -allD, -anyD, -sumD, -maxD, -minD, -minTD, -rng1, -rng2, -rng3, -List.head?_filter, -isTys, -lenD, pairD, ix_ws hi, ix_ws hj, e2, isND_oW, hq, h2]
  · intro hno c
    have : apart ws s = none := hno.find
    simp -implicitDefEqProofs [-ixD, -seqD, -walkD, -allD, -anyD, -sumD, -maxD, -minD, -minTD, -rng1, -rng2, -rng3, -List.head?_filter, -isTys, -lenD, this, pD]))
theorem c_nt {w : Int × Int} {m : Int} (h : 0 < w.2) (h2 : w.2 < 1000000) : C (k + 1) "nights_to" [wD w, .i m] = some (.i (ntF w m)) := s_nights_to.run (run_of (by
  by_cases q : m < w.1
  · simp -implicitDefEqProofs [-ixD, -seqD, -walkD, -allD, -anyD, -sumD, -maxD, -minD, -minTD, -rng1, -rng2, -rng3, -List.head?_filter, -isTys, -lenD, q, ntF]
  · simp -implicitDefEqProofs [-ixD, -seqD, -walkD, -allD, -anyD, -sumD, -maxD, -minD, -minTD, -rng1, -rng2, -rng3, -List.head?_filter, -isTys, -lenD, q, ntF, fdE_ok h (show w.2 < 1000000000000 by omega)]))
theorem jof_b (o : Wm ws) {s : List Nat} (h : Rise ws.length s) (hl : s.length ≤ 4) {j : Int × Int} (e : jof ws s = some j) : 0 < j.2 ∧ j.2 ≤ 20736 := by
  have h1 := jof_e o.toWs.pos e
  have h2 := rnd_le s.length (sub ws s) 1 (by simp [sub]) (fun p hp => by
    obtain ⟨i, hi, rfl⟩ := List.mem_map.mp hp
    have hi2 := h.2 i hi
    have := o.d _ (wk_in hi2)
    have := o.e _ (wk_in hi2)
    omega) (by omega)
  have h3 : 12 ^ s.length ≤ 12 ^ 4 := Nat.pow_le_pow_right (by omega) hl
  have h4 : rnd (sub ws s) = (sub ws s).foldl (fun r w => Nat.lcm r w.2.natAbs) 1 := rfl
  omega
theorem c_counted (o : Wm ws) {s : List Nat} (h : Rise ws.length s) (h1 : s ≠ []) (hl : s.length ≤ 4) {a b : Int} (ha : 0 ≤ a) (hab : a ≤ b) : C (k + 6) "counted" [wsD ws, setD false s, .i a, .i b] = some (.i (cntJ (jof ws s) a b)) := s_counted.run (run_of (by
  have e0 : C (k + 5) "need_watches" [wsD ws] = some (wsD ws) := c_nw (C := C) (k := k) o.toWs false
  have hs1 : 1 ≤ s.length := by cases s with
    | nil => exact absurd rfl h1
    | cons a l => simp
  have e1 := c_is_some (C := C) (k := k + 1) h false hs1
  have en : ∀ n : Int, 0 ≤ n → C (k + 5) "is_night" [.i n] = some (.b true) := fun n hn => s_is_night.run (by
    have := c_int (C := C) (k := k + 3) (d := .i n) rfl
    simp -implicitDefEqProofs [-ixD, -seqD, -walkD, -allD, -anyD, -sumD, -maxD, -minD, -minTD, -rng1, -rng2, -rng3, -List.head?_filter, -isTys, -lenD, S_is_night, this, hn])
  have e3 := en a ha
  have e4 := en b (by omega)
  have hb := fun j e => jof_b (ws := ws) o h hl (j := j) e
  obtain ⟨i0, r, rfl⟩ : ∃ i0 r, s = i0 :: r := by cases s with
    | nil => exact absurd rfl h1
    | cons a l => exact ⟨a, l, rfl⟩
  have e2 := c_joint_of (C := C) (k := k + 2) o (i0 := i0) (s := r) h.2 (by simp at hl; omega)
  simp -implicitDefEqProofs [-ixD, -seqD, -walkD, -allD, -anyD, -sumD, -maxD, -minD, -minTD, -rng1, -rng2, -rng3, -List.head?_filter, -isTys, -lenD, e0, e1, e2, e3, e4, c_need (C := C), hab]
  cases hj : jof ws (i0 :: r) with
  | none => simp -implicitDefEqProofs [-ixD, -seqD, -walkD, -allD, -anyD, -sumD, -maxD, -minD, -minTD, -rng1, -rng2, -rng3, -List.head?_filter, -isTys, -lenD, oW, cntJ]
  | some w =>
    obtain ⟨b1, b2⟩ := hb w hj
    simp -implicitDefEqProofs [-ixD, -seqD, -walkD, -allD, -anyD, -sumD, -maxD, -minD, -minTD, -rng1, -rng2, -rng3, -List.head?_filter, -isTys, -lenD, oW, cntJ, isND_w, c_nt (C := C) (k := k + 4) (w := w) b1 (by omega)]))
theorem comb_r {n r : Nat} (hn : n ≤ 4) (hr : r ≤ 4) : combD (.r 0 (n : Int)) (.i r) = some ((cbR n r).map (setD false)) := by
  obtain ⟨h, h2⟩ := cb_ix hn hr
  have hw : walkD (.r 0 (n : Int)) = some ((List.range n).map fun i : Nat => D.i i) := by
    rw [walkD, if_pos (by rw [smI_nat (by omega)]; rfl), rngD_map]
    simp
  have hd : combD (.r 0 (n : Int)) (.i r) = if 0 ≤ (r : Int) then (walkD (.r 0 (n : Int))).bind fun ds => (cbIx ds.length (r : Int).toNat).map fun rows => rows.map fun ix => .t (ix.map fun i => ds.getD i .n) else none := rfl
  rw [hd, if_pos (by omega), hw, Option.bind_some, List.length_map, List.length_range, Int.toNat_natCast, h]
  show some _ = some _
  congr 1
  refine List.map_congr_left fun ix hx => ?_
  show D.t _ = D.t _
  congr 1
  refine List.map_congr_left fun i hi => ?_
  have := (h2 ix hx).2 i hi
  simp [List.getD, this]
theorem c_first (o : Wm ws) {r : Nat} (h1 : 1 ≤ r) (hr : r ≤ 4) : C (k + 4) "first_together" [wsD ws, .i r] = some (optR ws (fT ws r)) := s_first_together.run (run_of (by
  have hn := o.m
  obtain ⟨_, hix⟩ := cb_ix hn hr
  refine Wf_frp [2, 3] (setD false) (cbR ws.length r) (Nope fun ix => (jof ws ix).isSome) ?_ nope_nil ?_ ?_
  · simp -implicitDefEqProofs [-ixD, -seqD, -walkD, -allD, -anyD, -sumD, -maxD, -minD, -minTD, -rng1, -rng2, -rng3, -List.head?_filter, -isTys, -lenD, -combD, comb_r hn hr]
  · intro pre ix post e hno c
    obtain ⟨hl, hi⟩ := hix ix (by rw [e]; simp)
    obtain ⟨i0, q, rfl⟩ : ∃ i0 q, ix = i0 :: q := by cases ix with
      | nil => simp at hl; omega
      | cons a l => exact ⟨a, l, rfl⟩
    have e2 := c_joint_of (C := C) (k := k) o (i0 := i0) (s := q) hi (by simp at hl; omega)
    cases hj : jof ws (i0 :: q) with
    | none =>
      have h2 := hno.snoc (a := i0 :: q) (by rw [hj]; rfl)
      rw [hj] at e2
      simp -implicitDefEqProofs [-ixD, -seqD, -walkD, -allD, -anyD, -sumD, -maxD, -minD, -minTD, -rng1, -rng2, -rng3, -List.head?_filter, -isTys, -lenD, e2, oW, h2]
    | some w =>
      have : fT ws r = some (i0 :: q) := by rw [fT, e]; exact hno.find_at (by rw [hj]; rfl)
      rw [hj] at e2
      simp -implicitDefEqProofs [-ixD, -seqD, -walkD, -allD, -anyD, -sumD, -maxD, -minD, -minTD, -rng1, -rng2, -rng3, -List.head?_filter, -isTys, -lenD, e2, oW, isND_w, this, optR, rowF, hj, fD]
  · intro hno c
    have : fT ws r = none := hno.find
    simp -implicitDefEqProofs [-ixD, -seqD, -walkD, -allD, -anyD, -sumD, -maxD, -minD, -minTD, -rng1, -rng2, -rng3, -List.head?_filter, -isTys, -lenD, this, optR]))
theorem isND_optR (f : Option (List Nat)) : isND (optR ws f) = f.isNone := by cases f <;> rfl
theorem c_full (o : Wm ws) : C (k + 6) "fullest" [wsD ws] = some (optR ws (full ws)) := s_fullest.run (run_of (by
  have e0 : C (k + 5) "need_watches" [wsD ws] = some (wsD ws) := c_nw (C := C) (k := k) o.toWs false
  have hn := o.m
  simp -implicitDefEqProofs [-ixD, -seqD, -walkD, -allD, -anyD, -sumD, -maxD, -minD, -minTD, -rng1, -rng2, -rng3, -List.head?_filter, -isTys, -lenD, e0]
  refine Wf_fr (fun i : Nat => D.i ((i : Int) + 1)) (List.range ws.length) (fun pre e => ∃ c2 c3, e = [.v (wsD ws), .v (optR ws (pre.foldl (fst1 ws) none)), c2, c3]) ?_ ⟨.no, .no, by simp -implicitDefEqProofs [-ixD, -seqD, -walkD, -allD, -anyD, -sumD, -maxD, -minD, -minTD, -rng1, -rng2, -rng3, -List.head?_filter, -isTys, -lenD, optR]⟩ ?_ ?_
  · have : PL.rng2 (.i 1) (.i ((ws.length : Int) + 1)) = some ((List.range ws.length).map fun i : Nat => D.i ((i : Int) + 1)) := by
      rw [PL.rng2, if_pos (by rw [show smI 1 = true by decide +kernel, smI, absLe_of (by omega)]; rfl), rngD_map]
      have : ((ws.length : Int) + 1 - 1).toNat = ws.length := by omega
      rw [this]
      congr 1
      exact List.map_congr_left fun i _ => by rw [Int.add_comm]
    simp -implicitDefEqProofs [-ixD, -seqD, -walkD, -allD, -anyD, -sumD, -maxD, -minD, -minTD, -rng1, -rng2, -rng3, -List.head?_filter, -isTys, -lenD, this]
  · rintro pre i post env e ⟨c2, c3, rfl⟩
    have hi : i ∈ List.range ws.length := by rw [e]; simp
    have hi := List.mem_range.mp hi
    have e1 : C (k + 5) "first_together" [wsD ws, .i ((i : Int) + 1)] = some (optR ws (fT ws (i + 1))) := c_first (C := C) (k := k + 1) o (r := i + 1) (by omega) (by omega)
    cases hf : fT ws (i + 1) with
    | none =>
      rw [hf] at e1
      simp -implicitDefEqProofs [-ixD, -seqD, -walkD, -allD, -anyD, -sumD, -maxD, -minD, -minTD, -rng1, -rng2, -rng3, -List.head?_filter, -isTys, -lenD, e1, optR, fst1, hf]
    | some ix =>
      rw [hf] at e1
      simp -implicitDefEqProofs [-ixD, -seqD, -walkD, -allD, -anyD, -sumD, -maxD, -minD, -minTD, -rng1, -rng2, -rng3, -List.head?_filter, -isTys, -lenD, e1, isND_optR, fst1, hf]
  · rintro env ⟨c2, c3, rfl⟩
    simp -implicitDefEqProofs [-ixD, -seqD, -walkD, -allD, -anyD, -sumD, -maxD, -minD, -minTD, -rng1, -rng2, -rng3, -List.head?_filter, -isTys, -lenD, full]))
end
end K43
namespace K43
open PL
/-! ### plain: the first night, counts -/
theorem dvd_fold (l : List (Int × Int)) : ∀ r : Nat, r ∣ l.foldl (fun r w => Nat.lcm r w.2.natAbs) r := by
  induction l with
  | nil => exact fun r => Nat.dvd_refl r
  | cons a l ih => exact fun r => Nat.dvd_trans (Nat.dvd_lcm_left r a.2.natAbs) (ih _)
theorem dvd_rnd {l : List (Int × Int)} : ∀ {r : Nat} {p : Int × Int}, p ∈ l → p.2.natAbs ∣ l.foldl (fun r w => Nat.lcm r w.2.natAbs) r := by
  induction l with
  | nil => intro r p h; cases h
  | cons a l ih =>
    intro r p h
    rcases List.mem_cons.mp h with rfl | h
    · exact Nat.dvd_trans (Nat.dvd_lcm_right _ _) (dvd_fold l _)
    · exact ih h
theorem rnd_dvd {l : List (Int × Int)} {m : Nat} : ∀ {r : Nat}, r ∣ m → (∀ p ∈ l, p.2.natAbs ∣ m) → l.foldl (fun r w => Nat.lcm r w.2.natAbs) r ∣ m := by
  induction l with
  | nil => exact fun h _ => h
  | cons a l ih => exact fun h h2 => ih (Nat.lcm_dvd h (h2 a List.mem_cons_self)) fun p hp => h2 p (List.mem_cons_of_mem _ hp)
section
variable {ws : List (Int × Int)}
theorem jof_rnd (o : Wm ws) {s : List Nat} (h : ∀ i ∈ s, i < ws.length) {j : Int × Int} (e : jof ws s = some j) : j.2 ∣ ((rnd ws : Nat) : Int) := by
  rw [jof_e o.toWs.pos e]
  refine Int.natCast_dvd_natCast.mpr (rnd_dvd (Nat.one_dvd _) fun p hp => ?_)
  obtain ⟨i, hi, rfl⟩ := List.mem_map.mp hp
  exact dvd_rnd (wk_in (h i hi))
theorem allOn_iff {s : List Nat} {n : Int} : allOn ws s n = true ↔ ∀ k ∈ s, (wk ws k).1 ≤ n ∧ (wk ws k).2 ∣ n - (wk ws k).1 := by
  unfold allOn
  rw [List.all_eq_true]
  exact ⟨fun h k hk => onB_iff.mp (h k hk), fun h k hk => onB_iff.mpr (h k hk)⟩
theorem onB_self (w : Int × Int) : onB w w.1 = true := onB_iff.mpr ⟨Int.le_refl _, by rw [Int.sub_self]; exact Int.dvd_zero _⟩
/-- the first night of all comes within a round from night 14 on -/
theorem jof_lt (o : Wm ws) (hf : ∀ p ∈ ws, p.1 ≤ 13) {s : List Nat} (h : ∀ i ∈ s, i < ws.length) (hs : s ≠ []) {j : Int × Int} (e : jof ws s = some j) : j.1 < 14 + j.2 ∧ 0 < j.2 ∧ 0 ≤ j.1 := by
  have hp := o.toWs.pos
  have hj0 : 0 < j.2 := by
    rw [jof_e hp e]
    have h1 := rnd_le s.length (sub ws s) 1 (by simp [sub]) (fun p hp => by
      obtain ⟨i, hi, rfl⟩ := List.mem_map.mp hp
      have hi2 := h i hi
      have := o.d _ (wk_in hi2)
      have := o.e _ (wk_in hi2)
      omega) (by omega)
    have h4 : rnd (sub ws s) = (sub ws s).foldl (fun r w => Nat.lcm r w.2.natAbs) 1 := rfl
    omega
  have ha := jof_ok hp j.1 hs
  rw [e] at ha
  have ha : allOn ws s j.1 = true := ha.trans (onB_self j)
  have ha := allOn_iff.mp ha
  obtain ⟨i0, hi0⟩ := List.exists_mem_of_ne_nil s hs
  have h0 := (ha i0 hi0).1
  have h00 := o.d _ (wk_in (h i0 hi0))
  refine ⟨?_, hj0, by omega⟩
  rcases Int.lt_or_le j.1 (14 + j.2) with q | q
  · exact q
  · exfalso
    have hb : allOn ws s (j.1 - j.2) = true := allOn_iff.mpr fun k hk => by
      have h1 := hf _ (wk_in (h k hk))
      refine ⟨by omega, ?_⟩
      have h2 : (wk ws k).2 ∣ j.2 := by
        rw [jof_e hp e]
        refine Int.natAbs_dvd_natAbs.mp ?_
        exact dvd_rnd (List.mem_map_of_mem hk)
      have h3 := Int.dvd_sub (ha k hk).2 h2
      rwa [show j.1 - (wk ws k).1 - j.2 = j.1 - j.2 - (wk ws k).1 by omega] at h3
    have hc := jof_ok hp (j.1 - j.2) hs
    rw [hb, e] at hc
    have hc := onB_iff.mp hc.symm
    omega
def nightsL (ws : List (Int × Int)) (s : List Nat) (last : Nat) : List Nat := (List.range last).filter fun n : Nat => allOn ws s n
theorem nights_none (o : Wm ws) {s : List Nat} (hs : s ≠ []) (e : jof ws s = none) (last : Nat) : nightsL ws s last = [] := by
  unfold nightsL
  rw [List.filter_eq_nil_iff]
  intro n _ hn
  rw [jof_ok o.toWs.pos n hs, e] at hn
  cases hn
theorem filter_first {p : Nat → Bool} {m last : Nat} (hm : m < last) (hp : p m = true) (hlt : ∀ i < m, p i = false) : ∃ r, (List.range last).filter p = m :: r := by
  obtain ⟨q, hq⟩ := range_split hm
  refine ⟨q.filter p, ?_⟩
  rw [hq, List.filter_append, List.filter_cons_of_pos hp]
  have : (List.range m).filter p = [] := by
    rw [List.filter_eq_nil_iff]
    intro i hi hh
    rw [hlt i (List.mem_range.mp hi)] at hh
    cases hh
  rw [this]
  rfl
theorem nights_some (o : Wm ws) (hf : ∀ p ∈ ws, p.1 ≤ 13) {s : List Nat} (h : ∀ i ∈ s, i < ws.length) (hs : s ≠ []) {j : Int × Int} (e : jof ws s = some j) : ∃ (m : Nat) (r : List Nat), nightsL ws s (14 + rnd ws) = m :: r ∧ (m : Int) = j.1 := by
  obtain ⟨h1, h2, h3⟩ := jof_lt o hf h hs e
  obtain ⟨m, hm⟩ := Int.eq_ofNat_of_zero_le h3
  have h4 : j.2 ≤ (rnd ws : Nat) := Int.le_of_dvd (by have := o.rnd_b; omega) (jof_rnd o h e)
  have hon : ∀ n : Nat, allOn ws s n = onB j n := fun n => by rw [jof_ok o.toWs.pos n hs, e]; rfl
  obtain ⟨r, hr⟩ := filter_first (p := fun n : Nat => allOn ws s n) (m := m) (last := 14 + rnd ws) (by omega) (by
    show allOn ws s (m : Int) = true
    rw [hon, ← hm]; exact onB_self j) fun i hi => by
    show allOn ws s (i : Int) = false
    rw [hon]
    cases hc : onB j i with
    | false => rfl
    | true =>
      have := onB_iff.mp hc
      omega
  exact ⟨m, r, hr, hm.symm⟩
/-! ### counts -/
theorem ntF_step {w : Int × Int} (hw : 0 < w.2) (m : Int) : ntF w (m + 1) = ntF w m + (if onB w (m + 1) = true then 1 else 0) := by
  unfold ntF
  by_cases h1 : m + 1 < w.1
  · rw [if_pos h1, if_pos (by omega), if_neg]
    · rfl
    · intro h
      have := onB_iff.mp h
      omega
  · rw [if_neg h1]
    by_cases h2 : m < w.1
    · have e : m + 1 = w.1 := by omega
      rw [if_pos h2, e, Int.sub_self, Int.zero_ediv, if_pos (onB_self w)]
    · rw [if_neg h2]
      have e : m + 1 - w.1 = (m - w.1) + 1 := by omega
      have h3 : onB w (m + 1) = true ↔ (m - w.1 + 1) % w.2 = 0 := by
        rw [onB_iff, ← Int.dvd_iff_emod_eq_zero, e]
        exact ⟨fun h => h.2, fun h => ⟨by omega, h⟩⟩
      have h4 : (m - w.1 + 1) / w.2 = (m - w.1) / w.2 + (if onB w (m + 1) = true then 1 else 0) := by
        generalize m - w.1 = x at *
        have d1 := Int.emod_add_mul_ediv x w.2
        have d2 := Int.emod_add_mul_ediv (x + 1) w.2
        have l1 := Int.emod_nonneg x (Int.ne_of_gt hw)
        have l2 := Int.emod_lt_of_pos x hw
        have l3 := Int.emod_nonneg (x + 1) (Int.ne_of_gt hw)
        have l4 := Int.emod_lt_of_pos (x + 1) hw
        generalize hA : x / w.2 = A at *
        generalize hB : (x + 1) / w.2 = B at *
        have key : w.2 * (B - A) = 1 + x % w.2 - (x + 1) % w.2 := by rw [Int.mul_sub]; omega
        by_cases q : onB w (m + 1) = true
        · rw [if_pos q]
          have q2 := h3.mp q
          rw [q2] at key
          have k1 : 0 < w.2 * (B - A) := by omega
          have k2 : 0 < B - A := by
            rcases Int.lt_or_le 0 (B - A) with z | z
            · exact z
            · have := Int.mul_le_mul_of_nonneg_left z (Int.le_of_lt hw)
              omega
          have k3 : B - A ≤ 1 := by
            rcases Int.lt_or_le 1 (B - A) with z | z
            · have := Int.mul_le_mul_of_nonneg_left (show 2 ≤ B - A by omega) (Int.le_of_lt hw)
              omega
            · exact z
          omega
        · rw [if_neg q]
          have q2 : (x + 1) % w.2 ≠ 0 := fun z => q (h3.mpr z)
          have k2 : B - A ≤ 0 := by
            rcases Int.lt_or_le 0 (B - A) with z | z
            · have := Int.mul_le_mul_of_nonneg_left (show 1 ≤ B - A by omega) (Int.le_of_lt hw)
              omega
            · exact z
          have k3 : 0 ≤ B - A := by
            rcases Int.lt_or_le (B - A) 0 with z | z
            · have := Int.mul_le_mul_of_nonneg_left (show B - A ≤ -1 by omega) (Int.le_of_lt hw)
              omega
            · exact z
          omega
      rw [e, h4]
      omega
theorem count_J {w : Int × Int} (hw : 0 < w.2) (a : Int) : ∀ n : Nat, ntF w (a + n - 1) - ntF w (a - 1) = (((List.range n).filter fun i : Nat => onB w (a + i)).length : Nat)
  | 0 => by simp
  | n + 1 => by
    have ih := count_J hw a n
    have h1 := ntF_step hw (a + n - 1)
    have e : a + ((n + 1 : Nat) : Int) - 1 = a + n - 1 + 1 := by omega
    rw [e, h1, List.range_succ, List.filter_append, List.length_append, show a + (n : Int) - 1 + 1 = a + n by omega]
    cases hq : onB w (a + n) with
    | true => simp [hq]; omega
    | false => simp [hq]; omega
end
end K43
namespace K43
open PL
section
variable {ws : List (Int × Int)}
theorem count_round (o : Wm ws) (hf : ∀ p ∈ ws, p.1 ≤ 13) {s : List Nat} (h : ∀ i ∈ s, i < ws.length) (hs : s ≠ []) {j : Int × Int} (e : jof ws s = some j) : cntJ (jof ws s) 14 (13 + (rnd ws : Nat)) = ((rnd ws : Nat) : Int) / j.2 := by
  obtain ⟨h1, h2, h3⟩ := jof_lt o hf h hs e
  obtain ⟨c, hc⟩ := jof_rnd o h e
  have hr := o.rnd_b
  have h4 : j.2 ≤ (rnd ws : Nat) := Int.le_of_dvd (by omega) ⟨c, hc⟩
  rw [e]
  show ntF j (13 + (rnd ws : Nat)) - ntF j (14 - 1) = _
  have e1 : ((rnd ws : Nat) : Int) / j.2 = c := by rw [hc, Int.mul_ediv_cancel_left _ (Int.ne_of_gt h2)]
  have e2 : (13 + ((rnd ws : Nat) : Int) - j.1) / j.2 = (13 - j.1) / j.2 + c := by
    rw [show 13 + ((rnd ws : Nat) : Int) - j.1 = (13 - j.1) + j.2 * c by omega, Int.add_mul_ediv_left _ _ (Int.ne_of_gt h2)]
  rw [e1]
  unfold ntF
  rw [if_neg (by omega), e2]
  by_cases q : (14 : Int) - 1 < j.1
  · rw [if_pos q]
    have : (13 - j.1) / j.2 = -1 := by
      have d1 := Int.emod_add_mul_ediv (13 - j.1) j.2
      have l1 := Int.emod_nonneg (13 - j.1) (Int.ne_of_gt h2)
      have l2 := Int.emod_lt_of_pos (13 - j.1) h2
      generalize (13 - j.1) / j.2 = A at *
      rcases Int.lt_or_le A (-1) with z | z
      · have := Int.mul_le_mul_of_nonneg_left (show A ≤ -2 by omega) (Int.le_of_lt h2)
        omega
      · rcases Int.lt_or_le A 0 with z2 | z2
        · omega
        · have := Int.mul_le_mul_of_nonneg_left z2 (Int.le_of_lt h2)
          omega
    rw [this]
    omega
  · rw [if_neg q, show (14 : Int) - 1 - j.1 = 13 - j.1 by omega]
    omega
end
/-! ### partings -/
def dn (n : Nat) (f : Int → Bool) (top : Int) : Option Int := ((List.range n).find? fun i : Nat => f (top - (i : Nat))).map fun i => top - (i : Nat)
theorem dn_some {n : Nat} {f : Int → Bool} {top v : Int} (h : dn n f top = some v) : f v = true ∧ v ≤ top ∧ top - n < v ∧ ∀ u, v < u → u ≤ top → f u = false := by
  unfold dn at h
  rw [Option.map_eq_some_iff] at h
  obtain ⟨i, hi, rfl⟩ := h
  rw [List.find?_range_eq_some] at hi
  obtain ⟨h1, h2, h3⟩ := hi
  have h2 := List.mem_range.mp h2
  refine ⟨h1, by omega, by omega, fun u hu ht => ?_⟩
  obtain ⟨t, ht2⟩ := Int.eq_ofNat_of_zero_le (show 0 ≤ top - u by omega)
  have := h3 t (by omega)
  rw [show top - (t : Int) = u by omega] at this
  simpa using this
theorem dn_none {n : Nat} {f : Int → Bool} {top : Int} (h : dn n f top = none) : ∀ u, top - n < u → u ≤ top → f u = false := by
  unfold dn at h
  rw [Option.map_eq_none_iff, List.find?_eq_none] at h
  intro u h1 h2
  obtain ⟨t, ht⟩ := Int.eq_ofNat_of_zero_le (show 0 ≤ top - u by omega)
  have := h t (List.mem_range.mpr (by omega))
  rw [show top - (t : Int) = u by omega] at this
  simpa using this
def gI2 (p q : Int × Int) : Nat := Nat.gcd p.2.natAbs q.2.natAbs
def lawPB (p q : Int × Int) (v : Int) : Bool := decide (((gI2 p q : Nat) : Int) % v = 0) && !decide (p.1 % v = q.1 % v)
def lawP (p q : Int × Int) : Option Int := dn (gI2 p q - 1) (lawPB p q) (gI2 p q : Nat)
theorem dvd_gcd2 {p q : Int × Int} {v : Int} : v ∣ ((gI2 p q : Nat) : Int) ↔ v ∣ p.2 ∧ v ∣ q.2 := by
  rw [← Int.natAbs_dvd_natAbs, ← Int.natAbs_dvd_natAbs, ← Int.natAbs_dvd_natAbs]
  exact Nat.dvd_gcd_iff
theorem divB_law {p q : Int × Int} {v : Int} (h : 2 ≤ v) : divB p q v = lawPB p q v := by
  unfold divB lawPB
  rw [decide_eq_true h, Bool.true_and, ← Bool.and_assoc]
  congr 1
  rw [Bool.eq_iff_iff, Bool.and_eq_true, decide_eq_true_eq, decide_eq_true_eq, decide_eq_true_eq, ← Int.dvd_iff_emod_eq_zero, ← Int.dvd_iff_emod_eq_zero, ← Int.dvd_iff_emod_eq_zero, dvd_gcd2]
theorem par_law {p q : Int × Int} (hp : 0 < p.2) (hp2 : p.2 ≤ 60) : parM p q = lawP p q := by
  have hg : 0 < gI2 p q := Nat.gcd_pos_of_pos_left _ (by omega)
  have hg2 : gI2 p q ≤ 60 := Nat.le_trans (Nat.gcd_le_left _ (by omega)) (by omega)
  have hbig : ∀ v : Int, (gI2 p q : Nat) < v → divB p q v = false := fun v hv => by
    cases hd : divB p q v with
    | false => rfl
    | true =>
      exfalso
      unfold divB at hd
      rw [Bool.and_eq_true, Bool.and_eq_true, Bool.and_eq_true, decide_eq_true_eq, decide_eq_true_eq, decide_eq_true_eq] at hd
      have := Int.le_of_dvd (by omega) (dvd_gcd2.mpr ⟨Int.dvd_iff_emod_eq_zero.mpr hd.2.1, Int.dvd_iff_emod_eq_zero.mpr hd.2.2.1⟩)
      omega
  have e0 : parM p q = dn 59 (divB p q) 60 := rfl
  rw [e0, lawP]
  cases h1 : dn 59 (divB p q) 60 with
  | none =>
    have a := dn_none h1
    cases h2 : dn (gI2 p q - 1) (lawPB p q) (gI2 p q : Nat) with
    | none => rfl
    | some v =>
      obtain ⟨b1, b2, b3, b4⟩ := dn_some h2
      have := a v (by omega) (by omega)
      rw [divB_law (by omega), b1] at this
      cases this
  | some u =>
    obtain ⟨a1, a2, a3, a4⟩ := dn_some h1
    have hu : u ≤ (gI2 p q : Nat) := by
      rcases Int.lt_or_le (gI2 p q : Nat) u with z | z
      · rw [hbig u z] at a1; cases a1
      · exact z
    cases h2 : dn (gI2 p q - 1) (lawPB p q) (gI2 p q : Nat) with
    | none =>
      have := dn_none h2 u (by omega) hu
      rw [← divB_law (by omega), a1] at this
      cases this
    | some v =>
      obtain ⟨b1, b2, b3, b4⟩ := dn_some h2
      rcases Int.lt_trichotomy u v with z | z | z
      · have := a4 v z (by omega)
        rw [divB_law (by omega), b1] at this
        cases this
      · rw [z]
      · have := b4 u z hu
        rw [← divB_law (by omega), a1] at this
        cases this
theorem bez_tab : ((List.range 13).all fun Q => (List.range Q).all fun P => (List.range Q).all fun d => (decide (d % Nat.gcd P Q ≠ 0)) || (List.range Q).any fun t => decide ((d + P * t) % Q = 0)) = true := by decide +kernel
/-- two watches meet just if their firsts are alike by the greatest common divisor -/
theorem meet_iff {p q : Int × Int} (hp : 0 < p.2) (hq : 0 < q.2) (hq2 : q.2 ≤ 12) : (jnt p q).isSome = true ↔ ((gI2 p q : Nat) : Int) ∣ p.1 - q.1 := by
  constructor
  · intro h
    obtain ⟨j, hj⟩ := Option.isSome_iff_exists.mp h
    have h1 := jnt_ok hp hq j.1
    rw [hj] at h1
    have h1 := h1.trans (onB_self j)
    rw [Bool.and_eq_true, onB_iff, onB_iff] at h1
    obtain ⟨⟨_, a⟩, _, b⟩ := h1
    have g := (dvd_gcd2 (p := p) (q := q) (v := (gI2 p q : Nat))).mp (Int.dvd_refl _)
    have c := Int.dvd_sub (Int.dvd_trans g.2 b) (Int.dvd_trans g.1 a)
    rwa [show j.1 - q.1 - (j.1 - p.1) = p.1 - q.1 by omega] at c
  · intro h
    rw [Option.isSome_iff_ne_none]
    intro hn
    obtain ⟨u1, u2⟩ := up_ok (a := p.1) (b := q.1) hp
    have hN : nig p q = p.1 + p.2 * up p.1 p.2 q.1 := rfl
    obtain ⟨P, hP⟩ := Int.eq_ofNat_of_zero_le (Int.le_of_lt hp)
    obtain ⟨Q, hQ⟩ := Int.eq_ofNat_of_zero_le (Int.le_of_lt hq)
    obtain ⟨D, hD⟩ := Int.eq_ofNat_of_zero_le (show 0 ≤ nig p q - q.1 by omega)
    have hg : gI2 p q = Nat.gcd P Q := by unfold gI2; rw [hP, hQ]; rfl
    have hgD : Nat.gcd P Q ∣ D := by
      rw [hg] at h
      refine Int.natCast_dvd_natCast.mp ?_
      rw [← hD, hN]
      have h2 : ((Nat.gcd P Q : Nat) : Int) ∣ p.2 * ((up p.1 p.2 q.1 : Nat) : Int) := Int.dvd_trans (by rw [hP]; exact Int.natCast_dvd_natCast.mpr (Nat.gcd_dvd_left P Q)) (Int.dvd_mul_right _ _)
      have := Int.dvd_add h h2
      rwa [show p.1 - q.1 + p.2 * ((up p.1 p.2 q.1 : Nat) : Int) = p.1 + p.2 * ((up p.1 p.2 q.1 : Nat) : Int) - q.1 by omega] at this
    have hQ0 : 0 < Q := by omega
    have hg2 : Nat.gcd (P % Q) Q = Nat.gcd P Q := by rw [Nat.gcd_comm P Q, Nat.gcd_rec Q P, Nat.gcd_comm]
    have hgd : D % Q % Nat.gcd (P % Q) Q = 0 := by
      rw [hg2]
      exact Nat.mod_eq_zero_of_dvd ((Nat.dvd_mod_iff (Nat.gcd_dvd_right P Q)).mpr hgD)
    have tab := List.all_eq_true.mp (List.all_eq_true.mp (List.all_eq_true.mp bez_tab Q (List.mem_range.mpr (by omega))) (P % Q) (List.mem_range.mpr (Nat.mod_lt _ hQ0))) (D % Q) (List.mem_range.mpr (Nat.mod_lt _ hQ0))
    rw [Bool.or_eq_true, decide_eq_true_eq] at tab
    rcases tab with tab | tab
    · exact tab hgd
    · obtain ⟨t, _, ht⟩ := List.any_eq_true.mp tab
      have ht := of_decide_eq_true ht
      have h3 : (D + P * t) % Q = 0 := by
        rw [Nat.add_mod, Nat.mul_mod] at ht ⊢
        simpa using ht
      have h4 := jnt_ok hp hq (nig p q + p.2 * (t : Nat))
      rw [hn] at h4
      have h5 : 0 ≤ p.2 * (t : Int) := Int.mul_nonneg (Int.le_of_lt hp) (by omega)
      have h6 : 0 ≤ p.2 * ((up p.1 p.2 q.1 : Nat) : Int) := Int.mul_nonneg (Int.le_of_lt hp) (by omega)
      have a1 : onB p (nig p q + p.2 * (t : Nat)) = true := onB_iff.mpr ⟨by omega, by
        rw [hN, show p.1 + p.2 * ((up p.1 p.2 q.1 : Nat) : Int) + p.2 * (t : Int) - p.1 = p.2 * (((up p.1 p.2 q.1 : Nat) : Int) + t) by rw [Int.mul_add]; omega]
        exact Int.dvd_mul_right _ _⟩
      have a2 : onB q (nig p q + p.2 * (t : Nat)) = true := onB_iff.mpr ⟨by omega, by
        have : nig p q + p.2 * (t : Int) - q.1 = ((D + P * t : Nat) : Int) := by
          rw [hP]
          have : ((D + P * t : Nat) : Int) = (D : Int) + (P : Int) * (t : Int) := by simp
          rw [this]
          have : (P : Int) * (t : Int) = (P : Int) * (t : Int) := rfl
          have hD' : nig p q - q.1 = (D : Int) := hD
          omega
        rw [this, hQ]
        exact Int.natCast_dvd_natCast.mpr (Nat.dvd_of_mod_eq_zero h3)⟩
      rw [a1, a2] at h4
      cases h4
/-- just one of a meeting and a parting -/
theorem meet_par {p q : Int × Int} (hp : 0 < p.2) (hp2 : p.2 ≤ 60) (hq : 0 < q.2) (hq2 : q.2 ≤ 12) : (jnt p q).isSome = !(parM p q).isSome := by
  have hg : 0 < gI2 p q := Nat.gcd_pos_of_pos_left _ (by omega)
  rw [par_law hp hp2]
  have h1 := meet_iff hp hq hq2
  cases h2 : lawP p q with
  | none =>
    have a := dn_none h2
    rw [show (!(none : Option Int).isSome) = true from rfl, h1]
    by_cases q1 : gI2 p q = 1
    · rw [q1]
      exact Int.one_dvd _
    · have := a (gI2 p q : Nat) (by omega) (by omega)
      unfold lawPB at this
      rw [Int.emod_self, decide_eq_true rfl, Bool.true_and, Bool.not_eq_false', decide_eq_true_eq] at this
      exact Int.dvd_of_emod_eq_zero (by rw [Int.sub_emod, this, Int.sub_self, Int.zero_emod])
  | some v =>
    obtain ⟨b1, b2, b3, b4⟩ := dn_some h2
    show _ = false
    cases hj : (jnt p q).isSome with
    | false => rfl
    | true =>
      exfalso
      have h3 := h1.mp hj
      unfold lawPB at b1
      rw [Bool.and_eq_true, decide_eq_true_eq] at b1
      have h4 := Int.dvd_trans (Int.dvd_of_emod_eq_zero b1.1) h3
      have h5 : p.1 % v = q.1 % v := Int.emod_eq_emod_iff_emod_sub_eq_zero.mpr (Int.emod_eq_zero_of_dvd h4)
      rw [h5, decide_eq_true rfl] at b1
      cases b1.2
end K43
namespace K43
open PL
/-! ### all meet just if each two do -/
def d360 : List Nat := (List.range 361).filter fun a => 360 % a == 0
theorem in360 {a : Nat} (h : a ∣ 360) : a ∈ d360 := by
  refine List.mem_filter.mpr ⟨List.mem_range.mpr ?_, by simpa using Nat.mod_eq_zero_of_dvd h⟩
  have := Nat.le_of_dvd (by omega) h
  omega
theorem dist_tab : (d360.all fun a => d360.all fun b => (List.range 13).all fun c => decide (Nat.lcm (Nat.gcd a c) (Nat.gcd b c) % Nat.gcd (Nat.lcm a b) c = 0)) = true := by decide +kernel
theorem dist {a b c : Nat} (ha : a ∣ 360) (hb : b ∣ 360) (hc : c ≤ 12) : Nat.gcd (Nat.lcm a b) c ∣ Nat.lcm (Nat.gcd a c) (Nat.gcd b c) := by
  have h := List.all_eq_true.mp (List.all_eq_true.mp (List.all_eq_true.mp dist_tab a (in360 ha)) b (in360 hb)) c (List.mem_range.mpr (by omega))
  exact Nat.dvd_of_mod_eq_zero (of_decide_eq_true h)
section
variable {ws : List (Int × Int)}
def D360 (ws : List (Int × Int)) : Prop := ∀ p ∈ ws, p.2.natAbs ∣ 360
/-- a divides, and what was joined so far divides, so their lcm does, rest by rest -/
theorem fold_meets (o : Wm ws) (hd : D360 ws) : ∀ (s : List Nat) (pre : List Nat) (w : Int × Int), (∀ i ∈ s, i < ws.length) → (∀ i ∈ pre, i < ws.length) → 0 < w.2 → w.2.natAbs ∣ 360 →
    (∀ i, i < ws.length → ∀ x : Int, (∀ k ∈ pre, ((gI2 (wk ws k) (wk ws i) : Nat) : Int) ∣ x) → ((gI2 w (wk ws i) : Nat) : Int) ∣ x) → (∀ k ∈ pre, (wk ws k).2 ∣ w.1 - (wk ws k).1 ∧ (wk ws k).2 ∣ w.2) →
    (∀ k ∈ pre, ∀ i ∈ s, (jnt (wk ws k) (wk ws i)).isSome = true) → s.Pairwise (fun k i => (jnt (wk ws k) (wk ws i)).isSome = true) → (foldJ ws (some w) s).isSome = true
  | [], _, w, _, _, _, _, _, _, _, _ => rfl
  | i :: s, pre, w, hs, hpre, hw, hw3, hg, hon, hk, hp => by
    have hi := hs i List.mem_cons_self
    have hwi := o.d _ (wk_in hi)
    have hwi2 := o.e _ (wk_in hi)
    have hj : (jnt w (wk ws i)).isSome = true := by
      rw [meet_iff hw (by omega) hwi2]
      refine hg i hi _ fun k hkp => ?_
      have h1 := hk k hkp i List.mem_cons_self
      have hwk := o.d _ (wk_in (hpre k hkp))
      rw [meet_iff (by omega) (by omega) hwi2] at h1
      have h2 := ((dvd_gcd2 (p := wk ws k) (q := wk ws i) (v := (gI2 (wk ws k) (wk ws i) : Nat))).mp (Int.dvd_refl _)).1
      have h3 := Int.dvd_add (Int.dvd_trans h2 (hon k hkp).1) h1
      rwa [show w.1 - (wk ws k).1 + ((wk ws k).1 - (wk ws i).1) = w.1 - (wk ws i).1 by omega] at h3
    obtain ⟨j, hj⟩ := Option.isSome_iff_exists.mp hj
    have e : foldJ ws (some w) (i :: s) = foldJ ws (some j) s := by
      show foldJ ws (jnt w (wk ws i)) s = _
      rw [hj]
    have hje := jnt_e hj
    have hi3 := hd _ (wk_in hi)
    have hj0 : 0 < Nat.lcm w.2.natAbs (wk ws i).2.natAbs := Nat.lcm_pos (by omega) (by omega)
    have hon2 := jnt_ok hw (show 0 < (wk ws i).2 by omega) j.1
    rw [hj] at hon2
    have hon2 := hon2.trans (onB_self j)
    rw [Bool.and_eq_true, onB_iff, onB_iff] at hon2
    obtain ⟨⟨_, a⟩, _, b⟩ := hon2
    rw [e]
    obtain ⟨hp1, hp2⟩ := List.pairwise_cons.mp hp
    refine fold_meets o hd s (pre ++ [i]) j (fun x hx => hs x (List.mem_cons_of_mem _ hx)) (fun x hx => ?_) (by omega) ?_ (fun i' hi' x hx => ?_) (fun k hkp => ?_) (fun k hkp i' hi' => ?_) hp2
    · rcases List.mem_append.mp hx with hx | hx
      · exact hpre x hx
      · simp at hx; subst hx; exact hi
    · rw [hje]
      exact Nat.lcm_dvd hw3 hi3
    · have hwi' := o.d _ (wk_in hi')
      have hwi2' := o.e _ (wk_in hi')
      have x1 := hg i' hi' x fun k hkp => hx k (List.mem_append_left _ hkp)
      have x2 := hx i (by simp)
      have x3 := dist (a := w.2.natAbs) (b := (wk ws i).2.natAbs) (c := (wk ws i').2.natAbs) hw3 hi3 (by omega)
      have x4 := lcm_dvd_int x1 x2
      have x5 : gI2 j (wk ws i') = Nat.gcd (Nat.lcm w.2.natAbs (wk ws i).2.natAbs) (wk ws i').2.natAbs := by
        unfold gI2
        rw [hje]
        rfl
      rw [x5]
      exact Int.dvd_trans (Int.natCast_dvd_natCast.mpr x3) x4
    · rcases List.mem_append.mp hkp with hkp | hkp
      · obtain ⟨c1, c2⟩ := hon k hkp
        have h3 := Int.dvd_add (Int.dvd_trans c2 a) c1
        refine ⟨by rwa [show j.1 - w.1 + (w.1 - (wk ws k).1) = j.1 - (wk ws k).1 by omega] at h3, ?_⟩
        rw [hje]
        exact Int.dvd_trans c2 (dvd_lcm_l _ _)
      · simp at hkp; subst hkp
        refine ⟨b, ?_⟩
        rw [hje]
        exact dvd_lcm_r _ _
    · rcases List.mem_append.mp hkp with hkp | hkp
      · exact hk k hkp i' (List.mem_cons_of_mem _ hi')
      · simp at hkp; subst hkp; exact hp1 i' hi'
theorem pair_tab : ((List.range 5).all fun n => (List.range n).all fun b => (List.range b).all fun a => decide ([a, b] ∈ cbR n 2)) = true := by decide +kernel
theorem pairs_at {s : List Nat} (hl : s.length ≤ 4) {a b : Nat} (hab : a < b) (hb : b < s.length) : (s[a], s[b]) ∈ pairsOf s := by
  have h := List.all_eq_true.mp (List.all_eq_true.mp (List.all_eq_true.mp pair_tab s.length (List.mem_range.mpr (by omega))) b (List.mem_range.mpr hb)) a (List.mem_range.mpr hab)
  have h := of_decide_eq_true h
  refine List.mem_map.mpr ⟨[a, b], h, ?_⟩
  have h1 : a < s.length := by omega
  simp [nAt, List.getD, h1, hb]
theorem pairs_pw {s : List Nat} (hl : s.length ≤ 4) {R : Nat → Nat → Prop} (h : ∀ p ∈ pairsOf s, R p.1 p.2) : s.Pairwise R := by
  rw [List.pairwise_iff_getElem]
  intro i j hi hj hij
  exact h _ (pairs_at hl hij hj)
theorem all_meet (o : Wm ws) (hd : D360 ws) {s : List Nat} (h : ∀ i ∈ s, i < ws.length) (hs : s ≠ []) (hl : s.length ≤ 4) : (jof ws s).isSome = !(apart ws s).isSome := by
  have hpos := o.toWs.pos
  cases ha : apart ws s with
  | some p =>
    have h1 := List.mem_of_find?_eq_some ha
    have h2 := List.find?_some ha
    obtain ⟨p1, p2⟩ := pairs_in hl h1
    show _ = false
    cases hj : jof ws s with
    | none => rfl
    | some j =>
      exfalso
      have h3 := jof_ok hpos j.1 hs
      rw [hj] at h3
      have h3 := List.all_eq_true.mp (h3.trans (onB_self j))
      have h4 := jnt_ok (wk_pos hpos p.1) (wk_pos hpos p.2) j.1
      rw [h3 _ p1, h3 _ p2] at h4
      cases hh : jnt (wk ws p.1) (wk ws p.2) with
      | none => rw [hh] at h4; cases h4
      | some u => rw [hh] at h2; cases h2
  | none =>
    show _ = true
    have h1 := List.find?_eq_none.mp ha
    have h2 : ∀ p ∈ pairsOf s, (jnt (wk ws p.1) (wk ws p.2)).isSome = true := fun p hp => by
      have := h1 p hp
      cases hh : jnt (wk ws p.1) (wk ws p.2) with
      | none => rw [hh] at this; exact absurd rfl this
      | some u => rfl
    have h3 := pairs_pw hl (R := fun k i => (jnt (wk ws k) (wk ws i)).isSome = true) h2
    cases s with
    | nil => exact absurd rfl hs
    | cons i0 s =>
      obtain ⟨q1, q2⟩ := List.pairwise_cons.mp h3
      have hi0 := h i0 List.mem_cons_self
      have hw0 := o.d _ (wk_in hi0)
      refine fold_meets o hd s [i0] (wk ws i0) (fun i hi => h i (List.mem_cons_of_mem _ hi)) (fun i hi => ?_) (by omega) (hd _ (wk_in hi0)) (fun i hi x hx => hx i0 (by simp)) (fun k hk => ?_) (fun k hk i hi => ?_) q2
      · simp at hi; subst hi; exact hi0
      · simp at hk; subst hk
        exact ⟨by rw [Int.sub_self]; exact Int.dvd_zero _, Int.dvd_refl _⟩
      · simp at hk; subst hk; exact q1 i hi
end
theorem law_pairs_tab : ((List.range 5).all fun n => (List.range (2 ^ n)).all fun num => decide (pairsOf (bitsOf num n) = (bitsOf num n).flatMap fun i => ((bitsOf num n).filter fun j => decide (i < j)).map fun j => (i, j))) = true := by decide +kernel
theorem law_pairs {n num : Nat} (hn : n ≤ 4) (h : num < 2 ^ n) : pairsOf (bitsOf num n) = (bitsOf num n).flatMap fun i => ((bitsOf num n).filter fun j => decide (i < j)).map fun j => (i, j) :=
  of_decide_eq_true (List.all_eq_true.mp (List.all_eq_true.mp law_pairs_tab n (List.mem_range.mpr (by omega))) num (List.mem_range.mpr h))
end K43
namespace K43
open PL
def lexN : List Nat → List Nat → Bool
  | [], [] => false
  | [], _ :: _ => true
  | _ :: _, [] => false
  | x :: xs, y :: ys => if x = y then lexN xs ys else decide (x < y)
def mkN (r : List Nat) : D := .t (r.map fun k : Nat => D.i k)
theorem lexAt_shift (e r : Nat → Bool) (z : Bool) : ∀ (k i : Nat), Ob.lexAt e r z (i + 1) k = Ob.lexAt (fun j => e (j + 1)) (fun j => r (j + 1)) z i k
  | 0, _ => rfl
  | k + 1, i => by rw [Ob.lexAt_succ, Ob.lexAt_succ, lexAt_shift e r z k (i + 1)]
theorem eqD_i (a b : Int) : eqD (.i a) (.i b) = decide (a = b) := by
  have h := eqE_i a b
  have h2 : eqE (.i a) (.i b) = some (.b (eqD (.i a) (.i b))) := rfl
  rw [h2] at h
  exact D.b.inj (Option.some.inj h)
theorem ltD_i (n : Nat) (a b : Int) : ltD n (.i a) (.i b) = some (decide (a < b)) := by unfold ltD; cases n <;> rfl
theorem lex_mk (n : Nat) : ∀ xs ys : List Nat, Ob.lexAt (fun j => eqD ((xs.map fun k : Nat => D.i k).getD j .n) ((ys.map fun k : Nat => D.i k).getD j .n)) (fun j => (ltD n ((xs.map fun k : Nat => D.i k).getD j .n) ((ys.map fun k : Nat => D.i k).getD j .n)).getD false) (decide (xs.length < ys.length)) 0 (min xs.length ys.length) = lexN xs ys
  | [], [] => rfl
  | [], _ :: _ => by simp [lexN, Ob.lexAt]
  | _ :: _, [] => by simp [lexN, Ob.lexAt]
  | x :: xs, y :: ys => by
    have ih := lex_mk n xs ys
    rw [List.length_cons, List.length_cons, Nat.succ_min_succ, Ob.lexAt_succ, lexAt_shift]
    have e1 : decide (xs.length + 1 < ys.length + 1) = decide (xs.length < ys.length) := by rw [decide_eq_decide]; omega
    rw [e1, lexN]
    have e2 : eqD (((x :: xs).map fun k : Nat => D.i k).getD 0 .n) (((y :: ys).map fun k : Nat => D.i k).getD 0 .n) = decide (x = y) := by
      show eqD (.i x) (.i y) = _
      rw [eqD_i, decide_eq_decide]
      omega
    have e3 : ltD n (((x :: xs).map fun k : Nat => D.i k).getD 0 .n) (((y :: ys).map fun k : Nat => D.i k).getD 0 .n) = some (decide (x < y)) := by
      show ltD n (.i x) (.i y) = _
      rw [ltD_i]
      congr 1
      rw [decide_eq_decide]
      omega
    rw [e2, e3]
    by_cases q : x = y
    · rw [decide_eq_true q, if_pos rfl, if_pos q]
      exact ih
    · rw [decide_eq_false q, if_neg Bool.false_ne_true, if_neg q]
      rfl
theorem okn (n : Nat) (r : List Nat) (j : Nat) : okD n ((r.map fun k : Nat => D.i k).getD j .n) = true := by
  rw [List.getD_eq_getElem?_getD, List.getElem?_map]
  cases r[j]? with
  | none => cases n <;> rfl
  | some x => cases n <;> rfl
theorem lt_mk (n : Nat) (xs ys : List Nat) : ltD (n + 1) (mkN xs) (mkN ys) = some (lexN xs ys) := by
  unfold mkN
  rw [ltD, if_pos, List.length_map, List.length_map, lex_mk]
  rw [List.all_eq_true]
  intro j hj
  rw [List.length_map, List.length_map] at hj
  have hj := List.mem_range.mp hj
  rw [okn, okn]
  have h1 : j < xs.length := by omega
  have h2 : j < ys.length := by omega
  have e1 : (xs.map fun k : Nat => D.i k).getD j .n = .i xs[j] := by simp [List.getD, h1]
  have e2 : (ys.map fun k : Nat => D.i k).getD j .n = .i ys[j] := by simp [List.getD, h2]
  rw [e1, e2, ltD_i]
  simp
theorem ok_mk (n : Nat) (r : List Nat) : okD (n + 1) (mkN r) = true := by
  unfold mkN
  rw [okD, List.all_eq_true]
  intro d hd
  obtain ⟨a, _, rfl⟩ := List.mem_map.mp hd
  cases n <;> rfl
theorem eqD_mk {a b : List Nat} : eqD (mkN a) (mkN b) = decide (a = b) := by
  have h := eqE_nb (x := mkN a) (y := mkN b) (by simp [mkN]) (by simp [mkN])
  have h2 : eqE (mkN a) (mkN b) = some (.b (eqD (mkN a) (mkN b))) := by
    rw [eqE, eqqD, ok_DP (d := mkN a) (by simp [mkN]), ok_DP (d := mkN b) (by simp [mkN])]; rfl
  rw [h2] at h
  rw [D.b.inj (Option.some.inj h), decide_eq_decide]
  constructor
  · intro h
    have h := D.t.inj h
    have : Function.Injective (fun k : Nat => D.i k) := fun x y e => by injection e with e; exact Int.ofNat.inj e
    exact List.map_inj_right (fun x y e => this e) |>.mp h
  · rintro rfl; rfl
/-- (a, s, d) < (b, r, c), s and r not alike -/
theorem lt_row {a b c d : Int} {s r : List Nat} (h : s ≠ r) : ltE (.t [.i a, mkN s, .i d]) (.t [.i b, mkN r, .i c]) = some (.b (if a = b then lexN s r else decide (a < b))) := by
  have e0 : ltD 4 (mkN s) (mkN r) = some (lexN s r) := lt_mk 3 s r
  have e1 : ltD 5 (.t [.i a, mkN s, .i d]) (.t [.i b, mkN r, .i c]) = some (if a = b then lexN s r else decide (a < b)) := by
    rw [ltD, if_pos]
    · show some (if eqD (.i a) (.i b) = true then (if eqD (mkN s) (mkN r) = true then (if eqD (.i d) (.i c) = true then decide (3 < 3) else (ltD 4 (.i d) (.i c)).getD false) else (ltD 4 (mkN s) (mkN r)).getD false) else (ltD 4 (.i a) (.i b)).getD false) = _
      rw [eqD_i, e0, ltD_i, eqD_mk, decide_eq_false h]
      by_cases q : a = b
      · subst q
        simp
      · rw [decide_eq_false q, if_neg q]; rfl
    · show (([0, 1, 2] : List Nat).all fun j => _) = true
      rw [List.all_cons, List.all_cons, List.all_cons, List.all_nil]
      show ((true && true && (eqD (.i a) (.i b) || (ltD 4 (.i a) (.i b)).isSome)) && ((okD 8 (mkN s) && okD 8 (mkN r) && (eqD (mkN s) (mkN r) || (ltD 4 (mkN s) (mkN r)).isSome)) && ((true && true && (eqD (.i d) (.i c) || (ltD 4 (.i d) (.i c)).isSome)) && true))) = true
      rw [ok_mk, ok_mk, e0, ltD_i, ltD_i]
      simp
  rw [ltE, e1]
  rfl
/-! ### the fullest set, by sizes, and by the least row -/
def lsS (s r : List Nat) : Bool := if s.length = r.length then lexN s r else decide (r.length < s.length)
def ordL (n : Nat) : List (List Nat) := (List.range n).reverse.flatMap fun i => cbR n (i + 1)
def setsL (n : Nat) : List (List Nat) := (List.range (2 ^ n - 1)).map fun i => bitsOf (i + 1) n
theorem ord_tab : ((List.range 5).all fun n => (ordL n).all fun a => decide (a ∈ setsL n) && ((ordL n).all fun b => (a == b || lsS a b || lsS b a) && (!(lsS a b && lsS b a)) && (ordL n).all fun c => !(lsS a b && lsS b c) || lsS a c)) = true := by decide +kernel
theorem set_tab : ((List.range 5).all fun n => (setsL n).all fun a => decide (a ∈ ordL n)) = true := by decide +kernel
theorem irr_tab : ((List.range 5).all fun n => (ordL n).all fun a => !lsS a a) = true := by decide +kernel
theorem sort_tab : ((List.range 5).all fun n => decide ((ordL n).Pairwise fun a b => lsS a b = true)) = true := by decide +kernel
theorem nodup_tab : ((List.range 5).all fun n => decide ((setsL n).Nodup)) = true := by decide +kernel
section
variable {n : Nat} {a b c : List Nat}
theorem ls_tri (hn : n ≤ 4) (ha : a ∈ setsL n) (hb : b ∈ setsL n) (h : a ≠ b) : lsS a b = true ∨ lsS b a = true := by
  have ha := of_decide_eq_true (List.all_eq_true.mp (List.all_eq_true.mp set_tab n (List.mem_range.mpr (by omega))) a ha)
  have hb := of_decide_eq_true (List.all_eq_true.mp (List.all_eq_true.mp set_tab n (List.mem_range.mpr (by omega))) b hb)
  have t := List.all_eq_true.mp (List.all_eq_true.mp ord_tab n (List.mem_range.mpr (by omega))) a ha
  rw [Bool.and_eq_true] at t
  have t := List.all_eq_true.mp t.2 b hb
  rw [Bool.and_eq_true, Bool.and_eq_true, Bool.or_eq_true, Bool.or_eq_true, beq_iff_eq] at t
  rcases t.1.1 with (t | t) | t
  · exact absurd t h
  · exact .inl t
  · exact .inr t
theorem ls_asym (hn : n ≤ 4) (ha : a ∈ ordL n) (hb : b ∈ ordL n) (h : lsS a b = true) : lsS b a = false := by
  have t := List.all_eq_true.mp (List.all_eq_true.mp ord_tab n (List.mem_range.mpr (by omega))) a ha
  rw [Bool.and_eq_true] at t
  have t := List.all_eq_true.mp t.2 b hb
  rw [Bool.and_eq_true, Bool.and_eq_true, h] at t
  simpa using t.1.2
theorem ls_trans (hn : n ≤ 4) (ha : a ∈ ordL n) (hb : b ∈ ordL n) (hc : c ∈ ordL n) (h : lsS a b = true) (h2 : lsS b c = true) : lsS a c = true := by
  have t := List.all_eq_true.mp (List.all_eq_true.mp ord_tab n (List.mem_range.mpr (by omega))) a ha
  rw [Bool.and_eq_true] at t
  have t := List.all_eq_true.mp t.2 b hb
  rw [Bool.and_eq_true] at t
  have t := List.all_eq_true.mp t.2 c hc
  rw [h, h2] at t
  simpa using t
theorem in_ord (hn : n ≤ 4) (ha : a ∈ setsL n) : a ∈ ordL n := of_decide_eq_true (List.all_eq_true.mp (List.all_eq_true.mp set_tab n (List.mem_range.mpr (by omega))) a ha)
end
/-- a turn of the search by rows -/
def rowS (t : List Nat → Bool) (best : Option (List Nat)) (s : List Nat) : Option (List Nat) := if t s = true then (match best with
  | none => some s
  | some b => if lsS s b = true then some s else some b) else best
theorem rowS_inv {n : Nat} (hn : n ≤ 4) (t : List Nat → Bool) : ∀ (l : List (List Nat)) (pre : List (List Nat)) (best : Option (List Nat)), (∀ s ∈ pre ++ l, s ∈ setsL n) →
    (match best with
      | none => ∀ s ∈ pre, t s = false
      | some b => b ∈ pre ∧ t b = true ∧ ∀ s ∈ pre, t s = true → s = b ∨ lsS b s = true) →
    (match l.foldl (rowS t) best with
      | none => ∀ s ∈ pre ++ l, t s = false
      | some b => b ∈ pre ++ l ∧ t b = true ∧ ∀ s ∈ pre ++ l, t s = true → s = b ∨ lsS b s = true)
  | [], pre, best, _, h => by rw [List.append_nil]; exact h
  | x :: l, pre, best, hm, h => by
    have e : pre ++ x :: l = (pre ++ [x]) ++ l := by simp
    rw [List.foldl_cons, e]
    refine rowS_inv hn t l (pre ++ [x]) (rowS t best x) (by rw [← e]; exact hm) ?_
    have hx := in_ord hn (hm x (by simp))
    unfold rowS
    cases ht : t x with
    | false =>
      rw [if_neg Bool.false_ne_true]
      cases best with
      | none =>
        intro s hs
        rcases List.mem_append.mp hs with hs | hs
        · exact h s hs
        · simp at hs; subst hs; exact ht
      | some b =>
        obtain ⟨h1, h2, h3⟩ := h
        refine ⟨List.mem_append_left _ h1, h2, fun s hs hts => ?_⟩
        rcases List.mem_append.mp hs with hs | hs
        · exact h3 s hs hts
        · simp at hs; subst hs; rw [ht] at hts; cases hts
    | true =>
      rw [if_pos rfl]
      cases best with
      | none =>
        refine ⟨by simp, ht, fun s hs hts => ?_⟩
        rcases List.mem_append.mp hs with hs | hs
        · have := h s hs
          rw [this] at hts; cases hts
        · simp at hs; exact .inl hs
      | some b =>
        obtain ⟨h1, h2, h3⟩ := h
        have hb := in_ord hn (hm b (List.mem_append_left _ h1))
        show (match (if lsS x b = true then some x else some b) with
          | none => _
          | some b => _)
        cases hl : lsS x b with
        | true =>
          rw [if_pos rfl]
          refine ⟨by simp, ht, fun s hs hts => ?_⟩
          rcases List.mem_append.mp hs with hs | hs
          · rcases h3 s hs hts with rfl | h4
            · exact .inr hl
            · exact .inr (ls_trans hn hx hb (in_ord hn (hm s (List.mem_append_left _ hs))) hl h4)
          · simp at hs; exact .inl hs
        | false =>
          rw [if_neg Bool.false_ne_true]
          refine ⟨List.mem_append_left _ h1, h2, fun s hs hts => ?_⟩
          rcases List.mem_append.mp hs with hs | hs
          · exact h3 s hs hts
          · simp at hs; subst hs
            by_cases q : s = b
            · exact .inl q
            · rcases ls_tri hn (hm s (by simp)) (hm b (List.mem_append_left _ h1)) q with z | z
              · rw [hl] at z; cases z
              · exact .inr z
/-- the least row is the first of the order -/
theorem row_first {n : Nat} (hn : n ≤ 4) (t : List Nat → Bool) : (setsL n).foldl (rowS t) none = (ordL n).find? t := by
  have h := rowS_inv hn t (setsL n) [] none (fun s hs => by simpa using hs) (fun s hs => by cases hs)
  rw [List.nil_append] at h
  have h5 := List.all_eq_true.mp ord_tab n (List.mem_range.mpr (by omega))
  have hin : ∀ a ∈ ordL n, a ∈ setsL n := fun a ha => by
    have := List.all_eq_true.mp h5 a ha
    rw [Bool.and_eq_true] at this
    exact of_decide_eq_true this.1
  cases hf : (setsL n).foldl (rowS t) none with
  | none =>
    rw [hf] at h
    symm
    rw [List.find?_eq_none]
    intro a ha hta
    rw [h a (hin a ha)] at hta
    cases hta
  | some b =>
    rw [hf] at h
    obtain ⟨h1, h2, h3⟩ := h
    have hb := in_ord hn h1
    symm
    obtain ⟨as, bs, e⟩ := List.append_of_mem hb
    have hs := of_decide_eq_true (List.all_eq_true.mp sort_tab n (List.mem_range.mpr (by omega)))
    rw [e, List.pairwise_append] at hs
    rw [e, List.find?_append]
    have : as.find? t = none := by
      rw [List.find?_eq_none]
      intro a ha hta
      have ha2 : a ∈ ordL n := by rw [e]; exact List.mem_append_left _ ha
      have h6 := hs.2.2 a ha b List.mem_cons_self
      rcases h3 a (hin a ha2) hta with rfl | h7
      · have := List.all_eq_true.mp (List.all_eq_true.mp irr_tab n (List.mem_range.mpr (by omega))) a ha2
        rw [h6] at this
        cases this
      · rw [ls_asym hn ha2 hb h6] at h7
        cases h7
    rw [this, List.find?_cons, h2]
    rfl
theorem full_first (ws : List (Int × Int)) : full ws = (ordL ws.length).find? fun ix => (jof ws ix).isSome := by
  have key : ∀ m, (List.range m).foldl (fst1 ws) none = ((List.range m).reverse.flatMap fun i => cbR ws.length (i + 1)).find? fun ix => (jof ws ix).isSome := by
    intro m
    induction m with
    | zero => rfl
    | succ m ih =>
      rw [List.range_succ, List.foldl_append, List.foldl_cons, List.foldl_nil, ih, List.reverse_append, List.reverse_singleton, List.singleton_append, List.flatMap_cons, List.find?_append]
      unfold fst1 fT
      cases (cbR ws.length (m + 1)).find? fun ix => (jof ws ix).isSome with
      | none => rfl
      | some ix => rfl
  exact key ws.length
end K43
namespace K43
open PySem PySem.Spec PyProof.Rows L2 PL
section
variable {C : Cf} [All C] {k : Nat} {ws : List (Int × Int)}
def offL (ws : List (Int × Int)) (s : List Nat) (n : Int) : List Nat := s.filter fun k => !onB (wk ws k) n
theorem off_nil (ws : List (Int × Int)) (s : List Nat) (n : Int) : (offL ws s n).isEmpty = allOn ws s n := by
  unfold offL allOn
  rw [Bool.eq_iff_iff, List.isEmpty_iff, List.filter_eq_nil_iff, List.all_eq_true]
  exact ⟨fun h k hk => by have := h k hk; simpa using this, fun h k hk => by have := h k hk; simpa using this⟩
theorem eq_off (ws : List (Int × Int)) {s : List Nat} (hl : s.length ≤ 100) (n : Int) : eqE (.l ((offL ws s n).map fun k : Nat => D.i k)) (.l []) = some (.b (allOn ws s n)) := by
  have h := List.length_filter_le (fun k => !onB (wk ws k) n) s
  rw [eqE_nil (n := 2) (fin_map (fun _ _ => by simp) (by show (offL ws s n).length ≤ _; unfold offL; omega)) (by omega), ← off_nil]
  simp
theorem comp_off (o : Ws ws) {s : List Nat} (h : ∀ i ∈ s, i < ws.length) (n : Int) : compM (fun j : Nat => (((ixD (wsD ws) (.i j)).bind fun x => some [x, .i n]).bind (C (k + 1) "_law_is_on")).bind ((Option.map fun x => !x) ∘ truthD)) (fun j : Nat => some (.i j)) s = some ((offL ws s n).map fun k : Nat => D.i k) := by
  refine compM_eq _ _ (fun j hj => ?_) fun _ _ _ => rfl
  simp -implicitDefEqProofs [-ixD, -seqD, -walkD, -allD, -anyD, -sumD, -maxD, -minD, -minTD, -rng1, -rng2, -rng3, -List.head?_filter, -isTys, -lenD, ix_ws (h j hj), c_lon (C := C) (k := k) (w := wk ws j) (n := n) (wk_pos o.pos j)]
theorem c_lnights (o : Ws ws) {s : List Nat} (h : ∀ i ∈ s, i < ws.length) (hl : s.length ≤ 100) {last : Nat} (hla : last ≤ 1000000) : C (k + 2) "_law_nights" [wsD ws, setD false s, .i last] = some (.l ((nightsL ws s last).map fun n : Nat => D.i n)) := s__law_nights.run (run_of (by
  simp -implicitDefEqProofs [-ixD, -seqD, -walkD, -allD, -anyD, -sumD, -maxD, -minD, -minTD, -rng1, -rng2, -rng3, -List.head?_filter, -isTys, -lenD, rng1_nat hla, compD_M]
  rw [compM_eq (fun n : Nat => allOn ws s n) (fun n : Nat => D.i n) (fun n _ => ?_) (fun _ _ _ => by simp -implicitDefEqProofs [-ixD, -seqD, -walkD, -allD, -anyD, -sumD, -maxD, -minD, -minTD, -rng1, -rng2, -rng3, -List.head?_filter, -isTys, -lenD])]
  · have := List.length_filter_le (fun n : Nat => allOn ws s n) (List.range last)
    rw [List.length_range] at this
    have e3 : mkL ((((List.range last).filter fun n : Nat => allOn ws s n)).map fun n : Nat => D.i n) = some (.l ((nightsL ws s last).map fun n : Nat => D.i n)) := mkL_map' (by omega)
    simp -implicitDefEqProofs [-ixD, -seqD, -walkD, -allD, -anyD, -sumD, -maxD, -minD, -minTD, -rng1, -rng2, -rng3, -List.head?_filter, -isTys, -lenD, e3]
  · have h2 := List.length_filter_le (fun k => !onB (wk ws k) (n : Int)) s
    have e2 : mkL ((offL ws s (n : Int)).map fun k : Nat => D.i k) = some (.l ((offL ws s (n : Int)).map fun k : Nat => D.i k)) := mkL_map' (by unfold offL; omega)
    simp -implicitDefEqProofs [-ixD, -seqD, -walkD, -allD, -anyD, -sumD, -maxD, -minD, -minTD, -rng1, -rng2, -rng3, -List.head?_filter, -isTys, -lenD, comp_off (C := C) (k := k) o h (n : Int), e2, eq_off ws hl (n : Int)]))
theorem c_lpar (o : Wm ws) {i j : Nat} (hi : i < ws.length) (hj : j < ws.length) : C (k + 2) "_law_parting" [wsD ws, .i i, .i j] = some (iD (lawP (wk ws i) (wk ws j))) := s__law_parting.run (run_of (by
  have hwi := o.d _ (wk_in hi)
  have hwj := o.d _ (wk_in hj)
  have e0 := c_gcdI (C := C) (k := k) (x := (wk ws i).2) (y := (wk ws j).2) (by omega) (by omega) (by omega) (by omega)
  have e0 : C (k + 1) "_law_gcd" [.i (wk ws i).2, .i (wk ws j).2] = some (.i (gI2 (wk ws i) (wk ws j) : Nat)) := e0
  have hg : 0 < gI2 (wk ws i) (wk ws j) := Nat.gcd_pos_of_pos_left _ (by omega)
  have hg2 : gI2 (wk ws i) (wk ws j) ≤ 60 := Nat.le_trans (Nat.gcd_le_left _ (by omega)) (by omega)
  have er : PL.rng3 (.i (gI2 (wk ws i) (wk ws j) : Nat)) (.i 1) (.i (-1)) = some ((List.range (gI2 (wk ws i) (wk ws j) - 1)).map fun x : Nat => D.i ((gI2 (wk ws i) (wk ws j) : Nat) - (x : Nat))) := by
    have : (((gI2 (wk ws i) (wk ws j) : Nat) : Int) - 1).toNat = gI2 (wk ws i) (wk ws j) - 1 := by omega
    rw [PL.rng3, if_pos (by rw [smI_nat (by omega), show smI 1 = true by decide +kernel]; rfl), this, dwn_map]
  simp -implicitDefEqProofs [-ixD, -seqD, -walkD, -allD, -anyD, -sumD, -maxD, -minD, -minTD, -rng1, -rng2, -rng3, -List.head?_filter, -isTys, -lenD, ix_ws hi, ix_ws hj, e0]
  refine Wf_frp [4] (fun x : Nat => D.i ((gI2 (wk ws i) (wk ws j) : Nat) - (x : Nat))) (List.range (gI2 (wk ws i) (wk ws j) - 1)) (Nope fun x : Nat => lawPB (wk ws i) (wk ws j) ((gI2 (wk ws i) (wk ws j) : Nat) - (x : Nat))) ?_ nope_nil ?_ ?_
  · simp -implicitDefEqProofs [-ixD, -seqD, -walkD, -allD, -anyD, -sumD, -maxD, -minD, -minTD, -rng1, -rng2, -rng3, -List.head?_filter, -isTys, -lenD, er]
  · intro pre x post e hno c
    have hx : x ∈ List.range (gI2 (wk ws i) (wk ws j) - 1) := by rw [e]; simp
    have hx := List.mem_range.mp hx
    have hv : (0 : Int) < (gI2 (wk ws i) (wk ws j) : Nat) - (x : Nat) := by omega
    cases hq : lawPB (wk ws i) (wk ws j) ((gI2 (wk ws i) (wk ws j) : Nat) - (x : Nat)) with
    | true =>
      have h3 : lawP (wk ws i) (wk ws j) = some (((gI2 (wk ws i) (wk ws j) : Nat) : Int) - (x : Nat)) := by
        unfold lawP dn
        rw [e, hno.find_at hq]
        rfl
      unfold lawPB at hq
      rw [Bool.and_eq_true, decide_eq_true_eq, Bool.not_eq_true', decide_eq_false_iff_not] at hq
      simp -implicitDefEqProofs [-ixD, -seqD, -walkD, -allD, -anyD, -sumD, -maxD, -minD, -minTD, -rng1, -rng2, -rng3, -List.head?_filter, -isTys, -lenD, ix_ws hi, ix_ws hj, moE_ok hv, hq.1, hq.2, h3]
    | false =>
      have h2 := hno.snoc hq
      unfold lawPB at hq
      by_cases g1 : ((gI2 (wk ws i) (wk ws j) : Nat) : Int) % ((gI2 (wk ws i) (wk ws j) : Nat) - (x : Nat)) = 0
      · rw [decide_eq_true g1, Bool.true_and, Bool.not_eq_false', decide_eq_true_eq] at hq
        simp -implicitDefEqProofs [-ixD, -seqD, -walkD, -allD, -anyD, -sumD, -maxD, -minD, -minTD, -rng1, -rng2, -rng3, -List.head?_filter, -isTys, -lenD, ix_ws hi, ix_ws hj, moE_ok hv, g1, hq, h2]
      · simp -implicitDefEqProofs [-ixD, -seqD, -walkD, -allD, -anyD, -sumD, -maxD, -minD, -minTD, -rng1, -rng2, -rng3, -List.head?_filter, -isTys, -lenD, ix_ws hi, ix_ws hj, moE_ok hv, g1, h2]
  · intro hno c
    have : lawP (wk ws i) (wk ws j) = none := by
      unfold lawP dn
      rw [hno.find]
      rfl
    simp -implicitDefEqProofs [-ixD, -seqD, -walkD, -allD, -anyD, -sumD, -maxD, -minD, -minTD, -rng1, -rng2, -rng3, -List.head?_filter, -isTys, -lenD, this]))
theorem c_lwatches' : True := trivial
/-! ### two watches -/
theorem jof_two (i j : Nat) : jof ws [i, j] = jnt (wk ws i) (wk ws j) := rfl
theorem c_same {n m : Nat} {d : D} (h : sam n d = true) (hm : n + 1 ≤ m) : C m "_law_same" [d, d] = some (.b true) := by
  obtain ⟨k, rfl⟩ := Nat.exists_eq_add_of_le hm
  have := same_d (C := C) s__law_same n k d h
  rwa [show k + n + 1 = n + 1 + k by omega] at this
def fitB (p q : Int × Int) (v : Int) : Bool := decide (1 < v) && (decide (p.2 % (if v < 1 then 1 else v) = 0) && decide (q.2 % (if v < 1 then 1 else v) = 0)) && !decide ((p.1 - q.1) % (if v < 1 then 1 else v) = 0)
theorem fit_div (p q : Int × Int) (v : Int) : fitB p q v = divB p q v := by
  unfold fitB divB
  by_cases h : 1 < v
  · rw [decide_eq_true h, decide_eq_true (show 2 ≤ v by omega), if_neg (by omega), Bool.true_and, Bool.true_and, Bool.and_assoc]
    congr 2
    rw [Bool.eq_iff_iff, Bool.not_eq_true', Bool.not_eq_true', decide_eq_false_iff_not, decide_eq_false_iff_not, Int.emod_eq_emod_iff_emod_sub_eq_zero]
  · rw [decide_eq_false h, decide_eq_false (show ¬ 2 ≤ v by omega)]
    rfl
theorem fD_same (j : Option (Int × Int)) : sam 0 (fD j) = true := by cases j <;> rfl
theorem iD_same (j : Option Int) : sam 0 (iD j) = true := by cases j <;> rfl
end
end K43
namespace K43
open PySem PySem.Spec PyProof.Rows L2 PL
section
variable {C : Cf} [All C] {k : Nat} {ws : List (Int × Int)}
theorem max21 (a b : Int) : PL.maxD [.l [.i a, .i b]] = some (.i (if a < b then b else a)) := rfl
theorem n0 : neE (.l []) (.l []) = some (.b false) := by decide +kernel
theorem n1 {m : Nat} {r : List Nat} (h : r.length ≤ 900000) : neE (.l ((m :: r).map fun n : Nat => D.i n)) (.l []) = some (.b true) := by
  rw [neE_nil (n := 2) (fin_map (fun _ _ => by simp) (by simp; omega)) (by omega)]
  simp
theorem rng_13 : PL.rng2 (.i (-1)) (.i 13) = some ((List.range 14).map fun x : Nat => D.i ((x : Int) - 1)) := by decide +kernel
theorem c_two (o : Wm ws) (hf : ∀ p ∈ ws, p.1 ≤ 13) : C (k + 9) "_law_two" [wsD ws, .i (14 + rnd ws : Nat)] = some (.b true) := s__law_two.run (run_of (by
  have hn := o.m
  have hr := o.rnd_b
  have hnn := rng1_nat (show ws.length ≤ 1000000 by omega)
  refine Wf_frs [2, 3, 4, 5, 6, 7, 8] (fun i : Nat => D.i i) (List.range ws.length) (by simp -implicitDefEqProofs [-ixD, -seqD, -walkD, -allD, -anyD, -sumD, -maxD, -minD, -minTD, -rng1, -rng2, -rng3, -List.head?_filter, -isTys, -lenD, hnn]) (fun i hi c => ?_) (fun c => ?_)
  · have hi := List.mem_range.mp hi
    refine Wf_frs [3, 4, 5, 6, 7, 8] (fun j : Nat => D.i j) (List.range ws.length) (by simp -implicitDefEqProofs [-ixD, -seqD, -walkD, -allD, -anyD, -sumD, -maxD, -minD, -minTD, -rng1, -rng2, -rng3, -List.head?_filter, -isTys, -lenD, hnn]) (fun j hj c2 => ?_) (fun c2 => ?_)
    · have hj := List.mem_range.mp hj
      by_cases hij : i = j
      · subst hij
        simp -implicitDefEqProofs [-ixD, -seqD, -walkD, -allD, -anyD, -sumD, -maxD, -minD, -minTD, -rng1, -rng2, -rng3, -List.head?_filter, -isTys, -lenD]
      · have hwi := o.d _ (wk_in hi)
        have hwj := o.d _ (wk_in hj)
        have hwj2 := o.e _ (wk_in hj)
        have hs : ∀ x ∈ [i, j], x < ws.length := by simp; exact ⟨hi, hj⟩
        have e1 := c_lnights (C := C) (k := k + 6) o.toWs (s := [i, j]) hs (by simp) (last := 14 + rnd ws) (by omega)
        have e1 : C (k + 8) "_law_nights" [wsD ws, .t [.i i, .i j], .i (14 + ((rnd ws : Nat) : Int))] = some (.l ((nightsL ws [i, j] (14 + rnd ws)).map fun n : Nat => D.i n)) := e1
        have e2 := c_lpar (C := C) (k := k + 6) o hi hj
        have e3 := c_meeting (C := C) (k := k + 1) o hi hj hij
        have e4 := c_par (C := C) (k := k + 1) o hi hj hij
        have e5 := c_same (C := C) (n := 0) (m := k + 8) (fD_same (jnt (wk ws i) (wk ws j))) (by omega)
        have e6 := c_same (C := C) (n := 0) (m := k + 8) (iD_same (parM (wk ws i) (wk ws j))) (by omega)
        have e7 := fun v : Int => c_is_par (C := C) (k := k + 1) o hi hj hij (v := v)
        have e8 := c_is_par_no (C := C) (k := k + 1) o hi hj hij (d := .n) rfl rfl
        have e9 := c_is_par_no (C := C) (k := k + 1) o hi hj hij (d := .b true) rfl rfl
        have e10 := fun q : Bool => c_same (C := C) (n := 0) (m := k + 8) (d := .b q) rfl (by omega)
        have hmp := meet_par (p := wk ws i) (q := wk ws j) (by omega) (by omega) (by omega) hwj2
        rw [par_law (p := wk ws i) (q := wk ws j) (by omega) (by omega)] at e4 e6 hmp
        have hij2 : ¬ (i : Int) = j := by omega
        cases hJ : jnt (wk ws i) (wk ws j) with
        | none =>
          have h1 := nights_none o (s := [i, j]) (by simp) hJ (14 + rnd ws)
          rw [h1] at e1
          rw [hJ] at e3 e5 hmp
          obtain ⟨v, hv⟩ : ∃ v, lawP (wk ws i) (wk ws j) = some v := by
            cases hl : lawP (wk ws i) (wk ws j) with
            | none => rw [hl] at hmp; cases hmp
            | some v => exact ⟨v, rfl⟩
          rw [hv] at e2 e4 e6
          simp only [fD, iD_s, iD_n] at e2 e3 e4 e5 e6
          simp -implicitDefEqProofs [-ixD, -seqD, -walkD, -allD, -anyD, -sumD, -maxD, -minD, -minTD, -rng1, -rng2, -rng3, -List.head?_filter, -isTys, -lenD, hij2, e1, e2, e3, e4, e5, e6, n0]
          refine Wf_frs [7, 8] (fun x : Nat => D.i ((x : Int) - 1)) (List.range 14) (by simp -implicitDefEqProofs [-ixD, -seqD, -walkD, -allD, -anyD, -sumD, -maxD, -minD, -minTD, -rng1, -rng2, -rng3, -List.head?_filter, -isTys, -lenD, rng_13]) (fun x hx c3 => ?_) (fun c3 => ?_)
          · generalize hvx : (x : Int) - 1 = v
            obtain ⟨M, hM, hMe⟩ : ∃ M, PL.maxD [.l [.i v, .i 1]] = some (.i M) ∧ M = (if v < 1 then 1 else v) := ⟨_, max21 v 1, rfl⟩
            have hMp : 0 < M := by rw [hMe]; split <;> omega
            have hfit : fitB (wk ws i) (wk ws j) v = divB (wk ws i) (wk ws j) v := fit_div _ _ _
            unfold fitB at hfit
            rw [← hMe] at hfit
            have e7v := e7 v
            rw [← hfit] at e7v
            by_cases g1 : 1 < v
            · by_cases g2 : (wk ws i).2 % M = 0
              · by_cases g3 : (wk ws j).2 % M = 0
                · simp only [g1, g2, g3, decide_true, Bool.true_and] at e7v
                  simp -implicitDefEqProofs [-ixD, -seqD, -walkD, -allD, -anyD, -sumD, -maxD, -minD, -minTD, -rng1, -rng2, -rng3, -List.head?_filter, -isTys, -lenD, g1, g2, g3, hM, ix_ws hi, ix_ws hj, moE_ok hMp, e7v, e10]
                · simp only [g1, g2, g3, decide_true, decide_false, Bool.true_and, Bool.false_and] at e7v
                  simp -implicitDefEqProofs [-ixD, -seqD, -walkD, -allD, -anyD, -sumD, -maxD, -minD, -minTD, -rng1, -rng2, -rng3, -List.head?_filter, -isTys, -lenD, g1, g2, g3, hM, ix_ws hi, ix_ws hj, moE_ok hMp, e7v, e10]
              · simp only [g1, g2, decide_true, decide_false, Bool.true_and, Bool.false_and] at e7v
                simp -implicitDefEqProofs [-ixD, -seqD, -walkD, -allD, -anyD, -sumD, -maxD, -minD, -minTD, -rng1, -rng2, -rng3, -List.head?_filter, -isTys, -lenD, g1, g2, hM, ix_ws hi, ix_ws hj, moE_ok hMp, e7v, e10]
            · simp only [g1, decide_false, Bool.false_and] at e7v
              simp -implicitDefEqProofs [-ixD, -seqD, -walkD, -allD, -anyD, -sumD, -maxD, -minD, -minTD, -rng1, -rng2, -rng3, -List.head?_filter, -isTys, -lenD, g1, e7v, e10]
          · simp -implicitDefEqProofs [-ixD, -seqD, -walkD, -allD, -anyD, -sumD, -maxD, -minD, -minTD, -rng1, -rng2, -rng3, -List.head?_filter, -isTys, -lenD, e8, e9]
        | some w =>
          obtain ⟨m, r, h1, h2⟩ := nights_some o hf (s := [i, j]) hs (by simp) hJ
          have hrl : r.length ≤ 900000 := by
            have h3 := List.length_filter_le (fun n : Nat => allOn ws [i, j] n) (List.range (14 + rnd ws))
            have h4 := congrArg List.length h1
            unfold nightsL at h4
            simp only [List.length_cons, List.length_range] at h3 h4
            omega
          rw [h1] at e1
          rw [hJ] at e3 e5 hmp
          have hv : lawP (wk ws i) (wk ws j) = none := by
            cases hl : lawP (wk ws i) (wk ws j) with
            | none => rfl
            | some v => rw [hl] at hmp; cases hmp
          rw [hv] at e2 e4 e6
          have n1 := n1 (m := m) hrl
          simp only [fD, iD_s, iD_n, ← h2] at e2 e3 e4 e5 e6
          simp only [List.map_cons] at e1 n1
          simp -implicitDefEqProofs [-ixD, -seqD, -walkD, -allD, -anyD, -sumD, -maxD, -minD, -minTD, -rng1, -rng2, -rng3, -List.head?_filter, -isTys, -lenD, hij2, e1, e2, e3, e4, e5, e6, n1]
          refine Wf_frs [7, 8] (fun x : Nat => D.i ((x : Int) - 1)) (List.range 14) (by simp -implicitDefEqProofs [-ixD, -seqD, -walkD, -allD, -anyD, -sumD, -maxD, -minD, -minTD, -rng1, -rng2, -rng3, -List.head?_filter, -isTys, -lenD, rng_13]) (fun x hx c3 => ?_) (fun c3 => ?_)
          · generalize hvx : (x : Int) - 1 = v
            obtain ⟨M, hM, hMe⟩ : ∃ M, PL.maxD [.l [.i v, .i 1]] = some (.i M) ∧ M = (if v < 1 then 1 else v) := ⟨_, max21 v 1, rfl⟩
            have hMp : 0 < M := by rw [hMe]; split <;> omega
            have hfit : fitB (wk ws i) (wk ws j) v = divB (wk ws i) (wk ws j) v := fit_div _ _ _
            unfold fitB at hfit
            rw [← hMe] at hfit
            have e7v := e7 v
            rw [← hfit] at e7v
            by_cases g1 : 1 < v
            · by_cases g2 : (wk ws i).2 % M = 0
              · by_cases g3 : (wk ws j).2 % M = 0
                · simp only [g1, g2, g3, decide_true, Bool.true_and] at e7v
                  simp -implicitDefEqProofs [-ixD, -seqD, -walkD, -allD, -anyD, -sumD, -maxD, -minD, -minTD, -rng1, -rng2, -rng3, -List.head?_filter, -isTys, -lenD, g1, g2, g3, hM, ix_ws hi, ix_ws hj, moE_ok hMp, e7v, e10]
                · simp only [g1, g2, g3, decide_true, decide_false, Bool.true_and, Bool.false_and] at e7v
                  simp -implicitDefEqProofs [-ixD, -seqD, -walkD, -allD, -anyD, -sumD, -maxD, -minD, -minTD, -rng1, -rng2, -rng3, -List.head?_filter, -isTys, -lenD, g1, g2, g3, hM, ix_ws hi, ix_ws hj, moE_ok hMp, e7v, e10]
              · simp only [g1, g2, decide_true, decide_false, Bool.true_and, Bool.false_and] at e7v
                simp -implicitDefEqProofs [-ixD, -seqD, -walkD, -allD, -anyD, -sumD, -maxD, -minD, -minTD, -rng1, -rng2, -rng3, -List.head?_filter, -isTys, -lenD, g1, g2, hM, ix_ws hi, ix_ws hj, moE_ok hMp, e7v, e10]
            · simp only [g1, decide_false, Bool.false_and] at e7v
              simp -implicitDefEqProofs [-ixD, -seqD, -walkD, -allD, -anyD, -sumD, -maxD, -minD, -minTD, -rng1, -rng2, -rng3, -List.head?_filter, -isTys, -lenD, g1, e7v, e10]
          · simp -implicitDefEqProofs [-ixD, -seqD, -walkD, -allD, -anyD, -sumD, -maxD, -minD, -minTD, -rng1, -rng2, -rng3, -List.head?_filter, -isTys, -lenD, e8, e9]
    · simp -implicitDefEqProofs [-ixD, -seqD, -walkD, -allD, -anyD, -sumD, -maxD, -minD, -minTD, -rng1, -rng2, -rng3, -List.head?_filter, -isTys, -lenD]
  · simp -implicitDefEqProofs [-ixD, -seqD, -walkD, -allD, -anyD, -sumD, -maxD, -minD, -minTD, -rng1, -rng2, -rng3, -List.head?_filter, -isTys, -lenD]))
end
end K43
namespace K43
open PySem PySem.Spec PyProof.Rows L2 PL
def evs : List Int := [1, 2, 3, 4, 5, 6, 8, 9, 10, 12]
def evI (r : Int) : Int := gI evs r.toNat
theorem evI_b (r : Int) (h0 : 0 ≤ r) (h1 : r < 10) : 1 ≤ evI r ∧ evI r ≤ 12 := by
  obtain ⟨n, rfl⟩ := Int.eq_ofNat_of_zero_le h0
  have : ((List.range 10).all fun n => decide (1 ≤ gI evs n) && decide (gI evs n ≤ 12)) = true := by decide +kernel
  have h := List.all_eq_true.mp this n (List.mem_range.mpr (by omega))
  rw [Bool.and_eq_true, decide_eq_true_eq, decide_eq_true_eq] at h
  exact h
theorem ix_ev {r : Int} (h0 : 0 ≤ r) (h1 : r < 10) : ixD (.l [.i 1, .i 2, .i 3, .i 4, .i 5, .i 6, .i 8, .i 9, .i 10, .i 12]) (.i r) = some (.i (evI r)) := by
  obtain ⟨n, rfl⟩ := Int.eq_ofNat_of_zero_le h0
  rw [ixD_l]
  exact atI_gI (b := evs) (j := n) (by show n < 10; omega)
def wOf (xs : List Int) (j : Nat) : Int × Int := (gI xs (j + 1) % 14, evI (gI xs (j + 1) / 14 % 10))
def wsOf (xs : List Int) (n : Nat) : List (Int × Int) := (List.range n).map (wOf xs)
theorem wm_of {xs : List Int} {n : Nat} (h1 : 1 ≤ n) (h2 : n ≤ 4) : Wm (wsOf xs n) := by
  have hd : ∀ p ∈ wsOf xs n, (0 ≤ p.1 ∧ p.1 ≤ 99) ∧ 1 ≤ p.2 ∧ p.2 ≤ 12 := fun p hp => by
    obtain ⟨j, _, rfl⟩ := List.mem_map.mp hp
    have := evI_b (gI xs (j + 1) / 14 % 10) (by omega) (by omega)
    show (0 ≤ gI xs (j + 1) % 14 ∧ gI xs (j + 1) % 14 ≤ 99) ∧ 1 ≤ evI (gI xs (j + 1) / 14 % 10) ∧ evI (gI xs (j + 1) / 14 % 10) ≤ 12
    omega
  have hl : (wsOf xs n).length = n := by simp [wsOf]
  exact ⟨⟨by omega, by omega, fun p hp => by have := hd p hp; omega⟩, by omega, fun p hp => (hd p hp).2.2⟩
theorem ev_tab : (evs.all fun e => decide (e.natAbs ∣ 360)) = true := by decide +kernel
theorem wf_of {xs : List Int} {n : Nat} : (∀ p ∈ wsOf xs n, p.1 ≤ 13) ∧ D360 (wsOf xs n) := by
  constructor
  · intro p hp
    obtain ⟨j, _, rfl⟩ := List.mem_map.mp hp
    show gI xs (j + 1) % 14 ≤ 13
    omega
  · intro p hp
    obtain ⟨j, _, rfl⟩ := List.mem_map.mp hp
    show (evI (gI xs (j + 1) / 14 % 10)).natAbs ∣ 360
    obtain ⟨m, hm⟩ := Int.eq_ofNat_of_zero_le (show 0 ≤ gI xs (j + 1) / 14 % 10 by omega)
    have hml : m < evs.length := by show m < 10; omega
    rw [hm]
    have h := List.all_eq_true.mp ev_tab evs[m] (List.getElem_mem hml)
    have e : evI ((m : Nat) : Int) = evs[m] := by
      show gI evs m = _
      exact gI_get hml
    have e2 := e
    rw [e2]
    exact of_decide_eq_true h
section
variable {C : Cf} [All C] {k : Nat} {ws : List (Int × Int)}
theorem c_lwatches {xs : List Int} (hl : xs.length = 5) {n : Nat} (hn : gI xs 0 % 4 + 1 = (n : Nat)) : C (k + 1) "_law_watches" [.l (xs.map .i)] = some (wsD (wsOf xs n)) := s__law_watches.run (run_of (by
  have m4 : moE (.i (gI xs 0)) (.i 4) = some (.i (gI xs 0 % 4)) := moE_ok (by omega)
  have e0 := atI_gI (b := xs) (j := 0) (by omega)
  have e1 : PL.rng1 (.i (1 + gI xs 0 % 4)) = some ((List.range n).map fun i : Nat => D.i i) := by
    rw [show 1 + gI xs 0 % 4 = (n : Int) by omega]
    exact rng1_nat (by omega)
  simp -implicitDefEqProofs [-ixD, -seqD, -walkD, -allD, -anyD, -sumD, -maxD, -minD, -minTD, -rng1, -rng2, -rng3, -List.head?_filter, -isTys, -lenD]
  refine Wf_fr (fun i : Nat => D.i i) (List.range n) (fun pre e => ∃ c2 c3, e = [.v (.l (xs.map .i)), .o (.l (pre.map fun j => wD (wOf xs j))), c2, c3]) ?_ ⟨.no, .no, by simp -implicitDefEqProofs [-ixD, -seqD, -walkD, -allD, -anyD, -sumD, -maxD, -minD, -minTD, -rng1, -rng2, -rng3, -List.head?_filter, -isTys, -lenD]⟩ ?_ ?_
  · have e0 : atI (xs.map D.i) 0 = some (D.i (gI xs 0)) := e0
    simp -implicitDefEqProofs [-ixD, -seqD, -walkD, -allD, -anyD, -sumD, -maxD, -minD, -minTD, -rng1, -rng2, -rng3, -List.head?_filter, -isTys, -lenD, e0, m4, e1]
  · rintro pre j post env e ⟨c2, c3, rfl⟩
    have hj : j ∈ List.range n := by rw [e]; simp
    have hj := List.mem_range.mp hj
    have hpl : pre.length < n := by
      have := congrArg List.length e
      simp at this
      omega
    have e2 := atI_gI (b := xs) (j := j + 1) (by omega)
    have e2 : atI (xs.map D.i) (1 + (j : Int)) = some (D.i (gI xs (j + 1))) := by rw [Int.add_comm]; exact e2
    have e3 : moE (.i (gI xs (j + 1))) (.i 14) = some (.i (gI xs (j + 1) % 14)) := moE_ok (by omega)
    have e4 : fdE (.i (gI xs (j + 1))) (.i 14) = some (.i (gI xs (j + 1) / 14)) := fdE_ok (by omega) (by omega)
    have e5 : moE (.i (gI xs (j + 1) / 14)) (.i 10) = some (.i (gI xs (j + 1) / 14 % 10)) := moE_ok (by omega)
    have e6 := ix_ev (r := gI xs (j + 1) / 14 % 10) (by omega) (by omega)
    have hsz : pre.length < SZ := Nat.lt_of_lt_of_le (show pre.length < 1000000 by omega) (sz_le (Nat.le_refl _))
    simp -implicitDefEqProofs [-ixD, -seqD, -walkD, -allD, -anyD, -sumD, -maxD, -minD, -minTD, -rng1, -rng2, -rng3, -List.head?_filter, -isTys, -lenD, e2, e3, e4, e5, e6, wOf, wD, hsz]
  · rintro env ⟨c2, c3, rfl⟩
    simp -implicitDefEqProofs [-ixD, -seqD, -walkD, -allD, -anyD, -sumD, -maxD, -minD, -minTD, -rng1, -rng2, -rng3, -List.head?_filter, -isTys, -lenD, wsD, wsOf, Function.comp_def]))
theorem bad_ws {d : D} (h : fin 2 d = true) (h2 : watchesB d = false) : C 59 "is_watches" [d] = some (.b false) := by
  have := c_watches (C := C) (k := 55) (n := 0) h
  rw [h2] at this
  exact this
theorem mu_ws (h : ws.length ≤ 1000) (n : Nat) (hn : n ≤ 1000) : muE (wsD ws) (.i n) = some (.t (List.replicate n (ws.map wD)).flatten) := by
  rw [muE, wsD, mulD, if_pos ⟨by omega, absLe_of (by omega), by simpa using h⟩]
  rfl
end
end K43
namespace K43
open PySem PySem.Spec PyProof.Rows L2 PL
def bads (ws : List (Int × Int)) : List D := [.n, .i 7, .t [], .t (List.replicate 9 (ws.map wD)).flatten, .t [.t [.i 0, .i 0]], .t [.t [.i 0, .i 61]], .t [.t [.i 100, .i 1]], .t [.t [.i (-1), .i 1]], .t [.t [.i 0]], .t [.t [.b true, .i 1]]]
theorem len9 (l : List D) : (List.replicate 9 l).flatten.length = 9 * l.length := by simp; omega
theorem bads_ok {ws : List (Int × Int)} (o : Wm ws) : ∀ d ∈ bads ws, fin 2 d = true ∧ watchesB d = false := by
  have h1 := o.n1
  have h2 := o.m
  intro d hd
  unfold bads at hd
  simp only [List.mem_cons, List.not_mem_nil, or_false] at hd
  rcases hd with rfl | rfl | rfl | rfl | rfl | rfl | rfl | rfl | rfl | rfl
  all_goals first
    | exact ⟨by decide +kernel, by decide +kernel⟩
    | skip
  refine ⟨fin_ts (fun x hx => ?_) ?_, ?_⟩
  · obtain ⟨l, hl, hx⟩ := List.mem_flatten.mp hx
    rw [List.mem_replicate] at hl
    obtain ⟨_, rfl⟩ := hl
    obtain ⟨p, _, rfl⟩ := List.mem_map.mp hx
    exact fin_w 0 p
  · rw [len9, List.length_map]
    omega
  · have : longB (.t (List.replicate 9 (ws.map wD)).flatten) 1 8 = false := by
      unfold longB
      rw [show mem (.t (List.replicate 9 (ws.map wD)).flatten) = (List.replicate 9 (ws.map wD)).flatten from rfl, len9, List.length_map]
      simp
      omega
    unfold watchesB
    rw [this]
    rfl
end K43
namespace K43
open PySem PySem.Spec PyProof.Rows L2 PL
variable {ws : List (Int × Int)}
/-- some two never meet -/
def apart_ (ws : List (Int × Int)) (s : List Nat) : Bool := !(s.flatMap fun i => (s.filter fun j => decide (i < j) && (jnt (wk ws i) (wk ws j)).isNone).map fun j => (i, j)).isEmpty
/-- the pairs that never meet, as the law lists them -/
def apL (ws : List (Int × Int)) (s pre : List Nat) : List (Nat × Nat) := pre.flatMap fun i => (s.filter fun j => decide (i < j) && (jnt (wk ws i) (wk ws j)).isNone).map fun j => (i, j)
theorem apart_head {s : List Nat} (h : pairsOf s = s.flatMap fun i => ((s.filter fun j => decide (i < j)).map fun j => (i, j))) : apart ws s = (apL ws s s).head? := by
  unfold apart apL
  rw [← List.head?_filter, h, List.filter_flatMap]
  congr 2
  funext i
  rw [List.filter_map, List.filter_filter]
  congr 1
  refine List.filter_congr fun j _ => ?_
  show ((jnt (wk ws i) (wk ws j)).isNone && decide (i < j)) = _
  rw [Bool.and_comm]
theorem apL_le (ws : List (Int × Int)) (s pre : List Nat) : (apL ws s pre).length ≤ s.length * pre.length := by
  refine flat_le _ s.length pre fun i _ => ?_
  rw [List.length_map]
  exact List.length_filter_le _ _
theorem apL_snoc (ws : List (Int × Int)) (s pre : List Nat) (i : Nat) : apL ws s (pre ++ [i]) = apL ws s pre ++ (s.filter fun j => decide (i < j) && (jnt (wk ws i) (wk ws j)).isNone).map fun j => (i, j) := by
  unfold apL
  rw [List.flatMap_append, List.flatMap_singleton]
theorem nights_eq (o : Wm ws) (hf : ∀ p ∈ ws, p.1 ≤ 13) {s : List Nat} (h : ∀ i ∈ s, i < ws.length) (hs : s ≠ []) : eqE (.l ((nightsL ws s (14 + rnd ws)).map fun n : Nat => D.i n)) (.l []) = some (.b (jof ws s).isNone) := by
  have hl : (nightsL ws s (14 + rnd ws)).length ≤ 1000000 := by
    have h3 := List.length_filter_le (fun n : Nat => allOn ws s n) (List.range (14 + rnd ws))
    rw [List.length_range] at h3
    have := o.rnd_b
    unfold nightsL
    omega
  rw [eqE_nil (n := 2) (fin_map (fun _ _ => by simp) hl) (by omega)]
  cases hJ : jof ws s with
  | none => rw [nights_none o hs hJ]; rfl
  | some j =>
    obtain ⟨m, r, h1, _⟩ := nights_some o hf h hs hJ
    rw [h1]; rfl
theorem nights_le (o : Wm ws) (s : List Nat) : (nightsL ws s (14 + rnd ws)).length ≤ 900000 := by
  have h3 := List.length_filter_le (fun n : Nat => allOn ws s n) (List.range (14 + rnd ws))
  rw [List.length_range] at h3
  have := o.rnd_b
  unfold nightsL
  omega
theorem cnt_all (hp : ∀ p ∈ ws, 0 < p.2) {s : List Nat} (hs : s ≠ []) (hpos : ∀ j, jof ws s = some j → 0 < j.2) (a : Int) (n : Nat) : (((List.range n).filter fun i : Nat => allOn ws s (a + (i : Nat))).length : Int) = cntJ (jof ws s) a (a + n - 1) := by
  have h : (fun i : Nat => allOn ws s (a + (i : Nat))) = fun i : Nat => onJ (jof ws s) (a + (i : Nat)) := funext fun i => jof_ok hp _ hs
  rw [h]
  cases hJ : jof ws s with
  | none =>
    have : ((List.range n).filter fun i : Nat => onJ none (a + (i : Nat))) = [] := List.filter_eq_nil_iff.mpr fun i _ => Bool.false_ne_true
    rw [this]; rfl
  | some j => exact (count_J (hpos j hJ) a n).symm
theorem rng2_ok {lo : Int} {n : Nat} (h0 : 0 ≤ lo) (h1 : lo ≤ 1000000) (h2 : n ≤ 1000000) : PL.rng2 (.i lo) (.i (lo + n)) = some ((List.range n).map fun i : Nat => D.i (lo + (i : Nat))) := by
  have e1 : smI lo = true := absLe_of (by omega)
  have e2 : smI (lo + n) = true := absLe_of (by omega)
  rw [PL.rng2, if_pos (by rw [e1, e2]; rfl), rngD_map]
  have : ((lo + (n : Int)) - lo).toNat = n := by omega
  rw [this]
theorem wm_sub (o : Wm ws) {s : List Nat} (h : ∀ i ∈ s, i < ws.length) (h1 : 1 ≤ s.length) (hl : s.length ≤ 4) : Wm (sub ws s) := by
  have hd : ∀ p ∈ sub ws s, p ∈ ws := fun p hp => by
    obtain ⟨i, hi, rfl⟩ := List.mem_map.mp hp
    exact wk_in (h i hi)
  have e : (sub ws s).length = s.length := by simp [sub]
  exact ⟨⟨by omega, by omega, fun p hp => o.d p (hd p hp)⟩, by omega, fun p hp => o.e p (hd p hp)⟩
theorem comp_sub {s : List Nat} (h : ∀ i ∈ s, i < ws.length) : compM (fun _ : Nat => some true) (fun j : Nat => ixD (wsD ws) (.i j)) s = some ((sub ws s).map wD) := by
  have e : (sub ws s).map wD = s.map fun j => wD (wk ws j) := by simp [sub]
  rw [e]
  exact compM_all _ (fun _ _ => rfl) fun j hj => ix_ws (h j hj)
theorem same_i {C : Cf} [All C] (x : Int) : C 59 "_law_same" [.i x, .i x] = some (.b true) := c_same (C := C) (n := 0) (m := 59) rfl (by omega)
theorem pD_same (p : Option (Nat × Nat)) : sam 1 (pD p) = true := by cases p <;> rfl
theorem ne_ap (ws : List (Int × Int)) {s : List Nat} (hl : s.length ≤ 4) : neE (.l ((apL ws s s).map pairD)) (.l []) = some (.b (apart_ ws s)) := by
  have := apL_le ws s s
  have h2 : s.length * s.length ≤ 4 * 4 := Nat.mul_le_mul hl hl
  rw [neE_nil (n := 2) (fin_map (g := pairD) (fun _ _ => fin_ts (by simp) (by simp)) (by omega)) (by omega)]
  simp [apart_, apL]
theorem c_lrL {C : Cf} [All C] {k : Nat} (o : Wm ws) : C (k + 2) "_law_round" [.l (ws.map wD)] = some (.i (rnd ws : Nat)) := s__law_round.run (run_of (by
  simp -implicitDefEqProofs [-ixD, -seqD, -walkD, -allD, -anyD, -sumD, -maxD, -minD, -minTD, -rng1, -rng2, -rng3, -List.head?_filter, -isTys, -lenD]
  refine Wf_fr wD ws (fun pre e => ∃ c1 c2, e = [.v (.l (ws.map wD)), .v (.i (rnd pre : Nat)), c1, c2]) (by simp -implicitDefEqProofs [-ixD, -seqD, -walkD, -allD, -anyD, -sumD, -maxD, -minD, -minTD, -rng1, -rng2, -rng3, -List.head?_filter, -isTys, -lenD]) ⟨_, _, rfl⟩ ?_ ?_
  · rintro pre w post env e ⟨c1, c2, rfl⟩
    obtain ⟨b1, b2⟩ := o.pre e
    have hw : w ∈ ws := by rw [e]; simp
    have h1 := (o.d w hw).2.1
    have h2 := o.e w hw
    obtain ⟨q, hq⟩ := Int.eq_ofNat_of_zero_le (show 0 ≤ w.2 by omega)
    have hqp : 0 < q := by omega
    have h3 : rnd pre * q ≤ 20736 * 12 := Nat.mul_le_mul b2 (by omega)
    have e1 := c_gcd (C := C) (k := k) (a := rnd pre) (b := q) (by omega)
    have h4 : 0 < Nat.gcd (rnd pre) q := Nat.gcd_pos_of_pos_right _ hqp
    have h5 : Nat.gcd (rnd pre) q ≤ q := Nat.gcd_le_right _ hqp
    have e2 : fdE (.i ((rnd pre : Nat) * (q : Int))) (.i ((Nat.gcd (rnd pre) q : Nat) : Int)) = some (.i (rnd (pre ++ [w]) : Nat)) := by
      rw [fdE_ok (by omega) (by omega), rnd_snoc, hq]
      rfl
    simp -implicitDefEqProofs [-ixD, -seqD, -walkD, -allD, -anyD, -sumD, -maxD, -minD, -minTD, -rng1, -rng2, -rng3, -List.head?_filter, -isTys, -lenD, hq, e1, muE_r (smallI_of (show -(2 ^ 64 : Int) < (q : Int) ∧ (q : Int) < 2 ^ 64 by omega)), e2]
  · rintro env ⟨c1, c2, rfl⟩
    simp -implicitDefEqProofs [-ixD, -seqD, -walkD, -allD, -anyD, -sumD, -maxD, -minD, -minTD, -rng1, -rng2, -rng3, -List.head?_filter, -isTys, -lenD]))
end K43
namespace K43
open PySem PySem.Spec PyProof.Rows L2 PL
def optB (ws : List (Int × Int)) : Option (List Nat) → D
  | some s => .t [.i (0 - (s.length : Nat)), mkN s, fD (jof ws s)]
  | none => .n
theorem rng_pow {m : Nat} (h1 : 1 ≤ m) (h : m ≤ 1000) : PL.rng2 (.i 1) (.i (m : Nat)) = some ((List.range (m - 1)).map fun i : Nat => D.i ((i : Int) + 1)) := by
  rw [PL.rng2, if_pos (by rw [show smI 1 = true by decide +kernel, smI_nat (by omega)]; rfl), rngD_map]
  have : (((m : Nat) : Int) - 1).toNat = m - 1 := by omega
  rw [this]
  congr 1
  exact List.map_congr_left fun i _ => by rw [Int.add_comm]
theorem ordlen_tab : ((List.range 5).all fun n => (ordL n).all fun s => decide (s.length ≤ 4)) = true := by decide +kernel
theorem in_ordlen {n : Nat} (hn : n ≤ 4) {s : List Nat} (h : s ∈ ordL n) : s.length ≤ 4 := of_decide_eq_true (List.all_eq_true.mp (List.all_eq_true.mp ordlen_tab n (List.mem_range.mpr (by omega))) s h)
theorem zero_tab : ((List.range 5).all fun n => decide (n = 0 ∨ [0] ∈ ordL n)) = true := by decide +kernel
theorem sam_mk (r : List Nat) (h : r.length ≤ 1000) : sam 1 (mkN r) = true := by
  unfold mkN
  rw [sam, Bool.and_eq_true, List.all_eq_true, decide_eq_true_eq, List.length_map]
  refine ⟨fun d hd => ?_, h⟩
  obtain ⟨a, _, rfl⟩ := List.mem_map.mp hd
  rfl
theorem ne_tab : ((List.range 5).all fun n => (List.range (2 ^ n - 1)).all fun i => !(bitsOf (i + 1) n).isEmpty) = true := by decide +kernel
theorem bits_ne {n i : Nat} (hn : n ≤ 4) (h : i < 2 ^ n - 1) : bitsOf (i + 1) n ≠ [] := by
  have h1 := List.all_eq_true.mp (List.all_eq_true.mp ne_tab n (List.mem_range.mpr (by omega))) i (List.mem_range.mpr h)
  intro e
  rw [e] at h1
  cases h1
def ws8 : List (Int × Int) := List.replicate 8 (99, 60)
section
variable {C : Cf} [All C]
theorem law_eq (ns : List Int) : C 60 "law" [.z (ns.map .i)] = some (.b true) := s_law.run (run_of (by
  have hcell : ∀ (p m : Nat), 1 ≤ m → C m "_law_cell" [.z (ns.map .i), .i p] = some (.i (ns.getD p 0)) := fun p m hm => by
    obtain ⟨j, rfl⟩ : ∃ j, m = j + 1 := ⟨m - 1, by omega⟩
    exact s__law_cell.run (law_cell_eq ns p)
  obtain ⟨xs, hx1, hx2, hx3⟩ := law_numbers_ex (c := C 58) (ns := ns) (p := 0) (m := 5) (cell := ns.getD 0 0) (by omega) (hcell 0 58 (by omega))
  have hx : C 59 "_law_numbers" [.z (ns.map .i), .i 0, .i 5] = some (.l (xs.map .i)) := s__law_numbers.run hx1
  obtain ⟨ys, hy1, hy2, hy3⟩ := law_numbers_ex (c := C 58) (ns := ns) (p := 2) (m := 2) (cell := ns.getD 2 0) (by omega) (hcell 2 58 (by omega))
  have hy : C 59 "_law_numbers" [.z (ns.map .i), .i 2, .i 2] = some (.l (ys.map .i)) := s__law_numbers.run hy1
  have c1 : C 59 "_law_cell" [.z (ns.map .i), .i 1] = some (.i (ns.getD 1 0)) := hcell 1 59 (by omega)
  obtain ⟨n, hn⟩ : ∃ n : Nat, gI xs 0 % 4 + 1 = (n : Nat) := ⟨(gI xs 0 % 4 + 1).toNat, by omega⟩
  have hw := c_lwatches (C := C) (k := 58) hx2 hn
  have o : Wm (wsOf xs n) := wm_of (by omega) (by omega)
  obtain ⟨hf, hd⟩ := wf_of (xs := xs) (n := n)
  obtain ⟨a, ha⟩ : ∃ a : Nat, ns.getD 1 0 % 400 = a := ⟨(ns.getD 1 0 % 400).toNat, by omega⟩
  generalize ns.getD 1 0 = v1 at *
  generalize wsOf xs n = ws at *
  have m4 : moE (.i v1) (.i 400) = some (.i a) := by rw [moE_ok (by omega), ha]
  have hlen := o.m
  have hlen1 := o.n1
  obtain ⟨b1, b2⟩ := o.rnd_b
  have w1 : C 59 "is_watches" [wsD ws] = some (.b true) := by
    have := c_watches (C := C) (k := 55) (n := 0) (fin_wsQ (ws := ws) 0 false (by omega))
    rw [watches_ws o.toWs false] at this
    exact this
  have w2 : C 59 "is_watches" [wsQ true ws] = some (.b true) := by
    have := c_watches (C := C) (k := 55) (n := 0) (fin_wsQ (ws := ws) 0 true (by omega))
    rw [watches_ws o.toWs true] at this
    exact this
  have hli : C 59 "_law_listed" [wsD ws] = some (wsQ true ws) := by
    have := listed_d (C := C) s__law_listed 2 56 (wsD ws) (fin_wsQ (ws := ws) 0 false (by omega))
    rw [li_ws] at this
    exact this
  have mu8 : muE (.t [.t [.i 99, .i 60]]) (.i 8) = some (wsD ws8) := by decide +kernel
  have o8 : Ws ws8 := ⟨by decide, by decide, fun p hp => by
    have := (List.mem_replicate.mp hp).2
    subst this
    decide⟩
  have w3 : C 59 "is_watches" [wsD ws8] = some (.b true) := by
    have := c_watches (C := C) (k := 55) (n := 0) (fin_wsQ (ws := ws8) 0 false (by decide))
    rw [watches_ws o8 false] at this
    exact this
  have mu9 := mu_ws (ws := ws) (by omega) 9 (by omega)
  have mu9 : muE (wsD ws) (.i 9) = some (.t (List.replicate 9 (ws.map wD)).flatten) := mu9
  have hbad := bads_ok o
  have hbd : bads ws = [.n, .i 7, .t [], .t (List.replicate 9 (ws.map wD)).flatten, .t [.t [.i 0, .i 0]], .t [.t [.i 0, .i 61]], .t [.t [.i 100, .i 1]], .t [.t [.i (-1), .i 1]], .t [.t [.i 0]], .t [.t [.b true, .i 1]]] := rfl
  generalize (List.replicate 9 (ws.map wD)).flatten = zs at mu9 hbd
  simp -implicitDefEqProofs [-ixD, -seqD, -walkD, -allD, -anyD, -sumD, -maxD, -minD, -minTD, -rng1, -rng2, -rng3, -List.head?_filter, -isTys, -lenD, hx, hw, hli, w1, w2, w3, mu8]
  refine Wf_frs [3] id (bads ws) (by simp -implicitDefEqProofs [-ixD, -seqD, -walkD, -allD, -anyD, -sumD, -maxD, -minD, -minTD, -rng1, -rng2, -rng3, -List.head?_filter, -isTys, -lenD, mu9, hbd]) (fun d hdm c => ?_) (fun c => ?_)
  · obtain ⟨q1, q2⟩ := hbad d hdm
    simp -implicitDefEqProofs [-ixD, -seqD, -walkD, -allD, -anyD, -sumD, -maxD, -minD, -minTD, -rng1, -rng2, -rng3, -List.head?_filter, -isTys, -lenD, bad_ws (C := C) q1 q2]
  · have hr := c_lr (C := C) (k := 57) o
    have hr2 := c_round (C := C) (k := 53) o false
    have h2 := c_two (C := C) (k := 50) o hf
    have h2 : C 59 "_law_two" [wsD ws, .i (14 + ((rnd ws : Nat) : Int))] = some (.b true) := h2
    have hsi : ∀ x : Int, C 59 "_law_same" [.i x, .i x] = some (.b true) := fun x => c_same (C := C) (n := 0) (m := 59) rfl (by omega)
    rw [wsQ_f] at hr2
    simp -implicitDefEqProofs [-ixD, -seqD, -walkD, -allD, -anyD, -sumD, -maxD, -minD, -minTD, -rng1, -rng2, -rng3, -List.head?_filter, -isTys, -lenD, hr, hr2, h2, hsi]
    refine Wf_frs [6, 7] (fun x : Nat => D.i x) [0, 1, 5, 13, 14, 14 + a, 100000] (by simp -implicitDefEqProofs [-ixD, -seqD, -walkD, -allD, -anyD, -sumD, -maxD, -minD, -minTD, -rng1, -rng2, -rng3, -List.head?_filter, -isTys, -lenD, c1, m4]) (fun x _ c2 => ?_) (fun c2 => ?_)
    · have hrow : compM (fun j : Nat => (((ixD (wsD ws) (.i j)).bind fun y => some [y, .i (x : Nat)]).bind (C 59 "_law_is_on")).bind truthD) (fun j : Nat => some (.i j)) (List.range ws.length) = some (rowD ws x) := by
        refine compM_eq _ _ (fun j hj => ?_) fun _ _ _ => rfl
        have hj := List.mem_range.mp hj
        simp -implicitDefEqProofs [-ixD, -seqD, -walkD, -allD, -anyD, -sumD, -maxD, -minD, -minTD, -rng1, -rng2, -rng3, -List.head?_filter, -isTys, -lenD, ix_ws hj, c_lon (C := C) (k := 58) (w := wk ws j) (n := x) (wk_pos o.toWs.pos j)]
      have hmk : mkL (rowD ws x) = some (.l (rowD ws x)) := mkL_map' (by have := rowAt_le ws (x : Int); omega)
      have on1 := c_on (C := C) (k := 53) o.toWs false (n := x)
      have on2 := c_on (C := C) (k := 53) o.toWs true (n := x)
      rw [wsQ_f] at on1
      have hss : C 59 "_law_same" [.t (rowD ws x), .t (rowD ws x)] = some (.b true) := by
        refine c_same (C := C) (n := 1) (m := 59) ?_ (by omega)
        have := rowAt_le ws (x : Int)
        show (((rowAt ws x).map fun k : Nat => D.i k).all (sam 0) && decide (((rowAt ws x).map fun k : Nat => D.i k).length ≤ 1000)) = true
        rw [Bool.and_eq_true, decide_eq_true_eq, List.length_map]
        refine ⟨?_, by omega⟩
        rw [List.all_map, List.all_eq_true]
        exact fun _ _ => rfl
      simp -implicitDefEqProofs [-ixD, -seqD, -walkD, -allD, -anyD, -sumD, -maxD, -minD, -minTD, -rng1, -rng2, -rng3, -List.head?_filter, -isTys, -lenD, rng1_nat (show ws.length ≤ 1000000 by omega), compD_M, hrow, hmk, on1, on2, hli, hss]
    · simp -implicitDefEqProofs [-ixD, -seqD, -walkD, -allD, -anyD, -sumD, -maxD, -minD, -minTD, -rng1, -rng2, -rng3, -List.head?_filter, -isTys, -lenD, hy]
      obtain ⟨p1, p2⟩ := pow_b (show ws.length ≤ 8 by omega)
      have epw := c_pow (C := C) (k := 58) (j := ws.length) (by omega)
      refine Wf_fr (fun i : Nat => D.i ((i : Int) + 1)) (List.range (2 ^ ws.length - 1)) (fun pre e => ∃ d6 d7 d10 d11 d12 d13 d14 d15 d16 d17 d18 d19 d20 d21 d22, e = [.v (.z (ns.map .i)), .v (wsD ws), .v (.i ws.length), c 3, .v (.i (rnd ws : Nat)), .v (.i (14 + ((rnd ws : Nat) : Int))), d6, d7, .v (optB ws ((pre.map fun i => bitsOf (i + 1) ws.length).foldl (rowS fun s => (jof ws s).isSome) none)), .v (.l (ys.map .i)), d10, d11, d12, d13, d14, d15, d16, d17, d18, d19, d20, d21, d22]) ?_ ⟨_, _, _, _, _, _, _, _, _, _, _, _, _, _, _, rfl⟩ ?_ ?_
      · simp -implicitDefEqProofs [-ixD, -seqD, -walkD, -allD, -anyD, -sumD, -maxD, -minD, -minTD, -rng1, -rng2, -rng3, -List.head?_filter, -isTys, -lenD, -Int.natCast_pow, epw, rng_pow p1 (show 2 ^ ws.length ≤ 1000 by omega)]
      · rintro pre i post env e ⟨d6, d7, d10, d11, d12, d13, d14, d15, d16, d17, d18, d19, d20, d21, d22, rfl⟩
        have hi : i ∈ List.range (2 ^ ws.length - 1) := by rw [e]; simp
        have hi := List.mem_range.mp hi
        have hne := bits_ne hlen hi
        have hri := rise_bits (i + 1) ws.length
        have hsl := bits_len (i + 1) ws.length
        have e1 := c_set (C := C) (k := 57) (num := i + 1) (n := ws.length) (by omega)
        have e1 : C 59 "_law_set" [.i ((i : Int) + 1), .i ws.length] = some (setD false (bitsOf (i + 1) ws.length)) := e1
        have hpr := law_pairs hlen (show i + 1 < 2 ^ ws.length by omega)
        rw [List.map_append, List.foldl_append, List.map_cons, List.map_nil, List.foldl_cons, List.foldl_nil]
        have hbest : ∀ b, (pre.map fun i => bitsOf (i + 1) ws.length).foldl (rowS fun s => (jof ws s).isSome) none = some b → b ≠ bitsOf (i + 1) ws.length ∧ (jof ws b).isSome = true := fun b hb => by
          have hall : ∀ l : List Nat, (∀ x ∈ l, x ∈ List.range (2 ^ ws.length - 1)) → ∀ s ∈ [] ++ l.map (fun i => bitsOf (i + 1) ws.length), s ∈ setsL ws.length := fun l hl s hs => by
            obtain ⟨x, hx, rfl⟩ := List.mem_map.mp (by simpa using hs)
            exact List.mem_map.mpr ⟨x, hl x hx, rfl⟩
          have inv := rowS_inv hlen (fun s => (jof ws s).isSome) (pre.map fun i => bitsOf (i + 1) ws.length) [] none (hall pre fun x hx => by rw [e]; simp [hx]) (fun _ h => nomatch h)
          rw [hb] at inv
          obtain ⟨i1, i2, _⟩ := inv
          refine ⟨fun z => ?_, i2⟩
          have nd := of_decide_eq_true (List.all_eq_true.mp nodup_tab ws.length (List.mem_range.mpr (by omega)))
          unfold setsL at nd
          rw [e, List.map_append, List.map_cons] at nd
          have := (List.nodup_append.mp nd).2.2 b (by simpa using i1) (bitsOf (i + 1) ws.length) List.mem_cons_self
          exact this z
        generalize bitsOf (i + 1) ws.length = s at *
        have e2 : C 59 "_law_nights" [wsD ws, setD false s, .i (14 + ((rnd ws : Nat) : Int))] = some (.l ((nightsL ws s (14 + rnd ws)).map fun n : Nat => D.i n)) := c_lnights (C := C) (k := 57) o.toWs (last := 14 + rnd ws) hri.2 (by omega) (by omega)
        have e3 : ∀ x ∈ s, ∀ y ∈ s, C 59 "_law_nights" [wsD ws, .t [.i (x : Nat), .i (y : Nat)], .i (14 + ((rnd ws : Nat) : Int))] = some (.l ((nightsL ws [x, y] (14 + rnd ws)).map fun n : Nat => D.i n)) := fun x hx y hy => c_lnights (C := C) (k := 57) o.toWs (s := [x, y]) (by simp; exact ⟨hri.2 x hx, hri.2 y hy⟩) (by simp) (Nat.le_trans (show 14 + rnd ws ≤ 20750 by omega) (by decide))
        have s1 : 1 ≤ s.length := by cases s with
          | nil => exact absurd rfl hne
          | cons a l => simp
        have e4 := c_together (C := C) (k := 53) o hri hne (by omega)
        have e5 := c_apart (C := C) (k := 53) o hri s1 (by omega) true
        have e6 := fun (x y : Int) (hx : 0 ≤ x) (hxy : x ≤ y) => c_counted (C := C) (k := 53) o hri hne (by omega) hx hxy
        have e7 := all_meet o hd hri.2 hne (by omega)
        have hls : PL.listD [setD false s] = some (setD true s) := rfl
        have y0 : atI (ys.map D.i) 0 = some (D.i (gI ys 0)) := atI_gI (b := ys) (j := 0) (by omega)
        have y1 : atI (ys.map D.i) 1 = some (D.i (gI ys 1)) := atI_gI (b := ys) (j := 1) (by omega)
        have m30 : moE (.i (gI ys 0)) (.i 30) = some (.i (gI ys 0 % 30)) := moE_ok (by omega)
        obtain ⟨nu, hnu⟩ := Int.eq_ofNat_of_zero_le (show 0 ≤ gI ys 1 % 90 by omega)
        have m90 : moE (.i (gI ys 1)) (.i 90) = some (.i nu) := by rw [moE_ok (by omega), hnu]
        have hr2 : PL.rng2 (.i (gI ys 0 % 30)) (.i (gI ys 0 % 30 + nu + 1)) = some ((List.range (nu + 1)).map fun i : Nat => D.i (gI ys 0 % 30 + (i : Nat))) := by
          have := rng2_ok (lo := gI ys 0 % 30) (n := nu + 1) (by omega) (by omega) (by omega)
          rwa [show gI ys 0 % 30 + ((nu + 1 : Nat) : Int) = gI ys 0 % 30 + nu + 1 by omega] at this
        generalize (pre.map fun i => bitsOf (i + 1) ws.length).foldl (rowS fun s => (jof ws s).isSome) none = best at *
        cases hJ : jof ws s with
        | none =>
          have h1 := nights_none o hne hJ (14 + rnd ws)
          rw [h1] at e2
          simp -implicitDefEqProofs [-ixD, -seqD, -walkD, -allD, -anyD, -sumD, -maxD, -minD, -minTD, -rng1, -rng2, -rng3, -List.head?_filter, -isTys, -lenD, e1, e2, n0]
          refine Wf_fr (fun k : Nat => D.i k) s (fun pr e => ∃ x7 x8 x12 x13 c', e = [.v (.z (ns.map .i)), .v (wsD ws), .v (.i ws.length), c 3, .v (.i (rnd ws : Nat)), .v (.i (14 + ((rnd ws : Nat) : Int))), d6, x7, x8, .v (.l (ys.map .i)), .v (.i ((i : Int) + 1)), .v (setD false s), x12, x13, .v (.l ((apL ws s pr).map pairD)), c', d16, d17, d18, d19, d20, d21, d22] ∧ x7 = .v (fD (jof ws s)) ∧ x8 = .v (optB ws (rowS (fun s => (jof ws s).isSome) best s))) ?_ ⟨_, _, _, _, _, rfl, by simp [hJ, fD], by simp [rowS, hJ]⟩ ?_ ?_
          · simp -implicitDefEqProofs [-ixD, -seqD, -walkD, -allD, -anyD, -sumD, -maxD, -minD, -minTD, -rng1, -rng2, -rng3, -List.head?_filter, -isTys, -lenD, setD]
          · rintro pr k po env ek ⟨x7, x8, x12, x13, c', rfl, hx7, hx8⟩
            have hk : k ∈ s := by rw [ek]; simp
            have hl1 := apL_le ws s pr
            have hl2 := List.length_filter_le (fun a => decide (k < a) && (jnt (wk ws k) (wk ws a)).isNone) s
            have hl3 : pr.length ≤ s.length := by rw [ek]; simp
            have hl4 : s.length * pr.length ≤ 4 * 4 := Nat.mul_le_mul (by omega) (by omega)
            have had : adE (.l ((apL ws s pr).map pairD)) (.l ((s.filter fun a => decide (k < a) && (jnt (wk ws k) (wk ws a)).isNone).map fun a : Nat => D.t [.i (k : Nat), .i (a : Nat)])) = some (.l ((apL ws s (pr ++ [k])).map pairD)) := by
              rw [adE_l' (by rw [List.length_map, List.length_map]; omega), apL_snoc, List.map_append, List.map_map]
              rfl
            simp -implicitDefEqProofs [-ixD, -seqD, -walkD, -allD, -anyD, -sumD, -maxD, -minD, -minTD, -rng1, -rng2, -rng3, -List.head?_filter, -isTys, -lenD, hx7, hx8, setD, compD_M]
            rw [compM_eq (fun a : Nat => decide (k < a) && (jnt (wk ws k) (wk ws a)).isNone) (fun a : Nat => D.t [.i (k : Nat), .i (a : Nat)]) (fun a ha => ?_) (fun _ _ _ => rfl)]
            · simp -implicitDefEqProofs [-ixD, -seqD, -walkD, -allD, -anyD, -sumD, -maxD, -minD, -minTD, -rng1, -rng2, -rng3, -List.head?_filter, -isTys, -lenD, mkL_map' (g := fun a : Nat => D.t [.i (k : Nat), .i (a : Nat)]) (show (s.filter fun a => decide (k < a) && (jnt (wk ws k) (wk ws a)).isNone).length ≤ 1000000 by omega), had]
            · by_cases hka : k < a
              · have q := nights_eq o hf (s := [k, a]) (by simp; exact ⟨hri.2 k hk, hri.2 a ha⟩) (by simp)
                rw [if_pos hka, e3 k hk a ha, decide_eq_true hka]
                simp only [Option.bind_some, q]
                rfl
              · rw [if_neg hka, decide_eq_false hka]; rfl
          · rintro env ⟨x7, x8, x12, x13, c', rfl, hx7, hx8⟩
            have hah := apart_head (ws := ws) hpr
            have hap0 : (apL ws s s).length ≤ 16 := Nat.le_trans (apL_le ws s s) (Nat.mul_le_mul (show s.length ≤ 4 by omega) (show s.length ≤ 4 by omega))
            obtain ⟨p, r, hap⟩ : ∃ p r, apL ws s s = p :: r := by
              cases hq : apL ws s s with
              | nil => rw [hah, hq, hJ] at e7; cases e7
              | cons p r => exact ⟨p, r, rfl⟩
            have hne' : neE (.l (pairD p :: r.map pairD)) (.l []) = some (.b true) := by
              have := neE_nil (n := 2) (xs := (p :: r).map pairD) (fin_map (g := pairD) (fun _ _ => fin_ts (by simp) (by simp)) (by rw [← hap]; omega)) (by omega)
              exact this
            rw [hah, hap] at e5
            have e5 : C 59 "apart_of" [wsD ws, setD true s] = some (pairD p) := e5
            rw [hJ] at e4
            have e4 : C 59 "together" [wsD ws, setD false s] = some .n := e4
            have sm1 : C 59 "_law_same" [.n, .n] = some (.b true) := c_same (C := C) (n := 0) (m := 59) rfl (by omega)
            have sm2 : C 59 "_law_same" [pairD p, pairD p] = some (.b true) := c_same (C := C) (n := 1) (m := 59) rfl (by omega)
            have hnp : isND (pairD p) = false := rfl
            have e6' := e6 (gI ys 0 % 30) (gI ys 0 % 30 + nu) (by omega) (by omega)
            rw [hJ] at e6'
            have e6' : C 59 "counted" [wsD ws, setD false s, .i (gI ys 0 % 30), .i (gI ys 0 % 30 + nu)] = some (.i (cntJ none (gI ys 0 % 30) (gI ys 0 % 30 + nu))) := e6'
            simp -implicitDefEqProofs [-ixD, -seqD, -walkD, -allD, -anyD, -sumD, -maxD, -minD, -minTD, -rng1, -rng2, -rng3, -List.head?_filter, -isTys, -lenD, -listD, hx7, hx8, hap, hne', hJ, fD, e4, e5, sm1, sm2, hnp, hls, y0, y1, m30, m90, hr2, compD_M]
            rw [compM_eq (fun a : Nat => allOn ws s (gI ys 0 % 30 + (a : Nat))) (fun a : Nat => D.i (gI ys 0 % 30 + (a : Nat))) (fun a _ => ?_) (fun _ _ _ => rfl)]
            · have hfl := List.length_filter_le (fun a : Nat => allOn ws s (gI ys 0 % 30 + (a : Nat))) (List.range (nu + 1))
              rw [List.length_range] at hfl
              have hml := mkL_map' (g := fun a : Nat => D.i (gI ys 0 % 30 + (a : Nat))) (show ((List.range (nu + 1)).filter fun a : Nat => allOn ws s (gI ys 0 % 30 + (a : Nat))).length ≤ 1000000 by omega)
              have hcn := cnt_all (ws := ws) o.toWs.pos hne (fun j hj => (jof_b o hri (by omega) hj).1) (gI ys 0 % 30) (nu + 1)
              rw [show gI ys 0 % 30 + ((nu + 1 : Nat) : Int) - 1 = gI ys 0 % 30 + nu by omega, hJ] at hcn
              simp -implicitDefEqProofs [-ixD, -seqD, -walkD, -allD, -anyD, -sumD, -maxD, -minD, -minTD, -rng1, -rng2, -rng3, -List.head?_filter, -isTys, -lenD, hml, hcn, e6', hsi]
            · have h2 := List.length_filter_le (fun k => !onB (wk ws k) (gI ys 0 % 30 + (a : Nat))) s
              have e9 : mkL ((offL ws s (gI ys 0 % 30 + (a : Nat))).map fun k : Nat => D.i k) = some (.l ((offL ws s (gI ys 0 % 30 + (a : Nat))).map fun k : Nat => D.i k)) := mkL_map' (by unfold offL; omega)
              simp -implicitDefEqProofs [-ixD, -seqD, -walkD, -allD, -anyD, -sumD, -maxD, -minD, -minTD, -rng1, -rng2, -rng3, -List.head?_filter, -isTys, -lenD, comp_off (C := C) (k := 58) o.toWs hri.2 (gI ys 0 % 30 + (a : Nat)), e9, eq_off ws (show s.length ≤ 100 by omega) (gI ys 0 % 30 + (a : Nat))]
        | some w =>
          obtain ⟨m, r, h1, h2⟩ := nights_some o hf hri.2 hne hJ
          have hrl : r.length ≤ 900000 := by
            have := nights_le o s
            rw [h1, List.length_cons] at this
            omega
          have n1' := n1 (m := m) hrl
          rw [h1] at e2
          simp only [List.map_cons] at e2 n1'
          have hx : (isND (optB ws best) = true ∧ rowS (fun s => (jof ws s).isSome) best s = some s) ∨ (isND (optB ws best) = false ∧ ∃ q, ltE (.t [.i (-(s.length : Int)), setD false s, .i m]) (optB ws best) = some (.b q) ∧ rowS (fun s => (jof ws s).isSome) best s = if q = true then some s else best) := by
            have ht : (jof ws s).isSome = true := by rw [hJ]; rfl
            cases hB : best with
            | none => exact .inl ⟨rfl, by simp [rowS, ht]⟩
            | some b =>
              obtain ⟨hb1, hb2⟩ := hbest b hB
              obtain ⟨u, hu⟩ := Option.isSome_iff_exists.mp hb2
              refine .inr ⟨rfl, lsS s b, ?_, by simp [rowS, ht]⟩
              have := lt_row (a := -(s.length : Int)) (b := 0 - (b.length : Nat)) (c := u.1) (d := m) (s := s) (r := b) (Ne.symm hb1)
              show ltE (.t [.i (-(s.length : Int)), mkN s, .i m]) (.t [.i (0 - (b.length : Nat)), mkN b, fD (jof ws b)]) = _
              rw [hu]
              show ltE (.t [.i (-(s.length : Int)), mkN s, .i m]) (.t [.i (0 - (b.length : Nat)), mkN b, .i u.1]) = _
              rw [this, lsS]
              by_cases hl : s.length = b.length
              · rw [if_pos hl, if_pos (by omega)]
              · rw [if_neg hl, if_neg (by omega)]
                congr 2
                rw [decide_eq_decide]
                omega
          rcases hx with ⟨hnd, hrw⟩ | ⟨hnd, q, hlt, hrw⟩
          · simp -implicitDefEqProofs [-ixD, -seqD, -walkD, -allD, -anyD, -sumD, -maxD, -minD, -minTD, -rng1, -rng2, -rng3, -List.head?_filter, -isTys, -lenD, e1, e2, n1', hnd]
            refine Wf_fr (fun k : Nat => D.i k) s (fun pr e => ∃ x7 x8 x12 x13 c', e = [.v (.z (ns.map .i)), .v (wsD ws), .v (.i ws.length), c 3, .v (.i (rnd ws : Nat)), .v (.i (14 + ((rnd ws : Nat) : Int))), d6, x7, x8, .v (.l (ys.map .i)), .v (.i ((i : Int) + 1)), .v (setD false s), x12, x13, .v (.l ((apL ws s pr).map pairD)), c', d16, d17, d18, d19, d20, d21, d22] ∧ x7 = .v (fD (jof ws s)) ∧ x8 = .v (optB ws (rowS (fun s => (jof ws s).isSome) best s))) ?_ ⟨_, _, _, _, _, rfl, by simp [hJ, fD, h2], by rw [hrw]; simp [optB, mkN, setD, hJ, fD, h2]⟩ ?_ ?_
            · simp -implicitDefEqProofs [-ixD, -seqD, -walkD, -allD, -anyD, -sumD, -maxD, -minD, -minTD, -rng1, -rng2, -rng3, -List.head?_filter, -isTys, -lenD, setD]
            · rintro pr k po env ek ⟨x7, x8, x12, x13, c', rfl, hx7, hx8⟩
              have hk : k ∈ s := by rw [ek]; simp
              have hl1 := apL_le ws s pr
              have hl2 := List.length_filter_le (fun a => decide (k < a) && (jnt (wk ws k) (wk ws a)).isNone) s
              have hl3 : pr.length ≤ s.length := by rw [ek]; simp
              have hl4 : s.length * pr.length ≤ 4 * 4 := Nat.mul_le_mul (by omega) (by omega)
              have had : adE (.l ((apL ws s pr).map pairD)) (.l ((s.filter fun a => decide (k < a) && (jnt (wk ws k) (wk ws a)).isNone).map fun a : Nat => D.t [.i (k : Nat), .i (a : Nat)])) = some (.l ((apL ws s (pr ++ [k])).map pairD)) := by
                rw [adE_l' (by rw [List.length_map, List.length_map]; omega), apL_snoc, List.map_append, List.map_map]
                rfl
              simp -implicitDefEqProofs [-ixD, -seqD, -walkD, -allD, -anyD, -sumD, -maxD, -minD, -minTD, -rng1, -rng2, -rng3, -List.head?_filter, -isTys, -lenD, hx7, hx8, setD, compD_M]
              rw [compM_eq (fun a : Nat => decide (k < a) && (jnt (wk ws k) (wk ws a)).isNone) (fun a : Nat => D.t [.i (k : Nat), .i (a : Nat)]) (fun a ha => ?_) (fun _ _ _ => rfl)]
              · simp -implicitDefEqProofs [-ixD, -seqD, -walkD, -allD, -anyD, -sumD, -maxD, -minD, -minTD, -rng1, -rng2, -rng3, -List.head?_filter, -isTys, -lenD, mkL_map' (g := fun a : Nat => D.t [.i (k : Nat), .i (a : Nat)]) (show (s.filter fun a => decide (k < a) && (jnt (wk ws k) (wk ws a)).isNone).length ≤ 1000000 by omega), had]
              · by_cases hka : k < a
                · have q := nights_eq o hf (s := [k, a]) (by simp; exact ⟨hri.2 k hk, hri.2 a ha⟩) (by simp)
                  rw [if_pos hka, e3 k hk a ha, decide_eq_true hka]
                  simp only [Option.bind_some, q]
                  rfl
                · rw [if_neg hka, decide_eq_false hka]; rfl
            · rintro env ⟨x7, x8, x12, x13, c', rfl, hx7, hx8⟩
              have hah := apart_head (ws := ws) hpr
              have hap0 : (apL ws s s).length ≤ 16 := Nat.le_trans (apL_le ws s s) (Nat.mul_le_mul (show s.length ≤ 4 by omega) (show s.length ≤ 4 by omega))
              have hap : apL ws s s = [] := by
                cases hq : apL ws s s with
                | nil => rfl
                | cons p r => rw [hah, hq, hJ] at e7; cases e7
              rw [hah, hap] at e5
              have e5 : C 59 "apart_of" [wsD ws, setD true s] = some .n := e5
              rw [hJ] at e4
              have e4 : C 59 "together" [wsD ws, setD false s] = some (.i w.1) := e4
              have sm1 : C 59 "_law_same" [.n, .n] = some (.b true) := c_same (C := C) (n := 0) (m := 59) rfl (by omega)
              have e6' := e6 (gI ys 0 % 30) (gI ys 0 % 30 + nu) (by omega) (by omega)
              rw [hJ] at e6'
              have e6' : C 59 "counted" [wsD ws, setD false s, .i (gI ys 0 % 30), .i (gI ys 0 % 30 + nu)] = some (.i (cntJ (some w) (gI ys 0 % 30) (gI ys 0 % 30 + nu))) := e6'
              simp -implicitDefEqProofs [-ixD, -seqD, -walkD, -allD, -anyD, -sumD, -maxD, -minD, -minTD, -rng1, -rng2, -rng3, -List.head?_filter, -isTys, -lenD, -listD, hx7, hx8, hap, n0, hJ, fD, e4, e5, sm1, hsi, hls, y0, y1, m30, m90, hr2, compD_M]
              rw [compM_eq (fun a : Nat => allOn ws s (gI ys 0 % 30 + (a : Nat))) (fun a : Nat => D.i (gI ys 0 % 30 + (a : Nat))) (fun a _ => ?_) (fun _ _ _ => rfl)]
              · have hfl := List.length_filter_le (fun a : Nat => allOn ws s (gI ys 0 % 30 + (a : Nat))) (List.range (nu + 1))
                rw [List.length_range] at hfl
                have hml := mkL_map' (g := fun a : Nat => D.i (gI ys 0 % 30 + (a : Nat))) (show ((List.range (nu + 1)).filter fun a : Nat => allOn ws s (gI ys 0 % 30 + (a : Nat))).length ≤ 1000000 by omega)
                have hcn := cnt_all (ws := ws) o.toWs.pos hne (fun j hj => (jof_b o hri (by omega) hj).1) (gI ys 0 % 30) (nu + 1)
                rw [show gI ys 0 % 30 + ((nu + 1 : Nat) : Int) - 1 = gI ys 0 % 30 + nu by omega, hJ] at hcn
                have hcr := count_round o hf hri.2 hne hJ
                have e6r := e6 14 (13 + (rnd ws : Nat)) (by omega) (by omega)
                rw [hcr, jof_e o.toWs.pos hJ] at e6r
                have e6r : C 59 "counted" [wsD ws, setD false s, .i 14, .i (13 + (rnd ws : Nat))] = some (.i (((rnd ws : Nat) : Int) / ((rnd (sub ws s) : Nat) : Int))) := e6r
                have hws := wm_sub o hri.2 s1 (by omega)
                have elr := c_lrL (C := C) (k := 57) hws
                have elr : C 59 "_law_round" [.l ((sub ws s).map wD)] = some (.i (rnd (sub ws s) : Nat)) := elr
                obtain ⟨rb1, rb2⟩ := hws.rnd_b
                have hfd : fdE (.i ((rnd ws : Nat) : Int)) (.i ((rnd (sub ws s) : Nat) : Int)) = some (.i (((rnd ws : Nat) : Int) / ((rnd (sub ws s) : Nat) : Int))) := fdE_ok (by omega) (by omega)
                have hsl2 : (sub ws s).length ≤ 1000000 := by have : (sub ws s).length = s.length := by simp [sub]
                                                              omega
                simp -implicitDefEqProofs [-ixD, -seqD, -walkD, -allD, -anyD, -sumD, -maxD, -minD, -minTD, -rng1, -rng2, -rng3, -List.head?_filter, -isTys, -lenD, hml, hcn, e6', hsi, compD_M, comp_sub hri.2, mkL_map' hsl2, e6r, elr, hfd]
              · have h2 := List.length_filter_le (fun k => !onB (wk ws k) (gI ys 0 % 30 + (a : Nat))) s
                have e9 : mkL ((offL ws s (gI ys 0 % 30 + (a : Nat))).map fun k : Nat => D.i k) = some (.l ((offL ws s (gI ys 0 % 30 + (a : Nat))).map fun k : Nat => D.i k)) := mkL_map' (by unfold offL; omega)
                simp -implicitDefEqProofs [-ixD, -seqD, -walkD, -allD, -anyD, -sumD, -maxD, -minD, -minTD, -rng1, -rng2, -rng3, -List.head?_filter, -isTys, -lenD, comp_off (C := C) (k := 58) o.toWs hri.2 (gI ys 0 % 30 + (a : Nat)), e9, eq_off ws (show s.length ≤ 100 by omega) (gI ys 0 % 30 + (a : Nat))]
          · cases q
            · rw [if_neg Bool.false_ne_true] at hrw
              simp -implicitDefEqProofs [-ixD, -seqD, -walkD, -allD, -anyD, -sumD, -maxD, -minD, -minTD, -rng1, -rng2, -rng3, -List.head?_filter, -isTys, -lenD, e1, e2, n1', hnd, hlt]
              refine Wf_fr (fun k : Nat => D.i k) s (fun pr e => ∃ x7 x8 x12 x13 c', e = [.v (.z (ns.map .i)), .v (wsD ws), .v (.i ws.length), c 3, .v (.i (rnd ws : Nat)), .v (.i (14 + ((rnd ws : Nat) : Int))), d6, x7, x8, .v (.l (ys.map .i)), .v (.i ((i : Int) + 1)), .v (setD false s), x12, x13, .v (.l ((apL ws s pr).map pairD)), c', d16, d17, d18, d19, d20, d21, d22] ∧ x7 = .v (fD (jof ws s)) ∧ x8 = .v (optB ws (rowS (fun s => (jof ws s).isSome) best s))) ?_ ⟨_, _, _, _, _, rfl, by simp [hJ, fD, h2], by rw [hrw]⟩ ?_ ?_
              · simp -implicitDefEqProofs [-ixD, -seqD, -walkD, -allD, -anyD, -sumD, -maxD, -minD, -minTD, -rng1, -rng2, -rng3, -List.head?_filter, -isTys, -lenD, setD]
              · rintro pr k po env ek ⟨x7, x8, x12, x13, c', rfl, hx7, hx8⟩
                have hk : k ∈ s := by rw [ek]; simp
                have hl1 := apL_le ws s pr
                have hl2 := List.length_filter_le (fun a => decide (k < a) && (jnt (wk ws k) (wk ws a)).isNone) s
                have hl3 : pr.length ≤ s.length := by rw [ek]; simp
                have hl4 : s.length * pr.length ≤ 4 * 4 := Nat.mul_le_mul (by omega) (by omega)
                have had : adE (.l ((apL ws s pr).map pairD)) (.l ((s.filter fun a => decide (k < a) && (jnt (wk ws k) (wk ws a)).isNone).map fun a : Nat => D.t [.i (k : Nat), .i (a : Nat)])) = some (.l ((apL ws s (pr ++ [k])).map pairD)) := by
                  rw [adE_l' (by rw [List.length_map, List.length_map]; omega), apL_snoc, List.map_append, List.map_map]
                  rfl
                simp -implicitDefEqProofs [-ixD, -seqD, -walkD, -allD, -anyD, -sumD, -maxD, -minD, -minTD, -rng1, -rng2, -rng3, -List.head?_filter, -isTys, -lenD, hx7, hx8, setD, compD_M]
                rw [compM_eq (fun a : Nat => decide (k < a) && (jnt (wk ws k) (wk ws a)).isNone) (fun a : Nat => D.t [.i (k : Nat), .i (a : Nat)]) (fun a ha => ?_) (fun _ _ _ => rfl)]
                · simp -implicitDefEqProofs [-ixD, -seqD, -walkD, -allD, -anyD, -sumD, -maxD, -minD, -minTD, -rng1, -rng2, -rng3, -List.head?_filter, -isTys, -lenD, mkL_map' (g := fun a : Nat => D.t [.i (k : Nat), .i (a : Nat)]) (show (s.filter fun a => decide (k < a) && (jnt (wk ws k) (wk ws a)).isNone).length ≤ 1000000 by omega), had]
                · by_cases hka : k < a
                  · have q := nights_eq o hf (s := [k, a]) (by simp; exact ⟨hri.2 k hk, hri.2 a ha⟩) (by simp)
                    rw [if_pos hka, e3 k hk a ha, decide_eq_true hka]
                    simp only [Option.bind_some, q]
                    rfl
                  · rw [if_neg hka, decide_eq_false hka]; rfl
              · rintro env ⟨x7, x8, x12, x13, c', rfl, hx7, hx8⟩
                have hah := apart_head (ws := ws) hpr
                have hap0 : (apL ws s s).length ≤ 16 := Nat.le_trans (apL_le ws s s) (Nat.mul_le_mul (show s.length ≤ 4 by omega) (show s.length ≤ 4 by omega))
                have hap : apL ws s s = [] := by
                  cases hq : apL ws s s with
                  | nil => rfl
                  | cons p r => rw [hah, hq, hJ] at e7; cases e7
                rw [hah, hap] at e5
                have e5 : C 59 "apart_of" [wsD ws, setD true s] = some .n := e5
                rw [hJ] at e4
                have e4 : C 59 "together" [wsD ws, setD false s] = some (.i w.1) := e4
                have sm1 : C 59 "_law_same" [.n, .n] = some (.b true) := c_same (C := C) (n := 0) (m := 59) rfl (by omega)
                have e6' := e6 (gI ys 0 % 30) (gI ys 0 % 30 + nu) (by omega) (by omega)
                rw [hJ] at e6'
                have e6' : C 59 "counted" [wsD ws, setD false s, .i (gI ys 0 % 30), .i (gI ys 0 % 30 + nu)] = some (.i (cntJ (some w) (gI ys 0 % 30) (gI ys 0 % 30 + nu))) := e6'
                simp -implicitDefEqProofs [-ixD, -seqD, -walkD, -allD, -anyD, -sumD, -maxD, -minD, -minTD, -rng1, -rng2, -rng3, -List.head?_filter, -isTys, -lenD, -listD, hx7, hx8, hap, n0, hJ, fD, e4, e5, sm1, hsi, hls, y0, y1, m30, m90, hr2, compD_M]
                rw [compM_eq (fun a : Nat => allOn ws s (gI ys 0 % 30 + (a : Nat))) (fun a : Nat => D.i (gI ys 0 % 30 + (a : Nat))) (fun a _ => ?_) (fun _ _ _ => rfl)]
                · have hfl := List.length_filter_le (fun a : Nat => allOn ws s (gI ys 0 % 30 + (a : Nat))) (List.range (nu + 1))
                  rw [List.length_range] at hfl
                  have hml := mkL_map' (g := fun a : Nat => D.i (gI ys 0 % 30 + (a : Nat))) (show ((List.range (nu + 1)).filter fun a : Nat => allOn ws s (gI ys 0 % 30 + (a : Nat))).length ≤ 1000000 by omega)
                  have hcn := cnt_all (ws := ws) o.toWs.pos hne (fun j hj => (jof_b o hri (by omega) hj).1) (gI ys 0 % 30) (nu + 1)
                  rw [show gI ys 0 % 30 + ((nu + 1 : Nat) : Int) - 1 = gI ys 0 % 30 + nu by omega, hJ] at hcn
                  have hcr := count_round o hf hri.2 hne hJ
                  have e6r := e6 14 (13 + (rnd ws : Nat)) (by omega) (by omega)
                  rw [hcr, jof_e o.toWs.pos hJ] at e6r
                  have e6r : C 59 "counted" [wsD ws, setD false s, .i 14, .i (13 + (rnd ws : Nat))] = some (.i (((rnd ws : Nat) : Int) / ((rnd (sub ws s) : Nat) : Int))) := e6r
                  have hws := wm_sub o hri.2 s1 (by omega)
                  have elr := c_lrL (C := C) (k := 57) hws
                  have elr : C 59 "_law_round" [.l ((sub ws s).map wD)] = some (.i (rnd (sub ws s) : Nat)) := elr
                  obtain ⟨rb1, rb2⟩ := hws.rnd_b
                  have hfd : fdE (.i ((rnd ws : Nat) : Int)) (.i ((rnd (sub ws s) : Nat) : Int)) = some (.i (((rnd ws : Nat) : Int) / ((rnd (sub ws s) : Nat) : Int))) := fdE_ok (by omega) (by omega)
                  have hsl2 : (sub ws s).length ≤ 1000000 := by have : (sub ws s).length = s.length := by simp [sub]
                                                                omega
                  simp -implicitDefEqProofs [-ixD, -seqD, -walkD, -allD, -anyD, -sumD, -maxD, -minD, -minTD, -rng1, -rng2, -rng3, -List.head?_filter, -isTys, -lenD, hml, hcn, e6', hsi, compD_M, comp_sub hri.2, mkL_map' hsl2, e6r, elr, hfd]
                · have h2 := List.length_filter_le (fun k => !onB (wk ws k) (gI ys 0 % 30 + (a : Nat))) s
                  have e9 : mkL ((offL ws s (gI ys 0 % 30 + (a : Nat))).map fun k : Nat => D.i k) = some (.l ((offL ws s (gI ys 0 % 30 + (a : Nat))).map fun k : Nat => D.i k)) := mkL_map' (by unfold offL; omega)
                  simp -implicitDefEqProofs [-ixD, -seqD, -walkD, -allD, -anyD, -sumD, -maxD, -minD, -minTD, -rng1, -rng2, -rng3, -List.head?_filter, -isTys, -lenD, comp_off (C := C) (k := 58) o.toWs hri.2 (gI ys 0 % 30 + (a : Nat)), e9, eq_off ws (show s.length ≤ 100 by omega) (gI ys 0 % 30 + (a : Nat))]
            · rw [if_pos rfl] at hrw
              simp -implicitDefEqProofs [-ixD, -seqD, -walkD, -allD, -anyD, -sumD, -maxD, -minD, -minTD, -rng1, -rng2, -rng3, -List.head?_filter, -isTys, -lenD, e1, e2, n1', hnd, hlt]
              refine Wf_fr (fun k : Nat => D.i k) s (fun pr e => ∃ x7 x8 x12 x13 c', e = [.v (.z (ns.map .i)), .v (wsD ws), .v (.i ws.length), c 3, .v (.i (rnd ws : Nat)), .v (.i (14 + ((rnd ws : Nat) : Int))), d6, x7, x8, .v (.l (ys.map .i)), .v (.i ((i : Int) + 1)), .v (setD false s), x12, x13, .v (.l ((apL ws s pr).map pairD)), c', d16, d17, d18, d19, d20, d21, d22] ∧ x7 = .v (fD (jof ws s)) ∧ x8 = .v (optB ws (rowS (fun s => (jof ws s).isSome) best s))) ?_ ⟨_, _, _, _, _, rfl, by simp [hJ, fD, h2], by rw [hrw]; simp [optB, mkN, setD, hJ, fD, h2]⟩ ?_ ?_
              · simp -implicitDefEqProofs [-ixD, -seqD, -walkD, -allD, -anyD, -sumD, -maxD, -minD, -minTD, -rng1, -rng2, -rng3, -List.head?_filter, -isTys, -lenD, setD]
              · rintro pr k po env ek ⟨x7, x8, x12, x13, c', rfl, hx7, hx8⟩
                have hk : k ∈ s := by rw [ek]; simp
                have hl1 := apL_le ws s pr
                have hl2 := List.length_filter_le (fun a => decide (k < a) && (jnt (wk ws k) (wk ws a)).isNone) s
                have hl3 : pr.length ≤ s.length := by rw [ek]; simp
                have hl4 : s.length * pr.length ≤ 4 * 4 := Nat.mul_le_mul (by omega) (by omega)
                have had : adE (.l ((apL ws s pr).map pairD)) (.l ((s.filter fun a => decide (k < a) && (jnt (wk ws k) (wk ws a)).isNone).map fun a : Nat => D.t [.i (k : Nat), .i (a : Nat)])) = some (.l ((apL ws s (pr ++ [k])).map pairD)) := by
                  rw [adE_l' (by rw [List.length_map, List.length_map]; omega), apL_snoc, List.map_append, List.map_map]
                  rfl
                simp -implicitDefEqProofs [-ixD, -seqD, -walkD, -allD, -anyD, -sumD, -maxD, -minD, -minTD, -rng1, -rng2, -rng3, -List.head?_filter, -isTys, -lenD, hx7, hx8, setD, compD_M]
                rw [compM_eq (fun a : Nat => decide (k < a) && (jnt (wk ws k) (wk ws a)).isNone) (fun a : Nat => D.t [.i (k : Nat), .i (a : Nat)]) (fun a ha => ?_) (fun _ _ _ => rfl)]
                · simp -implicitDefEqProofs [-ixD, -seqD, -walkD, -allD, -anyD, -sumD, -maxD, -minD, -minTD, -rng1, -rng2, -rng3, -List.head?_filter, -isTys, -lenD, mkL_map' (g := fun a : Nat => D.t [.i (k : Nat), .i (a : Nat)]) (show (s.filter fun a => decide (k < a) && (jnt (wk ws k) (wk ws a)).isNone).length ≤ 1000000 by omega), had]
                · by_cases hka : k < a
                  · have q := nights_eq o hf (s := [k, a]) (by simp; exact ⟨hri.2 k hk, hri.2 a ha⟩) (by simp)
                    rw [if_pos hka, e3 k hk a ha, decide_eq_true hka]
                    simp only [Option.bind_some, q]
                    rfl
                  · rw [if_neg hka, decide_eq_false hka]; rfl
              · rintro env ⟨x7, x8, x12, x13, c', rfl, hx7, hx8⟩
                have hah := apart_head (ws := ws) hpr
                have hap0 : (apL ws s s).length ≤ 16 := Nat.le_trans (apL_le ws s s) (Nat.mul_le_mul (show s.length ≤ 4 by omega) (show s.length ≤ 4 by omega))
                have hap : apL ws s s = [] := by
                  cases hq : apL ws s s with
                  | nil => rfl
                  | cons p r => rw [hah, hq, hJ] at e7; cases e7
                rw [hah, hap] at e5
                have e5 : C 59 "apart_of" [wsD ws, setD true s] = some .n := e5
                rw [hJ] at e4
                have e4 : C 59 "together" [wsD ws, setD false s] = some (.i w.1) := e4
                have sm1 : C 59 "_law_same" [.n, .n] = some (.b true) := c_same (C := C) (n := 0) (m := 59) rfl (by omega)
                have e6' := e6 (gI ys 0 % 30) (gI ys 0 % 30 + nu) (by omega) (by omega)
                rw [hJ] at e6'
                have e6' : C 59 "counted" [wsD ws, setD false s, .i (gI ys 0 % 30), .i (gI ys 0 % 30 + nu)] = some (.i (cntJ (some w) (gI ys 0 % 30) (gI ys 0 % 30 + nu))) := e6'
                simp -implicitDefEqProofs [-ixD, -seqD, -walkD, -allD, -anyD, -sumD, -maxD, -minD, -minTD, -rng1, -rng2, -rng3, -List.head?_filter, -isTys, -lenD, -listD, hx7, hx8, hap, n0, hJ, fD, e4, e5, sm1, hsi, hls, y0, y1, m30, m90, hr2, compD_M]
                rw [compM_eq (fun a : Nat => allOn ws s (gI ys 0 % 30 + (a : Nat))) (fun a : Nat => D.i (gI ys 0 % 30 + (a : Nat))) (fun a _ => ?_) (fun _ _ _ => rfl)]
                · have hfl := List.length_filter_le (fun a : Nat => allOn ws s (gI ys 0 % 30 + (a : Nat))) (List.range (nu + 1))
                  rw [List.length_range] at hfl
                  have hml := mkL_map' (g := fun a : Nat => D.i (gI ys 0 % 30 + (a : Nat))) (show ((List.range (nu + 1)).filter fun a : Nat => allOn ws s (gI ys 0 % 30 + (a : Nat))).length ≤ 1000000 by omega)
                  have hcn := cnt_all (ws := ws) o.toWs.pos hne (fun j hj => (jof_b o hri (by omega) hj).1) (gI ys 0 % 30) (nu + 1)
                  rw [show gI ys 0 % 30 + ((nu + 1 : Nat) : Int) - 1 = gI ys 0 % 30 + nu by omega, hJ] at hcn
                  have hcr := count_round o hf hri.2 hne hJ
                  have e6r := e6 14 (13 + (rnd ws : Nat)) (by omega) (by omega)
                  rw [hcr, jof_e o.toWs.pos hJ] at e6r
                  have e6r : C 59 "counted" [wsD ws, setD false s, .i 14, .i (13 + (rnd ws : Nat))] = some (.i (((rnd ws : Nat) : Int) / ((rnd (sub ws s) : Nat) : Int))) := e6r
                  have hws := wm_sub o hri.2 s1 (by omega)
                  have elr := c_lrL (C := C) (k := 57) hws
                  have elr : C 59 "_law_round" [.l ((sub ws s).map wD)] = some (.i (rnd (sub ws s) : Nat)) := elr
                  obtain ⟨rb1, rb2⟩ := hws.rnd_b
                  have hfd : fdE (.i ((rnd ws : Nat) : Int)) (.i ((rnd (sub ws s) : Nat) : Int)) = some (.i (((rnd ws : Nat) : Int) / ((rnd (sub ws s) : Nat) : Int))) := fdE_ok (by omega) (by omega)
                  have hsl2 : (sub ws s).length ≤ 1000000 := by have : (sub ws s).length = s.length := by simp [sub]
                                                                omega
                  simp -implicitDefEqProofs [-ixD, -seqD, -walkD, -allD, -anyD, -sumD, -maxD, -minD, -minTD, -rng1, -rng2, -rng3, -List.head?_filter, -isTys, -lenD, hml, hcn, e6', hsi, compD_M, comp_sub hri.2, mkL_map' hsl2, e6r, elr, hfd]
                · have h2 := List.length_filter_le (fun k => !onB (wk ws k) (gI ys 0 % 30 + (a : Nat))) s
                  have e9 : mkL ((offL ws s (gI ys 0 % 30 + (a : Nat))).map fun k : Nat => D.i k) = some (.l ((offL ws s (gI ys 0 % 30 + (a : Nat))).map fun k : Nat => D.i k)) := mkL_map' (by unfold offL; omega)
                  simp -implicitDefEqProofs [-ixD, -seqD, -walkD, -allD, -anyD, -sumD, -maxD, -minD, -minTD, -rng1, -rng2, -rng3, -List.head?_filter, -isTys, -lenD, comp_off (C := C) (k := 58) o.toWs hri.2 (gI ys 0 % 30 + (a : Nat)), e9, eq_off ws (show s.length ≤ 100 by omega) (gI ys 0 % 30 + (a : Nat))]
      · rintro env ⟨d6, d7, d10, d11, d12, d13, d14, d15, d16, d17, d18, d19, d20, d21, d22, rfl⟩
        have hfull : full ws = ((List.range (2 ^ ws.length - 1)).map fun i => bitsOf (i + 1) ws.length).foldl (rowS fun s => (jof ws s).isSome) none := by
          rw [full_first, ← row_first hlen]; rfl
        have hcf := c_full (C := C) (k := 53) o
        rw [← hfull]
        cases hb : full ws with
        | none =>
          exfalso
          rw [full_first, List.find?_eq_none] at hb
          have h0 := of_decide_eq_true (List.all_eq_true.mp zero_tab ws.length (List.mem_range.mpr (by omega)))
          rcases h0 with h0 | h0
          · omega
          · exact hb [0] h0 rfl
        | some s =>
          rw [hb] at hcf
          have hcf : C 59 "fullest" [wsD ws] = some (.t [mkN s, fD (jof ws s)]) := hcf
          have hsn : s.length ≤ 1000 := by
            rw [full_first] at hb
            have := in_ordlen (n := ws.length) hlen (List.mem_of_find?_eq_some hb)
            omega
          have hsm : C 59 "_law_same" [.t [mkN s, fD (jof ws s)], .t [mkN s, fD (jof ws s)]] = some (.b true) := by
            refine c_same (C := C) (n := 2) (m := 59) ?_ (by omega)
            show ((sam 1 (mkN s) && (sam 1 (fD (jof ws s)) && true)) && decide (2 ≤ 1000)) = true
            rw [sam_mk s hsn]
            cases jof ws s <;> rfl
          simp -implicitDefEqProofs [-ixD, -seqD, -walkD, -allD, -anyD, -sumD, -maxD, -minD, -minTD, -rng1, -rng2, -rng3, -List.head?_filter, -isTys, -lenD, optB, hcf, hsm]))
end
end K43
namespace K43
open PySem PySem.Spec PyProof.Rows L2 PL
abbrev R : PySem.W.OpenRow := PySem.W.OpenLaw.row PySem.Challenge.rw_surelysound_k43_whole_meetings_and_parti
abbrev hk : PySem.W.Hook := hookM 4 (modsOf free) (faOf fn free) fn
def ob (s : PySem.W.SharedT) : AlM := obsMG 4 (modsOf free) (faOf fn free) fn (HandSHeadRun.getT s)
theorem ob_eq (s : PySem.W.SharedT) : ob s = hk.obs s.abs := obsMG_eq (HandSHeadRun.getT_eq s)
def lawIx : Nat := thP.main.body.length - 1
def boundN : List Str := (thP.main.body.filterMap fun st => match st with
  | .FunctionDef n .. => some n
  | .ClassDef n .. => some n
  | _ => none).filter fun n => n != "law"
def impIx : List Nat := (List.range thP.main.body.length).filter fun i => match thP.main.body[i]? with
  | some (.Import ..) => true
  | some (.ImportFrom ..) => true
  | _ => false
abbrev vw : Program := PySem.W.view R.prog (impIx ++ [lawIx])
theorem run (w : World) : HandSHeadRun.RunEqI R vw hk ob 60000 boundN w := by
  unfold HandSHeadRun.RunEqI
  kernel_rfl
theorem allOk : fn.all okDef = true := by decide +kernel
def dLaw : He.DefD := (findD "law" fn).getD ⟨("", none), "", "", ⟨[], [], none, [], [], none, []⟩, [], ⟨.function, [], false, false, []⟩, [], []⟩
theorem dLaw_eq : findD "law" fn = some dLaw := by kernel_rfl
theorem dLaw_par : parsOf dLaw = [(("script" : Str))] := by kernel_rfl
end K43
open PySem PySem.W PySem.Calls PyProof.Rows
theorem PySem.Challenge.cw_surelysound_k43_whole_meetings_and_parti_holds : PySem.Challenge.rw_surelysound_k43_whole_meetings_and_parti.Holds := by
  w_on; o_law
  refine HandSHeadRun.head_imp (r := OpenLaw.row PySem.Challenge.rw_surelysound_k43_whole_meetings_and_parti) (q := K43.vw) (H := K43.hk) (ob := K43.ob) (M := 60000) (loose := K43.boundN) (d := HandSHeadRun.topDef (OpenLaw.row PySem.Challenge.rw_surelysound_k43_whole_meetings_and_parti).prog K43.lawIx) (kwd := []) K43.ob_eq
    K43.run (by kernel_rfl) (by kernel_rfl) (by kernel_rfl) (by rfl) (by first | assumption | decide +kernel) (by decide +kernel) ⟨rfl, rfl, rfl, rfl, rfl, by decide +kernel⟩ ?hw ?hc
  case hw => w_witness2
  case hc =>
    refine PL.walk_fin (l := PySem.Challenge.rw_surelysound_k43_whole_meetings_and_parti) (n := 63) (k := 60) (x := "script") rfl (by decide) (by kernel_rfl) ⟨rfl, by decide, by decide⟩ ?F
    intro w mg fa h Y G hmg0
    obtain ⟨K, KX, c⟩ := Y
    have kn := PL.knownM_of KX G K43.allOk c
    have hd := (PL.findD_mem K43.dLaw_eq)
    obtain ⟨fd, F⟩ := kn.def_ _ hd.1
    have hmg : mg ("law" : PySem.Str) = some (.ref fa) := by
      have e : (HandSHeadRun.topDef (OpenLaw.row PySem.Challenge.rw_surelysound_k43_whole_meetings_and_parti).prog K43.lawIx).name = ("law" : PySem.Str) := by kernel_rfl
      rw [← e]
      exact hmg0
    have hfa : fa = He.ga K K43.dLaw.name := by
      have e := kn.glo _ hd.1
      rw [hd.2, hmg] at e
      cases e
      rfl
    subst hfa
    refine ⟨K, fd, PL.spLaw K, KX, fun s u => ?_, fun H a ns hl hb hS => ⟨a, ns, rfl, hl, hb, hS, fun _ => rfl⟩, fun base KB GB => ?_⟩
    · have b := PL.bindsA_of (List.all_eq_true.mp K43.allOk _ hd.1) F s [u] (by rw [K43.dLaw_par]; rfl)
      rw [K43.dLaw_par] at b
      exact b
    · have o := PL.lawOk (P := (PySem.Challenge.rw_surelysound_k43_whole_meetings_and_parti).prog) (w := w) (base := base) K43.allOk kn K43.dLaw_eq (by rw [K43.dLaw_par]; rfl) F (fun ns _ _ => (haveI := K43.all_fn; K43.law_eq (C := fun k => PL.callD K43.fn K43.free k) ns))
      rw [K43.dLaw_par] at o
      exact o
