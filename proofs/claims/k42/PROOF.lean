import PyProof.Rows.All
import Wide.All
import OpenK.AllK
import Wide.FinOn
import KE.KStateDown
import Lean
import HandS.ForMost
import HandS.Deep
import HandS.TupAny
import HandS.TupMul
import HandS.TupLe
import HandS.IsInst
import HandS.Flow
import HandS.Style
import HandS.Zip
import HandS.Wide
import HandS.Conv
import HandS.Gcd
import HandS.SortInts
import HandS.TupSets
import KE.GoesEnum
import KE.GoesZip
import KE.GoesMore
import HandS.Defaults
import HandS.HeadHook1
import HandS.HeadHook2
import HandS.Head0
import HandS.Head1
import HandS.Head2
import HandS.HeadEnd
import HandS.EndBits
import PySem.Challenge.RW_surelysound_k42_whole_lessons_of_fewest
set_option Elab.async false
set_option linter.all false
set_option maxRecDepth 100000
set_option maxHeartbeats 0
/-! PL a: data as trees, what stands for them. -/
namespace PL
open PySem PySem.Spec PyProof.Rows L2

/-- Python data as a tree -/
inductive D where
  | n | b (x : Bool) | i (x : Int) | s (x : Str) | t (xs : List D) | l (xs : List D) | r (lo hi : Int)
  /-- a list that is only read: the script -/
  | z (xs : List D)

/-- a list may hold so many -/
def SZ : Nat := 16777216
theorem SZ_eq : sizeLine = SZ := sizeLine_eq

mutual
/-- v stands for d; no list or tuple of it stands at an address of O -/
inductive Rep (K : PySem.W.Frag) (H : Hp) (O : Addr → Prop) : V → D → Prop
  | n : Rep K H O .non .n
  | b (x : Bool) : Rep K H O (.bl x) (.b x)
  | i (x : Int) : Rep K H O (.int x) (.i x)
  | s (x : Str) : Rep K H O (.str x) (.s x)
  | l {a : Addr} {xs : List V} {ds : List D} : H a = some (.lst xs) → ¬ O a → RepL K H O xs ds → Rep K H O (.ref a) (.l ds)
  | z {a : Addr} {xs : List V} {ds : List D} : Rd H a (.lst xs) → ¬ O a → RepL K H O xs ds → Rep K H O (.ref a) (.z ds)
  | zk {a : Addr} {xs : List V} {ds : List D} : (∀ G : Hp, SqL K G a xs) → RepL K H O xs ds → Rep K H O (.ref a) (.z ds)
  | t {a : Addr} {xs : List V} {ds : List D} : Rd H a (.tup xs) → ¬ O a → RepL K H O xs ds → Rep K H O (.ref a) (.t ds)
  | tk {a : Addr} {xs : List V} {ds : List D} : (∀ G : Hp, SqT K G a xs) → RepL K H O xs ds → Rep K H O (.ref a) (.t ds)
  | r {a : Addr} {lo hi : Int} : H a = some (.rng lo hi) → ¬ O a → Rep K H O (.ref a) (.r lo hi)
inductive RepL (K : PySem.W.Frag) (H : Hp) (O : Addr → Prop) : List V → List D → Prop
  | nil : RepL K H O [] []
  | cons {v : V} {vs : List V} {d : D} {ds : List D} : Rep K H O v d → RepL K H O vs ds → RepL K H O (v :: vs) (d :: ds)
end

section
variable {K : PySem.W.Frag} {H H' : Hp} {O O' : Addr → Prop}

/-- what stays: every tracked object that is not in O -/
def Kp (O : Addr → Prop) (H H' : Hp) : Prop := ∀ a o, H a = some o → ¬ O a → H' a = some o
theorem Kp.of (h : Same H H') : Kp O H H' := fun a o e _ => h a o e
theorem Kp.refl : Kp O H H := fun _ _ e _ => e
theorem rd_kp (k : Kp O H H') {a : Addr} {u : HO} (h : Rd H a u) (n : ¬ O a) : Rd H' a u := by
  rcases h with h | ⟨o, h⟩
  · exact .inl (k _ _ h n)
  · exact .inr ⟨o, k _ _ h n⟩

mutual
theorem Rep.kp (k : Kp O H H') : ∀ {v : V} {d : D}, Rep K H O v d → Rep K H' O v d
  | _, _, .n => .n
  | _, _, .b x => .b x
  | _, _, .i x => .i x
  | _, _, .s x => .s x
  | _, _, .l h n r => .l (k _ _ h n) n (RepL.kp k r)
  | _, _, .z h n r => .z (rd_kp k h n) n (RepL.kp k r)
  | _, _, .zk h r => .zk h (RepL.kp k r)
  | _, _, .t h n r => .t (rd_kp k h n) n (RepL.kp k r)
  | _, _, .tk h r => .tk h (RepL.kp k r)
  | _, _, .r h n => .r (k _ _ h n) n
theorem RepL.kp (k : Kp O H H') : ∀ {vs : List V} {ds : List D}, RepL K H O vs ds → RepL K H' O vs ds
  | _, _, .nil => .nil
  | _, _, .cons a r => .cons (Rep.kp k a) (RepL.kp k r)
end
theorem Rep.same (k : Same H H') {v : V} {d : D} (h : Rep K H O v d) : Rep K H' O v d := h.kp (Kp.of k)
theorem RepL.same (k : Same H H') {v : List V} {d : List D} (h : RepL K H O v d) : RepL K H' O v d := h.kp (Kp.of k)

mutual
/-- O may shrink; and grow by addresses at which nothing stood -/
theorem Rep.mono (m : ∀ a, O' a → O a ∨ H a = none) : ∀ {v : V} {d : D}, Rep K H O v d → Rep K H O' v d
  | _, _, .n => .n
  | _, _, .b x => .b x
  | _, _, .i x => .i x
  | _, _, .s x => .s x
  | _, _, .l h n r => .l h (fun z => by
      rcases m _ z with q | q
      · exact n q
      · rw [q] at h; cases h) (RepL.mono m r)
  | _, _, .z h n r => .z h (fun z => by
      rcases m _ z with q | q
      · exact n q
      · rcases h with h | ⟨o, h⟩ <;> (rw [q] at h; cases h)) (RepL.mono m r)
  | _, _, .zk h r => .zk h (RepL.mono m r)
  | _, _, .t h n r => .t h (fun z => by
      rcases m _ z with q | q
      · exact n q
      · rcases h with h | ⟨o, h⟩ <;> (rw [q] at h; cases h)) (RepL.mono m r)
  | _, _, .tk h r => .tk h (RepL.mono m r)
  | _, _, .r h n => .r h (fun z => by
      rcases m _ z with q | q
      · exact n q
      · rw [q] at h; cases h)
theorem RepL.mono (m : ∀ a, O' a → O a ∨ H a = none) : ∀ {vs : List V} {ds : List D}, RepL K H O vs ds → RepL K H O' vs ds
  | _, _, .nil => .nil
  | _, _, .cons a r => .cons (Rep.mono m a) (RepL.mono m r)
end
theorem Rep.less (m : ∀ a, O' a → O a) {v : V} {d : D} (h : Rep K H O v d) : Rep K H O' v d := h.mono fun a z => .inl (m a z)
theorem RepL.less (m : ∀ a, O' a → O a) {v : List V} {d : List D} (h : RepL K H O v d) : RepL K H O' v d := h.mono fun a z => .inl (m a z)

theorem RepL.length : ∀ {vs : List V} {ds : List D}, RepL K H O vs ds → vs.length = ds.length
  | _, _, .nil => rfl
  | _, _, .cons _ r => by simp [RepL.length r]
theorem RepL.get : ∀ {vs : List V} {ds : List D} {i : Nat} {d : D}, RepL K H O vs ds → ds[i]? = some d → ∃ v, vs[i]? = some v ∧ Rep K H O v d
  | _, _, _, _, .nil, e => by simp at e
  | _, _, 0, _, .cons a _, e => by
    simp at e
    subst e
    exact ⟨_, rfl, a⟩
  | _, _, i + 1, _, .cons _ r, e => by
    obtain ⟨v, h1, h2⟩ := RepL.get (i := i) r (by simpa using e)
    exact ⟨v, by simpa using h1, h2⟩
theorem RepL.getV : ∀ {vs : List V} {ds : List D} {i : Nat} {v : V}, RepL K H O vs ds → vs[i]? = some v → ∃ d, ds[i]? = some d ∧ Rep K H O v d
  | _, _, _, _, .nil, e => by simp at e
  | _, _, 0, _, .cons a _, e => by
    simp at e
    subst e
    exact ⟨_, rfl, a⟩
  | _, _, i + 1, _, .cons _ r, e => by
    obtain ⟨v, h1, h2⟩ := RepL.getV (i := i) r (by simpa using e)
    exact ⟨v, by simpa using h1, h2⟩
theorem RepL.append : ∀ {vs ws : List V} {ds es : List D}, RepL K H O vs ds → RepL K H O ws es → RepL K H O (vs ++ ws) (ds ++ es)
  | _, _, _, _, .nil, s => s
  | _, _, _, _, .cons a r, s => .cons a (RepL.append r s)
theorem RepL.take : ∀ {vs : List V} {ds : List D} (n : Nat), RepL K H O vs ds → RepL K H O (vs.take n) (ds.take n)
  | _, _, 0, _ => .nil
  | _, _, _ + 1, .nil => .nil
  | _, _, n + 1, .cons a r => .cons a (RepL.take n r)
theorem RepL.drop : ∀ {vs : List V} {ds : List D} (n : Nat), RepL K H O vs ds → RepL K H O (vs.drop n) (ds.drop n)
  | _, _, 0, r => r
  | _, _, _ + 1, .nil => .nil
  | _, _, n + 1, .cons _ r => RepL.drop n r
theorem RepL.set {v : V} {d : D} (h : Rep K H O v d) : ∀ {vs : List V} {ds : List D} (n : Nat), RepL K H O vs ds → RepL K H O (vs.set n v) (ds.set n d)
  | _, _, _, .nil => .nil
  | _, _, 0, .cons _ r => .cons h r
  | _, _, n + 1, .cons a r => .cons a (RepL.set h n r)
theorem RepL.reverse {vs : List V} {ds : List D} (h : RepL K H O vs ds) : RepL K H O vs.reverse ds.reverse := by
  induction h using RepL.rec (motive_1 := fun _ _ _ => True) with
  | nil => exact .nil
  | cons a r _ ih => rw [List.reverse_cons, List.reverse_cons]; exact ih.append (.cons a .nil)
  | _ => trivial
theorem RepL.rep {vs : List V} {ds : List D} (h : RepL K H O vs ds) : ∀ k : Nat, RepL K H O (List.replicate k vs).flatten (List.replicate k ds).flatten
  | 0 => .nil
  | k + 1 => by
    rw [List.replicate_succ, List.replicate_succ, List.flatten_cons, List.flatten_cons]
    exact h.append (RepL.rep h k)
theorem RepL.ints : ∀ {vs : List V} {ns : List Int}, RepL K H O vs (ns.map D.i) → vs = ns.map V.int
  | _, [], .nil => rfl
  | _, _ :: _, .cons (.i _) r => by rw [List.map_cons, RepL.ints r]
theorem RepL.bls : ∀ {vs : List V} {ns : List Bool}, RepL K H O vs (ns.map D.b) → vs = ns.map V.bl
  | _, [], .nil => rfl
  | _, _ :: _, .cons (.b _) r => by rw [List.map_cons, RepL.bls r]
theorem RepL.of_ints : ∀ (ns : List Int), RepL K H O (ns.map V.int) (ns.map D.i)
  | [] => .nil
  | _ :: r => .cons (.i _) (RepL.of_ints r)
end


/-! ### equality -/
mutual
def decD : (a b : D) → Decidable (a = b)
  | .n, .n => .isTrue rfl
  | .b x, .b y => if h : x = y then .isTrue (by rw [h]) else .isFalse (fun e => h (by cases e; rfl))
  | .i x, .i y => if h : x = y then .isTrue (by rw [h]) else .isFalse (fun e => h (by cases e; rfl))
  | .s x, .s y => if h : x = y then .isTrue (by rw [h]) else .isFalse (fun e => h (by cases e; rfl))
  | .t x, .t y => match decDs x y with
    | .isTrue h => .isTrue (by rw [h])
    | .isFalse h => .isFalse (fun e => h (by cases e; rfl))
  | .l x, .l y => match decDs x y with
    | .isTrue h => .isTrue (by rw [h])
    | .isFalse h => .isFalse (fun e => h (by cases e; rfl))
  | .z x, .z y => match decDs x y with
    | .isTrue h => .isTrue (by rw [h])
    | .isFalse h => .isFalse (fun e => h (by cases e; rfl))
  | .r x y, .r z w => if h : x = z ∧ y = w then .isTrue (by rw [h.1, h.2]) else .isFalse (fun e => h (by cases e; exact ⟨rfl, rfl⟩))
  | .n, .b _ => .isFalse nofun | .n, .i _ => .isFalse nofun | .n, .s _ => .isFalse nofun | .n, .t _ => .isFalse nofun | .n, .l _ => .isFalse nofun | .n, .r _ _ => .isFalse nofun | .n, .z _ => .isFalse nofun
  | .b _, .n => .isFalse nofun | .b _, .i _ => .isFalse nofun | .b _, .s _ => .isFalse nofun | .b _, .t _ => .isFalse nofun | .b _, .l _ => .isFalse nofun | .b _, .r _ _ => .isFalse nofun | .b _, .z _ => .isFalse nofun
  | .i _, .n => .isFalse nofun | .i _, .b _ => .isFalse nofun | .i _, .s _ => .isFalse nofun | .i _, .t _ => .isFalse nofun | .i _, .l _ => .isFalse nofun | .i _, .r _ _ => .isFalse nofun | .i _, .z _ => .isFalse nofun
  | .s _, .n => .isFalse nofun | .s _, .b _ => .isFalse nofun | .s _, .i _ => .isFalse nofun | .s _, .t _ => .isFalse nofun | .s _, .l _ => .isFalse nofun | .s _, .r _ _ => .isFalse nofun | .s _, .z _ => .isFalse nofun
  | .t _, .n => .isFalse nofun | .t _, .b _ => .isFalse nofun | .t _, .i _ => .isFalse nofun | .t _, .s _ => .isFalse nofun | .t _, .l _ => .isFalse nofun | .t _, .r _ _ => .isFalse nofun | .t _, .z _ => .isFalse nofun
  | .l _, .n => .isFalse nofun | .l _, .b _ => .isFalse nofun | .l _, .i _ => .isFalse nofun | .l _, .s _ => .isFalse nofun | .l _, .t _ => .isFalse nofun | .l _, .r _ _ => .isFalse nofun | .l _, .z _ => .isFalse nofun
  | .r _ _, .n => .isFalse nofun | .r _ _, .b _ => .isFalse nofun | .r _ _, .i _ => .isFalse nofun | .r _ _, .s _ => .isFalse nofun | .r _ _, .t _ => .isFalse nofun | .r _ _, .l _ => .isFalse nofun | .r _ _, .z _ => .isFalse nofun
  | .z _, .n => .isFalse nofun | .z _, .b _ => .isFalse nofun | .z _, .i _ => .isFalse nofun | .z _, .s _ => .isFalse nofun | .z _, .t _ => .isFalse nofun | .z _, .l _ => .isFalse nofun | .z _, .r _ _ => .isFalse nofun
def decDs : (a b : List D) → Decidable (a = b)
  | [], [] => .isTrue rfl
  | [], _ :: _ => .isFalse nofun
  | _ :: _, [] => .isFalse nofun
  | x :: xs, y :: ys => match decD x y with
    | .isTrue h => (match decDs xs ys with
      | .isTrue h' => .isTrue (by rw [h, h'])
      | .isFalse h' => .isFalse (fun e => h' (by cases e; rfl)))
    | .isFalse h => .isFalse (fun e => h (by cases e; rfl))
end
instance : DecidableEq D := decD

mutual
def toPy : D → PyData
  | .n => .none
  | .b x => .bool x
  | .i x => .int x
  | .s x => .str x
  | .t xs => .tuple (toPys xs)
  | .l xs => .list (toPys xs)
  | .r _ _ => .none
  | .z _ => .none
def toPys : List D → List PyData
  | [] => []
  | x :: xs => toPy x :: toPys xs
end
/-- no range within, at most k deep; what == may be asked of -/
def okD : Nat → D → Bool
  | _, .n => true
  | _, .b _ => true
  | _, .i _ => true
  | _, .s x => PyData.canLay0 (.str x)
  | 0, .t _ => false
  | 0, .l _ => false
  | k + 1, .t xs => xs.all (okD k)
  | k + 1, .l xs => xs.all (okD k)
  | _, .r _ _ => false
  | _, .z _ => false
/-- the same, without bools -/
def nbD : Nat → D → Bool
  | _, .n => true
  | _, .b _ => false
  | _, .i _ => true
  | _, .s x => PyData.canLay0 (.str x)
  | 0, .t _ => false
  | 0, .l _ => false
  | k + 1, .t xs => xs.all (nbD k)
  | k + 1, .l xs => xs.all (nbD k)
  | _, .r _ _ => false
  | _, .z _ => false
/-- Python's == -/
def eqD (a b : D) : Bool := PyData.eqv (toPy a) (toPy b)
section
variable {K : PySem.W.Frag} {H : Hp} {O : Addr → Prop}
theorem repL_dp_of {k : Nat} (ih : ∀ {v : V} {d : D}, Rep K H O v d → okD k d = true → Dp K H v (toPy d)) : ∀ {vs : List V} {ds : List D}, RepL K H O vs ds → (∀ x ∈ ds, okD k x = true) → DpAll K H vs (toPys ds)
  | _, _, .nil, _ => by rw [toPys]; exact .nil
  | _, _, .cons a r, q => by rw [toPys]; exact .cons (ih a (q _ List.mem_cons_self)) (repL_dp_of ih r fun x hx => q x (List.mem_cons_of_mem _ hx))
theorem rep_dp : ∀ (k : Nat) {v : V} {d : D}, Rep K H O v d → okD k d = true → Dp K H v (toPy d)
  | _, _, _, .n, _ => by rw [toPy]; exact .non
  | _, _, _, .b x, _ => by rw [toPy]; exact .bl x
  | _, _, _, .i x, _ => by rw [toPy]; exact .int x
  | _, _, _, .s x, _ => by rw [toPy]; exact .str x
  | 0, _, _, .l h n r, p => by rw [okD] at p; cases p
  | 0, _, _, .t h n r, p => by rw [okD] at p; cases p
  | 0, _, _, .tk h r, p => by rw [okD] at p; cases p
  | k + 1, _, _, .l (ds := ds) h n r, p => by
    rw [toPy]
    rw [okD] at p
    exact .lst (SqL.of h) (repL_dp_of (fun a b => rep_dp k a b) r (List.all_eq_true.mp p))
  | k + 1, _, _, .t (ds := ds) h n r, p => by
    rw [toPy]
    rw [okD] at p
    exact .tup (.inl h) (repL_dp_of (fun a b => rep_dp k a b) r (List.all_eq_true.mp p))
  | k + 1, _, _, .tk (ds := ds) h r, p => by
    rw [toPy]
    rw [okD] at p
    exact .tup (h _) (repL_dp_of (fun a b => rep_dp k a b) r (List.all_eq_true.mp p))
  | k, _, _, .r h n, p => by cases k <;> (rw [okD] at p; cases p)
  | k, _, _, .z h n r, p => by cases k <;> (rw [okD] at p; cases p)
  | k, _, _, .zk h r, p => by cases k <;> (rw [okD] at p; cases p)
theorem repL_dp (k : Nat) {vs : List V} {ds : List D} (r : RepL K H O vs ds) (p : ds.all (okD k) = true) : DpAll K H vs (toPys ds) :=
  repL_dp_of (fun a b => rep_dp k a b) r (List.all_eq_true.mp p)
end
theorem lay_of_ok : ∀ (k : Nat) (d : D), okD k d = true → PyData.canLay0 (toPy d) = true ∧ (toPy d).depth ≤ k
  | _, .n, _ => by rw [toPy]; exact ⟨rfl, Nat.zero_le _⟩
  | _, .b _, _ => by rw [toPy]; exact ⟨rfl, Nat.zero_le _⟩
  | _, .i _, _ => by rw [toPy]; exact ⟨rfl, Nat.zero_le _⟩
  | k, .s x, h => by rw [toPy]; cases k <;> exact ⟨by rw [okD] at h; exact h, by rw [PyData.depth]; exact Nat.zero_le _⟩
  | 0, .t _, h => by rw [okD] at h; cases h
  | 0, .l _, h => by rw [okD] at h; cases h
  | k + 1, .t xs, h => by
    rw [okD] at h
    rw [toPy, PyData.canLay0, PyData.depth]
    have q := List.all_eq_true.mp h
    clear h
    have go : ∀ (xs : List D), (∀ x ∈ xs, okD k x = true) → PyData.canLayAll0 (toPys xs) = true ∧ PyData.depthAll (toPys xs) ≤ k := by
      intro xs
      induction xs with
      | nil => intro _; rw [toPys]; exact ⟨rfl, Nat.zero_le _⟩
      | cons x xs ih =>
        intro q
        obtain ⟨a, b⟩ := lay_of_ok k x (q _ List.mem_cons_self)
        obtain ⟨c, d⟩ := ih fun y hy => q y (List.mem_cons_of_mem _ hy)
        rw [toPys, PyData.canLayAll0, PyData.depthAll, a, c]
        exact ⟨rfl, by omega⟩
    obtain ⟨a, b⟩ := go xs q
    exact ⟨a, by omega⟩
  | k + 1, .l xs, h => by
    rw [okD] at h
    rw [toPy, PyData.canLay0, PyData.depth]
    have q := List.all_eq_true.mp h
    clear h
    have go : ∀ (xs : List D), (∀ x ∈ xs, okD k x = true) → PyData.canLayAll0 (toPys xs) = true ∧ PyData.depthAll (toPys xs) ≤ k := by
      intro xs
      induction xs with
      | nil => intro _; rw [toPys]; exact ⟨rfl, Nat.zero_le _⟩
      | cons x xs ih =>
        intro q
        obtain ⟨a, b⟩ := lay_of_ok k x (q _ List.mem_cons_self)
        obtain ⟨c, d⟩ := ih fun y hy => q y (List.mem_cons_of_mem _ hy)
        rw [toPys, PyData.canLayAll0, PyData.depthAll, a, c]
        exact ⟨rfl, by omega⟩
    obtain ⟨a, b⟩ := go xs q
    exact ⟨a, by omega⟩
  | k, .r _ _, h => by cases k <;> (rw [okD] at h; cases h)
  | k, .z _, h => by cases k <;> (rw [okD] at h; cases h)
theorem shaped_ok {k : Nat} {d : D} (h : okD k d = true) (hk : k ≤ 64) : SeqAt.shaped (toPy d) = true := by
  obtain ⟨a, b⟩ := lay_of_ok k d h
  show (PyData.canLay0 (toPy d) && decide ((toPy d).depth ≤ 64)) = true
  rw [a, Bool.true_and]
  exact decide_eq_true (by omega)
theorem shaped_okL {k : Nat} {ds : List D} (h : ds.all (okD k) = true) (hk : k + 1 ≤ 64) : SeqAt.shaped (.list (toPys ds)) = true := by
  have q : okD (k + 1) (.l ds) = true := by rw [okD]; exact h
  have z := shaped_ok q hk
  rw [toPy] at z
  exact z
theorem shaped_okT {k : Nat} {ds : List D} (h : ds.all (okD k) = true) (hk : k + 1 ≤ 64) : SeqAt.shaped (.tuple (toPys ds)) = true := by
  have q : okD (k + 1) (.t ds) = true := by rw [okD]; exact h
  have z := shaped_ok q hk
  rw [toPy] at z
  exact z
theorem toPys_eq : ∀ ds : List D, toPys ds = ds.map toPy
  | [] => by rw [toPys]; rfl
  | d :: ds => by rw [toPys, toPys_eq ds]; rfl
theorem ok_of_nb : ∀ (k : Nat) (d : D), nbD k d = true → okD k d = true
  | k, .n, _ => by cases k <;> rw [okD]
  | k, .b _, h => by cases k <;> (rw [nbD] at h; cases h)
  | k, .i _, _ => by cases k <;> rw [okD]
  | k, .s x, h => by cases k <;> (rw [nbD] at h; rw [okD]; exact h)
  | 0, .t _, h => by rw [nbD] at h; cases h
  | 0, .l _, h => by rw [nbD] at h; cases h
  | k + 1, .t xs, h => by
    rw [nbD] at h
    rw [okD]
    exact List.all_eq_true.mpr fun x hx => ok_of_nb k x (List.all_eq_true.mp h x hx)
  | k + 1, .l xs, h => by
    rw [nbD] at h
    rw [okD]
    exact List.all_eq_true.mpr fun x hx => ok_of_nb k x (List.all_eq_true.mp h x hx)
  | k, .r _ _, h => by cases k <;> (rw [nbD] at h; cases h)
  | k, .z _, h => by cases k <;> (rw [nbD] at h; cases h)
/-- without bools == is equality -/
theorem eqD_nb : ∀ (k : Nat) (a b : D), nbD k a = true → nbD k b = true → eqD a b = decide (a = b) := by
  intro k
  induction k with
  | zero =>
    intro a b ha hb
    cases a <;> cases b <;> first
      | (rw [nbD] at ha; cases ha; done)
      | (rw [nbD] at hb; cases hb; done)
      | (simp [eqD, toPy, PyData.eqv]; done)
      | (simp only [eqD, toPy, PyData.eqv, D.i.injEq, D.s.injEq]; rw [Bool.eq_iff_iff]; simp)
  | succ k ih =>
    have go : ∀ (xs ys : List D), (∀ x ∈ xs, nbD k x = true) → (∀ y ∈ ys, nbD k y = true) → PyData.eqvAll (toPys xs) (toPys ys) = decide (xs = ys) := by
      intro xs
      induction xs with
      | nil =>
        intro ys _ _
        cases ys with
        | nil => simp [toPys, PyData.eqvAll]
        | cons y ys => simp [toPys, PyData.eqvAll]
      | cons x xs ihx =>
        intro ys hx hy
        cases ys with
        | nil => simp [toPys, PyData.eqvAll]
        | cons y ys =>
          have e1 := ih x y (hx _ List.mem_cons_self) (hy _ List.mem_cons_self)
          have e2 := ihx ys (fun z hz => hx z (List.mem_cons_of_mem _ hz)) (fun z hz => hy z (List.mem_cons_of_mem _ hz))
          rw [eqD] at e1
          rw [toPys, toPys, PyData.eqvAll, e1, e2]
          by_cases h1 : x = y <;> by_cases h2 : xs = ys <;> simp [h1, h2]
    intro a b ha hb
    cases a <;> cases b <;> first
      | (rw [nbD] at ha; cases ha; done)
      | (rw [nbD] at hb; cases hb; done)
      | (rename_i xs ys
         rw [nbD] at ha hb
         have e := go xs ys (List.all_eq_true.mp ha) (List.all_eq_true.mp hb)
         rw [eqD, toPy, toPy, PyData.eqv, e]
         by_cases h : xs = ys <;> simp [h])
      | (simp [eqD, toPy, PyData.eqv]; done)
      | (simp only [eqD, toPy, PyData.eqv, D.i.injEq, D.s.injEq]; rw [Bool.eq_iff_iff]; simp)
end PL
/-! PL b: cells, judgements on data. -/
namespace PL
open PySem PySem.Spec PyProof.Rows L2

/-! ### cells -/
/-- what is known of a slot: nothing, a datum, a list that the frame alone holds and may change -/
inductive Cell where
  | no | v (d : D) | o (d : D)
@[simp] def Cell.str : Cell → Option D
  | .v d => some d
  | _ => none
@[simp] def Cell.any : Cell → Option D
  | .v d => some d
  | .o d => some d
  | .no => none
@[simp] def getV : List Cell → Nat → Option D
  | [], _ => none
  | c :: _, 0 => c.str
  | _ :: r, n + 1 => getV r n
@[simp] def getB : List Cell → Nat → Option D
  | [], _ => none
  | c :: _, 0 => c.any
  | _ :: r, n + 1 => getB r n
theorem getV_some : ∀ {e : List Cell} {i : Nat} {d : D}, getV e i = some d → e[i]? = some (.v d)
  | [], _, _, h => by cases h
  | c :: _, 0, d, h => by
    have h : c.str = some d := h
    cases c with
    | v x => cases h; rfl
    | _ => cases h
  | _ :: r, n + 1, d, h => by
    have h : getV r n = some d := h
    rw [List.getElem?_cons_succ]
    exact getV_some h
theorem getB_some : ∀ {e : List Cell} {i : Nat} {d : D}, getB e i = some d → e[i]? = some (.v d) ∨ e[i]? = some (.o d)
  | [], _, _, h => by cases h
  | c :: _, 0, d, h => by
    have h : c.any = some d := h
    cases c with
    | v x => cases h; exact .inl rfl
    | o x => cases h; exact .inr rfl
    | no => cases h
  | _ :: r, n + 1, d, h => by
    have h : getB r n = some d := h
    rw [List.getElem?_cons_succ]
    exact getB_some h

def CellOk (K : PySem.W.Frag) (H : Hp) (O : Addr → Prop) (v : Option (Option V)) : Cell → Prop
  | .no => True
  | .v d => ∃ x, v = some (some x) ∧ Rep K H O x d
  | .o d => ∃ a xs ds, v = some (some (.ref a)) ∧ d = .l ds ∧ H a = some (.lst xs) ∧ RepL K H O xs ds
def RelC (K : PySem.W.Frag) (H : Hp) (O : Addr → Prop) (σ : L2.St) (env : List Cell) : Prop := env.length ≤ σ.length ∧ ∀ (i : Nat) (c : Cell), env[i]? = some c → CellOk K H O (σ[i]?) c
/-- .. or a list that the frame may change -/
def RepB (K : PySem.W.Frag) (H : Hp) (O : Addr → Prop) (v : V) (d : D) : Prop := Rep K H O v d ∨ ∃ a xs ds, v = .ref a ∧ d = .l ds ∧ H a = some (.lst xs) ∧ RepL K H O xs ds
def OkO (H : Hp) (O : Addr → Prop) : Prop := ∀ a, O a → H a ≠ none
section
variable {K : PySem.W.Frag} {H H' : Hp} {O : Addr → Prop} {σ : L2.St} {env : List Cell}
theorem OkO.same (h : OkO H O) (k : Same H H') : OkO H' O := fun a z e => h a z (k.free e)
theorem RelC.same (h : RelC K H O σ env) (k : Same H H') : RelC K H' O σ env := ⟨h.1, fun i c e => by
  have q := h.2 i c e
  cases c with
  | no => trivial
  | v d => obtain ⟨x, e1, r⟩ := q; exact ⟨x, e1, r.same k⟩
  | o d => obtain ⟨a, xs, ds, e1, e2, e3, r⟩ := q; exact ⟨a, xs, ds, e1, e2, k _ _ e3, r.same k⟩⟩
theorem RepB.same {v : V} {d : D} (h : RepB K H O v d) (k : Same H H') : RepB K H' O v d := by
  rcases h with h | ⟨a, xs, ds, e1, e2, e3, r⟩
  · exact .inl (h.same k)
  · exact .inr ⟨a, xs, ds, e1, e2, k _ _ e3, r.same k⟩
theorem RepB.lst {v : V} {ds : List D} (h : RepB K H O v (.l ds)) : ∃ a xs, v = .ref a ∧ H a = some (.lst xs) ∧ RepL K H O xs ds := by
  rcases h with h | ⟨a, xs, ds', e1, e2, e3, r⟩
  · cases h with
    | l h n r => exact ⟨_, _, rfl, h, r⟩
  · cases e2
    exact ⟨a, xs, e1, e3, r⟩
theorem RepB.frz {v : V} {ds : List D} (h : RepB K H O v (.z ds)) : ∃ a xs, v = .ref a ∧ SqL K H a xs ∧ RepL K H O xs ds := by
  rcases h with h | ⟨a, xs, ds', e1, e2, e3, r⟩
  · cases h with
    | z h n r => exact ⟨_, _, rfl, .inl h, r⟩
    | zk h r => exact ⟨_, _, rfl, h _, r⟩
  · cases e2
theorem RepB.tup {v : V} {ds : List D} (h : RepB K H O v (.t ds)) : ∃ a xs, v = .ref a ∧ SqT K H a xs ∧ RepL K H O xs ds := by
  rcases h with h | ⟨a, xs, ds', e1, e2, e3, r⟩
  · cases h with
    | t h n r => exact ⟨_, _, rfl, .inl h, r⟩
    | tk h r => exact ⟨_, _, rfl, h _, r⟩
  · cases e2
theorem RepB.int {v : V} {x : Int} (h : RepB K H O v (.i x)) : v = .int x := by
  rcases h with h | ⟨a, xs, ds', e1, e2, e3, r⟩
  · cases h; rfl
  · cases e2
theorem RepB.bl {v : V} {x : Bool} (h : RepB K H O v (.b x)) : v = .bl x := by
  rcases h with h | ⟨a, xs, ds', e1, e2, e3, r⟩
  · cases h; rfl
  · cases e2
theorem RepB.str {v : V} {x : Str} (h : RepB K H O v (.s x)) : v = .str x := by
  rcases h with h | ⟨a, xs, ds', e1, e2, e3, r⟩
  · cases h; rfl
  · cases e2
theorem RepB.non {v : V} (h : RepB K H O v .n) : v = .non := by
  rcases h with h | ⟨a, xs, ds', e1, e2, e3, r⟩
  · cases h; rfl
  · cases e2
theorem RepB.rng {v : V} {lo hi : Int} (h : RepB K H O v (.r lo hi)) : ∃ a, v = .ref a ∧ H a = some (.rng lo hi) := by
  rcases h with h | ⟨a, xs, ds', e1, e2, e3, r⟩
  · cases h with
    | r h n => exact ⟨_, rfl, h⟩
  · cases e2
/-- an object just laid -/
theorem same_new {p : Addr} {o : HO} (h : H p = none) : Same H (upd H p o) := fun b x e => by
  rw [upd_ne (ne_of_none e h)]
  exact e
theorem Rep.newL {p : Addr} {xs : List V} {ds : List D} (ok : OkO H O) (h : H p = none) (r : RepL K H O xs ds) : Rep K (upd H p (.lst xs)) O (.ref p) (.l ds) :=
  .l upd_same (fun z => ok p z h) (r.same (same_new h))
theorem Rep.newT {p : Addr} {xs : List V} {ds : List D} (ok : OkO H O) (h : H p = none) (r : RepL K H O xs ds) : Rep K (upd H p (.tup xs)) O (.ref p) (.t ds) :=
  .t (.inl upd_same) (fun z => ok p z h) (r.same (same_new h))
theorem RepB.dp {k : Nat} {v : V} {d : D} (h : RepB K H O v d) (p : okD k d = true) : Dp K H v (toPy d) := by
  rcases h with h | ⟨a, xs, ds, e1, e2, e3, r⟩
  · exact rep_dp k h p
  · subst e1 e2
    cases k with
    | zero => rw [okD] at p; cases p
    | succ k =>
      rw [okD] at p
      rw [toPy]
      exact .lst (SqL.of e3) (repL_dp k r p)
end

/-! ### the canonical readings -/
section
variable {X : Cx}
def wE (X : Cx) (e : Expr) : TE := fun σ H Q => ∀ (pins : List (Addr × Obj)) (s : Shared), Inv X pins σ H s → wpAny (model X.prog X.w) X.A (eval e X.env) (EP X pins σ Q) X.xe s
def wT (X : Cx) (e : Expr) : TT := fun σ H Q => ∀ (pins : List (Addr × Obj)) (s : Shared), Inv X pins σ H s → wpAny (model X.prog X.w) X.A (isTrue e X.env (eval e X.env)) (TP X pins σ Q) X.xe s
def wW (X : Cx) (e : Expr) : TT := fun σ H Q => ∀ (whole : Sem Value) (pins : List (Addr × Obj)) (s : Shared), Inv X pins σ H s → wpAny (model X.prog X.w) X.A (isTrue e X.env whole) (TP X pins σ Q) X.xe s
def wA (X : Cx) (es : List Expr) : TA := fun σ H Q => ∀ (pos : Pos) (pins : List (Addr × Obj)) (s : Shared), Inv X pins σ H s → wpAny (model X.prog X.w) X.A (spliced (backTo pos (starEach es X.env))) (AP X pins σ Q) X.xe s
theorem wE_pe {e : Expr} : PE X e (wE X e) := ⟨fun pins s σ H Q I h => h pins s I⟩
theorem wT_pt {e : Expr} : PT X e (wT X e) := ⟨fun pins s σ H Q I h => h pins s I⟩
theorem wW_pw {e : Expr} : PW X e (wW X e) := ⟨fun wh pins s σ H Q I h => h wh pins s I⟩
theorem wA_pa {es : List Expr} : PA X es (wA X es) := ⟨fun pos pins s σ H Q I h => h pos pins s I⟩
theorem PEw {e : Expr} {t : TE} (h : PE X e t) {σ : L2.St} {H : Hp} {Q : VK} (q : t σ H Q) : wE X e σ H Q := fun pins s I => h.run pins s σ H Q I q
theorem PTw {e : Expr} {t : TT} (h : PT X e t) {σ : L2.St} {H : Hp} {Q : Bool → Hp → Prop} (q : t σ H Q) : wT X e σ H Q := fun pins s I => h.run pins s σ H Q I q
theorem PWw {e : Expr} {t : TT} (h : PW X e t) {σ : L2.St} {H : Hp} {Q : Bool → Hp → Prop} (q : t σ H Q) : wW X e σ H Q := fun wh pins s I => h.run wh pins s σ H Q I q
theorem PAw {es : List Expr} {t : TA} (h : PA X es t) {σ : L2.St} {H : Hp} {Q : List V → Hp → Prop} (q : t σ H Q) : wA X es σ H Q := fun pos pins s I => h.run pos pins s σ H Q I q
end

/-! ### judgements on data -/
abbrev EvF := List Cell → Option D
/-- whatever f gives, e gives -/
def DE (X : Cx) (e : Expr) (f : EvF) : Prop := ∀ (σ : L2.St) (H : Hp) (O : Addr → Prop) (env : List Cell) (d : D) (Q : VK), OkO H O → RelC X.K H O σ env → f env = some d →
  (∀ v H', Same H H' → Rep X.K H' O v d → Q v H') → wE X e σ H Q
def DB (X : Cx) (e : Expr) (f : EvF) : Prop := ∀ (σ : L2.St) (H : Hp) (O : Addr → Prop) (env : List Cell) (d : D) (Q : VK), OkO H O → RelC X.K H O σ env → f env = some d →
  (∀ v H', Same H H' → RepB X.K H' O v d → Q v H') → wE X e σ H Q
def DT (X : Cx) (e : Expr) (f : List Cell → Option Bool) : Prop := ∀ (σ : L2.St) (H : Hp) (O : Addr → Prop) (env : List Cell) (d : Bool) (Q : Bool → Hp → Prop), OkO H O → RelC X.K H O σ env → f env = some d →
  (∀ H', Same H H' → Q d H') → wT X e σ H Q
def DW (X : Cx) (e : Expr) (f : List Cell → Option Bool) : Prop := ∀ (σ : L2.St) (H : Hp) (O : Addr → Prop) (env : List Cell) (d : Bool) (Q : Bool → Hp → Prop), OkO H O → RelC X.K H O σ env → f env = some d →
  (∀ H', Same H H' → Q d H') → wW X e σ H Q
def DL (X : Cx) (es : List Expr) (f : List Cell → Option (List D)) : Prop := ∀ (σ : L2.St) (H : Hp) (O : Addr → Prop) (env : List Cell) (ds : List D) (Q : List V → Hp → Prop), OkO H O → RelC X.K H O σ env → f env = some ds →
  (∀ vs H', Same H H' → RepL X.K H' O vs ds → Q vs H') → wA X es σ H Q
section
variable {X : Cx} {e a b c : Expr} {f g h : EvF} {pos : Pos}
theorem DE.db (h : DE X e f) : DB X e f := fun σ H O env d Q ok R e c => h σ H O env d Q ok R e fun v H' s r => c v H' s (.inl r)

theorem de_name {i : Nat} {x : Str} (hN : X.N[i]? = some x) (hv : Vis X.env.scope x) (hd : (x == ("__debug__" : Str)) = false) (hcd : (x == ("__classdict__" : Str)) = false) : DE X (.Name x pos) (fun env => getV env i) :=
  fun σ H O env d Q ok R e c => PEw (pe_var hN hv hd hcd) (by
    obtain ⟨x, e1, r⟩ := R.2 i _ (getV_some e)
    exact ⟨x, e1, c _ _ (Same.refl _) r⟩)
theorem db_name {i : Nat} {x : Str} (hN : X.N[i]? = some x) (hv : Vis X.env.scope x) (hd : (x == ("__debug__" : Str)) = false) (hcd : (x == ("__classdict__" : Str)) = false) : DB X (.Name x pos) (fun env => getB env i) :=
  fun σ H O env d Q ok R e c => PEw (pe_var hN hv hd hcd) (by
    rcases getB_some e with e | e
    · obtain ⟨x, e1, r⟩ := R.2 i _ e
      exact ⟨x, e1, c _ _ (Same.refl _) (.inl r)⟩
    · obtain ⟨a, xs, ds, e1, e2, e3, r⟩ := R.2 i _ e
      exact ⟨_, e1, c _ _ (Same.refl _) (.inr ⟨a, xs, ds, rfl, e2, e3, r⟩)⟩)
theorem de_int {x : Int} {j} : DE X (.Constant (.int x) j pos) (fun _ => some (.i x)) := fun σ H O env d Q ok R e c => PEw pe_int (by cases e; exact c _ _ (Same.refl _) (.i x))
theorem de_bl {x : Bool} {j} : DE X (.Constant (.bool x) j pos) (fun _ => some (.b x)) := fun σ H O env d Q ok R e c => PEw pe_bl (by cases e; exact c _ _ (Same.refl _) (.b x))
theorem de_non {j} : DE X (.Constant .none j pos) (fun _ => some .n) := fun σ H O env d Q ok R e c => PEw pe_non (by cases e; exact c _ _ (Same.refl _) .n)
theorem de_str {x : Str} {j} : DE X (.Constant (.str x) j pos) (fun _ => some (.s x)) := fun σ H O env d Q ok R e c => PEw pe_str (by cases e; exact c _ _ (Same.refl _) (.s x))

/-! ### two-place operations -/
/-- an operation's answer on data: what the rule asks follows -/
def OpD (X : Cx) (r : R2) (F : D → D → Option D) : Prop := ∀ (H : Hp) (O : Addr → Prop) (x y : V) (p q d : D) (Q : VK), OkO H O → RepB X.K H O x p → RepB X.K H O y q → F p q = some d →
  (∀ v H', Same H H' → Rep X.K H' O v d → Q v H') → r x y H Q
/-- the same, over the operation itself (with the heap's facts at hand) -/
def OpF (X : Cx) (f : Value → Value → Sem Value) (F : D → D → Option D) : Prop := ∀ (pins : List (Addr × Obj)) (s : Shared) (σ : L2.St) (H : Hp) (O : Addr → Prop) (x y : V) (u w : Value) (p q d : D) (Q : VK), Inv X pins σ H s → OkO H O →
  RelV x u → RelV y w → RepB X.K H O x p → RepB X.K H O y q → F p q = some d → (∀ v H', Same H H' → Rep X.K H' O v d → Q v H') → wpAny (model X.prog X.w) X.A (f u w) (EP X pins σ Q) X.xe s
theorem OpF.of {f' : Value → Value → Sem Value} {r : R2} {F : D → D → Option D} (ho : OpR X f' r) (hd : OpD X r F) : OpF X f' F :=
  fun pins s σ H O x y u w p q d Q I ok rx ry rp rq e c => ho pins s σ H x y u w Q I rx ry (hd H O x y p q d Q ok rp rq e c)
/-- by cases on the data -/
theorem OpF.or {f' : Value → Value → Sem Value} {F G : D → D → Option D} (h1 : OpF X f' F) (h2 : OpF X f' G) : OpF X f' (fun p q => F p q <|> G p q) :=
  fun pins s σ H O x y u w p q d Q I ok rx ry rp rq e c => by
    cases z : F p q with
    | none =>
      have e : (F p q <|> G p q) = some d := e
      rw [z] at e
      exact h2 pins s σ H O x y u w p q d Q I ok rx ry rp rq e c
    | some d' =>
      have e : (F p q <|> G p q) = some d := e
      rw [z] at e
      cases e
      exact h1 pins s σ H O x y u w p q _ Q I ok rx ry rp rq z c
@[simp] def bind2 (F : D → D → Option D) (f g : EvF) : EvF := fun env => (f env).bind fun x => (g env).bind fun y => F x y
theorem bind2_some {F : D → D → Option D} {f g : EvF} {env : List Cell} {d : D} (h : bind2 F f g env = some d) : ∃ x y, f env = some x ∧ g env = some y ∧ F x y = some d := by
  unfold bind2 at h
  cases e1 : f env with
  | none => rw [e1] at h; cases h
  | some x =>
    rw [e1] at h
    have h : (g env).bind (fun y => F x y) = some d := h
    cases e2 : g env with
    | none => rw [e2] at h; cases h
    | some y =>
      rw [e2] at h
      exact ⟨x, y, rfl, rfl, h⟩
/-- the two sides evaluated, then the operation -/
theorem go2 {F : D → D → Option D} {fv : Value → Value → Sem Value} (ho : OpF X fv F) (ha : DB X a f) (hb : DB X b g) {σ : L2.St} {H : Hp} {O : Addr → Prop} {env : List Cell} {d : D} {Q : VK} (ok : OkO H O) (R : RelC X.K H O σ env)
    (e : bind2 F f g env = some d) (c : ∀ v H', Same H H' → Rep X.K H' O v d → Q v H') {pins : List (Addr × Obj)} {s : Shared} (I : Inv X pins σ H s) :
    wpAny (model X.prog X.w) X.A (eval a X.env) (fun v s₁ => wpAny (model X.prog X.w) X.A (eval b X.env) (fun u s₂ => wpAny (model X.prog X.w) X.A (fv v u) (EP X pins σ Q) X.xe s₂) X.xe s₁) X.xe s := by
  obtain ⟨p, q, e1, e2, e3⟩ := bind2_some e
  refine bin (R := fun x y H2 => ∃ H1, RepB X.K H1 O x p ∧ RepB X.K H2 O y q ∧ Same H H1 ∧ Same H1 H2 ∧ OkO H2 O) wE_pe wE_pe I (ha σ H O env p _ ok R e1 fun x H1 s1 r1 => hb σ H1 O env q _ (ok.same s1) (R.same s1) e2 fun y H2 s2 r2 => ⟨H1, r1, r2, s1, s2, (ok.same s1).same s2⟩) ?_
  intro v u s2 x y H2 I2 rx ry ⟨H1, r1, r2, k1, k2, ok2⟩
  exact ho pins s2 σ H2 O x y v u p q d Q I2 ok2 rx ry (r1.same k2) r2 e3 fun v' H' k r => c v' H' ((k1.trans k2).trans k) r
theorem de_bin {op : Operator} {F : D → D → Option D} (ho : OpF X (binaryOp op) F) (ha : DB X a f) (hb : DB X b g) : DE X (.BinOp a op b pos) (bind2 F f g) :=
  fun σ H O env d Q ok R e c pins s I => wpAny_BinOp (go2 ho ha hb ok R e c I)
theorem de_cmp {op : CmpOp} {F : D → D → Option D} (ho : OpF X (compareOp op) F) (ha : DB X a f) (hb : DB X b g) (hm : behindInMarks op b = false) : DE X (.Compare a [op] [b] pos) (bind2 F f g) :=
  fun σ H O env d Q ok R e c pins s I => wpAny_Compare1 (go2 ho ha hb ok R e c I) hm
end
end PL
/-! PL c: operations on data. -/
namespace PL
open PySem PySem.Spec PyProof.Rows L2

/-! ### what they give -/
/-- by the natural number alone: the kernel is not to count down from big literals -/
def absLe (x : Int) (n : Nat) : Bool := Nat.ble x.natAbs n
theorem absLe_ok {x : Int} {n : Nat} (h : absLe x n = true) : -(n : Int) ≤ x ∧ x ≤ n := by
  have := Nat.le_of_ble_eq_true h
  omega
theorem absLe_of {x : Int} {n : Nat} (h : x.natAbs ≤ n) : absLe x n = true := Nat.ble_eq_true_of_le h
def smallI (x : Int) : Bool := absLe x 18446744073709551615
theorem smallI_ok {x : Int} (h : smallI x = true) : -(2 ^ 64) < x ∧ x < 2 ^ 64 := by
  have := absLe_ok h
  omega
@[simp] def addD : D → D → Option D
  | .i x, .i y => some (.i (x + y))
  | .l xs, .l ys => if xs.length + ys.length ≤ SZ then some (.l (xs ++ ys)) else none
  | .t xs, .t ys => if xs.length + ys.length ≤ SZ then some (.t (xs ++ ys)) else none
  | _, _ => none
@[simp] def subD : D → D → Option D
  | .i x, .i y => some (.i (x - y))
  | _, _ => none
@[simp] def mulD : D → D → Option D
  | .i x, .i y => if (smallI x || smallI y) = true then some (.i (x * y)) else none
  | .l xs, .i k => if 0 ≤ k ∧ absLe k 1000000 = true ∧ xs.length * k.toNat ≤ SZ then some (.l (List.replicate k.toNat xs).flatten) else none
  | .t xs, .i k => if 0 ≤ k ∧ absLe k 1000 = true ∧ xs.length ≤ 1000 then some (.t (List.replicate k.toNat xs).flatten) else none
  | _, _ => none
@[simp] def fdivD : D → D → Option D
  | .i x, .i y => if 0 < y ∧ absLe y (2 ^ 1000 - 1) = true then some (.i (x / y)) else none
  | _, _ => none
@[simp] def modD : D → D → Option D
  | .i x, .i y => if 0 < y then some (.i (x % y)) else none
  | _, _ => none
@[simp] def powD : D → D → Option D
  | .i x, .i y => if 0 ≤ y ∧ absLe y 1000000 = true ∧ smallI x = true then some (.i (x ^ y.toNat)) else none
  | _, _ => none
/-- how deep == looks here -/
def DP : Nat := 20
@[simp] def eqqD (a b : D) : Option D := if (okD DP a && okD DP b) = true then some (.b (eqD a b)) else none
@[simp] def neqD (a b : D) : Option D := if (okD DP a && okD DP b) = true then some (.b (!eqD a b)) else none
@[simp] def inD : D → D → Option D
  | a, .l xs => if (okD DP a && okD DP (.l xs)) = true then some (.b (xs.any fun x => eqD x a)) else none
  | a, .t xs => if (okD DP a && okD DP (.t xs)) = true then some (.b (xs.any fun x => eqD x a)) else none
  | _, _ => none
@[simp] def ninD : D → D → Option D
  | a, .l xs => if (okD DP a && okD DP (.l xs)) = true then some (.b (!xs.any fun x => eqD x a)) else none
  | a, .t xs => if (okD DP a && okD DP (.t xs)) = true then some (.b (!xs.any fun x => eqD x a)) else none
  | _, _ => none
def isND : D → Bool
  | .n => true
  | _ => false
@[simp] def isD : D → D → Option D
  | a, .n => some (.b (isND a))
  | .b x, .b y => some (.b (decide (x = y)))
  | _, _ => none
@[simp] def isntD : D → D → Option D
  | a, .n => some (.b (!isND a))
  | .b x, .b y => some (.b (!decide (x = y)))
  | _, _ => none

theorem any_toPys (a : PyData) : ∀ xs : List D, (toPys xs).any (fun y => PyData.eqv y a) = xs.any fun x => PyData.eqv (toPy x) a
  | [] => by rw [toPys]; rfl
  | x :: xs => by rw [toPys, List.any_cons, List.any_cons, any_toPys a xs]

section
variable {X : Cx}
theorem RepB.isN {K : PySem.W.Frag} {H : Hp} {O : Addr → Prop} {v : V} {d : D} (h : RepB K H O v d) : decide (v = .non) = isND d := by
  rcases h with h | ⟨a, xs, ds', e1, e2, e3, r⟩
  · cases h <;> first | rfl | (apply decide_eq_false; exact nofun)
  · subst e1 e2
    rfl

theorem of_add : OpF X (binaryOp .Add) addD := by
  intro pins s σ H O x y u w p q d Q I ok rx ry rp rq e c
  cases p <;> cases q <;> first
    | (cases e; done)
    | skip
  · cases e
    obtain rfl := rp.int
    obtain rfl := rq.int
    exact op_add pins s σ H _ _ u w Q I rx ry ⟨_, _, rfl, rfl, c _ _ (Same.refl _) (.i _)⟩
  · rename_i xs ys
    have e : (if xs.length + ys.length ≤ SZ then some (D.t (xs ++ ys)) else none) = some d := e
    by_cases hz : xs.length + ys.length ≤ SZ
    · rw [if_pos hz] at e
      cases e
      obtain ⟨a, vs, rfl, ha, ra⟩ := rp.tup
      obtain ⟨b, ws, rfl, hb, rb⟩ := rq.tup
      have l1 := ra.length
      have l2 := rb.length
      have keep : ∀ z, Rep X.K H O (.ref z) (.t (xs ++ ys)) → Q (.ref z) H := fun z r => c _ _ (Same.refl _) r
      refine op_catA pins s σ H _ _ u w Q I rx ry ⟨a, b, vs, ws, rfl, rfl, ha, hb, by rw [SZ_eq]; omega, fun h => ?_, fun h1 h2 => ?_, fun h1 h2 p np => ?_⟩
      · subst h
        have : xs = [] := List.length_eq_zero_iff.mp l1.symm
        subst this
        rcases rq with rq | ⟨_, _, _, _, z, _⟩
        · exact keep _ rq
        · cases z
      · subst h2
        have : ys = [] := List.length_eq_zero_iff.mp l2.symm
        subst this
        rw [List.append_nil] at keep
        rcases rp with rp | ⟨_, _, _, _, z, _⟩
        · exact keep _ rp
        · cases z
      · exact c _ _ (same_new np) (Rep.newT ok np (ra.append rb))
    · rw [if_neg hz] at e; cases e
  · rename_i xs ys
    have e : (if xs.length + ys.length ≤ SZ then some (D.l (xs ++ ys)) else none) = some d := e
    by_cases hz : xs.length + ys.length ≤ SZ
    · rw [if_pos hz] at e
      cases e
      obtain ⟨a, vs, rfl, ha, ra⟩ := rp.lst
      obtain ⟨b, ws, rfl, hb, rb⟩ := rq.lst
      have l1 := ra.length
      have l2 := rb.length
      exact op_cat pins s σ H _ _ u w Q I rx ry ⟨a, b, vs, ws, rfl, rfl, ha, hb, by rw [SZ_eq]; omega, fun p np => c _ _ (same_new np) (Rep.newL ok np (ra.append rb))⟩
    · rw [if_neg hz] at e; cases e
theorem of_sub : OpF X (binaryOp .Sub) subD := by
  intro pins s σ H O x y u w p q d Q I ok rx ry rp rq e c
  cases p <;> cases q <;> first
    | (cases e; done)
    | skip
  cases e
  obtain rfl := rp.int
  obtain rfl := rq.int
  exact op_sub pins s σ H _ _ u w Q I rx ry ⟨_, _, rfl, rfl, c _ _ (Same.refl _) (.i _)⟩
theorem of_fdiv : OpF X (binaryOp .FloorDiv) fdivD := by
  intro pins s σ H O x y u w p q d Q I ok rx ry rp rq e c
  cases p <;> cases q <;> first
    | (cases e; done)
    | skip
  rename_i i j
  have e : (if 0 < j ∧ absLe j (2 ^ 1000 - 1) = true then some (D.i (i / j)) else none) = some d := e
  by_cases hj : 0 < j ∧ absLe j (2 ^ 1000 - 1) = true
  · rw [if_pos hj] at e
    cases e
    obtain rfl := rp.int
    obtain rfl := rq.int
    have hj2 := absLe_ok hj.2
    exact op_fdivW pins s σ H _ _ u w Q I rx ry ⟨_, _, rfl, rfl, wide_div (b := 1000) hj.1 (by omega) (by decide) (by decide), c _ _ (Same.refl _) (.i _)⟩
  · rw [if_neg hj] at e; cases e
theorem of_mod : OpF X (binaryOp .Mod) modD := by
  intro pins s σ H O x y u w p q d Q I ok rx ry rp rq e c
  cases p <;> cases q <;> first
    | (cases e; done)
    | skip
  rename_i i j
  have e : (if 0 < j then some (D.i (i % j)) else none) = some d := e
  by_cases hj : 0 < j
  · rw [if_pos hj] at e
    cases e
    obtain rfl := rp.int
    obtain rfl := rq.int
    exact op_mod pins s σ H _ _ u w Q I rx ry ⟨_, _, rfl, rfl, hj, c _ _ (Same.refl _) (.i _)⟩
  · rw [if_neg hj] at e; cases e
theorem of_pow : OpF X (binaryOp .Pow) powD := by
  intro pins s σ H O x y u w p q d Q I ok rx ry rp rq e c
  cases p <;> cases q <;> first
    | (cases e; done)
    | skip
  rename_i i j
  have e : (if 0 ≤ j ∧ absLe j 1000000 = true ∧ smallI i = true then some (D.i (i ^ j.toNat)) else none) = some d := e
  by_cases hj : 0 ≤ j ∧ absLe j 1000000 = true ∧ smallI i = true
  · rw [if_pos hj] at e
    cases e
    obtain rfl := rp.int
    obtain rfl := rq.int
    have hj2 := absLe_ok hj.2.1
    have hj3 := smallI_ok hj.2.2
    exact op_pow pins s σ H _ _ u w Q I rx ry ⟨_, _, rfl, rfl, ⟨hj.1, by omega, by omega⟩, c _ _ (Same.refl _) (.i _)⟩
  · rw [if_neg hj] at e; cases e
theorem of_eq (hu : X.A.units + 65 < cLine) : OpF X (compareOp .Eq) eqqD := by
  intro pins s σ H O x y u w p q d Q I ok rx ry rp rq e c
  unfold eqqD at e
  split at e
  · rename_i hk
    rw [Bool.and_eq_true] at hk
    cases e
    exact op_eqD (by omega) pins s σ H _ _ u w Q I rx ry ⟨_, _, rp.dp hk.1, rq.dp hk.2, shaped_ok hk.1 (by decide), shaped_ok hk.2 (by decide), c _ _ (Same.refl _) (.b _)⟩
  · cases e
theorem of_ne (hu : X.A.units + 65 < cLine) : OpF X (compareOp .NotEq) neqD := by
  intro pins s σ H O x y u w p q d Q I ok rx ry rp rq e c
  unfold neqD at e
  split at e
  · rename_i hk
    rw [Bool.and_eq_true] at hk
    cases e
    exact op_neD (by omega) pins s σ H _ _ u w Q I rx ry ⟨_, _, rp.dp hk.1, rq.dp hk.2, shaped_ok hk.1 (by decide), shaped_ok hk.2 (by decide), c _ _ (Same.refl _) (.b _)⟩
  · cases e
theorem of_in (hu : X.A.units + 65 < cLine) : OpF X (compareOp .In) inD := by
  intro pins s σ H O x y u w p q d Q I ok rx ry rp rq e c
  cases q <;> first
    | (cases e; done)
    | skip
  · rename_i xs
    have e : (if (okD DP p && okD DP (.t xs)) = true then some (D.b (xs.any fun x => eqD x p)) else none) = some d := e
    split at e
    · rename_i hk
      rw [Bool.and_eq_true] at hk
      cases e
      have hd := rp.dp hk.1
      have he := rq.dp hk.2
      have sd := shaped_ok hk.1 (by decide)
      have se := shaped_ok hk.2 (by decide)
      rw [toPy] at he se
      obtain ⟨as, r1⟩ := Dp.reads I _ x u hd rx
      obtain ⟨bs, r2⟩ := Dp.reads I _ y w he ry
      refine SeqAt.in_tuple_reads r2 r1 (SeqAt.canLay_of_shaped se) (SeqAt.canLay_of_shaped sd) (room_in_shaped sd hu) ⟨.bl _, H, I, rfl, ?_⟩
      rw [any_toPys]
      exact c _ _ (Same.refl _) (.b _)
    · cases e
  · rename_i xs
    have e : (if (okD DP p && okD DP (.l xs)) = true then some (D.b (xs.any fun x => eqD x p)) else none) = some d := e
    split at e
    · rename_i hk
      rw [Bool.and_eq_true] at hk
      cases e
      have hd := rp.dp hk.1
      have he := rq.dp hk.2
      have sd := shaped_ok hk.1 (by decide)
      have se := shaped_ok hk.2 (by decide)
      rw [toPy] at he se
      obtain ⟨as, r1⟩ := Dp.reads I _ x u hd rx
      obtain ⟨bs, r2⟩ := Dp.reads I _ y w he ry
      refine SeqAt.in_list_reads r2 r1 (SeqAt.canLay_of_shaped se) (SeqAt.canLay_of_shaped sd) (room_in_shaped sd hu) ⟨.bl _, H, I, rfl, ?_⟩
      rw [any_toPys]
      exact c _ _ (Same.refl _) (.b _)
    · cases e
theorem of_nin (hu : X.A.units + 65 < cLine) : OpF X (compareOp .NotIn) ninD := by
  intro pins s σ H O x y u w p q d Q I ok rx ry rp rq e c
  cases q <;> first
    | (cases e; done)
    | skip
  · rename_i xs
    have e : (if (okD DP p && okD DP (.t xs)) = true then some (D.b (!xs.any fun x => eqD x p)) else none) = some d := e
    split at e
    · rename_i hk
      rw [Bool.and_eq_true] at hk
      cases e
      have hd := rp.dp hk.1
      have he := rq.dp hk.2
      have sd := shaped_ok hk.1 (by decide)
      have se := shaped_ok hk.2 (by decide)
      rw [toPy] at he se
      obtain ⟨as, r1⟩ := Dp.reads I _ x u hd rx
      obtain ⟨bs, r2⟩ := Dp.reads I _ y w he ry
      refine SeqAt.notIn_tuple_reads r2 r1 (SeqAt.canLay_of_shaped se) (SeqAt.canLay_of_shaped sd) (room_in_shaped sd hu) ⟨.bl _, H, I, rfl, ?_⟩
      rw [any_toPys]
      exact c _ _ (Same.refl _) (.b _)
    · cases e
  · rename_i xs
    have e : (if (okD DP p && okD DP (.l xs)) = true then some (D.b (!xs.any fun x => eqD x p)) else none) = some d := e
    split at e
    · rename_i hk
      rw [Bool.and_eq_true] at hk
      cases e
      have hd := rp.dp hk.1
      have he := rq.dp hk.2
      have sd := shaped_ok hk.1 (by decide)
      have se := shaped_ok hk.2 (by decide)
      rw [toPy] at he se
      obtain ⟨as, r1⟩ := Dp.reads I _ x u hd rx
      obtain ⟨bs, r2⟩ := Dp.reads I _ y w he ry
      refine SeqAt.notIn_list_reads r2 r1 (SeqAt.canLay_of_shaped se) (SeqAt.canLay_of_shaped sd) (room_in_shaped sd hu) ⟨.bl _, H, I, rfl, ?_⟩
      rw [any_toPys]
      exact c _ _ (Same.refl _) (.b _)
    · cases e
theorem of_is : OpF X (compareOp .Is) isD := by
  intro pins s σ H O x y u w p q d Q I ok rx ry rp rq e c
  have viaN : q = .n → d = .b (isND p) → wpAny (model X.prog X.w) X.A (compareOp .Is u w) (EP X pins σ Q) X.xe s := fun hq hd => by
    subst hq hd
    obtain rfl := rq.non
    refine op_isN pins s σ H _ _ u w Q I rx ry ⟨rfl, ?_⟩
    rw [rp.isN]
    exact c _ _ (Same.refl _) (.b _)
  cases p <;> cases q <;> first
    | (cases e; done)
    | exact viaN rfl (Option.some.inj e).symm
    | skip
  cases e
  obtain rfl := rp.bl
  obtain rfl := rq.bl
  exact op_isBl pins s σ H _ _ u w Q I rx ry ⟨_, _, rfl, rfl, c _ _ (Same.refl _) (.b _)⟩
theorem of_isnt : OpF X (compareOp .IsNot) isntD := by
  intro pins s σ H O x y u w p q d Q I ok rx ry rp rq e c
  have viaN : q = .n → d = .b (!isND p) → wpAny (model X.prog X.w) X.A (compareOp .IsNot u w) (EP X pins σ Q) X.xe s := fun hq hd => by
    subst hq hd
    obtain rfl := rq.non
    refine op_notN pins s σ H _ _ u w Q I rx ry ⟨rfl, ?_⟩
    rw [rp.isN]
    exact c _ _ (Same.refl _) (.b _)
  cases p <;> cases q <;> first
    | (cases e; done)
    | exact viaN rfl (Option.some.inj e).symm
    | skip
  cases e
  obtain rfl := rp.bl
  obtain rfl := rq.bl
  exact op_notBl pins s σ H _ _ u w Q I rx ry ⟨_, _, rfl, rfl, c _ _ (Same.refl _) (.b _)⟩
end
end PL
/-! PL d: products; tuples times ints of any size from 0 on. -/
namespace PL
open PySem PySem.Spec PyProof.Rows L2
theorem tuple_mulE (l : Addr) (items : Array Value) (n : Nat) (dd : Option Addr) (sl : Array (Option Value)) (x : Int) (u : Tok) (c0 : (decide (x < -(2 ^ 63)) || decide (x ≥ 2 ^ 63)) = false) (c1 : (items.isEmpty || x == 1) = true) :
    Meets (Builtin.«tuple.__mul__» ⟨[.ref l, .int x u], []⟩) (fun _ R s => s.heap.get? l = some { cls := .type "tuple", dict := dd, data := .seq items n, slots := sl } ∧
      R (.ok (.ret (Value.ref l))) s) :=
  .of_wp fun prog w A R s h => by
    obtain ⟨hp, g, d, tk, os⟩ := s
    obtain ⟨hl, h⟩ := h
    have f1 := AutoSeq1.idx_int
    wp_walk using wpAny_loadPart' hl
    refine wpAny_ite_false (decide_eq_false (by rw [c0]; exact Bool.false_ne_true)) ?_
    wp_walk using wpAny_loadPart' hl
    exact ⟨_, rfl, h⟩
theorem tuple_mulZ (l : Addr) (items : Array Value) (n : Nat) (dd : Option Addr) (sl : Array (Option Value)) (x : Int) (u : Tok) (c0 : (decide (x < -(2 ^ 63)) || decide (x ≥ 2 ^ 63)) = false) (c1 : (items.isEmpty || x == 1) = false) (c2 : (decide (x ≤ 0) || items.isEmpty) = true) :
    Meets (Builtin.«tuple.__mul__» ⟨[.ref l, .int x u], []⟩) (fun _ R s => s.heap.get? l = some { cls := .type "tuple", dict := dd, data := .seq items n, slots := sl } ∧
      R (.ok (.ret (Value.ref s.heap.objs.size))) { s with heap := s.heap.push { cls := Value.type "tuple", data := Data.seq #[] }, toks := s.toks }) :=
  .of_wp fun prog w A R s h => by
    obtain ⟨hp, g, d, tk, os⟩ := s
    obtain ⟨hl, h⟩ := h
    have f1 := AutoSeq1.idx_int
    wp_walk using wpAny_loadPart' hl
    refine wpAny_ite_false (decide_eq_false (by rw [c0]; exact Bool.false_ne_true)) ?_
    wp_walk using wpAny_loadPart' hl
    exact ⟨_, rfl, h⟩
/-- t * k -/
def rRepA (K : PySem.W.Frag) : R2 := fun x y H Q => ∃ l k xs, x = .ref l ∧ y = .int k ∧ SqT K H l xs ∧ 0 ≤ k ∧ k ≤ 1000 ∧ xs.length ≤ 1000 ∧
  ((xs = [] ∨ k = 1) → Q (.ref l) H) ∧ (¬ (xs = [] ∨ k = 1) → ∀ p, H p = none → Q (.ref p) (upd H p (.tup (List.replicate k.toNat xs).flatten)))
section
variable {X : Cx}
theorem op_repA : OpR X (binaryOp .Mult) (rRepA X.K) := by
  intro pins s σ H x y v u Q I rx ry h
  obtain ⟨l, k, xs, rfl, rfl, hT, h1, h2, hz, q1, q2⟩ := h
  by_cases hne : xs = [] ∨ k = 1
  · cases rx
    obtain ⟨t, rfl⟩ := ry
    obtain ⟨its, r, ⟨⟨cls, dd, data, sl⟩, ho, hc, n, hd⟩, hs⟩ := I.tuple hT
    simp only at hc hd
    subst hc hd
    have hle : its.length = xs.length := r.length.symm
    have c0 : (decide (k < -(2 ^ 63)) || decide (k ≥ 2 ^ 63)) = false := by
      rw [decide_eq_false (by omega), decide_eq_false (by omega)] <;> rfl
    have c1 : (its.toArray.isEmpty || k == 1) = true := by
      rcases hne with e | e
      · subst e
        rw [List.eq_nil_of_length_eq_zero hle]
        rfl
      · subst e
        simp
    exact wpAny_binaryOp_repeat_ref (T := "tuple") (U := "int") (by decide) ⟨_, ho, rfl⟩ (fun s' => typeIs_int s' k t) noFill_tuple_mul F.fills_int_mul F.slot_int_rmul repeat_tuple F.slot_int_index.lookup
      (call_meets F.slot_int_rmul (typeIs_int s k t) F.entry_int_rmul (F.args_int_rmul_2 _ _) (int_rmul_tuple k t l its.toArray n dd sl)
        ⟨ho, rfl, ⟨_, ho, rfl⟩, call_meets F.slot_tuple_mul ⟨_, ho, rfl⟩ F.entry_tuple_mul (F.args_tuple_mul_2 _ _) (tuple_mulE l its.toArray n dd sl k t c0 c1) ⟨ho, ⟨.ref l, H, I, rfl, q1 hne⟩⟩⟩)
  · by_cases hk : k = 0
    · subst hk
      cases rx
      obtain ⟨t, rfl⟩ := ry
      obtain ⟨its, r, ⟨⟨cls, dd, data, sl⟩, ho, hc, n, hd⟩, hs⟩ := I.tuple hT
      simp only at hc hd
      subst hc hd
      have hle : its.length = xs.length := r.length.symm
      have hn : its ≠ [] := fun e => hne (.inl (by
        rw [e] at hle
        exact List.eq_nil_of_length_eq_zero hle.symm))
      have hi : its.toArray.isEmpty = false := by
        cases its with
        | nil => exact absurd rfl hn
        | cons a b => rfl
      refine wpAny_binaryOp_repeat_ref (T := "tuple") (U := "int") (by decide) ⟨_, ho, rfl⟩ (fun s' => typeIs_int s' 0 t) noFill_tuple_mul F.fills_int_mul F.slot_int_rmul repeat_tuple F.slot_int_index.lookup
        (call_meets F.slot_int_rmul (typeIs_int s 0 t) F.entry_int_rmul (F.args_int_rmul_2 _ _) (int_rmul_tuple 0 t l its.toArray n dd sl)
          ⟨ho, rfl, ⟨_, ho, rfl⟩, call_meets F.slot_tuple_mul ⟨_, ho, rfl⟩ F.entry_tuple_mul (F.args_tuple_mul_2 _ _) (tuple_mulZ l its.toArray n dd sl 0 t (by decide) (by rw [hi]; rfl) (by rfl)) ⟨ho, ?_⟩⟩)
      refine ⟨.ref s.heap.objs.size, _, I.laid (t' := s.toks) (o := .tup []) (fun b ob q => Heap.get?_push_of_some _ q) (Nat.le_refl _) ?_, rfl, q2 hne _ (I.hok.fresh (Nat.le_refl _))⟩
      exact ⟨Nat.zero_le _, [], .nil, IsTup.new _ _⟩
    · exact op_repT pins s σ H _ _ v u Q I rx ry ⟨l, k, xs, rfl, rfl, hT, fun e => hne (.inl e), by
        have : k ≠ 1 := fun e => hne (.inr e)
        omega, h2, hz, q2 hne⟩
theorem of_mul : OpF X (binaryOp .Mult) mulD := by
  intro pins s σ H O x y u w p q d Q I ok rx ry rp rq e c
  cases p <;> cases q <;> first
    | (cases e; done)
    | skip
  · rename_i i j
    have e : (if (smallI i || smallI j) = true then some (D.i (i * j)) else none) = some d := e
    split at e
    · rename_i hk
      cases e
      obtain rfl := rp.int
      obtain rfl := rq.int
      rw [Bool.or_eq_true] at hk
      exact op_mul pins s σ H _ _ u w Q I rx ry ⟨_, _, rfl, rfl, hk.imp (fun z => smallI_ok z) (fun z => smallI_ok z), c _ _ (Same.refl _) (.i _)⟩
    · cases e
  · rename_i xs k
    have e : (if 0 ≤ k ∧ absLe k 1000 = true ∧ xs.length ≤ 1000 then some (D.t (List.replicate k.toNat xs).flatten) else none) = some d := e
    split at e
    · rename_i hk
      have hk2 := absLe_ok hk.2.1
      cases e
      obtain ⟨a, vs, rfl, ha, ra⟩ := rp.tup
      obtain rfl := rq.int
      have l1 := ra.length
      refine op_repA pins s σ H _ _ u w Q I rx ry ⟨a, k, vs, rfl, rfl, ha, hk.1, by omega, by omega, fun z => ?_, fun z p np => c _ _ (same_new np) (Rep.newT ok np (ra.rep k.toNat))⟩
      have e : (List.replicate k.toNat xs).flatten = xs := by
        rcases z with z | z
        · subst z
          have : xs = [] := List.length_eq_zero_iff.mp l1.symm
          subst this
          simp
        · subst z
          simp
      rw [e] at c
      rcases rp with rp | ⟨_, _, _, _, z, _⟩
      · exact c _ _ (Same.refl _) rp
      · cases z
    · cases e
  · rename_i xs k
    have e : (if 0 ≤ k ∧ absLe k 1000000 = true ∧ xs.length * k.toNat ≤ SZ then some (D.l (List.replicate k.toNat xs).flatten) else none) = some d := e
    split at e
    · rename_i hk
      have hk2 := absLe_ok hk.2.1
      cases e
      obtain ⟨a, vs, rfl, ha, ra⟩ := rp.lst
      obtain rfl := rq.int
      have l1 := ra.length
      exact op_rep pins s σ H _ _ u w Q I rx ry ⟨a, k, vs, rfl, rfl, ha, by omega, by omega, by rw [l1, SZ_eq]; exact hk.2.2, fun p np => c _ _ (same_new np) (Rep.newL ok np (ra.rep k.toNat))⟩
    · cases e
end
end PL
/-! PL e: tests, and, or, conditional expressions, displays, subscripts, calls. -/
namespace PL
open PySem PySem.Spec PyProof.Rows L2

/-! ### truth -/
@[simp] def truthD : D → Option Bool
  | .n => some false
  | .b x => some x
  | .i x => some (x != 0)
  | .t xs => some (!xs.isEmpty)
  | .l xs => some (!xs.isEmpty)
  | _ => none
theorem isEmpty_len {α β : Type} {xs : List α} {ys : List β} (h : xs.length = ys.length) : xs.isEmpty = ys.isEmpty := by
  cases xs <;> cases ys <;> first | rfl | (simp at h)
section
variable {K : PySem.W.Frag} {H : Hp} {O : Addr → Prop}
theorem RepB.truth {v : V} {d : D} {b : Bool} (h : RepB K H O v d) (e : truthD d = some b) : TruV K v H b := by
  cases d with
  | n => obtain rfl := h.non; cases e; rfl
  | b x => obtain rfl := h.bl; cases e; rfl
  | i x => obtain rfl := h.int; cases e; rfl
  | t xs =>
    obtain ⟨a, vs, rfl, ha, r⟩ := h.tup
    cases e
    exact .inr (.inl ⟨vs, ha, by rw [isEmpty_len r.length]⟩)
  | l xs =>
    obtain ⟨a, vs, rfl, ha, r⟩ := h.lst
    cases e
    exact .inl ⟨vs, SqL.of ha, by rw [isEmpty_len r.length]⟩
  | _ => cases e
end

@[simp] def cmpI (f : Int → Int → Bool) : D → D → Option D
  | .i x, .i y => some (.b (f x y))
  | _, _ => none
abbrev fLt (i j : Int) : Bool := decide (i < j)
abbrev fLe (i j : Int) : Bool := decide (i ≤ j)
abbrev fGt (i j : Int) : Bool := decide (j < i)
abbrev fGe (i j : Int) : Bool := decide (j ≤ i)
section
variable {X : Cx} {e a b c : Expr} {f g h : EvF} {ft gt : List Cell → Option Bool} {pos : Pos} {rest : List Expr}
theorem of_cmpI {f' : Value → Value → Sem Value} {p : Int → Int → Bool} (ho : OpR X f' (rI0 fun i j => .bl (p i j))) : OpF X f' (cmpI p) := by
  intro pins s σ H O x y u w p q d Q I ok rx ry rp rq e c
  cases p <;> cases q <;> first
    | (cases e; done)
    | skip
  cases e
  obtain rfl := rp.int
  obtain rfl := rq.int
  exact ho pins s σ H _ _ u w Q I rx ry ⟨_, _, rfl, rfl, c _ _ (Same.refl _) (.b _)⟩

/-! ### tests -/
@[simp] def asB (f : EvF) : List Cell → Option Bool := fun env => (f env).bind fun d => match d with
  | .b x => some x
  | _ => none
@[simp] def asT (f : EvF) : List Cell → Option Bool := fun env => (f env).bind truthD
theorem bind_some' {α β : Type} {x : Option α} {f : α → Option β} {b : β} (h : x.bind f = some b) : ∃ a, x = some a ∧ f a = some b := by
  cases x with
  | none => cases h
  | some a => exact ⟨a, rfl, h⟩
theorem asB_some {f : EvF} {env : List Cell} {b : Bool} (h : asB f env = some b) : f env = some (.b b) := by
  obtain ⟨d, h1, h2⟩ := bind_some' h
  cases d with
  | b x => cases h2; exact h1
  | _ => cases h2
theorem dt_truth (ha : DB X a f) (he : ∀ whole, isTrue a X.env whole = (do let v ← whole; standAt a.pos; holding [v] (truthy v))) : DT X a (asT f) := by
  intro σ H O env d Q ok R e c
  obtain ⟨p, e1, e2⟩ := bind_some' e
  refine PTw (pt_truth wE_pe he) ?_
  exact ha σ H O env p _ ok R e1 fun v H' s r => ⟨d, r.truth e2, c H' s⟩
theorem dt_cmp {op : CmpOp} {F : D → D → Option D} (ho : OpF X (compareOp op) F) (ha : DB X a f) (hb : DB X b g) (hm : behindInMarks op b = false) : DT X (.Compare a [op] [b] pos) (asB (bind2 F f g)) := by
  intro σ H O env d Q ok R e c pins s I
  have e1 := asB_some e
  refine wpAny_isTrue_Compare1 (thn (go2 (Q := fun v H' => v = .bl d ∧ Q d H') ho ha hb ok R e1 (fun v H' s' r => ?_) I) fun v s1 h1 => thn h1 fun u s2 h2 => thn h2 fun z s3 h3 => ?_) hm
  · cases r
    exact ⟨rfl, c H' s'⟩
  · obtain ⟨v', H', I', r', rfl, q⟩ := h3
    cases r'
    exact wpAny_truthy_bool ⟨H', I', q⟩
theorem dt_not (ha : DT X a ft) : DT X (.UnaryOp .Not a pos) (fun env => (ft env).map (!·)) := by
  intro σ H O env d Q ok R e c
  cases z : ft env with
  | none =>
    have e : (ft env).map (!·) = some d := e
    rw [z] at e; cases e
  | some x =>
    have e : (ft env).map (!·) = some d := e
    rw [z] at e; cases e
    exact PTw (pt_not wT_pt) (ha σ H O env x _ ok R z fun H' s => c H' s)
@[simp] def andT (f g : List Cell → Option Bool) : List Cell → Option Bool := fun env => (f env).bind fun x => if x = true then g env else some false
@[simp] def orT (f g : List Cell → Option Bool) : List Cell → Option Bool := fun env => (f env).bind fun x => if x = true then some true else g env
theorem dw_and1 (ha : DT X a ft) : DW X (.BoolOp .And [a] pos) ft := fun σ H O env d Q ok R e c => PWw (pw_and1 wT_pt) (ha σ H O env d Q ok R e c)
theorem dw_or1 (ha : DT X a ft) : DW X (.BoolOp .Or [a] pos) ft := fun σ H O env d Q ok R e c => PWw (pw_or1 wT_pt) (ha σ H O env d Q ok R e c)
theorem dw_and (ha : DT X a ft) (hb : DW X (.BoolOp .And (b :: rest) pos) gt) : DW X (.BoolOp .And (a :: b :: rest) pos) (andT ft gt) := by
  intro σ H O env d Q ok R e c
  obtain ⟨x, e1, e2⟩ := bind_some' e
  refine PWw (pw_and wT_pt wW_pw) (ha σ H O env x _ ok R e1 fun H' s => ?_)
  cases x with
  | true => exact iteT (hb σ H' O env d Q (ok.same s) (R.same s) e2 fun H2 s2 => c H2 (s.trans s2))
  | false => cases e2; exact iteF (c H' s)
theorem dw_or (ha : DT X a ft) (hb : DW X (.BoolOp .Or (b :: rest) pos) gt) : DW X (.BoolOp .Or (a :: b :: rest) pos) (orT ft gt) := by
  intro σ H O env d Q ok R e c
  obtain ⟨x, e1, e2⟩ := bind_some' e
  refine PWw (pw_or wT_pt wW_pw) (ha σ H O env x _ ok R e1 fun H' s => ?_)
  cases x with
  | false => exact iteF (hb σ H' O env d Q (ok.same s) (R.same s) e2 fun H2 s2 => c H2 (s.trans s2))
  | true => cases e2; exact iteT (c H' s)
theorem DW.dt (h : DW X a ft) : DT X a ft := fun σ H O env d Q ok R e c => PTw wW_pw.pt (h σ H O env d Q ok R e c)

/-! ### and, or, not as values -/
@[simp] def andV (f g : EvF) : EvF := fun env => (asB f env).bind fun x => if x = true then g env else some (.b false)
@[simp] def orV (f g : EvF) : EvF := fun env => (asB f env).bind fun x => if x = true then some (.b true) else g env
theorem de_one {op} (ha : DE X a f) : DE X (.BoolOp op [a] pos) f := fun σ H O env d Q ok R e c => PEw (pe_one wE_pe) (ha σ H O env d Q ok R e c)
theorem de_and (ha : DE X a f) (hb : DE X (.BoolOp .And (b :: rest) pos) g) : DE X (.BoolOp .And (a :: b :: rest) pos) (andV f g) := by
  intro σ H O env d Q ok R e c
  obtain ⟨x, e1, e2⟩ := bind_some' e
  refine PEw (pe_and wE_pe wE_pe) (ha σ H O env _ _ ok R (asB_some e1) fun v H' s r => ?_)
  cases r
  refine ⟨x, rfl, ?_⟩
  cases x with
  | true => exact iteT (hb σ H' O env d Q (ok.same s) (R.same s) e2 fun v H2 s2 r => c v H2 (s.trans s2) r)
  | false => cases e2; exact iteF (c _ H' s (.b _))
theorem de_or (ha : DE X a f) (hb : DE X (.BoolOp .Or (b :: rest) pos) g) : DE X (.BoolOp .Or (a :: b :: rest) pos) (orV f g) := by
  intro σ H O env d Q ok R e c
  obtain ⟨x, e1, e2⟩ := bind_some' e
  refine PEw (pe_or wE_pe wE_pe) (ha σ H O env _ _ ok R (asB_some e1) fun v H' s r => ?_)
  cases r
  refine ⟨x, rfl, ?_⟩
  cases x with
  | false => exact iteF (hb σ H' O env d Q (ok.same s) (R.same s) e2 fun v H2 s2 r => c v H2 (s.trans s2) r)
  | true => cases e2; exact iteT (c _ H' s (.b _))
theorem de_not (ha : DE X a f) : DE X (.UnaryOp .Not a pos) (fun env => (asB f env).map fun x => .b (!x)) := by
  intro σ H O env d Q ok R e c
  have e : (asB f env).map (fun x => D.b (!x)) = some d := e
  cases z : asB f env with
  | none => rw [z] at e; cases e
  | some x =>
    rw [z] at e; cases e
    refine PEw (pe_not wE_pe) (ha σ H O env _ _ ok R (asB_some z) fun v H' s r => ?_)
    cases r
    exact ⟨x, rfl, c _ H' s (.b _)⟩
theorem de_neg (ha : DE X a f) : DE X (.UnaryOp .USub a pos) (fun env => (f env).bind fun d => match d with
    | .i x => some (.i (-x))
    | _ => none) := by
  intro σ H O env d Q ok R e c
  obtain ⟨p, e1, e2⟩ := bind_some' e
  refine PEw (pe_un un_neg wE_pe) (ha σ H O env p _ ok R e1 fun v H' s r => ?_)
  cases r with
  | i x => cases e2; exact ⟨x, rfl, c _ H' s (.i _)⟩
  | _ => cases e2
@[simp] def iteV (t : List Cell → Option Bool) (f g : EvF) : EvF := fun env => (t env).bind fun x => if x = true then f env else g env
theorem de_ite (hc : DT X c ft) (ha : DE X a f) (hb : DE X b g) : DE X (.IfExp c a b pos) (iteV ft f g) := by
  intro σ H O env d Q ok R e k
  obtain ⟨x, e1, e2⟩ := bind_some' e
  refine PEw (pe_ifExp wT_pt wE_pe wE_pe) (hc σ H O env x _ ok R e1 fun H' s => ?_)
  cases x with
  | true => exact iteT (ha σ H' O env d Q (ok.same s) (R.same s) e2 fun v H2 s2 r => k v H2 (s.trans s2) r)
  | false => exact iteF (hb σ H' O env d Q (ok.same s) (R.same s) e2 fun v H2 s2 r => k v H2 (s.trans s2) r)

/-! ### chains of two int comparisons -/
@[simp] def chainV (p q : Int → Int → Bool) (f g h : EvF) : EvF := fun env => (f env).bind fun x => (g env).bind fun y => match x, y with
  | .i i, .i j => if p i j = true then (h env).bind fun z => (match z with
    | .i k => some (.b (q j k))
    | _ => none) else some (.b false)
  | _, _ => none
theorem chain_go {p q : Int → Int → Bool} (ha : DB X a f) (hb : DB X b g) (hc : DB X c h) {σ : L2.St} {H : Hp} {O : Addr → Prop} {env : List Cell} {d : D} {Q : VK} (ok : OkO H O) (R : RelC X.K H O σ env)
    (e : chainV p q f g h env = some d) (k : ∀ v H', Same H H' → Rep X.K H' O v d → Q v H') :
    tChain (rI0 fun i j => .bl (p i j)) (rI0 fun i j => .bl (q i j)) (wE X a) (wE X b) (wE X c) σ H Q := by
  obtain ⟨x, e1, e'⟩ := bind_some' e
  clear e
  obtain ⟨y, e2, e⟩ := bind_some' e'
  clear e'
  refine ha σ H O env x _ ok R e1 fun v H1 s1 r1 => hb σ H1 O env y _ (ok.same s1) (R.same s1) e2 fun w H2 s2 r2 => ?_
  cases x <;> cases y <;> first
    | (cases e; done)
    | skip
  rename_i i j
  obtain rfl := r1.int
  obtain rfl := r2.int
  refine ⟨i, j, rfl, rfl, p i j, rfl, ?_⟩
  have e : (if p i j = true then (h env).bind (fun z => match z with | .i k => some (D.b (q j k)) | _ => none) else some (D.b false)) = some d := e
  cases z : p i j with
  | false =>
    rw [z] at e
    cases e
    exact iteF (k _ _ (s1.trans s2) (.b _))
  | true =>
    rw [z] at e
    obtain ⟨zz, e3, e4⟩ := bind_some' e
    refine iteT (hc σ H2 O env zz _ ((ok.same s1).same s2) ((R.same s1).same s2) e3 fun u H3 s3 r3 => ?_)
    cases zz <;> first
      | (cases e4; done)
      | skip
    rename_i m
    cases e4
    obtain rfl := r3.int
    exact ⟨j, m, rfl, rfl, k _ _ ((s1.trans s2).trans s3) (.b _)⟩
theorem de_chain {op op' : CmpOp} {p q : Int → Int → Bool} (ho : OpR X (compareOp op) (rI0 fun i j => .bl (p i j))) (ho' : OpR X (compareOp op') (rI0 fun i j => .bl (q i j))) (ha : DB X a f) (hb : DB X b g) (hc : DB X c h)
    (hm : lastMarks [op, op'] [b, c] = false) : DE X (.Compare a [op, op'] [b, c] pos) (chainV p q f g h) :=
  fun σ H O env d Q ok R e k => PEw (pe_chain ho ho' wE_pe wE_pe wE_pe hm) (chain_go ha hb hc ok R e k)
theorem dt_chain {op op' : CmpOp} {p q : Int → Int → Bool} (ho : OpR X (compareOp op) (rI0 fun i j => .bl (p i j))) (ho' : OpR X (compareOp op') (rI0 fun i j => .bl (q i j))) (ha : DB X a f) (hb : DB X b g) (hc : DB X c h)
    (hm : lastMarks [op, op'] [b, c] = false) : DT X (.Compare a [op, op'] [b, c] pos) (asB (chainV p q f g h)) := by
  intro σ H O env d Q ok R e k
  refine PTw (pt_chain ho ho' wE_pe wE_pe wE_pe hm) (chain_go ha hb hc ok R (asB_some e) fun v H' s r => ?_)
  cases r
  exact ⟨d, rfl, k H' s⟩

/-! ### argument lists, displays -/
@[simp] def consL (f : EvF) (g : List Cell → Option (List D)) : List Cell → Option (List D) := fun env => (f env).bind fun x => (g env).bind fun xs => some (x :: xs)
theorem dl_nil : DL X [] (fun _ => some []) := fun σ H O env ds Q ok R e c => PAw pa_nil (by cases e; exact c _ _ (Same.refl _) .nil)
theorem dl_cons {es : List Expr} {g : List Cell → Option (List D)} (ha : DE X e f) (hr : DL X es g) (hs : starEach (e :: es) X.env = (false, eval e X.env) :: starEach es X.env) : DL X (e :: es) (consL f g) := by
  intro σ H O env ds Q ok R z c
  obtain ⟨x, e1, z⟩ := bind_some' z
  obtain ⟨xs, e2, z⟩ := bind_some' z
  cases z
  refine PAw (pa_cons wE_pe wA_pa hs) (ha σ H O env x _ ok R e1 fun v H1 s1 r1 => hr σ H1 O env xs _ (ok.same s1) (R.same s1) e2 fun vs H2 s2 r2 => c _ _ (s1.trans s2) (.cons (r1.same s2) r2))
inductive RepBs (K : PySem.W.Frag) (H : Hp) (O : Addr → Prop) : List V → List D → Prop
  | nil : RepBs K H O [] []
  | cons {v : V} {vs : List V} {d : D} {ds : List D} : RepB K H O v d → RepBs K H O vs ds → RepBs K H O (v :: vs) (d :: ds)
/-- the same, the arguments borrowed -/
def DM (X : Cx) (es : List Expr) (f : List Cell → Option (List D)) : Prop := ∀ (σ : L2.St) (H : Hp) (O : Addr → Prop) (env : List Cell) (ds : List D) (Q : List V → Hp → Prop), OkO H O → RelC X.K H O σ env → f env = some ds →
  (∀ vs H', Same H H' → RepBs X.K H' O vs ds → Q vs H') → wA X es σ H Q
theorem dm_nil : DM X [] (fun _ => some []) := fun σ H O env ds Q ok R e c => PAw pa_nil (by cases e; exact c _ _ (Same.refl _) .nil)
theorem dm_cons {es : List Expr} {g : List Cell → Option (List D)} (ha : DB X e f) (hr : DM X es g) (hs : starEach (e :: es) X.env = (false, eval e X.env) :: starEach es X.env) : DM X (e :: es) (consL f g) := by
  intro σ H O env ds Q ok R z c
  obtain ⟨x, e1, z⟩ := bind_some' z
  obtain ⟨xs, e2, z⟩ := bind_some' z
  cases z
  refine PAw (pa_cons wE_pe wA_pa hs) (ha σ H O env x _ ok R e1 fun v H1 s1 r1 => hr σ H1 O env xs _ (ok.same s1) (R.same s1) e2 fun vs H2 s2 r2 => c _ _ (s1.trans s2) (.cons (r1.same s2) r2))
theorem de_tup {es : List Expr} {k : Nat} {g : List Cell → Option (List D)} (h : DL X es g) : DE X (.Tuple es k pos) (fun env => (g env).bind fun xs => if xs.length ≤ SZ then some (.t xs) else none) := by
  intro σ H O env d Q ok R e c
  obtain ⟨xs, e1, e2⟩ := bind_some' e
  split at e2
  · rename_i hz
    cases e2
    refine PEw (pe_tup wA_pa) (h σ H O env xs _ ok R e1 fun vs H1 s1 r1 => ⟨by rw [r1.length, SZ_eq]; exact hz, fun p np => c _ _ (s1.trans (same_new np)) (Rep.newT (ok.same s1) np r1)⟩)
  · cases e2
/-- a fresh list: what DE says, and that the list is new -/
def DF (X : Cx) (e : Expr) (f : EvF) : Prop := ∀ (σ : L2.St) (H : Hp) (O : Addr → Prop) (env : List Cell) (d : D) (Q : VK), OkO H O → RelC X.K H O σ env → f env = some d →
  (∀ a xs ds H', Same H H' → H a = none → d = .l ds → H' a = some (.lst xs) → RepL X.K H' (fun b => O b ∨ b = a) xs ds → Q (.ref a) H') → wE X e σ H Q
theorem DF.de (h : DF X e f) : DE X e f := fun σ H O env d Q ok R z c => h σ H O env d Q ok R z fun a xs ds H' s na ed ha r => by
  subst ed
  exact c _ _ s (.l ha (fun q => ok a q na) (r.less fun b q => .inl q))
theorem newF {K : PySem.W.Frag} {H1 : Hp} {O : Addr → Prop} {p : Addr} {xs : List V} {ds : List D} (np : H1 p = none) (r : RepL K H1 O xs ds) : RepL K (upd H1 p (.lst xs)) (fun b => O b ∨ b = p) xs ds :=
  (r.mono (O' := fun b => O b ∨ b = p) fun a z => z.elim .inl fun e => .inr (by rw [e]; exact np)).same (same_new np)
end
end PL
/-! PL f: lists made, subscripts, slices, calls of built-ins, of the program's defs. -/
namespace PL
open PySem PySem.Spec PyProof.Rows L2

/-! ### what built-ins give -/
@[simp] def intsD : List D → Option (List Int)
  | [] => some []
  | .i x :: r => (intsD r).map (x :: ·)
  | _ :: _ => none
@[simp] def blsD : List D → Option (List Bool)
  | [] => some []
  | .b x :: r => (blsD r).map (x :: ·)
  | _ :: _ => none
theorem intsD_some : ∀ {ds : List D} {ns : List Int}, intsD ds = some ns → ds = ns.map D.i
  | [], ns, h => by cases h; rfl
  | .i x :: r, ns, h => by
    have h : (intsD r).map (x :: ·) = some ns := h
    cases z : intsD r with
    | none => rw [z] at h; cases h
    | some ms => rw [z] at h; cases h; rw [List.map_cons, intsD_some z]
  | .n :: _, _, h => by cases h
  | .b _ :: _, _, h => by cases h
  | .s _ :: _, _, h => by cases h
  | .t _ :: _, _, h => by cases h
  | .l _ :: _, _, h => by cases h
  | .r _ _ :: _, _, h => by cases h
  | .z _ :: _, _, h => by cases h
theorem blsD_some : ∀ {ds : List D} {ns : List Bool}, blsD ds = some ns → ds = ns.map D.b
  | [], ns, h => by cases h; rfl
  | .b x :: r, ns, h => by
    have h : (blsD r).map (x :: ·) = some ns := h
    cases z : blsD r with
    | none => rw [z] at h; cases h
    | some ms => rw [z] at h; cases h; rw [List.map_cons, blsD_some z]
  | .n :: _, _, h => by cases h
  | .i _ :: _, _, h => by cases h
  | .s _ :: _, _, h => by cases h
  | .t _ :: _, _, h => by cases h
  | .l _ :: _, _, h => by cases h
  | .r _ _ :: _, _, h => by cases h
  | .z _ :: _, _, h => by cases h
@[simp] def ixD : D → D → Option D
  | .l xs, .i k => atI xs k
  | .t xs, .i k => atI xs k
  | .z xs, .i k => atI xs k
  | _, _ => none
@[simp] def lenD : List D → Option D
  | [.l xs] => some (.i xs.length)
  | [.t xs] => some (.i xs.length)
  | [.z xs] => some (.i xs.length)
  | _ => none
@[simp] def intD : List D → Option D
  | [.i x] => some (.i x)
  | [.b x] => some (.i (if x then 1 else 0))
  | _ => none
@[simp] def absD : List D → Option D
  | [.i x] => some (.i (if x < 0 then -x else x))
  | _ => none
/-- the least, the greatest of ints -/
def minL : Int → List Int → Int
  | m, [] => m
  | m, x :: r => minL (if x < m then x else m) r
def maxL : Int → List Int → Int
  | m, [] => m
  | m, x :: r => maxL (if m < x then x else m) r
@[simp] def maxD : List D → Option D
  | [.i x, .i y] => some (.i (if y > x then y else x))
  | [.l xs] => (intsD xs).bind fun ns => match ns with
    | [] => none
    | m :: r => some (.i (maxL m r))
  | _ => none
@[simp] def minD : List D → Option D
  | [.i x, .i y] => some (.i (if y < x then y else x))
  | [.l xs] => (intsD xs).bind fun ns => match ns with
    | [] => none
    | m :: r => some (.i (minL m r))
  | _ => none
@[simp] def sumD : List D → Option D
  | [.l xs] => (intsD xs).map fun ns => .i ns.sum
  | _ => none
@[simp] def anyD : List D → Option D
  | [.l xs] => (blsD xs).map fun bs => .b (bs.any id)
  | _ => none
@[simp] def allD : List D → Option D
  | [.l xs] => (blsD xs).map fun bs => .b (bs.all id)
  | _ => none
@[simp] def tupleD : List D → Option D
  | [.l xs] => some (.t xs)
  | [.t xs] => some (.t xs)
  | _ => none
@[simp] def listD : List D → Option D
  | [.l xs] => some (.l xs)
  | [.t xs] => some (.l xs)
  | _ => none
theorem minL_le : ∀ (r : List Int) (m : Int), minL m r ≤ m ∧ (∀ y ∈ r, minL m r ≤ y) ∧ (minL m r = m ∨ minL m r ∈ r)
  | [], m => ⟨Int.le_refl _, fun _ h => (nomatch h), .inl rfl⟩
  | x :: r, m => by
    obtain ⟨h1, h2, h3⟩ := minL_le r (if x < m then x else m)
    unfold minL
    by_cases h : x < m
    · rw [if_pos h] at h1 h2 h3 ⊢
      refine ⟨by omega, fun y hy => ?_, ?_⟩
      · rcases List.mem_cons.mp hy with e | e
        · omega
        · exact h2 y e
      · rcases h3 with e | e
        · exact .inr (by rw [e]; exact List.mem_cons_self)
        · exact .inr (List.mem_cons_of_mem _ e)
    · rw [if_neg h] at h1 h2 h3 ⊢
      refine ⟨h1, fun y hy => ?_, ?_⟩
      · rcases List.mem_cons.mp hy with e | e
        · omega
        · exact h2 y e
      · rcases h3 with e | e
        · exact .inl e
        · exact .inr (List.mem_cons_of_mem _ e)
theorem maxL_ge : ∀ (r : List Int) (m : Int), m ≤ maxL m r ∧ (∀ y ∈ r, y ≤ maxL m r) ∧ (maxL m r = m ∨ maxL m r ∈ r)
  | [], m => ⟨Int.le_refl _, fun _ h => (nomatch h), .inl rfl⟩
  | x :: r, m => by
    obtain ⟨h1, h2, h3⟩ := maxL_ge r (if m < x then x else m)
    unfold maxL
    by_cases h : m < x
    · rw [if_pos h] at h1 h2 h3 ⊢
      refine ⟨by omega, fun y hy => ?_, ?_⟩
      · rcases List.mem_cons.mp hy with e | e
        · omega
        · exact h2 y e
      · rcases h3 with e | e
        · exact .inr (by rw [e]; exact List.mem_cons_self)
        · exact .inr (List.mem_cons_of_mem _ e)
    · rw [if_neg h] at h1 h2 h3 ⊢
      refine ⟨h1, fun y hy => ?_, ?_⟩
      · rcases List.mem_cons.mp hy with e | e
        · omega
        · exact h2 y e
      · rcases h3 with e | e
        · exact .inl e
        · exact .inr (List.mem_cons_of_mem _ e)

section
variable {X : Cx} {e a b c : Expr} {f g h : EvF} {pos : Pos} {es : List Expr} {fs : List Cell → Option (List D)}

/-! ### [..] -/
theorem df_lst (h : DL X es fs) : DF X (.List es pos) (fun env => (fs env).bind fun xs => if xs.length ≤ SZ then some (.l xs) else none) := by
  intro σ H O env d Q ok R e c
  obtain ⟨xs, e1, e2⟩ := bind_some' e
  split at e2
  · rename_i hz
    cases e2
    refine PEw (pe_lst wA_pa) (h σ H O env xs _ ok R e1 fun vs H1 s1 r1 => ⟨by rw [r1.length, SZ_eq]; exact hz, fun p np => c p vs xs _ (s1.trans (same_new np)) (s1.free np) rfl upd_same (newF np r1)⟩)
  · cases e2

/-! ### a[i] -/
theorem atI_rep {K : PySem.W.Frag} {H : Hp} {O : Addr → Prop} {vs : List V} {ds : List D} {k : Int} {d : D} (r : RepL K H O vs ds) (e : atI ds k = some d) : ∃ v, atI vs k = some v ∧ Rep K H O v d := by
  unfold atI at e ⊢
  rw [r.length]
  cases z : ixN ds.length k with
  | none => rw [z] at e; cases e
  | some j =>
    rw [z] at e
    exact r.get e
theorem de_ix (ha : DB X a f) (hb : DB X b g) (hs : PlainIx b) : DE X (.Subscript a b pos) (bind2 ixD f g) := by
  intro σ H O env d Q ok R e c
  obtain ⟨p, q, e1, e2, e3⟩ := bind2_some e
  refine PEw (pe_ix ix_seq wE_pe wE_pe hs) (ha σ H O env p _ ok R e1 fun v H1 s1 r1 => hb σ H1 O env q _ (ok.same s1) (R.same s1) e2 fun w H2 s2 r2 => ?_)
  cases p <;> cases q <;> first
    | (cases e3; done)
    | skip
  · obtain rfl := r2.int
    obtain ⟨l, xs, rfl, h1, h2⟩ := (r1.same s2).tup
    obtain ⟨v, h3, h4⟩ := atI_rep h2 e3
    exact .inr (.inl ⟨l, xs, _, v, rfl, rfl, h1, h3, c v _ (s1.trans s2) h4⟩)
  · obtain rfl := r2.int
    obtain ⟨l, xs, rfl, h1, h2⟩ := (r1.same s2).lst
    obtain ⟨v, h3, h4⟩ := atI_rep h2 e3
    exact .inl ⟨l, xs, _, v, rfl, rfl, SqL.of h1, h3, c v _ (s1.trans s2) h4⟩
  · obtain rfl := r2.int
    obtain ⟨l, xs, rfl, h1, h2⟩ := (r1.same s2).frz
    obtain ⟨v, h3, h4⟩ := atI_rep h2 e3
    exact .inl ⟨l, xs, _, v, rfl, rfl, h1, h3, c v _ (s1.trans s2) h4⟩

/-! ### a[lo:hi] -/
def cutD (xs : List D) (lo hi : Option Int) : List D := (xs.drop (HT.sIx xs.length 0 lo)).take (HT.sIx xs.length xs.length hi - HT.sIx xs.length 0 lo)
/-- a slice's part -/
def DP' (X : Cx) (e : Option Expr) (f : List Cell → Option (Option Int)) : Prop := ∀ (σ : L2.St) (H : Hp) (O : Addr → Prop) (env : List Cell) (d : Option Int) (Q : Option Int → Hp → Prop), OkO H O → RelC X.K H O σ env → f env = some d →
  (∀ H', Same H H' → Q d H') → ∀ pins s, Inv X pins σ H s → wpAny (model X.prog X.w) X.A (evalPart e X.env) (fun u s' => ∃ o H', Inv X pins σ H' s' ∧ IsPart u o ∧ Q o H') X.xe s
def wO (X : Cx) (e : Option Expr) : TO := fun σ H Q => ∀ pins s, Inv X pins σ H s → wpAny (model X.prog X.w) X.A (evalPart e X.env) (fun u s' => ∃ o H', Inv X pins σ H' s' ∧ IsPart u o ∧ Q o H') X.xe s
theorem wO_po {e : Option Expr} : PO X e (wO X e) := ⟨fun pins s σ H Q I h => h pins s I⟩
theorem dp_none : DP' X none (fun _ => some none) := fun σ H O env d Q ok R e c pins s I => po_none.run pins s σ H Q I (by cases e; exact c _ (Same.refl _))
@[simp] def partV (f : EvF) : List Cell → Option (Option Int) := fun env => (f env).bind fun d => match d with
  | .i x => some (some x)
  | _ => none
theorem dp_some (ha : DE X a f) : DP' X (some a) (partV f) := by
  intro σ H O env d Q ok R e c pins s I
  obtain ⟨p, e1, e2⟩ := bind_some' e
  cases p <;> first
    | (cases e2; done)
    | skip
  rename_i k
  cases e2
  refine (po_some wE_pe).run pins s σ H Q I (ha σ H O env _ _ ok R e1 fun v H1 s1 r1 => ?_)
  cases r1
  exact ⟨k, rfl, c _ s1⟩
@[simp] def sliceV (f : EvF) (l u : List Cell → Option (Option Int)) : EvF := fun env => (f env).bind fun x => (l env).bind fun lo => (u env).bind fun hi => match x with
  | .l xs => some (.l (cutD xs lo hi))
  | .t xs => some (.t (cutD xs lo hi))
  | _ => none
theorem cut_whole {xs : List D} {lo hi : Option Int} (h : HT.sIx xs.length 0 lo = 0 ∧ HT.sIx xs.length xs.length hi = xs.length) : cutD xs lo hi = xs := by
  unfold cutD
  rw [h.1, h.2]
  simp
theorem de_slice {lo hi : Option Expr} {l u : List Cell → Option (Option Int)} {p2 : Pos} (ha : DB X a f) (hl : DP' X lo l) (hu : DP' X hi u) : DE X (.Subscript a (.Slice lo hi none p2) pos) (sliceV f l u) := by
  intro σ H O env d Q ok R e c
  obtain ⟨x, e1, e'⟩ := bind_some' e
  clear e
  obtain ⟨lo', e2, e⟩ := bind_some' e'
  clear e'
  obtain ⟨hi', e3, e'⟩ := bind_some' e
  clear e
  refine PEw (pe_slice (sl_list.or sl_tupA) wE_pe wO_po wO_po) (ha σ H O env x _ ok R e1 fun v H1 s1 r1 => ?_)
  refine hl σ H1 O env lo' _ (ok.same s1) (R.same s1) e2 fun H2 s2 => hu σ H2 O env hi' _ ((ok.same s1).same s2) ((R.same s1).same s2) e3 fun H3 s3 => ?_
  have r := (r1.same s2).same s3
  have ss := (s1.trans s2).trans s3
  have ok3 := ok.same ss
  cases x <;> first
    | (cases e'; done)
    | skip
  · cases e'
    obtain ⟨q, vs, rfl, h1, h2⟩ := r.tup
    refine .inr ⟨q, vs, rfl, h1, fun hw => ?_, fun _ p np => ?_⟩
    · rw [h2.length] at hw
      rw [cut_whole hw] at c
      rcases r with r | ⟨_, _, _, _, z, _⟩
      · exact c _ _ ss r
      · cases z
    · refine c _ _ (ss.trans (same_new np)) (Rep.newT ok3 np ?_)
      unfold cutV cutD
      rw [h2.length]
      exact (h2.drop _).take _
  · cases e'
    obtain ⟨q, vs, rfl, h1, h2⟩ := r.lst
    refine .inl ⟨q, vs, rfl, SqL.of h1, fun p np => ?_⟩
    refine c _ _ (ss.trans (same_new np)) (Rep.newL ok3 np ?_)
    unfold cutV cutD
    rw [h2.length]
    exact (h2.drop _).take _

/-! ### calls of built-ins -/
/-- a call of a built-in, on data -/
def CallF (X : Cx) (fv : Value) (F : List D → Option D) : Prop := ∀ (pins : List (Addr × Obj)) (s : Shared) (σ : L2.St) (H : Hp) (O : Addr → Prop) (xs : List V) (us : List Value) (ds : List D) (d : D) (Q : VK), Inv X pins σ H s → OkO H O → Vals xs us → RepBs X.K H O xs ds →
  F ds = some d → (∀ v H', Same H H' → Rep X.K H' O v d → Q v H') → wpAny (model X.prog X.w) X.A (call fv us) (EP X pins σ Q) X.xe s
def rCan (X : Cx) (fv : Value) : List V → Hp → VK → Prop := fun xs H Q => ∀ (pins : List (Addr × Obj)) (s : Shared) (σ : L2.St) (us : List Value), Inv X pins σ H s → Vals xs us → wpAny (model X.prog X.w) X.A (call fv us) (EP X pins σ Q) X.xe s
theorem can_ok {fv : Value} : CallR X fv (rCan X fv) := fun pins s σ H xs us Q I r h => h pins s σ us I r
@[simp] def callV (F : List D → Option D) (fs : List Cell → Option (List D)) : EvF := fun env => (fs env).bind F
theorem de_callB {x : Str} {p : Pos} {id : String} {F : List D → Option D} (hc : CallF X (.builtin id) F) (hg : Gl X x) (hm : X.mg x = none) (hv : bootBuiltins x = some (.builtin id)) (ha : DM X (e :: es) fs) (hn : x ≠ "__name__") (hdb : (x == ("__debug__" : Str)) = false)
    (he : starEach (e :: es) X.env = (false, eval e X.env) :: starEach es X.env) (hpl : (backTo pos (starEach es X.env)).any (·.1) = false) : DE X (.Call (.Name x p) (e :: es) [] pos) (callV F fs) := by
  intro σ H O env d Q ok R z c
  obtain ⟨ds, e1, e2⟩ := bind_some' z
  exact PEw (pe_callB can_ok hg hm hv wA_pa hn hdb he hpl) (ha σ H O env ds _ ok R e1 fun vs H1 s1 r1 => fun pins s σ us I r => hc pins s σ H1 O vs us ds d Q I (ok.same s1) r r1 e2 fun v H' k q => c v H' (s1.trans k) q)
theorem de_callTy {x : Str} {p : Pos} {T : String} {F : List D → Option D} (hc : CallF X (.type T) F) (hg : Gl X x) (hm : X.mg x = none) (hv : bootBuiltins x = some (.type T)) (ha : DM X (e :: es) fs) (hn : x ≠ "__name__") (hdb : (x == ("__debug__" : Str)) = false)
    (he : starEach (e :: es) X.env = (false, eval e X.env) :: starEach es X.env) (hpl : (backTo pos (starEach es X.env)).any (·.1) = false) : DE X (.Call (.Name x p) (e :: es) [] pos) (callV F fs) := by
  intro σ H O env d Q ok R z c
  obtain ⟨ds, e1, e2⟩ := bind_some' z
  exact PEw (pe_callTy can_ok hg hm hv wA_pa hn hdb he hpl) (ha σ H O env ds _ ok R e1 fun vs H1 s1 r1 => fun pins s σ us I r => hc pins s σ H1 O vs us ds d Q I (ok.same s1) r r1 e2 fun v H' k q => c v H' (s1.trans k) q)
/-- from a rule of the layer -/
theorem CallF.of {fv : Value} {r : List V → Hp → VK → Prop} {F : List D → Option D} (hc : CallR X fv r) (hd : ∀ (H : Hp) (O : Addr → Prop) (xs : List V) (ds : List D) (d : D) (Q : VK), OkO H O → RepBs X.K H O xs ds → F ds = some d → (∀ v H', Same H H' → Rep X.K H' O v d → Q v H') → r xs H Q) : CallF X fv F :=
  fun pins s σ H O xs us ds d Q I ok rv rb e c => hc pins s σ H xs us Q I rv (hd H O xs ds d Q ok rb e c)
theorem repB1 {K : PySem.W.Frag} {H : Hp} {O : Addr → Prop} {xs : List V} {d : D} (h : RepBs K H O xs [d]) : ∃ v, xs = [v] ∧ RepB K H O v d := by
  cases h with
  | cons a r => cases r; exact ⟨_, rfl, a⟩
theorem repB2 {K : PySem.W.Frag} {H : Hp} {O : Addr → Prop} {xs : List V} {d d' : D} (h : RepBs K H O xs [d, d']) : ∃ v w, xs = [v, w] ∧ RepB K H O v d ∧ RepB K H O w d' := by
  cases h with
  | cons a r =>
    obtain ⟨w, e, q⟩ := repB1 r
    subst e
    exact ⟨_, w, rfl, a, q⟩
theorem cf_len : CallF X (.builtin "len") lenD := .of call_len_seq fun H O xs ds d Q ok rb e c => by
  unfold lenD at e
  split at e <;> first
    | (cases e; done)
    | skip
  all_goals
    obtain ⟨v, rfl, r⟩ := repB1 rb
    cases e
  · obtain ⟨a, vs, rfl, h1, h2⟩ := r.lst
    exact ⟨a, vs, rfl, .inl (SqL.of h1), by rw [h2.length]; exact c _ _ (Same.refl _) (.i _)⟩
  · obtain ⟨a, vs, rfl, h1, h2⟩ := r.tup
    exact ⟨a, vs, rfl, .inr h1, by rw [h2.length]; exact c _ _ (Same.refl _) (.i _)⟩
  · obtain ⟨a, vs, rfl, h1, h2⟩ := r.frz
    exact ⟨a, vs, rfl, .inl h1, by rw [h2.length]; exact c _ _ (Same.refl _) (.i _)⟩
theorem cf_int : CallF X (.type "int") intD := .of call_int1 fun H O xs ds d Q ok rb e c => by
  unfold intD at e
  split at e <;> first
    | (cases e; done)
    | skip
  all_goals
    obtain ⟨v, rfl, r⟩ := repB1 rb
    cases e
  · obtain rfl := r.int
    exact .inl ⟨_, rfl, c _ _ (Same.refl _) (.i _)⟩
  · obtain rfl := r.bl
    exact .inr ⟨_, rfl, c _ _ (Same.refl _) (.i _)⟩
theorem cf_abs : CallF X (.builtin "abs") absD := .of call_abs fun H O xs ds d Q ok rb e c => by
  unfold absD at e
  split at e <;> first
    | (cases e; done)
    | skip
  obtain ⟨v, rfl, r⟩ := repB1 rb
  cases e
  obtain rfl := r.int
  exact ⟨_, rfl, c _ _ (Same.refl _) (.i _)⟩
theorem lst_ints {K : PySem.W.Frag} {H : Hp} {O : Addr → Prop} {v : V} {xs : List D} {ns : List Int} (r : RepB K H O v (.l xs)) (e : intsD xs = some ns) : ∃ a, v = .ref a ∧ SqL K H a (ns.map V.int) := by
  obtain ⟨a, vs, rfl, h1, h2⟩ := r.lst
  have e2 := intsD_some e
  subst e2
  rw [h2.ints] at h1
  exact ⟨a, rfl, SqL.of h1⟩
theorem lst_bls {K : PySem.W.Frag} {H : Hp} {O : Addr → Prop} {v : V} {xs : List D} {ns : List Bool} (r : RepB K H O v (.l xs)) (e : blsD xs = some ns) : ∃ a, v = .ref a ∧ SqL K H a (ns.map V.bl) := by
  obtain ⟨a, vs, rfl, h1, h2⟩ := r.lst
  have e2 := blsD_some e
  subst e2
  rw [h2.bls] at h1
  exact ⟨a, rfl, SqL.of h1⟩
theorem cf_max (hc : X.calm = true) : CallF X (.builtin "max") maxD := .of ((call_max2 hc).or (cr_max hc)) fun H O xs ds d Q ok rb e c => by
  unfold maxD at e
  split at e <;> first
    | (cases e; done)
    | skip
  · obtain ⟨v, w, rfl, r1, r2⟩ := repB2 rb
    cases e
    obtain rfl := r1.int
    obtain rfl := r2.int
    exact .inl ⟨_, _, rfl, c _ _ (Same.refl _) (.i _)⟩
  · obtain ⟨v, rfl, r⟩ := repB1 rb
    obtain ⟨ns, e1, e2⟩ := bind_some' e
    obtain ⟨a, rfl, h⟩ := lst_ints r e1
    cases ns with
    | nil => cases e2
    | cons m t =>
      cases e2
      obtain ⟨g1, g2, g3⟩ := maxL_ge t m
      refine .inr ⟨a, m :: t, rfl, h, by simp, fun z hz hmax => ?_⟩
      have e : z = maxL m t := by
        have b1 : z ≤ maxL m t := by
          rcases List.mem_cons.mp hz with q | q
          · omega
          · exact g2 z q
        have b2 : maxL m t ≤ z := hmax _ (by
          rcases g3 with q | q
          · rw [q]; exact List.mem_cons_self
          · exact List.mem_cons_of_mem _ q)
        omega
      rw [e]
      exact c _ _ (Same.refl _) (.i _)
theorem cf_min (hc : X.calm = true) : CallF X (.builtin "min") minD := .of ((call_min2 hc).or (cr_min hc)) fun H O xs ds d Q ok rb e c => by
  unfold minD at e
  split at e <;> first
    | (cases e; done)
    | skip
  · obtain ⟨v, w, rfl, r1, r2⟩ := repB2 rb
    cases e
    obtain rfl := r1.int
    obtain rfl := r2.int
    exact .inl ⟨_, _, rfl, c _ _ (Same.refl _) (.i _)⟩
  · obtain ⟨v, rfl, r⟩ := repB1 rb
    obtain ⟨ns, e1, e2⟩ := bind_some' e
    obtain ⟨a, rfl, h⟩ := lst_ints r e1
    cases ns with
    | nil => cases e2
    | cons m t =>
      cases e2
      obtain ⟨g1, g2, g3⟩ := minL_le t m
      refine .inr ⟨a, m :: t, rfl, h, by simp, fun z hz hmin => ?_⟩
      have e : z = minL m t := by
        have b1 : minL m t ≤ z := by
          rcases List.mem_cons.mp hz with q | q
          · omega
          · exact g2 z q
        have b2 : z ≤ minL m t := hmin _ (by
          rcases g3 with q | q
          · rw [q]; exact List.mem_cons_self
          · exact List.mem_cons_of_mem _ q)
        omega
      rw [e]
      exact c _ _ (Same.refl _) (.i _)
theorem map_some' {α β : Type} {x : Option α} {f : α → β} {b : β} (h : x.map f = some b) : ∃ a, x = some a ∧ f a = b := by
  cases x with
  | none => cases h
  | some a => cases h; exact ⟨a, rfl, rfl⟩
theorem cf_sum (hc : X.calm = true) : CallF X (.builtin "sum") sumD := .of (cr_sum hc) fun H O xs ds d Q ok rb e c => by
  unfold sumD at e
  split at e <;> first
    | (cases e; done)
    | skip
  obtain ⟨v, rfl, r⟩ := repB1 rb
  obtain ⟨ns, e1, e2⟩ := map_some' e
  obtain ⟨a, rfl, h⟩ := lst_ints r e1
  subst e2
  exact ⟨a, ns, rfl, h, c _ _ (Same.refl _) (.i _)⟩
theorem cf_any (hc : X.calm = true) : CallF X (.builtin "any") anyD := .of (cr_any hc) fun H O xs ds d Q ok rb e c => by
  unfold anyD at e
  split at e <;> first
    | (cases e; done)
    | skip
  obtain ⟨v, rfl, r⟩ := repB1 rb
  obtain ⟨ns, e1, e2⟩ := map_some' e
  obtain ⟨a, rfl, h⟩ := lst_bls r e1
  subst e2
  exact ⟨a, ns, rfl, h, c _ _ (Same.refl _) (.b _)⟩
theorem cf_all (hc : X.calm = true) : CallF X (.builtin "all") allD := .of (cr_all hc) fun H O xs ds d Q ok rb e c => by
  unfold allD at e
  split at e <;> first
    | (cases e; done)
    | skip
  obtain ⟨v, rfl, r⟩ := repB1 rb
  obtain ⟨ns, e1, e2⟩ := map_some' e
  obtain ⟨a, rfl, h⟩ := lst_bls r e1
  subst e2
  exact ⟨a, ns, rfl, h, c _ _ (Same.refl _) (.b _)⟩
theorem cf_tuple : CallF X (.type "tuple") tupleD := .of call_tuple_of fun H O xs ds d Q ok rb e c => by
  unfold tupleD at e
  split at e <;> first
    | (cases e; done)
    | skip
  all_goals
    obtain ⟨v, rfl, r⟩ := repB1 rb
    cases e
  · obtain ⟨a, vs, rfl, h1, h2⟩ := r.lst
    exact ⟨a, vs, rfl, .inl ⟨SqL.of h1, fun p np => c _ _ (same_new np) (Rep.newT ok np h2)⟩⟩
  · obtain ⟨a, vs, rfl, h1, h2⟩ := r.tup
    refine ⟨a, vs, rfl, .inr ⟨h1, ?_⟩⟩
    rcases r with r | ⟨_, _, _, _, z, _⟩
    · exact c _ _ (Same.refl _) r
    · cases z

/-! ### list(x), fresh -/
def CallN (X : Cx) (fv : Value) (F : List D → Option D) : Prop := ∀ (pins : List (Addr × Obj)) (s : Shared) (σ : L2.St) (H : Hp) (O : Addr → Prop) (xs : List V) (us : List Value) (ds : List D) (d : D) (Q : VK), Inv X pins σ H s → OkO H O → Vals xs us → RepBs X.K H O xs ds →
  F ds = some d → (∀ a vs es H', Same H H' → H a = none → d = .l es → H' a = some (.lst vs) → RepL X.K H' (fun b => O b ∨ b = a) vs es → Q (.ref a) H') → wpAny (model X.prog X.w) X.A (call fv us) (EP X pins σ Q) X.xe s
theorem df_callTy {x : Str} {p : Pos} {T : String} {F : List D → Option D} (hc : CallN X (.type T) F) (hg : Gl X x) (hm : X.mg x = none) (hv : bootBuiltins x = some (.type T)) (ha : DM X (e :: es) fs) (hn : x ≠ "__name__") (hdb : (x == ("__debug__" : Str)) = false)
    (he : starEach (e :: es) X.env = (false, eval e X.env) :: starEach es X.env) (hpl : (backTo pos (starEach es X.env)).any (·.1) = false) : DF X (.Call (.Name x p) (e :: es) [] pos) (callV F fs) := by
  intro σ H O env d Q ok R z c
  obtain ⟨ds, e1, e2⟩ := bind_some' z
  exact PEw (pe_callTy can_ok hg hm hv wA_pa hn hdb he hpl) (ha σ H O env ds _ ok R e1 fun vs H1 s1 r1 => fun pins s σ us I r => hc pins s σ H1 O vs us ds d Q I (ok.same s1) r r1 e2 fun a xs es H' k na ed ha q => c a xs es H' (s1.trans k) (s1.free na) ed ha q)
theorem df_callB {x : Str} {p : Pos} {id : String} {F : List D → Option D} (hc : CallN X (.builtin id) F) (hg : Gl X x) (hm : X.mg x = none) (hv : bootBuiltins x = some (.builtin id)) (ha : DM X (e :: es) fs) (hn : x ≠ "__name__") (hdb : (x == ("__debug__" : Str)) = false)
    (he : starEach (e :: es) X.env = (false, eval e X.env) :: starEach es X.env) (hpl : (backTo pos (starEach es X.env)).any (·.1) = false) : DF X (.Call (.Name x p) (e :: es) [] pos) (callV F fs) := by
  intro σ H O env d Q ok R z c
  obtain ⟨ds, e1, e2⟩ := bind_some' z
  exact PEw (pe_callB can_ok hg hm hv wA_pa hn hdb he hpl) (ha σ H O env ds _ ok R e1 fun vs H1 s1 r1 => fun pins s σ us I r => hc pins s σ H1 O vs us ds d Q I (ok.same s1) r r1 e2 fun a xs es H' k na ed ha q => c a xs es H' (s1.trans k) (s1.free na) ed ha q)
theorem cn_list : CallN X (.type "list") listD := by
  intro pins s σ H O xs us ds d Q I ok rv rb e c
  unfold listD at e
  split at e <;> first
    | (cases e; done)
    | skip
  all_goals
    obtain ⟨v, rfl, r⟩ := repB1 rb
    cases e
  · obtain ⟨a, vs, rfl, h1, h2⟩ := r.lst
    exact call_list_of pins s σ H _ us Q I rv ⟨a, vs, rfl, .inl (SqL.of h1), fun p np => c p vs _ _ (same_new np) np rfl upd_same (newF np h2)⟩
  · obtain ⟨a, vs, rfl, h1, h2⟩ := r.tup
    exact call_list_of pins s σ H _ us Q I rv ⟨a, vs, rfl, .inr h1, fun p np => c p vs _ _ (same_new np) np rfl upd_same (newF np h2)⟩

/-! ### a call of a def -/
/-- what a def promises: on data, whatever F gives -/
def spD (K : PySem.W.Frag) (n : Nat) (F : List D → Option D) : Sp := fun vs H Q _ => vs.length = n ∧ ∃ (ds : List D) (d : D) (O : Addr → Prop), OkO H O ∧ RepL K H O vs ds ∧ F ds = some d ∧ ∀ v H', Same H H' → Rep K H' O v d → Q v H'
theorem de_call {x : Str} {p : Pos} {k : Nat} {fa : Addr} {fd : FuncData} {ps : List Str} {F : List D → Option D} {n : Nat} (G : FnOk X.prog X.w X.K X.mg X.base CX0 k fa fd ps (spD X.K n F)) (hr : Room k X.A) (hg : Gl X x) (hm : X.mg x = some (.ref fa)) (hk : PySem.W.keepIn X.K (.ref fa) = true)
    (hb : Binds X.K fd ps []) (ha : DL X (e :: es) fs) (hn : (e :: es).length = n) (hdb : (x == ("__debug__" : Str)) = false) (hl : ∀ env ds, fs env = some ds → ds.length = n)
    (he : starEach (e :: es) X.env = (false, eval e X.env) :: starEach es X.env) (hpl : (backTo pos (starEach es X.env)).any (·.1) = false) : DE X (.Call (.Name x p) (e :: es) [] pos) (callV F fs) := by
  intro σ H O env d Q ok R z c
  obtain ⟨ds, e1, e2⟩ := bind_some' z
  refine PEw (pe_call G hr hg hm hk hb .nil pass0 wA_pa hdb he hpl) (ha σ H O env ds _ ok R e1 fun vs H1 s1 r1 => ?_)
  show spD X.K n F (vs ++ []) H1 Q E0
  rw [List.append_nil]
  exact ⟨by rw [r1.length]; exact hl env ds e1, ds, d, O, ok.same s1, r1, e2, fun v H' k q => c v H' (s1.trans k) q⟩
end
end PL
/-! PL g: isinstance; targets; what is walked; comprehensions. -/
namespace PL
open PySem PySem.Spec PyProof.Rows L2

/-! ### isinstance -/
inductive Ty5 where
  | int | str | bool | tuple | list
def Ty5.name : Ty5 → String
  | .int => "int" | .str => "str" | .bool => "bool" | .tuple => "tuple" | .list => "list"
@[simp] def kindD : D → Option String
  | .n => some "NoneType"
  | .b _ => some "bool"
  | .i _ => some "int"
  | .s _ => some "str"
  | .t _ => some "tuple"
  | .l _ => some "list"
  | _ => none
@[simp] def isTy : D → Ty5 → Option Bool
  | .n, _ => some false
  | .b _, .int => some true
  | .b _, .bool => some true
  | .b _, _ => some false
  | .i _, .int => some true
  | .i _, _ => some false
  | .s _, .str => some true
  | .s _, _ => some false
  | .t _, .tuple => some true
  | .t _, _ => some false
  | .l _, .list => some true
  | .l _, _ => some false
  | _, _ => none
@[simp] def isTys (d : D) : List Ty5 → Option Bool
  | [] => (kindD d).map fun _ => false
  | t :: r => (isTy d t).bind fun x => (isTys d r).map fun y => x || y
theorem kit_tab : ∀ t : Ty5, kitB "NoneType" t.name = some false ∧ kitB "bool" t.name = some (match t with | .int => true | .bool => true | _ => false) ∧ kitB "int" t.name = some (match t with | .int => true | _ => false) ∧
    kitB "str" t.name = some (match t with | .str => true | _ => false) ∧ kitB "tuple" t.name = some (match t with | .tuple => true | _ => false) ∧ kitB "list" t.name = some (match t with | .list => true | _ => false)
  | .int => by decide +kernel
  | .str => by decide +kernel
  | .bool => by decide +kernel
  | .tuple => by decide +kernel
  | .list => by decide +kernel
theorem isTy_kit {d : D} {t : Ty5} {b : Bool} (h : isTy d t = some b) : ∃ k, kindD d = some k ∧ kitB k t.name = some b := by
  obtain ⟨h1, h2, h3, h4, h5, h6⟩ := kit_tab t
  cases d <;> cases t <;> first
    | (cases h; done)
    | (cases h; exact ⟨_, rfl, h1⟩)
    | (cases h; exact ⟨_, rfl, h2⟩)
    | (cases h; exact ⟨_, rfl, h3⟩)
    | (cases h; exact ⟨_, rfl, h4⟩)
    | (cases h; exact ⟨_, rfl, h5⟩)
    | (cases h; exact ⟨_, rfl, h6⟩)
theorem isTys_kit {K : PySem.W.Frag} {d : D} {k : String} (hk : kindD d = some k) : ∀ {ts : List Ty5} {b : Bool}, isTys d ts = some b → PySem.W.kitAny K (.type k) (ts.map fun t => Value.type t.name) = some b
  | [], b, h => by
    unfold isTys at h
    rw [hk] at h
    cases h
    exact kitAny_nil
  | t :: r, b, h => by
    unfold isTys at h
    obtain ⟨x, h1, h2⟩ := bind_some' h
    obtain ⟨y, h3, h4⟩ := map_some' h2
    subst h4
    obtain ⟨k', e1, e2⟩ := isTy_kit h1
    rw [hk] at e1
    cases e1
    have ih := isTys_kit (K := K) hk h3
    cases x with
    | true => exact kitAny_cons (b := true) (kit_ty e2) (fun z => nomatch z) (fun _ => by simp)
    | false => exact kitAny_cons (b := false) (kit_ty e2) (fun _ => by simpa using ih) (fun z => nomatch z)
theorem RepB.ty {K : PySem.W.Frag} {H : Hp} {O : Addr → Prop} {v : V} {d : D} {k : String} (h : RepB K H O v d) (e : kindD d = some k) : TyX K H v (.type k) := by
  cases d with
  | n => obtain rfl := h.non; cases e; exact .base .non
  | b x => obtain rfl := h.bl; cases e; exact .base (.bl _)
  | i x => obtain rfl := h.int; cases e; exact .base (.int _)
  | s x => obtain rfl := h.str; cases e; exact .base (.str _)
  | t xs =>
    obtain ⟨a, vs, rfl, ha, r⟩ := h.tup
    cases e
    rcases ha with (ha | ⟨o, ha⟩) | ⟨o, its, n, e1, e2, _⟩
    · exact .base (.tup ha)
    · exact .fTuple ha
    · exact .kTuple e1 e2
  | l xs =>
    obtain ⟨a, vs, rfl, ha, r⟩ := h.lst
    cases e
    exact .base (.lst ha)
  | _ => cases e
section
variable {X : Cx} {e a b c : Expr} {f g h : EvF} {pos : Pos} {es : List Expr} {fs : List Cell → Option (List D)}
@[simp] def instV (ts : List Ty5) (f : EvF) : EvF := fun env => (f env).bind fun d => (isTys d ts).map .b
theorem pe_tyname {x : Str} {T : Ty5} {p : Pos} (hg : Gl X x) (hm : X.mg x = none) (hv : bootBuiltins x = some (.type T.name)) (hn : x ≠ "__name__") (hd : (x == ("__debug__" : Str)) = false) : PE X (.Name x p) (tC (.ty T.name)) := pe_bltn hg hm hv rfl hn hd
/-- isinstance(a, T) -/
theorem de_inst1 {x y : Str} {T : Ty5} {p p2 : Pos} (hg : Gl X x) (hm : X.mg x = none) (hx : bootBuiltins x = some (.builtin "isinstance")) (hn : x ≠ "__name__") (hdb : (x == ("__debug__" : Str)) = false)
    (hg2 : Gl X y) (hm2 : X.mg y = none) (hy : bootBuiltins y = some (.type T.name)) (hn2 : y ≠ "__name__") (hdb2 : (y == ("__debug__" : Str)) = false) (ha : DB X a f)
    (he : starEach [a, .Name y p2] X.env = (false, eval a X.env) :: starEach [.Name y p2] X.env) : DE X (.Call (.Name x p) [a, .Name y p2] [] pos) (instV [T] f) := by
  intro σ H O env d Q ok R z c
  obtain ⟨q, e1, e2⟩ := bind_some' z
  obtain ⟨b, e3, e4⟩ := map_some' e2
  subst e4
  refine PEw (pe_callB call_isi hg hm hx (pa_cons wE_pe (pa_cons (pe_tyname hg2 hm2 hy hn2 hdb2) pa_nil) he) hn hdb he rfl) (ha σ H O env q _ ok R e1 fun v H1 s1 r1 => ?_)
  have e3' : ((isTy q T).bind fun x => ((kindD q).map fun _ => false).map fun y => x || y) = some b := e3
  obtain ⟨x', g1, g2⟩ := bind_some' e3'
  obtain ⟨y', g3, g4⟩ := map_some' g2
  obtain ⟨kd, g5, g6⟩ := map_some' g3
  subst g6 g4
  obtain ⟨k, k1, k2⟩ := isTy_kit g1
  rw [Bool.or_false] at c
  exact ⟨v, _, _, _, x', rfl, .ty _, r1.ty k1, kit_ty k2, c _ _ s1 (.b _)⟩
/-- isinstance(a, (T, U)) -/
theorem de_inst2 {x y z : Str} {T U : Ty5} {p p2 p3 p4 : Pos} {k : Nat} (hg : Gl X x) (hm : X.mg x = none) (hx : bootBuiltins x = some (.builtin "isinstance")) (hn : x ≠ "__name__") (hdb : (x == ("__debug__" : Str)) = false)
    (hg2 : Gl X y) (hm2 : X.mg y = none) (hy : bootBuiltins y = some (.type T.name)) (hn2 : y ≠ "__name__") (hdb2 : (y == ("__debug__" : Str)) = false)
    (hg3 : Gl X z) (hm3 : X.mg z = none) (hz : bootBuiltins z = some (.type U.name)) (hn3 : z ≠ "__name__") (hdb3 : (z == ("__debug__" : Str)) = false) (ha : DB X a f)
    (he : starEach [a, .Tuple [.Name y p2, .Name z p3] k p4] X.env = (false, eval a X.env) :: starEach [.Tuple [.Name y p2, .Name z p3] k p4] X.env) : DE X (.Call (.Name x p) [a, .Tuple [.Name y p2, .Name z p3] k p4] [] pos) (instV [T, U] f) := by
  intro σ H O env d Q ok R w c
  obtain ⟨q, e1, e2⟩ := bind_some' w
  obtain ⟨b, e3, e4⟩ := map_some' e2
  subst e4
  refine PEw (pe_callB call_isiT hg hm hx (pa_cons wE_pe (pa_cons (pe_tup (pa_cons (pe_tyname hg2 hm2 hy hn2 hdb2) (pa_cons (pe_tyname hg3 hm3 hz hn3 hdb3) pa_nil))) pa_nil) he) hn hdb he rfl) (ha σ H O env q _ ok R e1 fun v H1 s1 r1 => ?_)
  have hk : ∃ k, kindD q = some k := by
    have e3' := e3
    unfold isTys at e3'
    obtain ⟨x', g1, g2⟩ := bind_some' e3'
    obtain ⟨k, g3, _⟩ := isTy_kit g1
    exact ⟨k, g3⟩
  obtain ⟨kd, hk⟩ := hk
  refine ⟨by show 2 ≤ sizeLine; decide, fun t nt => ?_⟩
  have r2 := r1.same (same_new (o := .tup [.ty T.name, .ty U.name]) nt)
  exact ⟨v, t, _, _, _, b, rfl, upd_same, .cons (.ty _) (.cons (.ty _) .nil), r2.ty hk, isTys_kit hk e3, c _ _ (s1.trans (same_new nt)) (.b _)⟩
end

/-! ### targets -/
inductive Tg where
  | nm (i : Nat)
  | tp (ts : List Tg)
mutual
@[simp] def Tg.slots : Tg → List Nat
  | .nm i => [i]
  | .tp ts => Tg.slotsL ts
@[simp] def Tg.slotsL : List Tg → List Nat
  | [] => []
  | t :: r => t.slots ++ Tg.slotsL r
end
mutual
def bindT : Tg → D → List Cell → Option (List Cell)
  | .nm i, d, env => some (env.set i (.v d))
  | .tp ts, .t ds, env => bindTs ts ds env
  | .tp _, _, _ => none
def bindTs : List Tg → List D → List Cell → Option (List Cell)
  | [], [], env => some env
  | t :: ts, d :: ds, env => (bindT t d env).bind (bindTs ts ds)
  | _, _, _ => none
end
@[simp] theorem bindT_nm (i : Nat) (d : D) (env : List Cell) : bindT (.nm i) d env = some (env.set i (.v d)) := by rw [bindT]
@[simp] theorem bindT_tp (ts : List Tg) (ds : List D) (env : List Cell) : bindT (.tp ts) (.t ds) env = bindTs ts ds env := by rw [bindT]
@[simp] theorem bindTs_nil (env : List Cell) : bindTs [] [] env = some env := by rw [bindTs]
@[simp] theorem bindTs_cons (t : Tg) (ts : List Tg) (d : D) (ds : List D) (env : List Cell) : bindTs (t :: ts) (d :: ds) env = (bindT t d env).bind (bindTs ts ds) := by rw [bindTs]
/-- what σ' has of σ: all but these slots -/
def Off (vs : List Nat) (σ σ' : L2.St) : Prop := σ'.length = σ.length ∧ ∀ j, j ∉ vs → σ'[j]? = σ[j]?
theorem Off.refl {vs : List Nat} {σ : L2.St} : Off vs σ σ := ⟨rfl, fun _ _ => rfl⟩
theorem Off.trans {vs : List Nat} {σ σ1 σ2 : L2.St} (a : Off vs σ σ1) (b : Off vs σ1 σ2) : Off vs σ σ2 := ⟨b.1.trans a.1, fun j h => (b.2 j h).trans (a.2 j h)⟩
theorem Off.mono {vs ws : List Nat} {σ σ1 : L2.St} (a : Off vs σ σ1) (h : ∀ i ∈ vs, i ∈ ws) : Off ws σ σ1 := ⟨a.1, fun j q => a.2 j fun z => q (h j z)⟩
theorem Off.set {i : Nat} {σ : L2.St} {v : Option V} : Off [i] σ (σ.set i v) := ⟨List.length_set .., fun j h => List.getElem?_set_ne (by
  intro e
  exact h (by rw [e]; exact List.mem_cons_self))⟩
theorem wipe_get (σ : L2.St) : ∀ (vs : List Nat) (j : Nat), (wipe σ vs)[j]? = if j ∈ vs then (if j < σ.length then some none else none) else σ[j]?
  | [], j => by simp [wipe]
  | v :: vs, j => by
    unfold wipe
    by_cases h : v = j
    · subst h
      rw [if_pos List.mem_cons_self]
      by_cases hl : v < σ.length
      · rw [List.getElem?_set_self (by rw [wipe_length]; exact hl), if_pos hl]
      · rw [List.getElem?_eq_none (by rw [List.length_set, wipe_length]; omega), if_neg hl]
    · rw [List.getElem?_set_ne h, wipe_get σ vs j]
      by_cases hj : j ∈ vs
      · rw [if_pos hj, if_pos (List.mem_cons_of_mem _ hj)]
      · rw [if_neg hj, if_neg (by
          intro z
          rcases List.mem_cons.mp z with e | e
          · exact h e.symm
          · exact hj e)]
theorem wipe_off {σ σ' : L2.St} {vs : List Nat} (h : Off vs (wipe σ vs) σ') : wipe σ' vs = wipe σ vs := by
  refine List.ext_getElem? fun j => ?_
  have hl : σ'.length = σ.length := by rw [h.1, wipe_length]
  rw [wipe_get σ' vs j]
  by_cases hj : j ∈ vs
  · rw [if_pos hj, wipe_get σ vs j, if_pos hj, hl]
  · rw [if_neg hj, h.2 j hj]
@[simp] def wipeC (env : List Cell) : List Nat → List Cell
  | [] => env
  | v :: vs => (wipeC env vs).set v .no
theorem wipeC_length (env : List Cell) : ∀ vs, (wipeC env vs).length = env.length
  | [] => rfl
  | v :: vs => by unfold wipeC; rw [List.length_set, wipeC_length env vs]
section
variable {K : PySem.W.Frag} {H H' : Hp} {O : Addr → Prop} {σ : L2.St} {env : List Cell}
theorem RelC.set {i : Nat} {v : V} {d : D} (h : RelC K H O σ env) (r : Rep K H O v d) : RelC K H O (σ.set i (some v)) (env.set i (.v d)) := ⟨by rw [List.length_set, List.length_set]; exact h.1, fun j c e => by
  have hl := h.1
  by_cases hj : i = j
  · subst hj
    rw [List.getElem?_set] at e
    rw [if_pos rfl] at e
    split at e
    · rename_i hi
      cases e
      exact ⟨v, by rw [List.getElem?_set_self (by omega)], r⟩
    · cases e
  · rw [List.getElem?_set_ne hj] at e
    rw [List.getElem?_set_ne hj]
    exact h.2 j c e⟩
theorem RelC.wipe (h : RelC K H O σ env) : ∀ vs : List Nat, RelC K H O (wipe σ vs) (wipeC env vs)
  | [] => h
  | v :: vs => ⟨by rw [wipeC_length, wipe_length]; exact h.1, fun j c e => by
    unfold wipeC at e
    unfold L2.wipe
    by_cases hj : v = j
    · subst hj
      rw [List.getElem?_set] at e
      rw [if_pos rfl] at e
      split at e
      · cases e; trivial
      · cases e
    · rw [List.getElem?_set_ne hj] at e
      rw [List.getElem?_set_ne hj]
      exact (RelC.wipe h vs).2 j c e⟩
end
section
variable {X : Cx}
def wG (X : Cx) (tg : Expr) : TG := fun v σ H Q => ∀ (pins : List (Addr × Obj)) (s : Shared) (u : Value), Inv X pins σ H s → RelV v u → wpAny (model X.prog X.w) X.A (assign tg X.env u) (fun _ s' => ∃ σ' H', Inv X pins σ' H' s' ∧ Q σ' H') X.xe s
def wGs (X : Cx) (ts : List Expr) : TGs := fun vs σ H Q => ∀ (pins : List (Addr × Obj)) (s : Shared) (us : List Value), Inv X pins σ H s → Vals vs us → wpAny (model X.prog X.w) X.A (assignInOrder ((assignEach ts X.env).map (·.2)) us) (fun _ s' => ∃ σ' H', Inv X pins σ' H' s' ∧ Q σ' H') X.xe s
theorem wG_pg {tg : Expr} : PG X tg (wG X tg) := ⟨fun pins s σ H v u Q I r h => h pins s u I r⟩
theorem wGs_pgs {ts : List Expr} : PGs X ts (wGs X ts) := ⟨fun pins s σ H vs us Q I r h => h pins s us I r⟩
theorem PGw {tg : Expr} {g : TG} (h : PG X tg g) {v : V} {σ : L2.St} {H : Hp} {Q : L2.St → Hp → Prop} (q : g v σ H Q) : wG X tg v σ H Q := fun pins s u I r => h.run pins s σ H v u Q I r q
theorem PGsw {ts : List Expr} {g : TGs} (h : PGs X ts g) {vs : List V} {σ : L2.St} {H : Hp} {Q : L2.St → Hp → Prop} (q : g vs σ H Q) : wGs X ts vs σ H Q := fun pins s us I r => h.run pins s σ H vs us Q I r q
/-- a target takes a datum -/
def DG (X : Cx) (tg : Expr) (t : Tg) : Prop := ∀ (v : V) (d : D) (σ : L2.St) (H : Hp) (O : Addr → Prop) (env env' : List Cell) (Q : L2.St → Hp → Prop), RelC X.K H O σ env → Rep X.K H O v d → bindT t d env = some env' →
  (∀ σ', RelC X.K H O σ' env' → Off t.slots σ σ' → Q σ' H) → wG X tg v σ H Q
def DGs (X : Cx) (ts : List Expr) (tt : List Tg) : Prop := ∀ (vs : List V) (ds : List D) (σ : L2.St) (H : Hp) (O : Addr → Prop) (env env' : List Cell) (Q : L2.St → Hp → Prop), RelC X.K H O σ env → RepL X.K H O vs ds → bindTs tt ds env = some env' →
  (∀ σ', RelC X.K H O σ' env' → Off (Tg.slotsL tt) σ σ' → Q σ' H) → wGs X ts vs σ H Q
theorem dg_name {i : Nat} {x : Str} {pos : Pos} (hN : X.N.Nodup) (hi : X.N[i]? = some x) (hx : Loc X.env.scope x) (hf : X.fn x = true ∨ X.env.scope.names.lookup x = some .local) : DG X (.Name x pos) (.nm i) := by
  intro v d σ H O env env' Q R r e c
  refine PGw (pg_name hN hi hx hf) ?_
  rw [bindT] at e
  cases e
  exact c _ (R.set r) (by rw [Tg.slots]; exact Off.set)
theorem dgs_nil : DGs X [] [] := fun vs ds σ H O env env' Q R r e c => PGsw pgs_nil (by
  cases r with
  | nil => rw [bindTs] at e; cases e; exact ⟨rfl, c _ R Off.refl⟩
  | cons a r => rw [bindTs] at e <;> first | (cases e; done) | (intros; simp_all))
theorem dgs_cons {e : Expr} {es : List Expr} {t : Tg} {ts : List Tg} (h1 : DG X e t) (h2 : DGs X es ts) (hs : (assignEach (e :: es) X.env).map (·.2) = assign e X.env :: (assignEach es X.env).map (·.2)) : DGs X (e :: es) (t :: ts) := by
  intro vs ds σ H O env env' Q R r z c
  refine PGsw (pgs_cons wG_pg wGs_pgs hs) ?_
  cases r with
  | nil => rw [bindTs] at z <;> first | (cases z; done) | (intros; simp_all)
  | cons a r =>
    rw [bindTs] at z
    obtain ⟨env1, z1, z2⟩ := bind_some' z
    refine ⟨_, _, rfl, h1 _ _ σ H O env env1 _ R a z1 fun σ1 R1 o1 => h2 _ _ σ1 H O env1 env' _ R1 r z2 fun σ2 R2 o2 => c σ2 R2 ?_⟩
    rw [Tg.slotsL]
    exact (o1.mono fun i hi => List.mem_append_left _ hi).trans (o2.mono fun i hi => List.mem_append_right _ hi)
theorem bindTs_length : ∀ {ts : List Tg} {ds : List D} {env env' : List Cell}, bindTs ts ds env = some env' → ds.length = ts.length
  | [], [], _, _, _ => rfl
  | [], _ :: _, _, _, h => by rw [bindTs] at h <;> first | (cases h; done) | (intros; simp_all)
  | _ :: _, [], _, _, h => by rw [bindTs] at h <;> first | (cases h; done) | (intros; simp_all)
  | t :: ts, d :: ds, _, _, h => by
    rw [bindTs] at h
    obtain ⟨e1, _, h2⟩ := bind_some' h
    rw [List.length_cons, List.length_cons, bindTs_length h2]
theorem dg_tup {es : List Expr} {ts : List Tg} {k : Nat} {pos : Pos} (hc : X.calm = true) (h : DGs X es ts) (hn : (assignEach es X.env).length = ts.length) (hst : (assignEach es X.env).findIdx? (·.1) = none) : DG X (.Tuple es k pos) (.tp ts) := by
  intro v d σ H O env env' Q R r e c
  refine PGw (pg_tup hc (wGs_pgs (ts := es)) hn hst) ?_
  cases d <;> first
    | (rw [bindT] at e <;> first | (cases e; done) | (intros; simp_all; done))
    | skip
  rename_i ds
  rw [bindT] at e
  obtain ⟨a, vs, rfl, h1, h2⟩ := (RepB.tup (.inl r) : ∃ a xs, v = .ref a ∧ SqT X.K H a xs ∧ RepL X.K H O xs ds)
  exact ⟨a, vs, rfl, h1, by rw [h2.length, bindTs_length e], h vs ds σ H O env env' Q R h2 e fun σ' R' o => c σ' R' (by rw [Tg.slots]; exact o)⟩
end
end PL
/-! PL h: what is walked: lists and tuples alone, in enumerate, in zip. -/
namespace PL
open PySem PySem.Spec PyProof.Rows L2

/-! ### lists and tuples alike (kd: a tuple) -/
def SqA (K : PySem.W.Frag) (H : Hp) (kd : Bool) (a : Addr) (xs : List V) : Prop := (kd = false ∧ SqL K H a xs) ∨ (kd = true ∧ SqT K H a xs)
def ItA (h : Heap) (kd : Bool) (it a : Addr) (i : Nat) : Prop := (kd = false ∧ h.IsListIter it a i) ∨ (kd = true ∧ h.IsTupleIter it a i)
theorem ItA.obj {h : Heap} {kd : Bool} {it a : Addr} {i : Nat} (x : ItA h kd it a i) : ∃ o, h.get? it = some o ∧ ∀ v, o.data ≠ .cell v := by
  rcases x with ⟨_, o, e, _, d⟩ | ⟨_, o, e, _, d⟩ <;> exact ⟨o, e, fun v z => by rw [d] at z; cases z⟩
theorem ItA.keep {h h' : Heap} {kd : Bool} {it a : Addr} {i : Nat} (x : ItA h kd it a i) (k : ∀ o, h.get? it = some o → h'.get? it = some o) : ItA h' kd it a i := by
  rcases x with ⟨e, x⟩ | ⟨e, x⟩
  · exact .inl ⟨e, x.at fun o q => k o q⟩
  · exact .inr ⟨e, x.at fun o q => k o q⟩
section
variable {X : Cx} {pins : List (Addr × Obj)} {σ : L2.St} {H : Hp} {s : Shared}
theorem SqA.inj {kd : Bool} {a : Addr} {xs ys : List V} (I : Inv X pins σ H s) (h : SqA X.K H kd a xs) (h' : SqA X.K H kd a ys) : xs = ys := by
  rcases h with ⟨e, h⟩ | ⟨e, h⟩ <;> rcases h' with ⟨e', h'⟩ | ⟨e', h'⟩
  · exact I.list_inj h h'
  · rw [e] at e'; cases e'
  · rw [e] at e'; cases e'
  · exact I.tuple_inj h h'
/-- its iterator draws the items -/
theorem SqA.draws {prog : Program} {w : World} {A : Around} {kd : Bool} {a it : Addr} {xs : List V} {i : Nat} (I : Inv X pins σ H s) (h : SqA X.K H kd a xs) (st : ItA s.heap kd it a i) (hne : a ≠ it) (hh : A.handled = none) :
    ∃ (its : List Value) (St : Nat → Heap → Prop), Vals xs its ∧ Draws prog w A it [it, a] its.toArray.size (fun i v => its.toArray[i]? = some v) St ∧ St i s.heap ∧ ∀ j h, St j h → ItA h kd it a j := by
  rcases h with ⟨e, h⟩ | ⟨e, h⟩
  · obtain ⟨its, rv, p, _⟩ := I.list h
    have st' : s.heap.IsListIter it a i := by
      rcases st with ⟨_, x⟩ | ⟨e', x⟩
      · exact x
      · rw [e] at e'; cases e'
    exact ⟨its, _, rv, Draws.list hh it a hne its.toArray, ⟨st', p.isList⟩, fun j h x => .inl ⟨e, x.1⟩⟩
  · obtain ⟨its, rv, p, _⟩ := I.tuple h
    have st' : s.heap.IsTupleIter it a i := by
      rcases st with ⟨e', x⟩ | ⟨_, x⟩
      · rw [e] at e'; cases e'
      · exact x
    exact ⟨its, _, rv, Draws.tuple hh it a hne its.toArray, ⟨st', p⟩, fun j h x => .inr ⟨e, x.1⟩⟩
def itObj (kd : Bool) (a : Addr) : Obj := { cls := .type (if kd = true then "tuple_iterator" else "list_iterator"), data := .fields #[.ref a, .int 0 0] }
/-- iter of it -/
theorem SqA.begins {kd : Bool} {a : Addr} {xs : List V} (I : Inv X pins σ H s) (h : SqA X.K H kd a xs) : ∃ P : Heap → Prop, Begins (.ref a) (itObj kd a) P ∧ P s.heap ∧ a < s.heap.objs.size := by
  rcases h with ⟨e, h⟩ | ⟨e, h⟩
  · obtain ⟨its, rv, p, _⟩ := I.list h
    subst e
    exact ⟨_, begins_list a its.toArray, p.isList, p.lt⟩
  · obtain ⟨its, rv, p, _⟩ := I.tuple h
    subst e
    exact ⟨_, begins_tuple a its.toArray, p, by obtain ⟨o, e, _⟩ := p; exact Heap.lt_size e⟩
theorem itObj.at {h : Heap} {kd : Bool} {it a : Addr} (e : h.get? it = some (itObj kd a)) : ItA h kd it a 0 := by
  cases kd
  · exact .inl ⟨rfl, _, e, rfl, rfl⟩
  · exact .inr ⟨rfl, _, e, rfl, rfl⟩
end

/-! ### enumerate -/
theorem vals_at {xs : List V} {its : List Value} {i : Nat} {u : Value} (r : Vals xs its) (h : its.toArray[i]? = some u) : ∃ x, xs[i]? = some x ∧ RelV x u := by
  have h : its[i]? = some u := by simpa using h
  have hl : i < xs.length := by
    rw [r.length]
    exact (List.getElem?_eq_some_iff.mp h).1
  obtain ⟨u', h1, h2⟩ := r.get (List.getElem?_eq_getElem hl)
  rw [h] at h1
  cases h1
  exact ⟨_, List.getElem?_eq_getElem hl, h2⟩
def IteA (K : PySem.W.Frag) (kd : Bool) (a : Addr) : It :=
  ⟨fun i H => ∃ (xs : List V) (x : V), SqA K H kd a xs ∧ xs[i]? = some x, fun i H v H' => ∃ T x, v = .ref T ∧ H T = none ∧ H' = upd H T (.tup [.int (i : Nat), x]) ∧ ∀ xs, SqA K H kd a xs → xs[i]? = some x, fun i H => ∃ xs : List V, SqA K H kd a xs ∧ xs.length = i⟩
theorem turn_enumA {P : Program} {w : World} {K : PySem.W.Frag} {elts : List Expr} {kk : Nat} {tpos : Pos} (kd : Bool) (a e it : Addr) (hei : e ≠ it) (hai : a ≠ it) (hae : e ≠ a) :
    Turn P w K (.Tuple elts kk tpos) (IteA K kd a) [e, it] e (fun i h => (∃ old, IsEnum h e it ((i : Nat) : Int) old) ∧ ItA h kd it a i) where
  mem := by simp
  obj := fun i h st b hb => by
    obtain ⟨⟨old, he⟩, hit⟩ := st
    have e' : b = e ∨ b = it := by simpa using hb
    rcases e' with z | z
    · rw [z]; exact ⟨_, he, fun v q => nomatch q⟩
    · rw [z]; exact hit.obj
  keep := fun i h h' st k => let ⟨⟨old, he⟩, hi⟩ := st; ⟨⟨old, k e (by simp) _ he⟩, hi.keep fun o q => k it (by simp) o q⟩
  item := by
    intro X hP hw hK hc i pins s σ H E I hf st hg
    subst hP hw hK
    obtain ⟨⟨old, he⟩, hit⟩ := st
    obtain ⟨xs, x, hq, hx⟩ := hg
    obtain ⟨its, St, rv, D, st, back⟩ := hq.draws (prog := X.prog) (w := X.w) (A := X.A.in1) I hit hai (I.ok.hd hc)
    have hlt : i < its.toArray.size := by
      rw [List.size_toArray, ← rv.length]
      exact (List.getElem?_eq_some_iff.mp hx).1
    have hel : e < s.heap.objs.size := Heap.lt_size he
    have hil : it < s.heap.objs.size := by obtain ⟨_, q, _⟩ := hit.obj; exact Heap.lt_size q
    refine wpAny_pyNext_enum_itemC D he st hlt hei (by simp [hei, hae]) fun u h' tk hu ho hit' hT hsz hk => ?_
    obtain ⟨x', hx', ru⟩ := vals_at rv hu
    rw [hx] at hx'
    cases hx'
    refine ⟨_, rfl, wpAny_letOwnedTupleGo_enum (s := { s with heap := h', toks := tk + 1 }) ho fun h'' he' sb => ?_⟩
    have hT2 : h''.get? s.heap.objs.size = some { cls := .type "tuple", data := .seq #[.int i tk, u] } := (sb.2 _ (Nat.ne_of_gt hel)).trans hT
    have new : ObjOk X.prog X.w (upd H s.heap.objs.size (.tup [.int (i : Nat), x])) h'' s.heap.objs.size (.tup [.int (i : Nat), x]) :=
      ⟨by show 2 ≤ sizeLine; decide, [.int i tk, u], .cons ⟨_, rfl⟩ (.cons ru .nil), ⟨_, hT2, rfl, _, rfl⟩⟩
    have I1 : Inv X pins σ (upd H s.heap.objs.size (.tup [.int (i : Nat), x])) { s with heap := h'', toks := tk + 1 } :=
      I.turnedNew (ch := [e, it]) (fun b ob hb q => (sb.2 b (fun z => hb (by simp [z]))).trans (hk b ob (fun z => hb (by simp [z])) (fun z => hb (by simp [z])) q)) hf (Nat.le_refl _) new
    refine ⟨.ref s.heap.objs.size, _, I1, rfl, ⟨_, x, rfl, I.hok.fresh (Nat.le_refl _), rfl, fun ys hy => by rw [SqA.inj I hy hq]; exact hx⟩, ⟨⟨u, ?_⟩, (back _ _ hit').keep fun o q => (sb.2 it (Ne.symm hei)).trans q⟩, fun b hb => ?_⟩
    · have e1 : ((i + 1 : Nat) : Int) = (i : Int) + 1 := by omega
      rw [e1]; exact he'
    · have hb' : b < s.heap.objs.size := by
        have e' : b = e ∨ b = it := by simpa using hb
        rcases e' with z | z
        · rw [z]; exact hel
        · rw [z]; exact hil
      rw [upd_ne (Nat.ne_of_lt hb')]
      exact (hf b hb).1
  done := by
    intro X hP hw hK hc i pins s σ H E I hf st hg
    subst hP hw hK
    obtain ⟨⟨old, he⟩, hit⟩ := st
    obtain ⟨xs, hq, hx⟩ := hg
    obtain ⟨its, St, rv, D, st, back⟩ := hq.draws (prog := X.prog) (w := X.w) (A := X.A.in1) I hit hai (I.ok.hd hc)
    obtain ⟨f0, f1, f2, f3, f4, f5⟩ := hf it (by simp)
    have e1 : i = its.toArray.size := by rw [List.size_toArray, ← rv.length]; exact hx.symm
    rw [e1] at st
    exact wpAny_pyNext_enum_endD D he st fun h' eb => ⟨rfl, I.turned (t' := s.toks) (fun b o hb q => eb b o hb q) f0 f1 f3 f4 f5⟩
  self := fun A i s Q E st h => let ⟨⟨_, he⟩, _⟩ := st; wpAny_pyIter_enum he h

set_option maxHeartbeats 1000000 in
theorem meets_enum1 {v : Value} {o : Obj} {H : Heap → Prop} (B : Begins v o H) :
    Meets (Builtin.«enumerate.__new__» ⟨[.type "enumerate", v], []⟩) (fun _ R s => H s.heap ∧
      R (.ok (.ret (.ref (s.heap.push o).objs.size))) { s with heap := (s.heap.push o).push { cls := .type "enumerate", data := .fields #[.none, .bool false, .ref s.heap.objs.size, rawInt 0, .none, .none] } }) :=
  .of_wp fun prog w A R s h => by
    obtain ⟨hp, g, d, tk, os⟩ := s; obtain ⟨h1, h⟩ := h
    have hsub := sub_enumerate
    have q1 : ∀ {A' : Around} {E : Value → Shared → Prop} {Q : Value → Shared → Prop}, Q (.ref hp.objs.size) ⟨hp.push o, g, d, tk, os⟩ → wpAny (model prog w) A' (pyIter v) Q E ⟨hp, g, d, tk, os⟩ :=
      fun q => B.iter prog w _ _ ⟨hp, g, d, tk, os⟩ _ h1 q
    wp_walk using q1
    refine wpAny_stack_any fun st => wpAny_pure ?_
    split
    · rename_i c _ _ _ _ _
      cases (c == Value.type "enumerate")
      · wp_walk using q1
        exact ⟨_, rfl, h⟩
      · wp_walk using q1
        exact ⟨_, rfl, h⟩
    · wp_walk using q1
      exact ⟨_, rfl, h⟩
theorem call_enum1 {prog : Program} {w : World} {A : Around} {E : Value → Shared → Prop} {s : Shared} {v : Value} {o : Obj} {H : Heap → Prop} {Q : Value → Shared → Prop} (B : Begins v o H) (h1 : H s.heap)
    (h : ∀ h', IsEnum h' (s.heap.objs.size + 1) s.heap.objs.size 0 .none → h'.get? s.heap.objs.size = some o → (∀ b o, s.heap.get? b = some o → h'.get? b = some o) → Q (.ref (s.heap.objs.size + 1)) { s with heap := h' }) :
    wpAny (model prog w) A (call (.type "enumerate") [v]) Q E s := by
  refine callType_new F.called_enumerate (by decide) (F.typeCall_enumerate_1 _) (F.newCall_enumerate_1 _) (fun obj => F.args_object_init_2 obj _) F.entry_enumerate_new
    (meets_enum1 B) ⟨h1, ?_⟩
  have hz : (s.heap.push o).objs.size = s.heap.objs.size + 1 := Heap.size_push ..
  show _ ∧ _
  rw [hz]
  have he : IsEnum ((s.heap.push o).push { cls := .type "enumerate", data := .fields #[.none, .bool false, .ref s.heap.objs.size, rawInt 0, .none, .none] }) (s.heap.objs.size + 1) s.heap.objs.size 0 .none := by
    have := Heap.get?_push_size (s.heap.push o) (o := { cls := .type "enumerate", data := .fields #[.none, .bool false, .ref s.heap.objs.size, rawInt 0, .none, .none] }) rfl
    rw [hz] at this; exact this
  exact ⟨⟨_, he, rfl⟩, h _ he (Heap.get?_push_of_some _ (Heap.get?_push_size _ B.free)) fun b o x => Heap.get?_push_of_some _ (Heap.get?_push_of_some _ x)⟩
def iEnumA (K : PySem.W.Frag) (ta : TA) : TI := fun σ H R => ta σ H fun vs H1 => ∃ kd a xs, vs = [.ref a] ∧ SqA K H1 kd a xs ∧ R (IteA K kd a) H1
theorem pi_enumA {X : Cx} {e : Expr} {ta : TA} {p pos tpos : Pos} {elts : List Expr} {kk : Nat} (hg : Gl X "enumerate") (hm : X.mg "enumerate" = none) (ha : PA X [e] ta) (hs : starEach [e] X.env = [(false, eval e X.env)]) :
    PI X (.Tuple elts kk tpos) (.Call (.Name "enumerate" p) [e] [] pos) (iEnumA X.K ta) := by
  refine ⟨fun pins s σ H R I h => ?_⟩
  refine Call_ (ld_blt I hg hm boot_enumerate (PyProof.Rows.callWith_type1 (thn (ha.run pos pins s σ H _ I h) fun us s1 ⟨vs, H1, I1, r1, q1⟩ => ?_) hs rfl))
  obtain ⟨kd, a, xs, ex, hq, q⟩ := q1
  subst ex
  cases r1 with
  | cons r rr =>
    cases rr
    cases r
    obtain ⟨P, B, p1, lt⟩ := hq.begins I1
    refine call_enum1 B p1 fun h' he hit hk => wpAny_pyIter_enum he ?_
    have I2 : Inv X pins σ H1 { s1 with heap := h' } := I1.kept (t' := s1.toks) hk
    refine ⟨s1.heap.objs.size + 1, [s1.heap.objs.size + 1, s1.heap.objs.size], _, _, H1, rfl, I2, turn_enumA kd a (s1.heap.objs.size + 1) s1.heap.objs.size (Nat.succ_ne_self _) (Nat.ne_of_lt lt) (Nat.ne_of_gt (Nat.lt_succ_of_lt lt)), ⟨⟨.none, he⟩, itObj.at hit⟩, fun b hb => ?_, q⟩
    have e' : b = s1.heap.objs.size + 1 ∨ b = s1.heap.objs.size := by simpa using hb
    have hle : s1.heap.objs.size ≤ b := by
      rcases e' with z | z
      · rw [z]; exact Nat.le_add_right _ _
      · rw [z]; exact Nat.le_refl _
    exact I1.fpOk hle (I1.hok.fresh hle)

/-! ### zip -/
def ItzA (K : PySem.W.Frag) (kd : Bool) (a : Addr) (kd' : Bool) (b : Addr) : It :=
  ⟨fun i H => ∃ (xs ys : List V) (x y : V), SqA K H kd a xs ∧ SqA K H kd' b ys ∧ xs[i]? = some x ∧ ys[i]? = some y,
    fun i H v H' => ∃ T x y, v = .ref T ∧ H T = none ∧ H' = upd H T (.tup [x, y]) ∧ (∀ xs, SqA K H kd a xs → xs[i]? = some x) ∧ ∀ ys, SqA K H kd' b ys → ys[i]? = some y,
    fun i H => ∃ xs ys : List V, SqA K H kd a xs ∧ SqA K H kd' b ys ∧ i = min xs.length ys.length⟩
theorem turn_zipAA {P : Program} {w : World} {K : PySem.W.Frag} {elts : List Expr} {kk : Nat} {tpos : Pos} {kd kd' : Bool} {a b z TI TO i1 i2 : Addr} (S : ZipSep2 z TI TO i1 i2 [i1, a] [i2, b]) (n1 : a ≠ i1) (n2 : b ≠ i2) :
    Turn P w K (.Tuple elts kk tpos) (ItzA K kd a kd' b) [z, TI, TO, i1, i2] z (fun i h => IsZip h z TI TO .none ∧ IsTupOf2 h TI (.ref i1) (.ref i2) ∧ (∃ x y, IsTupOf2 h TO x y) ∧ ItA h kd i1 a i ∧ ItA h kd' i2 b i) where
  mem := by simp
  obj := fun i h st c hc => by
    obtain ⟨hz, hTI, ⟨x, y, hTO⟩, h1, h2⟩ := st
    have e' : c = z ∨ c = TI ∨ c = TO ∨ c = i1 ∨ c = i2 := by simpa using hc
    rcases e' with q | q | q | q | q
    · rw [q]; exact ⟨_, hz, fun v q => nomatch q⟩
    · rw [q]; exact ⟨_, hTI, fun v q => nomatch q⟩
    · rw [q]; exact ⟨_, hTO, fun v q => nomatch q⟩
    · rw [q]; exact h1.obj
    · rw [q]; exact h2.obj
  keep := fun i h h' st k => by
    obtain ⟨hz, hTI, ⟨x, y, hTO⟩, h1, h2⟩ := st
    exact ⟨k z (by simp) _ hz, k TI (by simp) _ hTI, ⟨x, y, k TO (by simp) _ hTO⟩, h1.keep fun o q => k i1 (by simp) o q, h2.keep fun o q => k i2 (by simp) o q⟩
  item := by
    intro X hP hw hK hc i pins s σ H E I hf st hg
    subst hP hw hK
    obtain ⟨hz, hTI, ⟨x0, y0, hTO⟩, h1, h2⟩ := st
    obtain ⟨xs, ys, x, y, hqx, hqy, hx, hy⟩ := hg
    obtain ⟨its, St, rv, D, st, back⟩ := hqx.draws (prog := X.prog) (w := X.w) (A := X.A.in1) I h1 n1 (I.ok.hd hc)
    obtain ⟨its2, St2, rv2, D2, st2, back2⟩ := hqy.draws (prog := X.prog) (w := X.w) (A := X.A.in1) I h2 n2 (I.ok.hd hc)
    have hlt : i < its.toArray.size := by
      rw [List.size_toArray, ← rv.length]
      exact (List.getElem?_eq_some_iff.mp hx).1
    have hlt2 : i < its2.toArray.size := by
      rw [List.size_toArray, ← rv2.length]
      exact (List.getElem?_eq_some_iff.mp hy).1
    have hzl : z < s.heap.objs.size := Heap.lt_size hz
    refine wpAny_pyNext_zipD2_item S D D2 hz hTI hTO st st2 hlt hlt2 fun u u2 h' tk hu hu2 z' TO' h1' h2' hT hsz hk => ?_
    obtain ⟨x', hx', ru⟩ := vals_at rv hu
    rw [hx] at hx'
    cases hx'
    obtain ⟨y', hy', ru2⟩ := vals_at rv2 hu2
    rw [hy] at hy'
    cases hy'
    refine ⟨_, rfl, wpAny_letOwnedTupleGo_zip (s := { s with heap := h', toks := tk }) z' fun h'' z'' sb => ?_⟩
    have hT2 : h''.get? s.heap.objs.size = some { cls := .type "tuple", data := .seq #[u, u2] } := (sb.2 _ (Nat.ne_of_gt hzl)).trans hT
    have new : ObjOk X.prog X.w (upd H s.heap.objs.size (.tup [x, y])) h'' s.heap.objs.size (.tup [x, y]) :=
      ⟨by show 2 ≤ sizeLine; decide, [u, u2], .cons ru (.cons ru2 .nil), ⟨_, hT2, rfl, _, rfl⟩⟩
    have I1 : Inv X pins σ (upd H s.heap.objs.size (.tup [x, y])) { s with heap := h'', toks := tk } :=
      I.turnedNew (ch := [z, TI, TO, i1, i2]) (fun c o hb q => (sb.2 c (fun q' => hb (by simp [q']))).trans (hk c o (fun q' => hb (by simp [q'])) (fun q' => hb (by simp [q'])) (fun q' => hb (by simp [q'])) (fun q' => hb (by simp [q'])) q)) hf (Nat.le_refl _) new
    refine ⟨.ref s.heap.objs.size, _, I1, rfl, ⟨_, x, y, rfl, I.hok.fresh (Nat.le_refl _), rfl, fun l hl => by rw [SqA.inj I hl hqx]; exact hx, fun l hl => by rw [SqA.inj I hl hqy]; exact hy⟩, ⟨z'', ?_, ⟨u, u2, ?_⟩, ?_, ?_⟩, fun c hcm => ?_⟩
    · exact (sb.2 _ S.TIz).trans (hk _ _ S.TIz S.TITO S.TIi1 S.TIi2 hTI)
    · exact (sb.2 _ S.TOz).trans TO'
    · exact (back _ _ h1').keep fun o q => (sb.2 _ (Ne.symm S.zi1)).trans q
    · exact (back2 _ _ h2').keep fun o q => (sb.2 _ (Ne.symm S.zi2)).trans q
    · have hlt : c < s.heap.objs.size := by
        have e' : c = z ∨ c = TI ∨ c = TO ∨ c = i1 ∨ c = i2 := by simpa using hcm
        rcases e' with q | q | q | q | q
        · rw [q]; exact hzl
        · rw [q]; exact Heap.lt_size hTI
        · rw [q]; exact Heap.lt_size hTO
        · rw [q]; obtain ⟨_, e1, _⟩ := h1.obj; exact Heap.lt_size e1
        · rw [q]; obtain ⟨_, e2, _⟩ := h2.obj; exact Heap.lt_size e2
      rw [upd_ne (Nat.ne_of_lt hlt)]
      exact (hf c hcm).1
  done := by
    intro X hP hw hK hc i pins s σ H E I hf st hg
    subst hP hw hK
    obtain ⟨hz, hTI, ⟨x0, y0, hTO⟩, h1, h2⟩ := st
    obtain ⟨xs, ys, hqx, hqy, hend⟩ := hg
    obtain ⟨its, St, rv, D, st, back⟩ := hqx.draws (prog := X.prog) (w := X.w) (A := X.A.in1) I h1 n1 (I.ok.hd hc)
    obtain ⟨its2, St2, rv2, D2, st2, back2⟩ := hqy.draws (prog := X.prog) (w := X.w) (A := X.A.in1) I h2 n2 (I.ok.hd hc)
    have l1 := rv.length
    have l2 := rv2.length
    refine wpAny_pyNext_zipD2_end S D D2 hz hTI hTO st st2 (by rw [List.size_toArray]; omega) (by rw [List.size_toArray]; omega) (by rw [List.size_toArray, List.size_toArray]; omega) fun h' tk hk => ⟨rfl, I.turnedL (ch := [z, TI, TO, i1, i2]) (fun c o hb q =>
      hk c o (fun q' => hb (by simp [q'])) (fun q' => hb (by simp [q'])) (fun q' => hb (by simp [q'])) (fun q' => hb (by simp [q'])) q) hf⟩
  self := fun A i s Q E st h => wpAny_pyIter_zip st.1 h
def iZipAA (K : PySem.W.Frag) (ta : TA) : TI := fun σ H R => ta σ H fun vs H1 => ∃ kd a xs kd' b ys, vs = [.ref a, .ref b] ∧ SqA K H1 kd a xs ∧ SqA K H1 kd' b ys ∧ R (ItzA K kd a kd' b) H1
theorem pi_zipAA {X : Cx} {e e2 : Expr} {ta : TA} {p pos tpos : Pos} {elts : List Expr} {kk : Nat} (hg : Gl X "zip") (hm : X.mg "zip" = none) (ha : PA X [e, e2] ta)
    (hs : starEach [e, e2] X.env = (false, eval e X.env) :: starEach [e2] X.env) (hpl : (backTo pos (starEach [e2] X.env)).any (·.1) = false) :
    PI X (.Tuple elts kk tpos) (.Call (.Name "zip" p) [e, e2] [] pos) (iZipAA X.K ta) := by
  refine ⟨fun pins s σ H R I h => ?_⟩
  refine Call_ (ld_blt I hg hm PyProof.Rows.boot_zip (PyProof.Rows.callWith_type1 (thn (ha.run pos pins s σ H _ I h) fun us s1 ⟨vs, H1, I1, r1, q1⟩ => ?_) hs hpl))
  obtain ⟨kd, a, xs, kd', b, ys, ex, hqx, hqy, q⟩ := q1
  subst ex
  cases r1 with
  | cons r rr =>
    cases rr with
    | cons r' rr =>
      cases rr
      cases r
      cases r'
      obtain ⟨P1, B1, p1, la⟩ := hqx.begins I1
      obtain ⟨P2, B2, p2, lb⟩ := hqy.begins I1
      refine zip_begins2 B1 B2 p1 p2 fun h' hz hTI hTO h1 h2 hsz hk => wpAny_pyIter_zip hz ?_
      have I2 : Inv X pins σ H1 { s1 with heap := h' } := I1.kept (t' := s1.toks) hk
      refine ⟨s1.heap.objs.size + 4, [s1.heap.objs.size + 4, s1.heap.objs.size + 2, s1.heap.objs.size + 3, s1.heap.objs.size, s1.heap.objs.size + 1], _, _, H1, rfl, I2,
        turn_zipAA (kd := kd) (kd' := kd') (a := a) (b := b) (zip_sep2 (fp1 := [a]) (fp2 := [b]) (fun c hc => by rw [List.mem_singleton.mp hc]; exact la) (fun c hc => by rw [List.mem_singleton.mp hc]; exact lb)) (Nat.ne_of_lt la) (Nat.ne_of_lt (Nat.lt_succ_of_lt lb)),
        ⟨hz, hTI, ⟨_, _, hTO⟩, itObj.at h1, itObj.at h2⟩, fun c hcm => ?_, q⟩
      have e' : c = s1.heap.objs.size + 4 ∨ c = s1.heap.objs.size + 2 ∨ c = s1.heap.objs.size + 3 ∨ c = s1.heap.objs.size ∨ c = s1.heap.objs.size + 1 := by simpa using hcm
      have hle : s1.heap.objs.size ≤ c := by
        rcases e' with z | z | z | z | z
        · rw [z]; exact Nat.le_add_right _ _
        · rw [z]; exact Nat.le_add_right _ _
        · rw [z]; exact Nat.le_add_right _ _
        · rw [z]; exact Nat.le_refl _
        · rw [z]; exact Nat.le_add_right _ _
      exact I1.fpOk hle (I1.hok.fresh hle)
end PL
/-! PL i: what for and comprehensions walk, on data. -/
namespace PL
open PySem PySem.Spec PyProof.Rows L2

/-! ### strict or borrowed -/
def RepX (b : Bool) (K : PySem.W.Frag) (H : Hp) (O : Addr → Prop) (v : V) (d : D) : Prop := if b = true then Rep K H O v d else RepB K H O v d
/-- what must not change while it is walked -/
def Eo (b : Bool) (O : Addr → Prop) : Addr → Prop := fun a => b = true ∧ O a
def DX (b : Bool) (X : Cx) (e : Expr) (f : EvF) : Prop := ∀ (σ : L2.St) (H : Hp) (O : Addr → Prop) (env : List Cell) (d : D) (Q : VK), OkO H O → RelC X.K H O σ env → f env = some d →
  (∀ v H', Same H H' → RepX b X.K H' O v d → Q v H') → wE X e σ H Q
inductive RepXs (b : Bool) (K : PySem.W.Frag) (H : Hp) (O : Addr → Prop) : List V → List D → Prop
  | nil : RepXs b K H O [] []
  | cons {v : V} {vs : List V} {d : D} {ds : List D} : RepX b K H O v d → RepXs b K H O vs ds → RepXs b K H O (v :: vs) (d :: ds)
def DXs (b : Bool) (X : Cx) (es : List Expr) (f : List Cell → Option (List D)) : Prop := ∀ (σ : L2.St) (H : Hp) (O : Addr → Prop) (env : List Cell) (ds : List D) (Q : List V → Hp → Prop), OkO H O → RelC X.K H O σ env → f env = some ds →
  (∀ vs H', Same H H' → RepXs b X.K H' O vs ds → Q vs H') → wA X es σ H Q
section
variable {X : Cx} {e : Expr} {f : EvF} {b : Bool}
theorem DE.dx (h : DE X e f) : DX true X e f := fun σ H O env d Q ok R e c => h σ H O env d Q ok R e fun v H' s r => c v H' s (by rw [RepX, if_pos rfl]; exact r)
theorem DB.dx (h : DB X e f) : DX false X e f := fun σ H O env d Q ok R e c => h σ H O env d Q ok R e fun v H' s r => c v H' s (by rw [RepX, if_neg Bool.false_ne_true]; exact r)
theorem RepX.same {K : PySem.W.Frag} {H H' : Hp} {O : Addr → Prop} {v : V} {d : D} (h : RepX b K H O v d) (k : Same H H') : RepX b K H' O v d := by
  unfold RepX at h ⊢
  split at h
  · rename_i q; rw [if_pos q]; exact h.same k
  · rename_i q; rw [if_neg q]; exact h.same k
theorem dxs_nil : DXs b X [] (fun _ => some []) := fun σ H O env ds Q ok R e c => PAw pa_nil (by cases e; exact c _ _ (Same.refl _) .nil)
theorem dxs_cons {es : List Expr} {g : List Cell → Option (List D)} (ha : DX b X e f) (hr : DXs b X es g) (hs : starEach (e :: es) X.env = (false, eval e X.env) :: starEach es X.env) : DXs b X (e :: es) (consL f g) := by
  intro σ H O env ds Q ok R z c
  obtain ⟨x, e1, z⟩ := bind_some' z
  obtain ⟨xs, e2, z⟩ := bind_some' z
  cases z
  refine PAw (pa_cons wE_pe wA_pa hs) (ha σ H O env x _ ok R e1 fun v H1 s1 r1 => hr σ H1 O env xs _ (ok.same s1) (R.same s1) e2 fun vs H2 s2 r2 => c _ _ (s1.trans s2) (.cons (r1.same s2) r2))
end

/-! ### what an iterator yields -/
def wI (X : Cx) (tg iter : Expr) : TI := fun σ H R => ∀ (pins : List (Addr × Obj)) (s : Shared), Inv X pins σ H s →
  wpAny (model X.prog X.w) X.A (eval iter X.env) (fun v s1 => wpAny (model X.prog X.w) X.A (pyIter v) (PIE X pins σ tg R) X.xe s1) X.xe s
theorem wI_pi {X : Cx} {tg iter : Expr} : PI X tg iter (wI X tg iter) := ⟨fun pins s σ H R I h => h pins s I⟩
theorem PIw {X : Cx} {tg iter : Expr} {t : TI} (h : PI X tg iter t) {σ : L2.St} {H : Hp} {R : It → Hp → Prop} (q : t σ H R) : wI X tg iter σ H R := fun pins s I => h.run pins s σ H R I q
structure ItOk (K : PySem.W.Frag) (J : It) (E W : Addr → Prop) (ds : List D) (H1 : Hp) : Prop where
  go : ∀ i H2, Kp E H1 H2 → i < ds.length → J.go i H2
  stop : ∀ H2, Kp E H1 H2 → J.stop ds.length H2
  yld : ∀ i H2 x H3 d, Kp E H1 H2 → J.yld i H2 x H3 → ds[i]? = some d → Same H2 H3 ∧ ∀ O2 : Addr → Prop, (∀ a, O2 a → W a ∨ H1 a = none) → OkO H2 O2 → Rep K H3 O2 x d
def DI (b : Bool) (X : Cx) (tg iter : Expr) (fs : List Cell → Option (List D)) : Prop := ∀ (σ : L2.St) (H : Hp) (O : Addr → Prop) (env : List Cell) (ds : List D) (R : It → Hp → Prop), OkO H O → RelC X.K H O σ env → fs env = some ds →
  (∀ J H1, Same H H1 → ItOk X.K J (Eo b O) O ds H1 → R J H1) → wI X tg iter σ H R
/-- the steps from H1 to H2, and what O2 leaves out -/
theorem Rep.go {K : PySem.W.Frag} {H1 H2 : Hp} {E W O2 : Addr → Prop} {v : V} {d : D} (h : Rep K H1 W v d) (k : Kp E H1 H2) (ew : ∀ a, E a → W a) (m : ∀ a, O2 a → W a ∨ H1 a = none) : Rep K H2 O2 v d := by
  have h1 : Rep K H1 (fun a => W a ∨ O2 a) v d := h.mono fun a z => by
    rcases z with z | z
    · exact .inl z
    · exact m a z
  have h2 : Rep K H2 (fun a => W a ∨ O2 a) v d := h1.kp fun a o e n => k a o e fun z => n (.inl (ew a z))
  exact h2.less fun a z => .inr z
theorem Kp.trans {E : Addr → Prop} {H1 H2 H3 : Hp} (a : Kp E H1 H2) (b : Same H2 H3) : Kp E H1 H3 := fun x o e n => b x o (a x o e n)
theorem eo_sub {b : Bool} {O : Addr → Prop} : ∀ a, Eo b O a → O a := fun _ h => h.2

@[simp] def seqD : D → Option (List D)
  | .l xs => some xs
  | .t xs => some xs
  | .z xs => some xs
  | _ => none
theorem SqA.kp_l {K : PySem.W.Frag} {H H' : Hp} {E : Addr → Prop} {a : Addr} {xs : List V} (h : H a = some (.lst xs)) (n : ¬ E a) (k : Kp E H H') : SqA K H' false a xs := .inl ⟨rfl, SqL.of (k _ _ h n)⟩
/-- a list or tuple, and that it stays -/
theorem RepX.seq {b : Bool} {K : PySem.W.Frag} {H : Hp} {O : Addr → Prop} {v : V} {d : D} {ds : List D} (h : RepX b K H O v d) (e : seqD d = some ds) :
    ∃ kd a xs, v = .ref a ∧ (∀ H2, Kp (Eo b O) H H2 → SqA K H2 kd a xs) ∧ RepL K H O xs ds := by
  have hB : RepB K H O v d := by
    unfold RepX at h
    split at h
    · exact .inl h
    · exact h
  have rep : ∀ {v : V} {d : D}, Rep K H O v d → seqD d = some ds → ∃ kd a xs, v = .ref a ∧ (∀ H2, Kp (Eo b O) H H2 → SqA K H2 kd a xs) ∧ RepL K H O xs ds := by
    intro v d h e
    cases h with
    | l ha n r => cases e; exact ⟨false, _, _, rfl, fun H2 k => .inl ⟨rfl, SqL.of (k _ _ ha fun z => n z.2)⟩, r⟩
    | z ha n r => cases e; exact ⟨false, _, _, rfl, fun H2 k => .inl ⟨rfl, .inl (rd_kp k ha fun z => n z.2)⟩, r⟩
    | zk ha r => cases e; exact ⟨false, _, _, rfl, fun H2 k => .inl ⟨rfl, ha H2⟩, r⟩
    | t ha n r => cases e; exact ⟨true, _, _, rfl, fun H2 k => .inr ⟨rfl, .inl (rd_kp k ha fun z => n z.2)⟩, r⟩
    | tk ha r => cases e; exact ⟨true, _, _, rfl, fun H2 k => .inr ⟨rfl, ha H2⟩, r⟩
    | _ => cases e
  cases b with
  | true =>
    rw [RepX, if_pos rfl] at h
    exact rep h e
  | false =>
    rw [RepX, if_neg Bool.false_ne_true] at h
    rcases h with h | ⟨a, xs, ds', e1, e2, e3, r⟩
    · exact rep h e
    · subst e2
      cases e
      exact ⟨false, a, xs, e1, fun H2 k => .inl ⟨rfl, SqL.of (k _ _ e3 fun z => Bool.false_ne_true z.1)⟩, r⟩
def ItS (K : PySem.W.Frag) (kd : Bool) (a : Addr) : It := if kd = true then Itt K a else Itl K a
theorem itS_ok {K : PySem.W.Frag} {E W : Addr → Prop} {kd : Bool} {a : Addr} {xs : List V} {ds : List D} {H1 : Hp} (ew : ∀ a, E a → W a) (st : ∀ H2, Kp E H1 H2 → SqA K H2 kd a xs) (r : RepL K H1 W xs ds) : ItOk K (ItS K kd a) E W ds H1 := by
  have hl := r.length
  have q0 := st H1 Kp.refl
  cases kd with
  | false =>
    have st' : ∀ H2, Kp E H1 H2 → SqL K H2 a xs := fun H2 k => by
      rcases st H2 k with ⟨_, q⟩ | ⟨e, _⟩
      · exact q
      · cases e
    refine ⟨fun i H2 k hi => ?_, fun H2 k => ?_, fun i H2 x H3 d k y e => ?_⟩
    · show ∃ (xs : List V) (x : V), SqL K H2 a xs ∧ xs[i]? = some x
      exact ⟨xs, xs[i], st' H2 k, List.getElem?_eq_getElem (by omega)⟩
    · show ∃ xs : List V, SqL K H2 a xs ∧ xs.length ≤ ds.length
      exact ⟨xs, st' H2 k, by omega⟩
    · obtain ⟨e1, y⟩ := y
      subst e1
      obtain ⟨v, h1, h2⟩ := r.get e
      have h3 := y xs (st' H3 k)
      rw [h1] at h3
      cases h3
      exact ⟨Same.refl _, fun O2 m _ => h2.go k ew m⟩
  | true =>
    have st' : ∀ H2, Kp E H1 H2 → SqT K H2 a xs := fun H2 k => by
      rcases st H2 k with ⟨e, _⟩ | ⟨_, q⟩
      · cases e
      · exact q
    refine ⟨fun i H2 k hi => ?_, fun H2 k => ?_, fun i H2 x H3 d k y e => ?_⟩
    · show ∃ (xs : List V) (x : V), SqT K H2 a xs ∧ xs[i]? = some x
      exact ⟨xs, xs[i], st' H2 k, List.getElem?_eq_getElem (by omega)⟩
    · show ∃ xs : List V, SqT K H2 a xs ∧ xs.length ≤ ds.length
      exact ⟨xs, st' H2 k, by omega⟩
    · obtain ⟨e1, y⟩ := y
      subst e1
      obtain ⟨v, h1, h2⟩ := r.get e
      have h3 := y xs (st' H3 k)
      rw [h1] at h3
      cases h3
      exact ⟨Same.refl _, fun O2 m _ => h2.go k ew m⟩
theorem pieS {X : Cx} {tg : Expr} {pins : List (Addr × Obj)} {σ : L2.St} {H : Hp} {s : Shared} {R : It → Hp → Prop} {kd : Bool} {a : Addr} {xs : List V} (I : Inv X pins σ H s) (hq : SqA X.K H kd a xs) (q : R (ItS X.K kd a) H) :
    wpAny (model X.prog X.w) X.A (pyIter (.ref a)) (PIE X pins σ tg R) X.xe s := by
  have fin : ∀ b ∈ [s.heap.objs.size], FpOk X pins H b := fun b hb => by
    have e : b = s.heap.objs.size := by simpa using hb
    subst e
    exact I.fpOk (Nat.le_refl _) (I.hok.fresh (Nat.le_refl _))
  rcases hq with ⟨e, hq⟩ | ⟨e, hq⟩
  · subst e
    obtain ⟨its, rv, p, hz⟩ := I.list hq
    refine wpAny_pyIter_list p.isList ?_
    exact ⟨s.heap.objs.size, [s.heap.objs.size], _, _, H, rfl, I.kept (t' := s.toks) fun b o e => Heap.get?_push_of_some _ e, turn_list a _, ⟨_, Heap.get?_push_size _ rfl, rfl, rfl⟩, fin, q⟩
  · subst e
    obtain ⟨its, rv, p, hz⟩ := I.tuple hq
    refine wpAny_pyIter_tuple (show s.heap.IsTuple a its.toArray from p) ?_
    exact ⟨s.heap.objs.size, [s.heap.objs.size], _, _, H, rfl, I.kept (t' := s.toks) fun b o e => Heap.get?_push_of_some _ e, turn_tuple a _, ⟨_, Heap.get?_push_size _ rfl, rfl, rfl⟩, fin, q⟩

/-! ### ranges -/
def rngD (lo : Int) (n : Nat) : List D := (List.range n).map fun i => .i (lo + (i : Nat))
theorem rngD_length (lo : Int) (n : Nat) : (rngD lo n).length = n := by unfold rngD; simp
theorem rngD_get {lo : Int} {n i : Nat} {d : D} (h : (rngD lo n)[i]? = some d) : d = .i (lo + (i : Nat)) ∧ i < n := by
  unfold rngD at h
  rw [List.getElem?_map] at h
  obtain ⟨a, h1, h2⟩ := map_some' h
  obtain ⟨h3, h4⟩ := List.getElem?_eq_some_iff.mp h1
  rw [List.length_range] at h3
  rw [List.getElem_range] at h4
  subst h4 h2
  exact ⟨rfl, h3⟩
theorem itr_ok {K : PySem.W.Frag} {E W : Addr → Prop} {lo : Int} {n : Nat} {H1 : Hp} : ItOk K (Itr lo n) E W (rngD lo n) H1 := by
  refine ⟨fun i H2 k hi => ?_, fun H2 k => ?_, fun i H2 x H3 d k y e => ?_⟩
  · rw [rngD_length] at hi; exact hi
  · rw [rngD_length]; exact Nat.le_refl _
  · obtain ⟨e1, y⟩ := y
    subst e1 y
    obtain ⟨e2, _⟩ := rngD_get e
    subst e2
    exact ⟨Same.refl _, fun O2 m _ => .i _⟩
def dwnD (lo : Int) (n : Nat) : List D := (List.range n).map fun i => .i (lo - (i : Nat))
theorem dwn_ok {K : PySem.W.Frag} {E W : Addr → Prop} {lo : Int} {n : Nat} {H1 : Hp} : ItOk K (Itc lo (-1) n) E W (dwnD lo n) H1 := by
  have hl : (dwnD lo n).length = n := by unfold dwnD; simp
  refine ⟨fun i H2 k hi => ?_, fun H2 k => ?_, fun i H2 x H3 d k y e => ?_⟩
  · rw [hl] at hi; exact hi
  · rw [hl]; exact Nat.le_refl _
  · obtain ⟨e1, y⟩ := y
    subst e1 y
    have e2 : d = .i (lo - (i : Nat)) := by
      unfold dwnD at e
      rw [List.getElem?_map] at e
      obtain ⟨a, h1, h2⟩ := map_some' e
      obtain ⟨h3, h4⟩ := List.getElem?_eq_some_iff.mp h1
      rw [List.getElem_range] at h4
      subst h4 h2
      rfl
    have e3 : lo + (i : Nat) * (-1) = lo - (i : Nat) := by omega
    subst e2
    rw [e3]
    exact ⟨Same.refl _, fun O2 m _ => .i _⟩
def smI (i : Int) : Bool := absLe i 4611686018427387903
theorem smI_ok {i : Int} (h : smI i = true) : -(2 ^ 62) ≤ i ∧ i < 2 ^ 62 := by
  have := absLe_ok h
  omega
@[simp] def rng1 : D → Option (List D)
  | .i j => if smI j = true then some (rngD 0 j.toNat) else none
  | _ => none
@[simp] def rng2 : D → D → Option (List D)
  | .i i, .i j => if (smI i && smI j) = true then some (rngD i (j - i).toNat) else none
  | _, _ => none
@[simp] def rng3 : D → D → D → Option (List D)
  | .i i, .i j, .i c => if (smI i && smI j && decide (c = -1)) = true then some (dwnD i (i - j).toNat) else none
  | _, _, _ => none
/-- walked: a list, a tuple, a range object -/
@[simp] def walkD : D → Option (List D)
  | .r lo hi => if (smI lo && smI hi) = true then some (rngD lo (hi - lo).toNat) else none
  | d => seqD d
@[simp] def enumD : Nat → List D → List D
  | _, [] => []
  | n, d :: r => .t [.i n, d] :: enumD (n + 1) r
@[simp] def zipD : List D → List D → List D
  | a :: r, b :: q => .t [a, b] :: zipD r q
  | _, _ => []
theorem enumD_length : ∀ (r : List D) (n : Nat), (enumD n r).length = r.length
  | [], _ => rfl
  | _ :: r, n => by rw [enumD, List.length_cons, List.length_cons, enumD_length r]
theorem enumD_get : ∀ {r : List D} {n i : Nat} {d : D}, (enumD n r)[i]? = some d → ∃ x, r[i]? = some x ∧ d = .t [.i ((n + i : Nat) : Int), x]
  | [], _, _, _, h => by cases h
  | a :: r, n, 0, d, h => by
    rw [enumD, List.getElem?_cons_zero] at h
    cases h
    exact ⟨a, rfl, rfl⟩
  | a :: r, n, i + 1, d, h => by
    rw [enumD, List.getElem?_cons_succ] at h
    obtain ⟨x, h1, h2⟩ := enumD_get h
    refine ⟨x, by rw [List.getElem?_cons_succ]; exact h1, ?_⟩
    rw [h2, show n + 1 + i = n + (i + 1) by omega]
theorem zipD_length : ∀ (r q : List D), (zipD r q).length = min r.length q.length
  | [], _ => by simp [zipD]
  | _ :: _, [] => by simp [zipD]
  | _ :: r, _ :: q => by rw [zipD, List.length_cons, List.length_cons, List.length_cons, zipD_length r q]; omega
theorem zipD_get : ∀ {r q : List D} {i : Nat} {d : D}, (zipD r q)[i]? = some d → ∃ x y, r[i]? = some x ∧ q[i]? = some y ∧ d = .t [x, y]
  | [], _, _, _, h => by simp [zipD] at h
  | _ :: _, [], _, _, h => by simp [zipD] at h
  | a :: r, b :: q, 0, d, h => by
    rw [zipD, List.getElem?_cons_zero] at h
    cases h
    exact ⟨a, b, rfl, rfl, rfl⟩
  | a :: r, b :: q, i + 1, d, h => by
    rw [zipD, List.getElem?_cons_succ] at h
    obtain ⟨x, y, h1, h2, h3⟩ := zipD_get h
    exact ⟨x, y, h1, h2, h3⟩
section
variable {X : Cx} {tg e e2 : Expr} {f : EvF} {fs : List Cell → Option (List D)} {b : Bool} {p pos : Pos} {es : List Expr}
theorem di_of (h : DX b X e f) : DI b X tg e (fun env => (f env).bind walkD) := by
  intro σ H O env ds R ok Rc z c
  obtain ⟨d, e1, e2⟩ := bind_some' z
  intro pins s I
  refine thn (h σ H O env d (fun v H1 => Same H H1 ∧ RepX b X.K H1 O v d) ok Rc e1 (fun v H1 k r => ⟨k, r⟩) pins s I) fun u s1 ⟨v, H1, I1, rv, k, r⟩ => ?_
  cases hd : seqD d with
  | some xs =>
    have e3 : xs = ds := by
      cases d <;> first
        | (cases hd; done)
        | (cases hd; cases e2; rfl)
    subst e3
    obtain ⟨kd, a, vs, rfl, st, rl⟩ := r.seq hd
    cases rv
    exact pieS I1 (st H1 Kp.refl) (c _ _ k (itS_ok eo_sub st rl))
  | none =>
    cases d <;> first
      | (cases e2; done)
      | (cases hd; done)
      | skip
    rename_i lo hi _
    have e2 : (if (smI lo && smI hi) = true then some (rngD lo (hi - lo).toNat) else none) = some ds := e2
    split at e2
    · rename_i hg
      cases e2
      rw [Bool.and_eq_true] at hg
      obtain ⟨g1, g2⟩ := smI_ok hg.1
      obtain ⟨g3, g4⟩ := smI_ok hg.2
      have hB : RepB X.K H1 O v (.r lo hi) := by
        unfold RepX at r
        split at r
        · exact .inl r
        · exact r
      obtain ⟨a, rfl, ha⟩ := hB.rng
      cases rv
      obtain ⟨t, u, w, e0⟩ := I1.hok _ _ ha
      refine wpAny_pyIter_range (r := a) (a := lo) (b := hi) (c := 1) (t := t) (u := u) (v := w) e0 (small_one g1 g2 g3 g4) ?_
      refine pi_one (tk := s1.toks) I1 _ (turn_range _ lo (hi - lo).toNat) ?_ (c _ _ k itr_ok)
      have e1 : lo + ((0 : Nat) : Int) * 1 = lo := by simp
      have e2 : (((hi - lo).toNat : Nat) : Int) - ((0 : Nat) : Int) = Builtin.Range.rangeSize lo hi 1 := by rw [rangeSize_one]; split <;> omega
      show IsRangeIter _ _ (lo + ((0 : Nat) : Int) * 1) ((((hi - lo).toNat : Nat) : Int) - ((0 : Nat) : Int)) 1
      rw [e1, e2]
      exact Heap.get?_push_size _ rfl
    · cases e2
theorem starE1 (h : starEach [e] X.env = (false, eval e X.env) :: starEach [] X.env) : starEach [e] X.env = [(false, eval e X.env)] := by rw [h]; rfl
theorem di_range1 (hg : Gl X "range") (hm : X.mg "range" = none) (ha : DB X e f) (hs : starEach [e] X.env = [(false, eval e X.env)]) : DI b X tg (.Call (.Name "range" p) [e] [] pos) (fun env => (f env).bind rng1) := by
  intro σ H O env ds R ok Rc z c
  obtain ⟨x, e1, e2⟩ := bind_some' z
  refine PIw (pi_range1 hg hm (pa_cons wE_pe pa_nil (by rw [hs]; rfl)) hs) (ha σ H O env x _ ok Rc e1 fun v H1 k r => ?_)
  unfold rng1 at e2
  split at e2
  · split at e2
    · rename_i j hj
      cases e2
      obtain ⟨g1, g2⟩ := smI_ok hj
      obtain rfl := r.int
      exact ⟨j, rfl, g1, g2, c _ _ k itr_ok⟩
    · cases e2
  · cases e2
theorem di_range2 {a a2 : Expr} {g : EvF} (hg : Gl X "range") (hm : X.mg "range" = none) (ha : DB X a f) (hb : DB X a2 g) (hs : starEach [a, a2] X.env = (false, eval a X.env) :: starEach [a2] X.env) (hs2 : starEach [a2] X.env = [(false, eval a2 X.env)]) :
    DI b X tg (.Call (.Name "range" p) [a, a2] [] pos) (fun env => (f env).bind fun x => (g env).bind fun y => rng2 x y) := by
  intro σ H O env ds R ok Rc z c
  obtain ⟨x, e1, z⟩ := bind_some' z
  obtain ⟨y, e2, e3⟩ := bind_some' z
  refine PIw (pi_range2 hg hm (pa_cons wE_pe (pa_cons wE_pe pa_nil (by rw [hs2]; rfl)) hs) (by rw [hs, hs2]) hs2) (ha σ H O env x _ ok Rc e1 fun v H1 k1 r1 => hb σ H1 O env y _ (ok.same k1) (Rc.same k1) e2 fun w H2 k2 r2 => ?_)
  unfold rng2 at e3
  split at e3
  · split at e3
    · rename_i i j hj
      cases e3
      rw [Bool.and_eq_true] at hj
      obtain ⟨g1, g2⟩ := smI_ok hj.1
      obtain ⟨g3, g4⟩ := smI_ok hj.2
      obtain rfl := r1.int
      obtain rfl := r2.int
      exact ⟨i, j, rfl, ⟨g1, g2, g3, g4⟩, c _ _ (k1.trans k2) itr_ok⟩
    · cases e3
  · cases e3
theorem di_range3 {a a2 a3 : Expr} {g h : EvF} (hg : Gl X "range") (hm : X.mg "range" = none) (ha : DB X a f) (hb : DB X a2 g) (hc : DB X a3 h) (hs : starEach [a, a2, a3] X.env = (false, eval a X.env) :: starEach [a2, a3] X.env)
    (hs2 : starEach [a2, a3] X.env = (false, eval a2 X.env) :: starEach [a3] X.env) (hs3 : starEach [a3] X.env = [(false, eval a3 X.env)]) (hpl : (backTo pos (starEach [a2, a3] X.env)).any (·.1) = false) :
    DI b X tg (.Call (.Name "range" p) [a, a2, a3] [] pos) (fun env => (f env).bind fun x => (g env).bind fun y => (h env).bind fun z => rng3 x y z) := by
  intro σ H O env ds R ok Rc z c
  obtain ⟨x, e1, z⟩ := bind_some' z
  obtain ⟨y, e2, z⟩ := bind_some' z
  obtain ⟨u, e3, e4⟩ := bind_some' z
  refine PIw (pi_range3 hg hm (pa_cons wE_pe (pa_cons wE_pe (pa_cons wE_pe pa_nil (by rw [hs3]; rfl)) hs2) hs) hs hpl)
    (ha σ H O env x _ ok Rc e1 fun v H1 k1 r1 => hb σ H1 O env y _ (ok.same k1) (Rc.same k1) e2 fun w H2 k2 r2 => hc σ H2 O env u _ ((ok.same k1).same k2) ((Rc.same k1).same k2) e3 fun w3 H3 k3 r3 => ?_)
  unfold rng3 at e4
  split at e4
  · split at e4
    · rename_i i jj c' hj
      cases e4
      rw [Bool.and_eq_true, Bool.and_eq_true, decide_eq_true_eq] at hj
      obtain ⟨⟨h1, h2⟩, h3⟩ := hj
      subst h3
      obtain ⟨g1, g2⟩ := smI_ok h1
      obtain ⟨g3, g4⟩ := smI_ok h2
      obtain rfl := r1.int
      obtain rfl := r2.int
      obtain rfl := r3.int
      exact ⟨_, _, -1, _, rfl, RgC.neg g1 g2 g3 g4, c _ _ ((k1.trans k2).trans k3) dwn_ok⟩
    · cases e4
  · cases e4
/-- enumerate(list or tuple), to several names -/
theorem di_enum {elts : List Expr} {kk : Nat} {tpos : Pos} (hg : Gl X "enumerate") (hm : X.mg "enumerate" = none) (ha : DX b X e f) (hs : starEach [e] X.env = [(false, eval e X.env)]) :
    DI b X (.Tuple elts kk tpos) (.Call (.Name "enumerate" p) [e] [] pos) (fun env => (f env).bind fun d => (seqD d).map (enumD 0)) := by
  intro σ H O env ds R ok Rc z c
  obtain ⟨x, e1, e2⟩ := bind_some' z
  obtain ⟨xs, e3, e4⟩ := map_some' e2
  clear e2
  have e2 := e3
  subst e4
  refine PIw (pi_enumA hg hm (pa_cons wE_pe pa_nil (by rw [hs]; rfl)) hs) (ha σ H O env x _ ok Rc e1 fun v H1 k r => ?_)
  obtain ⟨kd, a, vs, rfl, st, rl⟩ := r.seq e2
  refine ⟨kd, a, vs, rfl, st H1 Kp.refl, c _ _ k ⟨fun i H2 k2 hi => ?_, fun H2 k2 => ?_, fun i H2 x H3 d k2 y e => ?_⟩⟩
  · rw [enumD_length, ← rl.length] at hi
    exact ⟨vs, vs[i], st H2 k2, List.getElem?_eq_getElem hi⟩
  · rw [enumD_length]
    exact ⟨vs, st H2 k2, rl.length⟩
  · obtain ⟨T, x', e4, hT, e5, hx⟩ := y
    subst e4 e5
    obtain ⟨d', h1, h2⟩ := enumD_get e
    subst h2
    obtain ⟨v, h3, h4⟩ := rl.get h1
    have h5 := hx vs (st H2 k2)
    rw [h3] at h5
    cases h5
    refine ⟨same_new hT, fun O2 m ok2 => Rep.newT ok2 hT (.cons ?_ (.cons (h4.go k2 eo_sub m) .nil))⟩
    rw [Nat.zero_add]
    exact .i _
/-- zip of two, to several names -/
theorem di_zip {elts : List Expr} {kk : Nat} {tpos : Pos} {g : EvF} (hg : Gl X "zip") (hm : X.mg "zip" = none) (ha : DX b X e f) (hb : DX b X e2 g) (hs : starEach [e, e2] X.env = (false, eval e X.env) :: starEach [e2] X.env)
    (hs2 : starEach [e2] X.env = [(false, eval e2 X.env)]) (hpl : (backTo pos (starEach [e2] X.env)).any (·.1) = false) :
    DI b X (.Tuple elts kk tpos) (.Call (.Name "zip" p) [e, e2] [] pos) (fun env => (f env).bind fun d => (g env).bind fun d' => (seqD d).bind fun xs => (seqD d').map fun ys => zipD xs ys) := by
  intro σ H O env ds R ok Rc z c
  obtain ⟨x, e1, z⟩ := bind_some' z
  obtain ⟨y, e2', z⟩ := bind_some' z
  obtain ⟨xs, e3, z⟩ := bind_some' z
  obtain ⟨ys, e4, e5⟩ := map_some' z
  subst e5
  refine PIw (pi_zipAA hg hm (pa_cons wE_pe (pa_cons wE_pe pa_nil (by rw [hs2]; rfl)) hs) hs hpl) (ha σ H O env x _ ok Rc e1 fun v H1 k1 r1 => hb σ H1 O env y _ (ok.same k1) (Rc.same k1) e2' fun w H2 k2 r2 => ?_)
  obtain ⟨kd, a, vs, rfl, st, rl⟩ := (r1.same k2).seq e3
  obtain ⟨kd', a', ws, rfl, st', rl'⟩ := r2.seq e4
  refine ⟨kd, a, vs, kd', a', ws, rfl, st H2 Kp.refl, st' H2 Kp.refl, c _ _ (k1.trans k2) ⟨fun i H3 k3 hi => ?_, fun H3 k3 => ?_, fun i H3 x H4 d k3 y e => ?_⟩⟩
  · rw [zipD_length, ← rl.length, ← rl'.length] at hi
    exact ⟨vs, ws, vs[i], ws[i], st H3 k3, st' H3 k3, List.getElem?_eq_getElem (by omega), List.getElem?_eq_getElem (by omega)⟩
  · rw [zipD_length]
    exact ⟨vs, ws, st H3 k3, st' H3 k3, by rw [rl.length, rl'.length]⟩
  · obtain ⟨T, x', y', q1, hT, q2, hx, hy⟩ := y
    subst q1 q2
    obtain ⟨d1, d2, h1, h1', h2⟩ := zipD_get e
    subst h2
    obtain ⟨v, h3, h4⟩ := rl.get h1
    obtain ⟨w, h3', h4'⟩ := rl'.get h1'
    have h5 := hx vs (st H3 k3)
    rw [h3] at h5
    cases h5
    have h6 := hy ws (st' H3 k3)
    rw [h3'] at h6
    cases h6
    exact ⟨same_new hT, fun O2 m ok2 => Rep.newT ok2 hT (.cons (h4.go k3 eo_sub m) (.cons (h4'.go k3 eo_sub m) .nil))⟩

/-! ### a range object as a value -/
theorem de_rngv1 (hg : Gl X "range") (hm : X.mg "range" = none) (ha : DB X e f) (hs : starEach [e] X.env = (false, eval e X.env) :: starEach [] X.env) (hpl : (backTo pos (starEach [] X.env)).any (·.1) = false) :
    DE X (.Call (.Name "range" p) [e] [] pos) (fun env => (f env).bind fun d => match d with
      | .i j => some (.r 0 j)
      | _ => none) := by
  intro σ H O env d Q ok R z c
  obtain ⟨x, e1, e2⟩ := bind_some' z
  refine PEw (pe_callTy can_ok hg hm boot_range (pa_cons wE_pe pa_nil hs) (by decide) (by decide) hs hpl) (ha σ H O env x _ ok R e1 fun v H1 k r => ?_)
  cases x <;> first
    | (cases e2; done)
    | skip
  rename_i j
  cases e2
  obtain rfl := r.int
  intro pins s σ' us I rv
  cases rv with
  | cons rr rv =>
    cases rv
    obtain ⟨t, rfl⟩ := rr
    refine call_range_1 ⟨.ref s.heap.objs.size, upd H1 s.heap.objs.size (.rng 0 j), I.laid (fun b o e => Heap.get?_push_of_some _ e) (Nat.le_refl _) ?_, rfl, c _ _ (k.trans (same_new (I.hok.fresh (Nat.le_refl _)))) (.r upd_same fun z => (ok.same k) _ z (I.hok.fresh (Nat.le_refl _)))⟩
    exact ⟨_, _, _, Heap.get?_push_size _ rfl⟩
end
end PL
/-! PL j: list comprehensions on data. -/
namespace PL
open PySem PySem.Spec PyProof.Rows L2

/-- a block of the comprehension, whichever -/
def Blk (X : Cx) (scope : Scope) (Y : Cx) : Prop := ∃ (s : Shared) (H : Hp) (C : Addr) (cl : List (Str × Addr)) (fp : List Addr), Y = X.blk s H scope (compEnvC scope cl C X.env) fp
def bE (X : Cx) (scope : Scope) (e : Expr) : TE := fun σ H Q => ∀ Y, Blk X scope Y → wE Y e σ H Q
def bG (X : Cx) (scope : Scope) (tg : Expr) : TG := fun v σ H Q => ∀ Y, Blk X scope Y → wG Y tg v σ H Q
def bI (X : Cx) (scope : Scope) (tg iter : Expr) : TI := fun σ H R => ∀ Y, Blk X scope Y → wI Y tg iter σ H R
def wTs (X : Cx) (ifs : List Expr) : TT := fun σ H Q => ∀ (pins : List (Addr × Obj)) (s : Shared), Inv X pins σ H s →
  wpAny (model X.prog X.w) X.A (forIn ifs true fun c r => if r = true then do let ok ← isTrue c X.env (eval c X.env); pure (ForInStep.yield ok) else pure (ForInStep.yield r)) (TP X pins σ Q) X.xe s
def bTs (X : Cx) (scope : Scope) (ifs : List Expr) : TT := fun σ H Q => ∀ Y, Blk X scope Y → wTs Y ifs σ H Q
theorem wTs_pts {X : Cx} {ifs : List Expr} : PTs X ifs (wTs X ifs) := ⟨fun pins s σ H Q I h => h pins s I⟩
theorem PTsw {X : Cx} {ifs : List Expr} {t : TT} (h : PTs X ifs t) {σ : L2.St} {H : Hp} {Q : Bool → Hp → Prop} (q : t σ H Q) : wTs X ifs σ H Q := fun pins s I => h.run pins s σ H Q I q
theorem bE_pe {X : Cx} {scope : Scope} {e : Expr} (s : Shared) (H : Hp) (C : Addr) (cl : List (Str × Addr)) (fp : List Addr) : PE (X.blk s H scope (compEnvC scope cl C X.env) fp) e (bE X scope e) := ⟨fun pins s' σ H' Q I h => h _ ⟨s, H, C, cl, fp, rfl⟩ pins s' I⟩
theorem bG_pg {X : Cx} {scope : Scope} {e : Expr} (s : Shared) (H : Hp) (C : Addr) (cl : List (Str × Addr)) (fp : List Addr) : PG (X.blk s H scope (compEnvC scope cl C X.env) fp) e (bG X scope e) := ⟨fun pins s' σ H' v u Q I r h => h _ ⟨s, H, C, cl, fp, rfl⟩ pins s' u I r⟩
theorem bI_pi {X : Cx} {scope : Scope} {tg e : Expr} (s : Shared) (H : Hp) (C : Addr) (cl : List (Str × Addr)) (fp : List Addr) : PI (X.blk s H scope (compEnvC scope cl C X.env) fp) tg e (bI X scope tg e) := ⟨fun pins s' σ H' R I h => h _ ⟨s, H, C, cl, fp, rfl⟩ pins s' I⟩
theorem bTs_pts {X : Cx} {scope : Scope} {ifs : List Expr} (s : Shared) (H : Hp) (C : Addr) (cl : List (Str × Addr)) (fp : List Addr) : PTs (X.blk s H scope (compEnvC scope cl C X.env) fp) ifs (bTs X scope ifs) := ⟨fun pins s' σ H' Q I h => h _ ⟨s, H, C, cl, fp, rfl⟩ pins s' I⟩

/-- a clause's tests -/
def DTs (X : Cx) (ifs : List Expr) (f : List Cell → Option Bool) : Prop := ∀ (σ : L2.St) (H : Hp) (O : Addr → Prop) (env : List Cell) (d : Bool) (Q : Bool → Hp → Prop), OkO H O → RelC X.K H O σ env → f env = some d →
  (∀ H', Same H H' → Q d H') → wTs X ifs σ H Q
theorem dts_nil {X : Cx} : DTs X [] (fun _ => some true) := fun σ H O env d Q ok R e c => PTsw pts_nil (by cases e; exact c _ (Same.refl _))
theorem dts_one {X : Cx} {c : Expr} {f : List Cell → Option Bool} (h : DT X c f) : DTs X [c] f := fun σ H O env d Q ok R e k => PTsw (pts_one wT_pt) (h σ H O env d Q ok R e k)

@[simp] def compD (t : Tg) (ft : List Cell → Option Bool) (f : EvF) (env : List Cell) : List D → Option (List D)
  | [] => some []
  | d :: ds => (bindT t d env).bind fun env1 => (ft env1).bind fun c => if c = true then (f env1).bind fun y => (compD t ft f env ds).bind fun ys => some (y :: ys) else compD t ft f env ds
theorem RelC.mono {K : PySem.W.Frag} {H : Hp} {O O' : Addr → Prop} {σ : L2.St} {env : List Cell} (h : RelC K H O σ env) (m : ∀ a, O' a → O a ∨ H a = none) : RelC K H O' σ env := ⟨h.1, fun i c e => by
  have q := h.2 i c e
  cases c with
  | no => trivial
  | v d => obtain ⟨x, e1, r⟩ := q; exact ⟨x, e1, r.mono m⟩
  | o d => obtain ⟨a, xs, ds, e1, e2, e3, r⟩ := q; exact ⟨a, xs, ds, e1, e2, e3, r.mono m⟩⟩
theorem Kp.same {E : Addr → Prop} {H H' : Hp} (h : Same H H') : Kp E H H' := fun a o e _ => h a o e
theorem same_at {H1 H2 : Hp} {D : Addr} {o : HO} (s : Same H1 H2) (n : H1 D = none) : Same H1 (upd H2 D o) := fun a x e => by
  rw [upd_ne (ne_of_none e n)]
  exact s a x e
section
variable {X : Cx} {tg iter elt : Expr} {ifs : List Expr} {scope : Scope} {own : List (Str × Nat)} {pos : Pos} {fs : List Cell → Option (List D)} {t : Tg} {ft : List Cell → Option Bool} {f : EvF} {b : Bool}
@[simp] def lcV (fs : List Cell → Option (List D)) (t : Tg) (ft : List Cell → Option Bool) (f : EvF) (vs : List Nat) : EvF := fun env => (fs env).bind fun ds => (compD t ft f (wipeC env vs) ds).bind fun ys => if ys.length ≤ SZ then some (.l ys) else none
/-- the list's address -/
def atD (O : Addr → Prop) (D : Addr) : Addr → Prop := fun b => O b ∨ b = D
theorem tlc_go (hi : DI b X tg iter fs) (hg : ∀ Y, Blk X scope Y → DG Y tg t) (ht : ∀ Y, Blk X scope Y → DTs Y ifs ft) (he : ∀ Y, Blk X scope Y → DE Y elt f) {vs : List Nat} (hsub : ∀ i ∈ t.slots, i ∈ vs)
    {σ : L2.St} {H : Hp} {O : Addr → Prop} {env : List Cell} {d : D} {Q : VK} (ok : OkO H O) (R : RelC X.K H O σ env) (z : lcV fs t ft f vs env = some d)
    (c : ∀ a xs ds H', Same H H' → H a = none → d = .l ds → H' a = some (.lst xs) → RepL X.K H' (fun b => O b ∨ b = a) xs ds → Q (.ref a) H') :
    tLc (wI X tg iter) (bG X scope tg) (bTs X scope ifs) (bE X scope elt) vs σ H Q := by
  obtain ⟨ds, e1, z⟩ := bind_some' z
  obtain ⟨ys, e2, z⟩ := bind_some' z
  split at z <;> first
    | (cases z; done)
    | skip
  rename_i hz
  cases z
  refine hi σ H O env ds _ ok R e1 fun J H1 k it => fun D hD => ?_
  have ok1 := ok.same k
  have RW : RelC X.K H1 (atD O D) (wipe σ vs) (wipeC env vs) := ((R.same k).wipe vs).mono fun a z => z.elim .inl fun e => .inr (by rw [e]; exact hD)
  refine ⟨fun i m H2 => m = ds.length - i ∧ i ≤ ds.length ∧ Same H1 H2 ∧ ∃ acc dacc rest, H2 D = some (.lst acc) ∧ RepL X.K H2 (atD O D) acc dacc ∧ compD t ft f (wipeC env vs) (ds.drop i) = some rest ∧ dacc ++ rest = ys,
    ⟨ds.length, rfl, Nat.zero_le _, same_new hD, [], [], ys, upd_same, .nil, by rw [List.drop_zero]; exact e2, rfl⟩, ?_⟩
  rintro i m H2 ⟨rfl, hi, s2, acc, dacc, rest, hacc, racc, e3, e4⟩
  have ok2 : OkO H2 (atD O D) := fun a z => z.elim (fun q => (ok1.same s2) a q) fun e => by rw [e, hacc]; exact fun q => nomatch q
  by_cases hlt : i < ds.length
  · refine .inr ⟨it.go i H2 (Kp.same s2) hlt, fun H' => Same H1 H' ∧ ∃ acc dacc rest, H' D = some (.lst acc) ∧ RepL X.K H' (atD O D) acc dacc ∧ compD t ft f (wipeC env vs) (ds.drop (i + 1)) = some rest ∧ dacc ++ rest = ys,
      fun H' q => ⟨ds.length - (i + 1), by omega, rfl, hlt, q⟩, fun x H3 y => ?_⟩
    have ei : ds[i]? = some ds[i] := List.getElem?_eq_getElem hlt
    obtain ⟨s3, rx⟩ := it.yld i H2 x H3 _ (Kp.same s2) y ei
    have rx := rx (atD O D) (fun a z => z.elim .inl fun e => .inr (by rw [e]; exact hD)) ok2
    rw [List.drop_eq_getElem_cons hlt, compD] at e3
    obtain ⟨env1, e5, e3⟩ := bind_some' e3
    obtain ⟨tb, e6, e3⟩ := bind_some' e3
    rintro Y ⟨s', H', C, cl, fp, rfl⟩
    refine hg _ ⟨s', H', C, cl, fp, rfl⟩ x _ (wipe σ vs) H3 (atD O D) _ env1 _ (RW.same (s2.trans s3)) rx e5 fun σ' R' off => ⟨wipe_off (off.mono hsub), ?_⟩
    rintro Y ⟨s', H', C, cl, fp, rfl⟩
    refine ht _ ⟨s', H', C, cl, fp, rfl⟩ σ' H3 (atD O D) env1 tb _ (ok2.same s3) R' e6 fun H4 s4 => ?_
    cases tb with
    | false =>
      have e3 : compD t ft f (wipeC env vs) (List.drop (i + 1) ds) = some rest := e3
      refine iteF ⟨(s2.trans s3).trans s4, acc, dacc, rest, ?_, (racc.same (s3.trans s4)), e3, e4⟩
      exact (s3.trans s4) _ _ hacc
    | true =>
      have e3 : ((f env1).bind fun y => (compD t ft f (wipeC env vs) (List.drop (i + 1) ds)).bind fun ys => some (y :: ys)) = some rest := e3
      obtain ⟨dy, e7, e3⟩ := bind_some' e3
      obtain ⟨rest', e8, e3⟩ := bind_some' e3
      cases e3
      refine iteT ?_
      rintro Y ⟨s', H', C, cl, fp, rfl⟩
      refine he _ ⟨s', H', C, cl, fp, rfl⟩ σ' H4 (atD O D) env1 dy _ (ok2.same (s3.trans s4)) (R'.same s4) e7 fun y H5 s5 ry => ?_
      have sA := (s3.trans s4).trans s5
      have hacc5 := sA _ _ hacc
      have la := racc.length
      refine ⟨acc, hacc5, ?_, same_at (s2.trans sA) hD, acc ++ [y], dacc ++ [dy], rest', upd_same, ?_, e8, by rw [List.append_assoc]; exact e4⟩
      · have hl : (dacc ++ dy :: rest').length ≤ SZ := by rw [e4]; exact hz
        rw [List.length_append, List.length_cons] at hl
        rw [SZ_eq, la]
        omega
      · have rr := (racc.same sA).append (.cons ry .nil)
        exact rr.kp fun a o e n => by
          rw [upd_ne (fun z => n (.inr z))]
          exact e
  · have e : i = ds.length := by omega
    subst e
    rw [List.drop_length, compD] at e3
    cases e3
    rw [List.append_nil] at e4
    subst e4
    exact .inl ⟨it.stop H2 (Kp.same s2), c D acc dacc H2 (k.trans s2) (k.free hD) rfl hacc racc⟩
theorem df_lc (hc : X.calm = true) (hN : X.N.Nodup) (hb : blkC X.N X.env.scope scope own = true) (hs : ∀ x, foldedSetIterable iter X.env x = pure x) (hi : DI b X tg iter fs) (hg : ∀ Y, Blk X scope Y → DG Y tg t) (ht : ∀ Y, Blk X scope Y → DTs Y ifs ft) (he : ∀ Y, Blk X scope Y → DE Y elt f)
    (hsub : ∀ i ∈ t.slots, i ∈ own.map (·.2)) : DF X (.ListComp elt [⟨tg, iter, ifs, 0⟩] scope pos) (lcV fs t ft f (own.map (·.2))) :=
  fun σ H O env d Q ok R z c => PEw (pe_lc hc hN wI_pi (blkOk_by hb) bG_pg bTs_pts bE_pe hs) (tlc_go hi hg ht he hsub ok R z c)

/-! ### two clauses -/
@[simp] def compD2 (t : Tg) (ft : List Cell → Option Bool) (fs1 : List Cell → Option (List D)) (t1 : Tg) (ft1 : List Cell → Option Bool) (f : EvF) (vs1 : List Nat) (env : List Cell) : List D → Option (List D)
  | [] => some []
  | d :: ds => (bindT t d env).bind fun env1 => (ft env1).bind fun c => if c = true then (fs1 env1).bind fun ds1 => (compD t1 ft1 f (wipeC env1 vs1) ds1).bind fun ys1 => (compD2 t ft fs1 t1 ft1 f vs1 env ds).bind fun ys => some (ys1 ++ ys) else compD2 t ft fs1 t1 ft1 f vs1 env ds
@[simp] def lcV2 (fs : List Cell → Option (List D)) (t : Tg) (ft : List Cell → Option Bool) (fs1 : List Cell → Option (List D)) (t1 : Tg) (ft1 : List Cell → Option Bool) (f : EvF) (vs : List Nat) : EvF := fun env => (fs env).bind fun ds => (compD2 t ft fs1 t1 ft1 f t1.slots (wipeC env vs) ds).bind fun ys => if ys.length ≤ SZ then some (.l ys) else none
variable {tg1 iter1 : Expr} {ifs1 : List Expr} {fs1 : List Cell → Option (List D)} {t1 : Tg} {ft1 : List Cell → Option Bool}
mutual
theorem bindT_own : ∀ (t : Tg) {d : D} {env env1 : List Cell}, bindT t d env = some env1 → ∀ (i : Nat) (x : D), env1[i]? = some (.o x) → env[i]? = some (.o x) ∧ i ∉ t.slots
  | .nm j, d, env, env1, h, i, x, e => by
    rw [bindT] at h
    cases h
    rw [Tg.slots]
    by_cases hj : j = i
    · subst hj
      rw [List.getElem?_set, if_pos rfl] at e
      split at e <;> cases e
    · rw [List.getElem?_set_ne hj] at e
      exact ⟨e, fun z => hj (List.mem_singleton.mp z).symm⟩
  | .tp ts, d, env, env1, h, i, x, e => by
    cases d <;> first
      | (rw [bindT] at h <;> first | (cases h; done) | (intros; simp_all; done))
      | skip
    rw [bindT] at h
    rw [Tg.slots]
    exact bindTs_own ts h i x e
theorem bindTs_own : ∀ (ts : List Tg) {ds : List D} {env env1 : List Cell}, bindTs ts ds env = some env1 → ∀ (i : Nat) (x : D), env1[i]? = some (.o x) → env[i]? = some (.o x) ∧ i ∉ Tg.slotsL ts
  | [], [], env, env1, h, i, x, e => by
    rw [bindTs] at h
    cases h
    rw [Tg.slotsL]
    exact ⟨e, fun z => nomatch z⟩
  | [], _ :: _, _, _, h, _, _, _ => by rw [bindTs] at h <;> first | (cases h; done) | (intros; simp_all)
  | _ :: _, [], _, _, h, _, _, _ => by rw [bindTs] at h <;> first | (cases h; done) | (intros; simp_all)
  | t :: ts, d :: ds, env, env1, h, i, x, e => by
    rw [bindTs] at h
    obtain ⟨env2, h1, h2⟩ := bind_some' h
    obtain ⟨g1, g2⟩ := bindTs_own ts h2 i x e
    obtain ⟨g3, g4⟩ := bindT_own t h1 i x g1
    rw [Tg.slotsL]
    exact ⟨g3, fun z => (List.mem_append.mp z).elim g4 g2⟩
end
theorem wipeC_own {env : List Cell} : ∀ {vs : List Nat} {i : Nat} {x : D}, (wipeC env vs)[i]? = some (.o x) → env[i]? = some (.o x) ∧ i ∉ vs
  | [], _, _, h => ⟨h, fun z => nomatch z⟩
  | v :: vs, i, x, h => by
    unfold wipeC at h
    by_cases hv : v = i
    · subst hv
      rw [List.getElem?_set, if_pos rfl] at h
      split at h <;> cases h
    · rw [List.getElem?_set_ne hv] at h
      obtain ⟨h1, h2⟩ := wipeC_own h
      exact ⟨h1, fun z => (List.mem_cons.mp z).elim (fun q => hv q.symm) h2⟩
theorem kp_at {E : Addr → Prop} {H H' : Hp} {D : Addr} {o : HO} (h : Kp E H H') (e : E D) : Kp E H (upd H' D o) := fun a x q n => by
  rw [upd_ne (fun z => n (by rw [z]; exact e))]
  exact h a x q n
theorem tlc2_go (hi : DI b X tg iter fs) (hg : ∀ Y, Blk X scope Y → DG Y tg t) (ht : ∀ Y, Blk X scope Y → DTs Y ifs ft) (hi1 : ∀ Y, Blk X scope Y → DI true Y tg1 iter1 fs1) (hg1 : ∀ Y, Blk X scope Y → DG Y tg1 t1) (ht1 : ∀ Y, Blk X scope Y → DTs Y ifs1 ft1)
    (he : ∀ Y, Blk X scope Y → DE Y elt f) {vs : List Nat} (hsub : ∀ i ∈ t.slots, i ∈ vs)
    {σ : L2.St} {H : Hp} {O : Addr → Prop} {env : List Cell} {d : D} {Q : VK} (ok : OkO H O) (R : RelC X.K H O σ env) (z : lcV2 fs t ft fs1 t1 ft1 f vs env = some d)
    (c : ∀ a xs ds H', Same H H' → H a = none → d = .l ds → H' a = some (.lst xs) → RepL X.K H' (fun b => O b ∨ b = a) xs ds → Q (.ref a) H') :
    tLc2 (wI X tg iter) (bG X scope tg) (bTs X scope ifs) (bI X scope tg1 iter1) (bG X scope tg1) (bTs X scope ifs1) (bE X scope elt) vs t1.slots σ H Q := by
  obtain ⟨ds, e1, z⟩ := bind_some' z
  obtain ⟨ys, e2, z⟩ := bind_some' z
  split at z <;> first
    | (cases z; done)
    | skip
  rename_i hz
  cases z
  refine hi σ H O env ds _ ok R e1 fun J H1 k it => fun D hD => ?_
  have ok1 := ok.same k
  have RW : RelC X.K H1 (atD O D) (wipe σ vs) (wipeC env vs) := ((R.same k).wipe vs).mono fun a z => z.elim .inl fun e => .inr (by rw [e]; exact hD)
  refine ⟨fun i m H2 => m = ds.length - i ∧ i ≤ ds.length ∧ Same H1 H2 ∧ ∃ acc dacc rest, H2 D = some (.lst acc) ∧ RepL X.K H2 (atD O D) acc dacc ∧ compD2 t ft fs1 t1 ft1 f t1.slots (wipeC env vs) (ds.drop i) = some rest ∧ dacc ++ rest = ys,
    ⟨ds.length, rfl, Nat.zero_le _, same_new hD, [], [], ys, upd_same, .nil, by rw [List.drop_zero]; exact e2, rfl⟩, ?_⟩
  rintro i m H2 ⟨rfl, hi, s2, acc, dacc, rest, hacc, racc, e3, e4⟩
  have ok2 : OkO H2 (atD O D) := fun a z => z.elim (fun q => (ok1.same s2) a q) fun e => by rw [e, hacc]; exact fun q => nomatch q
  by_cases hlt : i < ds.length
  · refine .inr ⟨it.go i H2 (Kp.same s2) hlt, fun H' => Same H1 H' ∧ ∃ acc dacc rest, H' D = some (.lst acc) ∧ RepL X.K H' (atD O D) acc dacc ∧ compD2 t ft fs1 t1 ft1 f t1.slots (wipeC env vs) (ds.drop (i + 1)) = some rest ∧ dacc ++ rest = ys,
      fun H' q => ⟨ds.length - (i + 1), by omega, rfl, hlt, q⟩, fun x H3 y => ?_⟩
    have ei : ds[i]? = some ds[i] := List.getElem?_eq_getElem hlt
    obtain ⟨s3, rx⟩ := it.yld i H2 x H3 _ (Kp.same s2) y ei
    have rx := rx (atD O D) (fun a z => z.elim .inl fun e => .inr (by rw [e]; exact hD)) ok2
    rw [List.drop_eq_getElem_cons hlt, compD2] at e3
    obtain ⟨env1, e5, e3⟩ := bind_some' e3
    obtain ⟨tb, e6, e3⟩ := bind_some' e3
    rintro Y ⟨s', H', C, cl, fp, rfl⟩
    refine hg _ ⟨s', H', C, cl, fp, rfl⟩ x _ (wipe σ vs) H3 (atD O D) _ env1 _ (RW.same (s2.trans s3)) rx e5 fun σ' R' off => ⟨wipe_off (off.mono hsub), ?_⟩
    rintro Y ⟨s', H', C, cl, fp, rfl⟩
    refine ht _ ⟨s', H', C, cl, fp, rfl⟩ σ' H3 (atD O D) env1 tb _ (ok2.same s3) R' e6 fun H4 s4 => ?_
    cases tb with
    | false =>
      have e3 : compD2 t ft fs1 t1 ft1 f t1.slots (wipeC env vs) (List.drop (i + 1) ds) = some rest := e3
      refine iteF ⟨(s2.trans s3).trans s4, acc, dacc, rest, ?_, (racc.same (s3.trans s4)), e3, e4⟩
      exact (s3.trans s4) _ _ hacc
    | true =>
      have e3 : ((fs1 env1).bind fun ds1 => (compD t1 ft1 f (wipeC env1 t1.slots) ds1).bind fun ys1 => (compD2 t ft fs1 t1 ft1 f t1.slots (wipeC env vs) (List.drop (i + 1) ds)).bind fun ys => some (ys1 ++ ys)) = some rest := e3
      obtain ⟨ds1, e7, e3⟩ := bind_some' e3
      obtain ⟨ys1, e8, e3⟩ := bind_some' e3
      obtain ⟨rest', e9, e3⟩ := bind_some' e3
      cases e3
      refine iteT ?_
      rintro Y ⟨s', H', C, cl, fp, rfl⟩
      refine hi1 _ ⟨s', H', C, cl, fp, rfl⟩ σ' H4 (atD O D) env1 ds1 _ (ok2.same (s3.trans s4)) (R'.same s4) e7 fun J1 H5 k5 it1 => ?_
      have sA := (s3.trans s4).trans k5
      have hacc5 := sA _ _ hacc
      have ok5 := ok2.same sA
      have R5 := R'.same (s4.trans k5)
      have RW5 : RelC X.K H5 (atD O D) (wipe σ' t1.slots) (wipeC env1 t1.slots) := R5.wipe t1.slots
      -- the second clause's turns
      refine ⟨fun j m H6 => m = ds1.length - j ∧ j ≤ ds1.length ∧ Kp (Eo true (atD O D)) H5 H6 ∧ ∃ acc dacc rs, H6 D = some (.lst acc) ∧ RepL X.K H6 (atD O D) acc dacc ∧ compD t1 ft1 f (wipeC env1 t1.slots) (ds1.drop j) = some rs ∧ dacc ++ (rs ++ rest') = ys ∧ Same H1 H6 ∧ RelC X.K H6 (atD O D) (wipe σ' t1.slots) (wipeC env1 t1.slots),
        ⟨ds1.length, rfl, Nat.zero_le _, Kp.refl, acc, dacc, ys1, hacc5, racc.same sA, by rw [List.drop_zero]; exact e8, e4, s2.trans sA, RW5⟩, ?_⟩
      rintro j m H6 ⟨rfl, hj, k6, acc, dacc, rs, hacc, racc, g3, g4, s6, R6⟩
      have ok6 : OkO H6 (atD O D) := fun a z => z.elim (fun q => (ok1.same s6) a q) fun e => by rw [e, hacc]; exact fun q => nomatch q
      by_cases hlt1 : j < ds1.length
      · refine .inr ⟨it1.go j H6 k6 hlt1, fun H' => Kp (Eo true (atD O D)) H5 H' ∧ ∃ acc dacc rs, H' D = some (.lst acc) ∧ RepL X.K H' (atD O D) acc dacc ∧ compD t1 ft1 f (wipeC env1 t1.slots) (ds1.drop (j + 1)) = some rs ∧ dacc ++ (rs ++ rest') = ys ∧ Same H1 H' ∧ RelC X.K H' (atD O D) (wipe σ' t1.slots) (wipeC env1 t1.slots),
          fun H' q => ⟨ds1.length - (j + 1), by omega, rfl, hlt1, q⟩, fun x1 H7 y1 => ?_⟩
        have ej : ds1[j]? = some ds1[j] := List.getElem?_eq_getElem hlt1
        obtain ⟨s7, rx1⟩ := it1.yld j H6 x1 H7 _ k6 y1 ej
        have rx1 := rx1 (atD O D) (fun a z => .inl z) ok6
        rw [List.drop_eq_getElem_cons hlt1, compD] at g3
        obtain ⟨env2, g5, g3⟩ := bind_some' g3
        obtain ⟨tb1, g6, g3⟩ := bind_some' g3
        rintro Y ⟨s', H', C, cl, fp, rfl⟩
        refine hg1 _ ⟨s', H', C, cl, fp, rfl⟩ x1 _ (wipe σ' t1.slots) H7 (atD O D) _ env2 _ (R6.same s7) rx1 g5 fun σ2 R2 off1 => ⟨wipe_off off1, ?_⟩
        rintro Y ⟨s', H', C, cl, fp, rfl⟩
        refine ht1 _ ⟨s', H', C, cl, fp, rfl⟩ σ2 H7 (atD O D) env2 tb1 _ (ok6.same s7) R2 g6 fun H8 s8 => ?_
        cases tb1 with
        | false =>
          have g3 : compD t1 ft1 f (wipeC env1 t1.slots) (List.drop (j + 1) ds1) = some rs := g3
          refine iteF ⟨k6.trans (s7.trans s8), acc, dacc, rs, ?_, (racc.same (s7.trans s8)), g3, g4, s6.trans (s7.trans s8), R6.same (s7.trans s8)⟩
          exact (s7.trans s8) _ _ hacc
        | true =>
          have g3 : ((f env2).bind fun y => (compD t1 ft1 f (wipeC env1 t1.slots) (List.drop (j + 1) ds1)).bind fun ys => some (y :: ys)) = some rs := g3
          obtain ⟨dy, g7, g3⟩ := bind_some' g3
          obtain ⟨rs', g8, g3⟩ := bind_some' g3
          cases g3
          refine iteT ?_
          rintro Y ⟨s', H', C, cl, fp, rfl⟩
          refine he _ ⟨s', H', C, cl, fp, rfl⟩ σ2 H8 (atD O D) env2 dy _ (ok6.same (s7.trans s8)) (R2.same s8) g7 fun y H9 s9 ry => ?_
          have sB := (s7.trans s8).trans s9
          have hacc9 := sB _ _ hacc
          have la := racc.length
          have kD : ∀ {o : HO}, Kp (atD O D) H9 (upd H9 D o) := fun {o} => kp_at Kp.refl (.inr rfl)
          refine ⟨acc, hacc9, ?_, kp_at (k6.trans sB) ⟨rfl, .inr rfl⟩, acc ++ [y], dacc ++ [dy], rs', upd_same, ((racc.same sB).append (.cons ry .nil)).kp kD, g8, by rw [List.append_assoc]; exact g4, same_at (s6.trans sB) hD, ?_⟩
          · have hl : (dacc ++ (dy :: rs' ++ rest')).length ≤ SZ := by rw [g4]; exact hz
            rw [List.length_append, List.length_append, List.length_cons] at hl
            rw [SZ_eq, la]
            omega
          · refine ⟨(R6.same sB).1, fun i c e => ?_⟩
            have q := (R6.same sB).2 i c e
            cases c with
            | no => trivial
            | v d => obtain ⟨x, e1, r⟩ := q; exact ⟨x, e1, r.kp kD⟩
            | o d =>
              obtain ⟨a, xs, ds, e1, e2, e3, r⟩ := q
              refine ⟨a, xs, ds, e1, e2, ?_, r.kp kD⟩
              have na : a ≠ D := fun z => ?_
              · rw [upd_ne na]; exact e3
              · subst z
                -- the slot held it before the new list was laid
                obtain ⟨p1, p2⟩ := wipeC_own e
                obtain ⟨p3, p4⟩ := bindT_own t e5 i d p1
                obtain ⟨a', _, _, e1', _, e3', _⟩ := ((R.same k).wipe vs).2 i (.o d) p3
                have q : (wipe σ' t1.slots)[i]? = (wipe σ vs)[i]? := (wipe_out p2).trans (off.2 i p4)
                rw [q, e1'] at e1
                cases e1
                rw [hD] at e3'
                cases e3'
      · have e : j = ds1.length := by omega
        subst e
        rw [List.drop_length, compD] at g3
        cases g3
        exact .inl ⟨it1.stop H6 k6, s6, acc, dacc, rest', hacc, racc, e9, g4⟩
  · have e : i = ds.length := by omega
    subst e
    rw [List.drop_length, compD2] at e3
    cases e3
    rw [List.append_nil] at e4
    subst e4
    exact .inl ⟨it.stop H2 (Kp.same s2), c D acc dacc H2 (k.trans s2) (k.free hD) rfl hacc racc⟩
theorem df_lc2 (hc : X.calm = true) (hN : X.N.Nodup) (hb : blkC X.N X.env.scope scope own = true) (hs : ∀ x, foldedSetIterable iter X.env x = pure x) (hs1 : ∀ env x, foldedSetIterable iter1 env x = pure x) (hi : DI b X tg iter fs) (hg : ∀ Y, Blk X scope Y → DG Y tg t) (ht : ∀ Y, Blk X scope Y → DTs Y ifs ft)
    (hi1 : ∀ Y, Blk X scope Y → DI true Y tg1 iter1 fs1) (hg1 : ∀ Y, Blk X scope Y → DG Y tg1 t1) (ht1 : ∀ Y, Blk X scope Y → DTs Y ifs1 ft1) (he : ∀ Y, Blk X scope Y → DE Y elt f)
    (hsub : ∀ i ∈ t.slots, i ∈ own.map (·.2)) (hsub1 : ∀ i ∈ t1.slots, i ∈ own.map (·.2)) : DF X (.ListComp elt [⟨tg, iter, ifs, 0⟩, ⟨tg1, iter1, ifs1, 0⟩] scope pos) (lcV2 fs t ft fs1 t1 ft1 f (own.map (·.2))) :=
  fun σ H O env d Q ok R z c => PEw (pe_lc2 hc hN wI_pi (blkOk_by hb) hsub1 bG_pg bTs_pts bI_pi bG_pg bTs_pts bE_pe hs hs1) (tlc2_go hi hg ht hi1 hg1 ht1 he hsub ok R z c)
end
end PL
/-! PL k: statements on data. -/
namespace PL
open PySem PySem.Spec PyProof.Rows L2

/-! ### the frame's state -/
/-- the list at a is held by slot i alone -/
def Own (σ : L2.St) (env : List Cell) (i : Nat) (a : Addr) : Prop := (∃ d, env[i]? = some (.o d)) ∧ σ[i]? = some (some (.ref a))
def Ow (O : Addr → Prop) (σ : L2.St) (env : List Cell) : Addr → Prop := fun a => O a ∨ ∃ i, Own σ env i a
/-- H0, M0: the heap at a start, what might be changed then -/
structure RelM (K : PySem.W.Frag) (H0 : Hp) (M0 : Addr → Prop) (H : Hp) (O : Addr → Prop) (σ : L2.St) (env : List Cell) : Prop where
  rel : RelC K H (Ow O σ env) σ env
  ok : OkO H O
  nO : ∀ i a, Own σ env i a → ¬ O a
  inj : ∀ i j a, Own σ env i a → Own σ env j a → i = j
  kp : Kp M0 H0 H
  new : ∀ i a, Own σ env i a → M0 a ∨ H0 a = none
section
variable {K : PySem.W.Frag} {H0 H H' : Hp} {M0 O : Addr → Prop} {σ σ' : L2.St} {env env' : List Cell}
theorem RelC.ownLst (h : RelC K H O σ env) {i : Nat} {a : Addr} (o : Own σ env i a) : ∃ xs ds, env[i]? = some (.o (.l ds)) ∧ H a = some (.lst xs) ∧ RepL K H O xs ds := by
  obtain ⟨⟨d, e1⟩, e2⟩ := o
  obtain ⟨a', xs, ds, g1, g2, g3, r⟩ := h.2 i _ e1
  rw [e2] at g1
  cases g1
  subst g2
  exact ⟨xs, ds, e1, g3, r⟩
theorem RelM.okW (h : RelM K H0 M0 H O σ env) : OkO H (Ow O σ env) := fun a z => by
  rcases z with z | ⟨i, z⟩
  · exact h.ok a z
  · obtain ⟨xs, ds, _, e, _⟩ := h.rel.ownLst z
    rw [e]; exact fun q => nomatch q
theorem RelM.same (h : RelM K H0 M0 H O σ env) (k : Same H H') : RelM K H0 M0 H' O σ env :=
  ⟨h.rel.same k, h.ok.same k, h.nO, h.inj, h.kp.trans k, h.new⟩
/-- a target took a datum -/
theorem RelM.bind {t : Tg} {d : D} (h : RelM K H0 M0 H O σ env) (e : bindT t d env = some env') (r : RelC K H (Ow O σ env) σ' env') (off : Off t.slots σ σ') : RelM K H0 M0 H O σ' env' := by
  have own : ∀ i a, Own σ' env' i a → Own σ env i a := fun i a ⟨⟨x, e1⟩, e2⟩ => by
    obtain ⟨g1, g2⟩ := bindT_own t e i x e1
    exact ⟨⟨x, g1⟩, by rw [← off.2 i g2]; exact e2⟩
  refine ⟨r.mono fun a z => ?_, h.ok, fun i a o => h.nO i a (own i a o), fun i j a o p => h.inj i j a (own i a o) (own j a p), h.kp, fun i a o => h.new i a (own i a o)⟩
  rcases z with z | ⟨i, z⟩
  · exact .inl (.inl z)
  · exact .inl (.inr ⟨i, own i a z⟩)
/-- some lists are given up -/
@[simp] def frC (keep : Nat → Bool) : Nat → List Cell → List Cell
  | _, [] => []
  | n, .o d :: r => (if keep n = true then .o d else .v d) :: frC keep (n + 1) r
  | n, .v d :: r => .v d :: frC keep (n + 1) r
  | n, .no :: r => .no :: frC keep (n + 1) r
theorem frC_length (keep : Nat → Bool) : ∀ (env : List Cell) (n : Nat), (frC keep n env).length = env.length
  | [], _ => rfl
  | .o d :: r, n => by rw [frC, List.length_cons, List.length_cons, frC_length keep r]
  | .v d :: r, n => by rw [frC, List.length_cons, List.length_cons, frC_length keep r]
  | .no :: r, n => by rw [frC, List.length_cons, List.length_cons, frC_length keep r]
theorem frC_get (keep : Nat → Bool) : ∀ {env : List Cell} {n i : Nat} {c : Cell}, (frC keep n env)[i]? = some c →
    (env[i]? = some c ∧ ∀ d, c = .o d → keep (n + i) = true) ∨ ∃ d, c = .v d ∧ env[i]? = some (.o d) ∧ keep (n + i) = false
  | [], _, _, _, h => by rw [frC] at h; cases h
  | x :: r, n, i + 1, c, h => by
    have h' : (frC keep (n + 1) r)[i]? = some c := by
      cases x <;> (rw [frC, List.getElem?_cons_succ] at h; exact h)
    rcases frC_get keep h' with ⟨a, b⟩ | ⟨d, a, b, q⟩
    · exact .inl ⟨by rw [List.getElem?_cons_succ]; exact a, fun d e => by rw [show n + (i + 1) = n + 1 + i by omega]; exact b d e⟩
    · exact .inr ⟨d, a, by rw [List.getElem?_cons_succ]; exact b, by rw [show n + (i + 1) = n + 1 + i by omega]; exact q⟩
  | .o d :: r, n, 0, c, h => by
    rw [frC, List.getElem?_cons_zero] at h
    cases z : keep n with
    | true =>
      rw [z, if_pos rfl] at h
      cases h
      exact .inl ⟨rfl, fun _ _ => by first | exact z | rfl⟩
    | false =>
      rw [z, if_neg Bool.false_ne_true] at h
      cases h
      exact .inr ⟨d, rfl, rfl, by first | exact z | rfl⟩
  | .v d :: r, n, 0, c, h => by
    rw [frC, List.getElem?_cons_zero] at h
    cases h
    exact .inl ⟨rfl, fun _ e => nomatch e⟩
  | .no :: r, n, 0, c, h => by
    rw [frC, List.getElem?_cons_zero] at h
    cases h
    exact .inl ⟨rfl, fun _ e => nomatch e⟩
theorem RelM.free (keep : Nat → Bool) (h : RelM K H0 M0 H O σ env) : RelM K H0 M0 H O σ (frC keep 0 env) := by
  have own : ∀ i a, Own σ (frC keep 0 env) i a → Own σ env i a ∧ keep i = true := fun i a ⟨⟨x, e1⟩, e2⟩ => by
    rcases frC_get keep e1 with ⟨a, b⟩ | ⟨d, a, b⟩
    · exact ⟨⟨⟨x, a⟩, e2⟩, by have := b x rfl; rw [Nat.zero_add] at this; exact this⟩
    · cases a
  have sub : ∀ a, Ow O σ (frC keep 0 env) a → Ow O σ env a := fun a z => by
    rcases z with z | ⟨i, z⟩
    · exact .inl z
    · exact .inr ⟨i, (own i a z).1⟩
  refine ⟨⟨by rw [frC_length]; exact h.rel.1, fun i c e => ?_⟩, h.ok, fun i a o => h.nO i a (own i a o).1, fun i j a o p => h.inj i j a (own i a o).1 (own j a p).1, h.kp, fun i a o => h.new i a (own i a o).1⟩
  rcases frC_get keep e with ⟨g1, g2⟩ | ⟨d, g1, g2, g3⟩
  · exact (h.rel.mono fun a z => .inl (sub a z)).2 i c g1
  · subst g1
    rw [Nat.zero_add] at g3
    obtain ⟨a, xs, ds, e1, e2, e3, r⟩ := h.rel.2 i _ g2
    subst e2
    refine ⟨.ref a, e1, .l e3 (fun z => ?_) (r.less sub)⟩
    have oi : Own σ env i a := ⟨⟨_, g2⟩, e1⟩
    rcases z with z | ⟨j, z⟩
    · exact h.nO i a oi z
    · have e4 := h.inj i j a oi (own j a z).1
      subst e4
      rw [(own i a z).2] at g3
      cases g3
/-- a fresh list is stored -/
theorem RelM.fresh {i : Nat} {a : Addr} {xs : List V} {ds : List D} (h : RelM K H0 M0 H O σ env) (k : Same H H') (na : H a = none) (ha : H' a = some (.lst xs)) (r : RepL K H' (fun b => Ow O σ env b ∨ b = a) xs ds) :
    RelM K H0 M0 H' O (σ.set i (some (.ref a))) (env.set i (.o (.l ds))) := by
  have hl := h.rel.1
  have own : ∀ j b, Own (σ.set i (some (.ref a))) (env.set i (.o (.l ds))) j b → (j = i ∧ b = a) ∨ (j ≠ i ∧ Own σ env j b) := fun j b ⟨⟨x, e1⟩, e2⟩ => by
    by_cases hj : i = j
    · subst hj
      rw [List.getElem?_set, if_pos rfl] at e2
      split at e2
      · cases e2; exact .inl ⟨rfl, rfl⟩
      · cases e2
    · rw [List.getElem?_set_ne hj] at e1 e2
      exact .inr ⟨fun z => hj z.symm, ⟨x, e1⟩, e2⟩
  have old : ∀ j b, Own σ env j b → b ≠ a := fun j b o z => by
    obtain ⟨_, _, _, e, _⟩ := h.rel.ownLst o
    rw [z, na] at e; cases e
  have sub : ∀ b, Ow O (σ.set i (some (.ref a))) (env.set i (.o (.l ds))) b → Ow O σ env b ∨ b = a := fun b z => by
    rcases z with z | ⟨j, z⟩
    · exact .inl (.inl z)
    · rcases own j b z with ⟨_, e⟩ | ⟨_, o⟩
      · exact .inr e
      · exact .inl (.inr ⟨j, o⟩)
  refine ⟨⟨by rw [List.length_set, List.length_set]; exact hl, fun j c e => ?_⟩, h.ok.same k, fun j b o => ?_, fun j l b o p => ?_, h.kp.trans k, fun j b o => ?_⟩
  · by_cases hj : i = j
    · subst hj
      rw [List.getElem?_set, if_pos rfl] at e
      split at e
      · rename_i hi
        cases e
        exact ⟨a, xs, ds, by rw [List.getElem?_set_self (by omega)], rfl, ha, r.less sub⟩
      · cases e
    · rw [List.getElem?_set_ne hj] at e
      rw [List.getElem?_set_ne hj]
      have q := (((h.rel.mono (O' := fun b => Ow O σ env b ∨ b = a) fun b z => z.elim .inl fun e => .inr (by rw [e]; exact na)).same k).mono fun b z => .inl (sub b z)).2 j c e
      exact q
  · rcases own j b o with ⟨_, e⟩ | ⟨_, o⟩
    · subst e
      exact fun z => h.ok b z na
    · exact h.nO j b o
  · rcases own j b o with ⟨e1, e⟩ | ⟨e1, o⟩ <;> rcases own l b p with ⟨e2, e'⟩ | ⟨e2, o'⟩
    · rw [e1, e2]
    · exact absurd e (old l b o')
    · exact absurd e' (old j b o)
    · exact h.inj j l b o o'
  · rcases own j b o with ⟨_, e⟩ | ⟨_, o⟩
    · subst e
      by_cases hm : M0 b
      · exact .inl hm
      · refine .inr ?_
        cases q : H0 b with
        | none => rfl
        | some u =>
          have z := h.kp b u q hm
          rw [na] at z
          cases z
    · exact h.new j b o
/-- an owned list is rewritten -/
theorem RelM.write {i : Nat} {a : Addr} {xs : List V} {ds : List D} (h : RelM K H0 M0 H O σ env) (o : Own σ env i a) (r : RepL K H (Ow O σ env) xs ds) :
    RelM K H0 M0 (upd H a (.lst xs)) O σ (env.set i (.o (.l ds))) := by
  obtain ⟨⟨d0, g1⟩, g2⟩ := id o
  have hi := (List.getElem?_eq_some_iff.mp g1).1
  have own : ∀ j b, Own σ (env.set i (.o (.l ds))) j b → Own σ env j b := fun j b ⟨⟨x, e1⟩, e2⟩ => by
    by_cases hj : i = j
    · subst hj
      exact ⟨⟨d0, g1⟩, e2⟩
    · rw [List.getElem?_set_ne hj] at e1
      exact ⟨⟨x, e1⟩, e2⟩
  have sub : ∀ b, Ow O σ (env.set i (.o (.l ds))) b → Ow O σ env b := fun b z => by
    rcases z with z | ⟨j, z⟩
    · exact .inl z
    · exact .inr ⟨j, own j b z⟩
  have hk : Kp (Ow O σ env) H (upd H a (.lst xs)) := fun b u e n => by
    rw [upd_ne fun z => n (.inr ⟨i, by rw [z]; exact o⟩)]
    exact e
  obtain ⟨xs0, ds0, _, ha, _⟩ := h.rel.ownLst o
  refine ⟨⟨by rw [List.length_set]; exact h.rel.1, fun j c e => ?_⟩, fun b z => ?_, fun j b q => h.nO j b (own j b q), fun j l b p q => h.inj j l b (own j b p) (own l b q), fun b u e n => ?_, fun j b q => h.new j b (own j b q)⟩
  · by_cases hj : i = j
    · subst hj
      rw [List.getElem?_set_self hi] at e
      cases e
      exact ⟨a, xs, ds, g2, rfl, upd_same, (r.kp hk).less sub⟩
    · rw [List.getElem?_set_ne hj] at e
      have q := h.rel.2 j c e
      cases c with
      | no => trivial
      | v d => obtain ⟨x, e1, rx⟩ := q; exact ⟨x, e1, (rx.kp hk).less sub⟩
      | o d =>
        obtain ⟨b, ys, es, e1, e2, e3, rx⟩ := q
        refine ⟨b, ys, es, e1, e2, ?_, (rx.kp hk).less sub⟩
        rw [upd_ne fun z => hj (h.inj i j a o (by rw [← z]; exact ⟨⟨d, e⟩, e1⟩))]
        exact e3
  · unfold upd
    split
    · exact fun q => nomatch q
    · exact h.ok b z
  · have q := h.kp b u e n
    rw [upd_ne fun z => ?_]
    · exact q
    · subst z
      rcases h.new i b o with w | w
      · exact n w
      · rw [w] at e; cases e
def OwnM (σ : L2.St) (env : List Cell) : Addr → Prop := fun a => ∃ i, Own σ env i a
/-- from a second start -/
theorem RelM.trans (h : RelM K H0 M0 H O σ env) (g : RelM K H (OwnM σ env) H' O σ' env') : RelM K H0 M0 H' O σ' env' := by
  refine ⟨g.rel, g.ok, g.nO, g.inj, fun a o e n => g.kp a o (h.kp a o e n) fun ⟨i, z⟩ => ?_, fun i a o => ?_⟩
  · rcases h.new i a z with w | w
    · exact n w
    · rw [w] at e; cases e
  · rcases g.new i a o with ⟨j, z⟩ | z
    · exact h.new j a z
    · by_cases hm : M0 a
      · exact .inl hm
      · refine .inr ?_
        cases q : H0 a with
        | none => rfl
        | some u =>
          have w := h.kp a u q hm
          rw [z] at w
          cases w
theorem RelM.again (h : RelM K H0 M0 H O σ env) : RelM K H (OwnM σ env) H O σ env := ⟨h.rel, h.ok, h.nO, h.inj, Kp.refl, fun i a o => .inl ⟨i, o⟩⟩
theorem RelM.kpTrans (h : RelM K H0 M0 H O σ env) (g : Kp (OwnM σ env) H H') : Kp M0 H0 H' := fun a o e n => g a o (h.kp a o e n) fun ⟨i, z⟩ => by
  rcases h.new i a z with w | w
  · exact n w
  · rw [w] at e; cases e
end

/-! ### judgements -/
inductive Fl where
  | nx (e : List Cell) | rt (d : D) | bk (e : List Cell) | ct (e : List Cell)
def EndOk (K : PySem.W.Frag) (H0 : Hp) (M0 O : Addr → Prop) (D : Ends) : Fl → Prop
  | .nx e => ∀ σ H, RelM K H0 M0 H O σ e → D.nx σ H
  | .bk e => ∀ σ H, RelM K H0 M0 H O σ e → D.bk σ H
  | .ct e => ∀ σ H, RelM K H0 M0 H O σ e → D.ct σ H
  | .rt d => ∀ v H, Kp M0 H0 H → OkO H O → Rep K H O v d → D.rt v H
abbrev StF := List Cell → Option Fl
def wS (X : Cx) (st : Stmt) : TS := fun D σ H => ∀ (pins : List (Addr × Obj)) (s : Shared), Inv X pins σ H s → wpAny (model X.prog X.w) X.A (exec st X.env) (SP X pins D) X.xe s
def wSs (X : Cx) (st : List Stmt) : TS := fun D σ H => ∀ (pins : List (Addr × Obj)) (s : Shared), Inv X pins σ H s → wpAny (model X.prog X.w) X.A (execs st X.env) (SP X pins D) X.xe s
theorem wS_ps {X : Cx} {st : Stmt} : PS X st (wS X st) := ⟨fun pins s σ H D I h => h pins s I⟩
theorem wSs_pss {X : Cx} {st : List Stmt} : PSs X st (wSs X st) := ⟨fun pins s σ H D I h => h pins s I⟩
theorem PSw {X : Cx} {st : Stmt} {t : TS} (h : PS X st t) {D : Ends} {σ : L2.St} {H : Hp} (q : t D σ H) : wS X st D σ H := fun pins s I => h.run pins s σ H D I q
theorem PSsw {X : Cx} {st : List Stmt} {t : TS} (h : PSs X st t) {D : Ends} {σ : L2.St} {H : Hp} (q : t D σ H) : wSs X st D σ H := fun pins s I => h.run pins s σ H D I q
def DS (X : Cx) (st : Stmt) (f : StF) : Prop := ∀ (H0 : Hp) (M0 : Addr → Prop) (H : Hp) (O : Addr → Prop) (σ : L2.St) (env : List Cell) (fl : Fl) (D : Ends), RelM X.K H0 M0 H O σ env → f env = some fl → EndOk X.K H0 M0 O D fl → wS X st D σ H
def DSs (X : Cx) (sts : List Stmt) (f : StF) : Prop := ∀ (H0 : Hp) (M0 : Addr → Prop) (H : Hp) (O : Addr → Prop) (σ : L2.St) (env : List Cell) (fl : Fl) (D : Ends), RelM X.K H0 M0 H O σ env → f env = some fl → EndOk X.K H0 M0 O D fl → wSs X sts D σ H
section
variable {X : Cx} {st : Stmt} {sts rest body body2 : List Stmt} {f g : StF} {e c : Expr} {pos : Pos} {ef : EvF} {ft : List Cell → Option Bool} {t : Tg} {tg iter : Expr}
@[simp] def seqF (f g : StF) : StF := fun env => (f env).bind fun fl => match fl with
  | .nx e => g e
  | fl => some fl
theorem dss_nil : DSs X [] (fun env => some (.nx env)) := fun H0 M0 H O σ env fl D R e k => PSsw pss_nil (by cases e; exact k σ H R)
theorem dss_cons (h1 : DS X st f) (h2 : DSs X rest g) : DSs X (st :: rest) (seqF f g) := by
  intro H0 M0 H O σ env fl D R e k
  obtain ⟨fl1, e1, e2⟩ := bind_some' e
  refine PSsw (pss_cons wS_ps wSs_pss) (h1 H0 M0 H O σ env fl1 _ R e1 ?_)
  cases fl1 with
  | nx env1 => exact fun σ1 H1 R1 => h2 H0 M0 H1 O σ1 env1 fl D R1 e2 k
  | rt d => cases e2; exact k
  | bk env1 => cases e2; exact k
  | ct env1 => cases e2; exact k
theorem ds_free (keep : Nat → Bool) (h : DS X st f) : DS X st (fun env => f (frC keep 0 env)) := fun H0 M0 H O σ env fl D R e k => h H0 M0 H O σ _ fl D (R.free keep) e k
theorem ds_pass : DS X (.Pass pos) (fun env => some (.nx env)) := fun H0 M0 H O σ env fl D R e k => PSw ps_pass (by cases e; exact k σ H R)
theorem ds_break : DS X (.Break pos) (fun env => some (.bk env)) := fun H0 M0 H O σ env fl D R e k => PSw ps_break (by cases e; exact k σ H R)
theorem ds_cont : DS X (.Continue pos) (fun env => some (.ct env)) := fun H0 M0 H O σ env fl D R e k => PSw ps_continue (by cases e; exact k σ H R)
theorem ds_never : DS X st (fun _ => none) := fun H0 M0 H O σ env fl D R e k => nomatch e
theorem ds_retN : DS X (.Return none pos) (fun _ => some (.rt .n)) := fun H0 M0 H O σ env fl D R e k => PSw ps_retN (by cases e; exact k _ H R.kp R.ok .n)
@[simp] def retF (f : EvF) : StF := fun env => (f (frC (fun _ => false) 0 env)).map .rt
theorem ow_none {K : PySem.W.Frag} {O : Addr → Prop} {σ : L2.St} {env : List Cell} : ∀ a, O a → Ow O σ (frC (fun _ => false) 0 env) a := fun a z => .inl z
theorem ds_ret (h : DE X e ef) : DS X (.Return (some e) pos) (retF ef) := by
  intro H0 M0 H O σ env fl D R z k
  obtain ⟨d, e1, e2⟩ := map_some' z
  subst e2
  have R' := R.free fun _ => false
  refine PSw (ps_ret wE_pe) (h σ H _ _ d _ R'.okW R'.rel e1 fun v H1 s r => ?_)
  exact k v H1 (R.kp.trans s) (R.ok.same s) (r.less fun a z => .inl z)
@[simp] def ifF (ft : List Cell → Option Bool) (f g : StF) : StF := fun env => (ft env).bind fun x => if x = true then f env else g env
theorem ds_if (ht : DT X c ft) (ha : DSs X body f) (hb : DSs X body2 g) : DS X (.If c body body2 pos) (ifF ft f g) := by
  intro H0 M0 H O σ env fl D R z k
  obtain ⟨x, e1, e2⟩ := bind_some' z
  refine PSw (ps_if wT_pt wSs_pss wSs_pss) (ht σ H _ env x _ R.okW R.rel e1 fun H1 s => ?_)
  cases x with
  | true => exact iteT (ha H0 M0 H1 O σ env fl D (R.same s) e2 k)
  | false => exact iteF (hb H0 M0 H1 O σ env fl D (R.same s) e2 k)
/-- target = value -/
@[simp] def asgF (t : Tg) (f : EvF) : StF := fun env => (f env).bind fun d => (bindT t d env).map .nx
theorem ds_asg (he : DE X e ef) (hg : DG X tg t) (hs : swapsWithSole [tg] e pos.line X.env = pure false) (hw : swappedStores [tg] e X.env = pure none) (h1 : (assignEach [tg] X.env).map (·.2) = [assign tg X.env]) : DS X (.Assign [tg] e pos) (asgF t ef) := by
  intro H0 M0 H O σ env fl D R z k
  obtain ⟨d, e1, z⟩ := bind_some' z
  obtain ⟨env', e2, z⟩ := map_some' z
  subst z
  refine PSw (ps_asg wE_pe wG_pg hs hw h1) (he σ H _ env d _ R.okW R.rel e1 fun v H1 s r => ?_)
  exact hg v d σ H1 _ env env' _ (R.same s).rel r e2 fun σ' R' off => k σ' H1 ((R.same s).bind e2 R' off)
/-- name = a new list, which the frame may change -/
@[simp] def ownF (i : Nat) (f : EvF) : StF := fun env => (f env).map fun d => .nx (env.set i (.o d))
theorem ds_own {i : Nat} {x : Str} {pos' : Pos} (hN : X.N.Nodup) (hi : X.N[i]? = some x) (hx : Loc X.env.scope x) (hf : X.fn x = true ∨ X.env.scope.names.lookup x = some .local) (he : DF X e ef) (hs : swapsWith e (some (.Name x pos')) pos.line X.env = pure false) : DS X (.Assign [.Name x pos'] e pos) (ownF i ef) := by
  intro H0 M0 H O σ env fl D R z k
  obtain ⟨d, e1, z⟩ := map_some' z
  subst z
  refine PSw (ps_set hN hi hx wE_pe hs hf) (he σ H _ env d _ R.okW R.rel e1 fun a xs ds H1 s na ed ha r => ?_)
  subst ed
  exact k _ H1 (R.fresh s na ha r)
/-- x.append(e) -/
@[simp] def getO : List Cell → Nat → Option (List D)
  | .o (.l ds) :: _, 0 => some ds
  | _ :: r, n + 1 => getO r n
  | _, _ => none
theorem getO_some : ∀ {env : List Cell} {i : Nat} {ds : List D}, getO env i = some ds → env[i]? = some (.o (.l ds))
  | [], _, _, h => by cases h
  | c :: r, n + 1, ds, h => by
    have h : getO r n = some ds := by
      cases c with
      | o d => cases d <;> exact h
      | _ => exact h
    rw [List.getElem?_cons_succ]
    exact getO_some h
  | .no :: r, 0, ds, h => by cases h
  | .v _ :: r, 0, ds, h => by cases h
  | .o d :: r, 0, ds, h => by
    cases d <;> first
      | (cases h; done)
      | (cases h; rfl)
theorem RelM.getO {K : PySem.W.Frag} {H0 H : Hp} {M0 O : Addr → Prop} {σ : L2.St} {env : List Cell} {i : Nat} {ds : List D} (R : RelM K H0 M0 H O σ env) (h : getO env i = some ds) : ∃ a xs, Own σ env i a ∧ σ[i]? = some (some (.ref a)) ∧ H a = some (.lst xs) ∧ RepL K H (Ow O σ env) xs ds := by
  have e := getO_some h
  obtain ⟨a, xs, ds', e1, e2, e3, r⟩ := R.rel.2 i _ e
  cases e2
  exact ⟨a, xs, ⟨⟨_, e⟩, e1⟩, e1, e3, r⟩
@[simp] def appF (i : Nat) (f : EvF) : StF := fun env => (getO env i).bind fun ds => (f env).bind fun y => if ds.length < SZ then some (.nx (env.set i (.o (.l (ds ++ [y]))))) else none
theorem ds_append {i : Nat} {x : Str} {p1 apos cpos : Pos} (hi : X.N[i]? = some x) (hv : Vis X.env.scope x) (hd : (x == ("__debug__" : Str)) = false) (hcd : (x == ("__classdict__" : Str)) = false) (he : DE X e ef)
    (hline : (apos.endLine == cpos.line) = true) (hs : starEach [e] X.env = (false, eval e X.env) :: starEach [] X.env)
    (hbase : attributeBase (.Name x p1) "append" X.env (eval (.Name x p1) X.env) = eval (.Name x p1) X.env) :
    DS X (.Expr (.Call (.Attribute (.Name x p1) "append" apos) [e] [] cpos) pos) (appF i ef) := by
  intro H0 M0 H O σ env fl D R z k
  obtain ⟨ds, e1, z⟩ := bind_some' z
  obtain ⟨y, e2, z⟩ := bind_some' z
  split at z <;> first
    | (cases z; done)
    | skip
  rename_i hz
  cases z
  obtain ⟨a, xs, ow, g1, g2, g3⟩ := R.getO e1
  have hfew : ((backTo cpos (starEach (e :: []) X.env)).all (fun x => !x.1) && (backToKw cpos (keywordEach [] X.env)).all (fun x => x.1.isSome)
      && decide ((e :: []).length + ([] : List Keyword).length + (if ([] : List Keyword).isEmpty then 0 else 1) < 30)) = true := by rw [hs]; rfl
  refine PSw (ps_expr (pe_bm F.plainAttrs_list F.slot_list_append F.type_list_append mt_append (pe_var hi hv hd hcd) (pa_cons wE_pe pa_nil hs) hbase hfew hline hs rfl) rfl) ?_
  refine ⟨.ref a, g1, .inl ⟨rfl, xs, SqL.of g2⟩, ?_⟩
  refine he σ H _ env y _ R.okW R.rel e2 fun v H1 s r => ?_
  have g4 := s _ _ g2
  refine ⟨a, xs, v, rfl, rfl, g4, by rw [g3.length, SZ_eq]; exact hz, ?_⟩
  exact k _ _ ((R.same s).write ow ((g3.same s).append (.cons r .nil)))
/-- x[k] = e -/
@[simp] def setF (i : Nat) (fk f : EvF) : StF := fun env => (f env).bind fun y => (getO env i).bind fun ds => (fk env).bind fun q => match q with
  | .i k => (ixN ds.length k).map fun j => .nx (env.set i (.o (.l (ds.set j y))))
  | _ => none
theorem ds_setIx {i : Nat} {x : Str} {p1 p2 : Pos} {ek : Expr} {fk : EvF} (hi : X.N[i]? = some x) (hv : Vis X.env.scope x) (hd : (x == ("__debug__" : Str)) = false) (hcd : (x == ("__classdict__" : Str)) = false) (hk : DE X ek fk) (he : DE X e ef)
    (ha : ∀ v, assign (.Subscript (.Name x p1) ek p2) X.env v = (do
      let ov ← holding [v] (eval (.Name x p1) X.env)
      let iv ← holding [v, ov] (eval ek X.env)
      standAt p2
      holding [v, ov, iv] (setItem ov iv v)
      release [v, ov, iv] []))
    (hs : swapsWithSole [.Subscript (.Name x p1) ek p2] e pos.line X.env = pure false) (hw : swappedStores [.Subscript (.Name x p1) ek p2] e X.env = pure none) (h1 : (assignEach [.Subscript (.Name x p1) ek p2] X.env).map (·.2) = [assign (.Subscript (.Name x p1) ek p2) X.env]) :
    DS X (.Assign [.Subscript (.Name x p1) ek p2] e pos) (setF i fk ef) := by
  intro H0 M0 H O σ env fl D R z k
  obtain ⟨y, e1, z⟩ := bind_some' z
  obtain ⟨ds, e2, z⟩ := bind_some' z
  obtain ⟨q, e3, z⟩ := bind_some' z
  cases q <;> first
    | (cases z; done)
    | skip
  rename_i kk
  obtain ⟨j, e4, z⟩ := map_some' z
  subst z
  refine PSw (ps_asg wE_pe (pg_sub (pe_var hi hv hd hcd) wE_pe set_list ha) hs hw h1) (he σ H _ env y _ R.okW R.rel e1 fun v H1 s r => ?_)
  obtain ⟨a, xs, ow, g1, g2, g3⟩ := (R.same s).getO e2
  refine ⟨.ref a, g1, hk σ H1 _ env _ _ (R.same s).okW (R.same s).rel e3 fun u H2 s2 r2 => ?_⟩
  cases r2
  have g4 := s2 _ _ g2
  refine ⟨a, xs, kk, j, rfl, rfl, g4, by rw [g3.length]; exact e4, ?_⟩
  exact k _ _ (((R.same s).same s2).write ow ((g3.same s2).set (r.same s2) j))
/-- name += int, name -= int -/
@[simp] def augF (i : Nat) (op : Int → Int → Int) (f : EvF) : StF := fun env => (getV env i).bind fun x => (f env).bind fun y => match x, y with
  | .i a, .i b => some (.nx (env.set i (.v (.i (op a b)))))
  | _, _ => none
theorem ds_aug {i : Nat} {x : Str} {pos' : Pos} {op : Operator} {p : Int → Int → Int} (hN : X.N.Nodup) (hi : X.N[i]? = some x) (hx : Loc X.env.scope x) (hf : X.fn x = true ∨ X.env.scope.names.lookup x = some .local) (ho : PIp X op (ipI p)) (he : DE X e ef) :
    DS X (.AugAssign (.Name x pos') op e pos) (augF i p ef) := by
  intro H0 M0 H O σ env fl D R z k
  obtain ⟨a, e1, z1⟩ := bind_some' z
  clear z
  obtain ⟨b, e2, z⟩ := bind_some' z1
  clear z1
  cases a <;> cases b <;> first
    | (cases z; done)
    | skip
  rename_i a b
  cases z
  obtain ⟨u, g1, g2⟩ := R.rel.2 i _ (getV_some e1)
  cases g2
  refine PSw (ps_aug hN hi hx wE_pe ho hf) ⟨.int a, g1, he σ H _ env _ _ R.okW R.rel e2 fun v H1 s r => ?_⟩
  cases r
  refine ⟨a, b, rfl, rfl, k _ H1 ?_⟩
  have e3 : bindT (.nm i) (.i (p a b)) env = some (env.set i (.v (.i (p a b)))) := by rw [bindT]
  exact (R.same s).bind e3 ((R.same s).rel.set (.i _)) (by rw [Tg.slots]; exact Off.set)
/-- an expression whose value is dropped -/
theorem ds_expr (he : DE X e ef) (hs : swapsWith e none pos.line X.env = pure false) : DS X (.Expr e pos) (fun env => (ef env).map fun _ => .nx env) := by
  intro H0 M0 H O σ env fl D R z k
  obtain ⟨d, e1, z⟩ := map_some' z
  subst z
  exact PSw (ps_expr wE_pe hs) (he σ H _ env d _ R.okW R.rel e1 fun v H1 s r => k σ H1 (R.same s))

/-! ### loops -/
@[simp] def forV (t : Tg) (fb : StF) : List D → StF
  | [], env => some (.nx env)
  | d :: ds, env => (bindT t d env).bind fun env1 => (fb env1).bind fun fl => match fl with
    | .nx e => forV t fb ds e
    | .ct e => forV t fb ds e
    | .bk e => some (.nx e)
    | .rt d => some (.rt d)
@[simp] def forF (fs : List Cell → Option (List D)) (t : Tg) (fb : StF) : StF := fun env => (fs env).bind fun ds => forV t fb ds env
theorem ds_for {fs : List Cell → Option (List D)} (hp : PassesOwn (model X.prog X.w) X.A X.env X.xe) (hc : X.calm = true) (hi : DI true X tg iter fs) (hg : DG X tg t) (hb : DSs X body f) (hs : ∀ x, foldedSetIterable iter X.env x = pure x) :
    DS X (.For tg iter body [] pos) (forF fs t f) := by
  intro H0 M0 H O σ env fl D R z k
  obtain ⟨ds, e1, z⟩ := bind_some' z
  refine PSw (ps_for hp hc wI_pi wG_pg wSs_pss hs) (hi σ H _ env ds _ R.okW R.rel e1 fun J H1 s it => ?_)
  have R1 := R.same s
  have kE : ∀ {H' : Hp}, Kp (OwnM σ env) H1 H' → Kp (Eo true (Ow O σ env)) H1 H' := fun h a o e n => h a o e fun q => n ⟨rfl, .inr q⟩
  refine ⟨fun i m σ' H' => m = ds.length - i ∧ i ≤ ds.length ∧ ∃ env', RelM X.K H1 (OwnM σ env) H' O σ' env' ∧ forV t f (ds.drop i) env' = some fl, ⟨ds.length, rfl, Nat.zero_le _, env, R1.again, by rw [List.drop_zero]; exact z⟩, ?_⟩
  rintro i m σ' H' ⟨rfl, hi, env', R', z'⟩
  by_cases hlt : i < ds.length
  · refine .inr ⟨it.go i H' (kE R'.kp) hlt, fun σ2 H2 => ∃ env', RelM X.K H1 (OwnM σ env) H2 O σ2 env' ∧ forV t f (ds.drop (i + 1)) env' = some fl, fun σ2 H2 q => ⟨ds.length - (i + 1), by omega, rfl, hlt, q⟩, fun x H3 y => ?_⟩
    have ei : ds[i]? = some ds[i] := List.getElem?_eq_getElem hlt
    obtain ⟨s3, rx⟩ := it.yld i H' x H3 _ (kE R'.kp) y ei
    have rx := rx (Ow O σ' env') (fun a z => by
      rcases z with z | ⟨j, z⟩
      · exact .inl (.inl z)
      · rcases R'.new j a z with q | q
        · exact .inl (.inr q)
        · exact .inr q) R'.okW
    rw [List.drop_eq_getElem_cons hlt, forV] at z'
    obtain ⟨env1, e2, z'⟩ := bind_some' z'
    obtain ⟨fl1, e3, z'⟩ := bind_some' z'
    have R3 := R'.same s3
    refine hg x _ σ' H3 _ env' env1 _ R3.rel rx e2 fun σ2 R2 off => ?_
    have R4 := R3.bind e2 R2 off
    refine hb H1 (OwnM σ env) H3 O σ2 env1 fl1 _ R4 e3 ?_
    cases fl1 with
    | nx e => exact fun σ5 H5 R5 => ⟨e, R5, z'⟩
    | ct e => exact fun σ5 H5 R5 => ⟨e, R5, z'⟩
    | bk e =>
      cases z'
      exact fun σ5 H5 R5 => k σ5 H5 (R1.trans R5)
    | rt d =>
      cases z'
      exact fun v H5 k5 ok5 r5 => k v H5 (R1.kpTrans k5) ok5 r5
  · have e : i = ds.length := by omega
    subst e
    rw [List.drop_length, forV] at z'
    cases z'
    exact .inl ⟨it.stop H' (kE R'.kp), k σ' H' (R1.trans R')⟩
def whileV (ft : List Cell → Option Bool) (fb : StF) : Nat → StF
  | 0, _ => none
  | n + 1, env => (ft env).bind fun c => if c = true then (fb env).bind fun fl => (match fl with
    | .nx e => whileV ft fb n e
    | .ct e => whileV ft fb n e
    | .bk e => some (.nx e)
    | .rt d => some (.rt d)) else some (.nx env)
theorem ds_while (n : Nat) (hp : PassesOwn (model X.prog X.w) X.A X.env X.xe) (ht : DT X c ft) (hb : DSs X body f) : DS X (.While c body [] pos) (whileV ft f n) := by
  intro H0 M0 H O σ env fl D R z k
  refine PSw (ps_while hp wT_pt wSs_pss) ⟨fun m σ' H' => ∃ env', RelM X.K H0 M0 H' O σ' env' ∧ whileV ft f m env' = some fl, ⟨n, env, R, z⟩, ?_⟩
  rintro m σ' H' ⟨env', R', z'⟩
  cases m with
  | zero => rw [whileV] at z'; cases z'
  | succ m =>
    rw [whileV] at z'
    obtain ⟨b, e1, z'⟩ := bind_some' z'
    refine ht σ' H' _ env' b _ R'.okW R'.rel e1 fun H1 s => ?_
    cases b with
    | false =>
      cases z'
      exact iteF (k σ' H1 (R'.same s))
    | true =>
      have z' : ((f env').bind fun fl => match fl with | .nx e => whileV ft f m e | .ct e => whileV ft f m e | .bk e => some (.nx e) | .rt d => some (.rt d)) = some fl := z'
      obtain ⟨fl1, e2, z'⟩ := bind_some' z'
      refine iteT ⟨fun σ2 H2 => ∃ env', RelM X.K H0 M0 H2 O σ2 env' ∧ whileV ft f m env' = some fl, fun σ2 H2 q => ⟨m, Nat.lt_succ_self _, q⟩, ?_⟩
      refine hb H0 M0 H1 O σ' env' fl1 _ (R'.same s) e2 ?_
      cases fl1 with
      | nx e => exact fun σ5 H5 R5 => ⟨e, R5, z'⟩
      | ct e => exact fun σ5 H5 R5 => ⟨e, R5, z'⟩
      | bk e => cases z'; exact k
      | rt d => cases z'; exact k
end
end PL
/-! PL l: the evaluator of expressions, and that the model keeps to it. -/
namespace PL
open PySem PySem.Spec PyProof.Rows L2

/-! ### what is known of a place in the text -/
structure Ga where
  N : List Str
  sc : Scope
  fnx : Str → Bool
  fns : List (Str × Nat)
  free : List Str
  call : Str → List D → Option D
def idxS (x : Str) : List Str → Nat → Option Nat
  | [], _ => none
  | y :: r, n => if x = y then some n else idxS x r (n + 1)
theorem idxS_some {x : Str} : ∀ {l : List Str} {n i : Nat}, idxS x l n = some i → n ≤ i ∧ l[i - n]? = some x
  | [], _, _, h => by cases h
  | y :: r, n, i, h => by
    unfold idxS at h
    split at h
    · rename_i e
      cases h
      subst e
      exact ⟨Nat.le_refl _, by rw [Nat.sub_self, List.getElem?_cons_zero]⟩
    · obtain ⟨h1, h2⟩ := idxS_some h
      refine ⟨by omega, ?_⟩
      rw [show i - n = (i - (n + 1)) + 1 by omega, List.getElem?_cons_succ]
      exact h2
def Ga.slot (Γ : Ga) (x : Str) : Option Nat := idxS x Γ.N 0
def Ga.vis (Γ : Ga) (x : Str) : Bool := (match Γ.sc.names.lookup x with
  | some .local => true
  | some .cell => true
  | some .free => true
  | _ => false) && !(x == ("__debug__" : Str)) && !(x == ("__classdict__" : Str))
def Ga.loc (Γ : Ga) (x : Str) : Bool := match Γ.sc.names.lookup x with
  | some .local => true
  | some .cell => Γ.fnx x
  | _ => false
def Ga.gl (Γ : Ga) (x : Str) : Bool := (match Γ.sc.names.lookup x with
  | some .globalImplicit => true
  | _ => false) && !(x == ("__debug__" : Str)) && !(x == ("__name__" : Str))
def Ga.blk (Γ : Ga) (scope : Scope) : Ga := { Γ with sc := relS scope Γ.sc, fnx := fun x => scope.names.lookup x == some .cell }
structure GOk (Γ : Ga) (X : Cx) : Prop where
  N : X.N = Γ.N
  nd : X.N.Nodup
  sc : X.env.scope = Γ.sc
  fn : ∀ x, Γ.fnx x = true → X.fn x = true
  calm : X.calm = true
  un : X.A.units + 65 < cLine
  free : ∀ x, Γ.free.contains x = true → X.mg x = none
  fns : ∀ x n, Γ.fns.lookup x = some n → ∃ k fa fd ps, FnOk X.prog X.w X.K X.mg X.base CX0 k fa fd ps (spD X.K n (Γ.call x)) ∧ Room k X.A ∧ X.mg x = some (.ref fa) ∧ PySem.W.keepIn X.K (.ref fa) = true ∧ Binds X.K fd ps []
section
variable {Γ : Ga} {X : Cx} {x : Str} {i : Nat}
theorem GOk.slot (g : GOk Γ X) (h : Γ.slot x = some i) : X.N[i]? = some x := by
  have q := (idxS_some h).2
  rw [g.N]
  exact q
theorem GOk.vis (g : GOk Γ X) (h : Γ.vis x = true) : Vis X.env.scope x ∧ (x == ("__debug__" : Str)) = false ∧ (x == ("__classdict__" : Str)) = false := by
  unfold Ga.vis at h
  rw [Bool.and_eq_true, Bool.and_eq_true, Bool.not_eq_true', Bool.not_eq_true'] at h
  obtain ⟨⟨h1, h2⟩, h3⟩ := h
  refine ⟨?_, h2, h3⟩
  unfold Vis
  rw [g.sc]
  split at h1 <;> first
    | (rename_i e; rw [e]; exact .inl rfl)
    | (rename_i e; rw [e]; exact .inr (.inl rfl))
    | (rename_i e; rw [e]; exact .inr (.inr rfl))
    | cases h1
theorem GOk.loc (g : GOk Γ X) (h : Γ.loc x = true) : L2.Loc X.env.scope x ∧ (X.fn x = true ∨ X.env.scope.names.lookup x = some .local) := by
  unfold Ga.loc at h
  unfold L2.Loc
  rw [g.sc]
  split at h
  · rename_i e; rw [e]; exact ⟨.inl rfl, .inr rfl⟩
  · rename_i e; rw [e]; exact ⟨.inr rfl, .inl (g.fn x h)⟩
  · cases h
theorem GOk.gl (g : GOk Γ X) (h : Γ.gl x = true) : Gl X x ∧ (x == ("__debug__" : Str)) = false ∧ x ≠ "__name__" := by
  unfold Ga.gl at h
  rw [Bool.and_eq_true, Bool.and_eq_true, Bool.not_eq_true', Bool.not_eq_true'] at h
  obtain ⟨⟨h1, h2⟩, h3⟩ := h
  refine ⟨?_, h2, fun e => ?_⟩
  · unfold Gl Env.kindOf
    rw [g.sc]
    split at h1
    · rename_i e; exact e
    · cases h1
  · rw [e, beq_self_eq_true] at h3
    cases h3
theorem GOk.blk {scope : Scope} {Y : Cx} (g : GOk Γ X) (h : Blk X scope Y) : GOk (Γ.blk scope) Y := by
  obtain ⟨s, H, C, cl, fp, rfl⟩ := h
  refine ⟨g.N, g.nd, ?_, fun x e => e, g.calm, g.un, g.free, g.fns⟩
  show relS scope X.env.scope = relS scope Γ.sc
  rw [g.sc]
end

/-! ### what an expression gives -/
structure Ev where
  e : EvF
  b : EvF
  f : EvF
  t : List Cell → Option Bool
def noE : EvF := fun _ => none
def noT : List Cell → Option Bool := fun _ => none
def Ev.bad : Ev := ⟨noE, noE, noE, noT⟩
structure EvOk (X : Cx) (x : Expr) (r : Ev) : Prop where
  e : DE X x r.e
  b : DB X x r.b
  f : DF X x r.f
  t : DT X x r.t
section
variable {X : Cx} {x : Expr} {f : EvF}
theorem de_no : DE X x noE := fun _ _ _ _ _ _ _ _ h => nomatch h
theorem db_no : DB X x noE := fun _ _ _ _ _ _ _ _ h => nomatch h
theorem df_no : DF X x noE := fun _ _ _ _ _ _ _ _ h => nomatch h
theorem dt_no : DT X x noT := fun _ _ _ _ _ _ _ _ h => nomatch h
theorem bad_ok : EvOk X x .bad := ⟨de_no, db_no, df_no, dt_no⟩
/-- tests that ask the value alone -/
def plainT : Expr → Bool
  | .UnaryOp .Not _ _ => false
  | .BoolOp .. => false
  | .IfExp .. => false
  | .Compare .. => false
  | _ => true
theorem plainT_ok {x : Expr} (h : plainT x = true) {env : Env} : ∀ whole, isTrue x env whole = (do let v ← whole; standAt x.pos; holding [v] (truthy v)) := by
  intro whole
  cases x with
  | UnaryOp op a pos => cases op <;> first | (cases h; done) | rfl
  | BoolOp => cases h
  | IfExp => cases h
  | Compare => cases h
  | _ => rfl
/-- of a strict reading; borrowed; of a fresh list -/
def Ev.ofE (x : Expr) (f : EvF) : Ev := ⟨f, f, noE, if plainT x = true then asT f else noT⟩
def Ev.ofB (x : Expr) (f g : EvF) : Ev := ⟨f, g, noE, if plainT x = true then asT g else noT⟩
def Ev.ofF (x : Expr) (f : EvF) : Ev := ⟨f, f, f, if plainT x = true then asT f else noT⟩
theorem ofT_ok (h : DB X x f) : DT X x (if plainT x = true then asT f else noT) := by
  split
  · rename_i q
    exact dt_truth h (plainT_ok q)
  · exact dt_no
theorem ofE_ok (h : DE X x f) : EvOk X x (.ofE x f) := ⟨h, h.db, df_no, ofT_ok h.db⟩
theorem ofB_ok {g : EvF} (h : DE X x f) (h' : DB X x g) : EvOk X x (.ofB x f g) := ⟨h, h', df_no, ofT_ok h'⟩
theorem ofF_ok (h : DF X x f) : EvOk X x (.ofF x f) := ⟨h.de, h.de.db, h, ofT_ok h.de.db⟩
theorem if_ok {c : Bool} {r : Ev} (h : c = true → EvOk X x r) : EvOk X x (if c = true then r else .bad) := by
  split
  · rename_i q; exact h q
  · exact bad_ok
end
abbrev Rc := Ga → Expr → Ev
def Snd (rec : Rc) : Prop := ∀ Γ X x, GOk Γ X → EvOk X x (rec Γ x)

/-! ### stars -/
def noStar : Expr → Bool
  | .Starred .. => false
  | _ => true
theorem star_cons {e : Expr} {es : List Expr} {env : Env} (h : noStar e = true) : starEach (e :: es) env = (false, eval e env) :: starEach es env := by
  cases e <;> first | (cases h; done) | rfl
theorem star_any {pos : Pos} {env : Env} : ∀ {es : List Expr}, es.all noStar = true → (backTo pos (starEach es env)).any (·.1) = false
  | [], _ => rfl
  | e :: es, h => by
    rw [List.all_cons, Bool.and_eq_true] at h
    rw [star_cons h.1]
    unfold backTo
    rw [List.map_cons, List.any_cons]
    have ih := star_any (pos := pos) (env := env) h.2
    unfold backTo at ih
    rw [ih]
    rfl
def argsE (ev : Expr → Ev) : List Expr → List Cell → Option (List D)
  | [] => fun _ => some []
  | e :: es => consL (ev e).e (argsE ev es)
def argsB (ev : Expr → Ev) : List Expr → List Cell → Option (List D)
  | [] => fun _ => some []
  | e :: es => consL (ev e).b (argsB ev es)
section
variable {X : Cx} {ev : Expr → Ev}
theorem argsE_ok (h : ∀ x, EvOk X x (ev x)) : ∀ {es : List Expr}, es.all noStar = true → DL X es (argsE ev es)
  | [], _ => dl_nil
  | e :: es, q => by
    rw [List.all_cons, Bool.and_eq_true] at q
    exact dl_cons (h e).e (argsE_ok h q.2) (star_cons q.1)
theorem argsB_ok (h : ∀ x, EvOk X x (ev x)) : ∀ {es : List Expr}, es.all noStar = true → DM X es (argsB ev es)
  | [], _ => dm_nil
  | e :: es, q => by
    rw [List.all_cons, Bool.and_eq_true] at q
    exact dm_cons (h e).b (argsB_ok h q.2) (star_cons q.1)
theorem argsE_len {env : List Cell} : ∀ {es : List Expr} {ds : List D}, argsE ev es env = some ds → ds.length = es.length
  | [], ds, h => by cases h; rfl
  | e :: es, ds, h => by
    obtain ⟨x, h1, h⟩ := bind_some' h
    obtain ⟨xs, h2, h⟩ := bind_some' h
    cases h
    rw [List.length_cons, List.length_cons, argsE_len h2]
end

/-! ### operators -/
def opD : Operator → Option (D → D → Option D)
  | .Add => some addD
  | .Sub => some subD
  | .Mult => some mulD
  | .FloorDiv => some fdivD
  | .Mod => some modD
  | .Pow => some powD
  | _ => none
def cmpD : CmpOp → D → D → Option D
  | .Eq => eqqD
  | .NotEq => neqD
  | .In => inD
  | .NotIn => ninD
  | .Is => isD
  | .IsNot => isntD
  | .Lt => cmpI fLt
  | .LtE => cmpI fLe
  | .Gt => cmpI fGt
  | .GtE => cmpI fGe
def cmpB : CmpOp → Option (Int → Int → Bool)
  | .Lt => some fLt
  | .LtE => some fLe
  | .Gt => some fGt
  | .GtE => some fGe
  | _ => none
section
variable {X : Cx}
theorem opD_ok : ∀ {op : Operator} {F : D → D → Option D}, opD op = some F → OpF X (binaryOp op) F
  | .Add, _, rfl => of_add
  | .Sub, _, rfl => of_sub
  | .Mult, _, rfl => of_mul
  | .FloorDiv, _, rfl => of_fdiv
  | .Mod, _, rfl => of_mod
  | .Pow, _, rfl => of_pow
theorem cmpD_ok (hu : X.A.units + 65 < cLine) : ∀ op : CmpOp, OpF X (compareOp op) (cmpD op)
  | .Eq => of_eq hu
  | .NotEq => of_ne hu
  | .In => of_in hu
  | .NotIn => of_nin hu
  | .Is => of_is
  | .IsNot => of_isnt
  | .Lt => of_cmpI op_lt
  | .LtE => of_cmpI op_le
  | .Gt => of_cmpI op_gt
  | .GtE => of_cmpI op_ge
theorem cmpB_ok : ∀ {op : CmpOp} {p : Int → Int → Bool}, cmpB op = some p → OpR X (compareOp op) (rI0 fun i j => .bl (p i j))
  | .Lt, _, rfl => op_lt
  | .LtE, _, rfl => op_le
  | .Gt, _, rfl => op_gt
  | .GtE, _, rfl => op_ge
end
end PL
/-! PL m: the evaluator's cases. -/
namespace PL
open PySem PySem.Spec PyProof.Rows L2

/-! ### names, constants -/
def nameS (Γ : Ga) (x : Str) (pos : Pos) : Ev := match Γ.slot x with
  | some i => if Γ.vis x = true then .ofB (.Name x pos) (fun env => getV env i) (fun env => getB env i) else .bad
  | none => .bad
def constS (c : Const) (k : Nat) (pos : Pos) : Ev := match c with
  | .int i => .ofE (.Constant c k pos) fun _ => some (.i i)
  | .bool b => .ofE (.Constant c k pos) fun _ => some (.b b)
  | .none => .ofE (.Constant c k pos) fun _ => some .n
  | .str s => .ofE (.Constant c k pos) fun _ => some (.s s)
  | _ => .bad
section
variable {Γ : Ga} {X : Cx} {rec : Rc}
theorem nameS_ok (g : GOk Γ X) (x : Str) (pos : Pos) : EvOk X (.Name x pos) (nameS Γ x pos) := by
  unfold nameS
  split
  · rename_i i h
    refine if_ok fun q => ?_
    obtain ⟨v1, v2, v3⟩ := g.vis q
    exact ofB_ok (de_name (g.slot h) v1 v2 v3) (db_name (g.slot h) v1 v2 v3)
  · exact bad_ok
theorem constS_ok (c : Const) (k : Nat) (pos : Pos) : EvOk X (.Constant c k pos) (constS c k pos) := by
  unfold constS
  split
  · exact ofE_ok de_int
  · exact ofE_ok de_bl
  · exact ofE_ok de_non
  · exact ofE_ok de_str
  · exact bad_ok

/-! ### operators -/
/-- [..] * k, fresh -/
@[simp] def mulLD : D → D → Option D
  | .l xs, .i k => if 0 ≤ k ∧ absLe k 1000000 = true ∧ xs.length * k.toNat ≤ SZ then some (.l (List.replicate k.toNat xs).flatten) else none
  | _, _ => none
theorem df_mulL {a b : Expr} {f g : EvF} {pos : Pos} (ha : DB X a f) (hb : DB X b g) : DF X (.BinOp a .Mult b pos) (bind2 mulLD f g) := by
  intro σ H O env d Q ok R e c pins s I
  obtain ⟨p, q, e1, e2, e3⟩ := bind2_some e
  refine wpAny_BinOp (bin (R := fun x y H2 => ∃ H1, RepB X.K H1 O x p ∧ RepB X.K H2 O y q ∧ Same H H1 ∧ Same H1 H2 ∧ OkO H2 O) wE_pe wE_pe I (ha σ H O env p _ ok R e1 fun x H1 s1 r1 => hb σ H1 O env q _ (ok.same s1) (R.same s1) e2 fun y H2 s2 r2 => ⟨H1, r1, r2, s1, s2, (ok.same s1).same s2⟩) ?_)
  intro v u s2 x y H2 I2 rx ry ⟨H1, r1, r2, k1, k2, ok2⟩
  replace r1 := r1.same k2
  cases p <;> cases q <;> first
    | (cases e3; done)
    | skip
  rename_i xs k
  have e3 : (if 0 ≤ k ∧ absLe k 1000000 = true ∧ xs.length * k.toNat ≤ SZ then some (D.l (List.replicate k.toNat xs).flatten) else none) = some d := e3
  split at e3
  · rename_i hk
    have hk2 := absLe_ok hk.2.1
    cases e3
    obtain ⟨a', vs, rfl, ha, ra⟩ := r1.lst
    obtain rfl := r2.int
    have l1 := ra.length
    exact op_rep pins s2 σ H2 _ _ v u Q I2 rx ry ⟨a', k, vs, rfl, rfl, ha, by omega, by omega, by rw [l1, SZ_eq]; exact hk.2.2, fun p np => c p _ _ _ ((k1.trans k2).trans (same_new np)) ((k1.trans k2).free np) rfl upd_same (newF np (ra.rep k.toNat))⟩
  · cases e3
def binS (x : Expr) (op : Operator) (a b : Ev) : Ev := match opD op with
  | some F => { Ev.ofE x (bind2 F a.b b.b) with f := if op = .Mult then bind2 mulLD a.b b.b else noE }
  | none => .bad
theorem binS_ok {a b : Expr} {op : Operator} {pos : Pos} {ra rb : Ev} (ha : EvOk X a ra) (hb : EvOk X b rb) : EvOk X (.BinOp a op b pos) (binS (.BinOp a op b pos) op ra rb) := by
  unfold binS
  split
  · rename_i F h
    have q := ofE_ok (de_bin (pos := pos) (opD_ok h) ha.b hb.b)
    refine ⟨q.e, q.b, ?_, q.t⟩
    show DF X _ (if op = .Mult then bind2 mulLD ra.b rb.b else noE)
    split
    · rename_i e
      subst e
      exact df_mulL ha.b hb.b
    · exact df_no
  · exact bad_ok
@[simp] def negV (f : EvF) : EvF := fun env => (f env).bind fun d => match d with
  | .i x => some (.i (-x))
  | _ => none
@[simp] def notV (f : EvF) : EvF := fun env => (asB f env).map fun x => .b (!x)
@[simp] def notT (f : List Cell → Option Bool) : List Cell → Option Bool := fun env => (f env).map (!·)
def unS (x : Expr) (op : UnaryOp) (a : Ev) : Ev := match op with
  | .Not => ⟨notV a.e, notV a.e, noE, notT a.t⟩
  | .USub => .ofE x (negV a.e)
  | _ => .bad
theorem unS_ok {a : Expr} {op : UnaryOp} {pos : Pos} {ra : Ev} (ha : EvOk X a ra) : EvOk X (.UnaryOp op a pos) (unS (.UnaryOp op a pos) op ra) := by
  cases op <;> first
    | exact bad_ok
    | exact ⟨de_not ha.e, (de_not ha.e).db, df_no, dt_not ha.t⟩
    | exact ofE_ok (de_neg ha.e)

/-! ### and, or -/
def andEs (ev : Expr → Ev) : List Expr → EvF
  | [] => noE
  | [a] => (ev a).e
  | a :: r => andV (ev a).e (andEs ev r)
def orEs (ev : Expr → Ev) : List Expr → EvF
  | [] => noE
  | [a] => (ev a).e
  | a :: r => orV (ev a).e (orEs ev r)
def andTs (ev : Expr → Ev) : List Expr → List Cell → Option Bool
  | [] => noT
  | [a] => (ev a).t
  | a :: r => andT (ev a).t (andTs ev r)
def orTs (ev : Expr → Ev) : List Expr → List Cell → Option Bool
  | [] => noT
  | [a] => (ev a).t
  | a :: r => orT (ev a).t (orTs ev r)
theorem dw_no {x : Expr} : DW X x noT := fun _ _ _ _ _ _ _ _ h => nomatch h
theorem andEs_ok {ev : Expr → Ev} (h : ∀ x, EvOk X x (ev x)) {pos : Pos} : ∀ es : List Expr, DE X (.BoolOp .And es pos) (andEs ev es)
  | [] => de_no
  | [a] => de_one (h a).e
  | a :: b :: r => de_and (h a).e (andEs_ok h (b :: r))
theorem orEs_ok {ev : Expr → Ev} (h : ∀ x, EvOk X x (ev x)) {pos : Pos} : ∀ es : List Expr, DE X (.BoolOp .Or es pos) (orEs ev es)
  | [] => de_no
  | [a] => de_one (h a).e
  | a :: b :: r => de_or (h a).e (orEs_ok h (b :: r))
theorem andTs_ok {ev : Expr → Ev} (h : ∀ x, EvOk X x (ev x)) {pos : Pos} : ∀ es : List Expr, DW X (.BoolOp .And es pos) (andTs ev es)
  | [] => dw_no
  | [a] => dw_and1 (h a).t
  | a :: b :: r => dw_and (h a).t (andTs_ok h (b :: r))
theorem orTs_ok {ev : Expr → Ev} (h : ∀ x, EvOk X x (ev x)) {pos : Pos} : ∀ es : List Expr, DW X (.BoolOp .Or es pos) (orTs ev es)
  | [] => dw_no
  | [a] => dw_or1 (h a).t
  | a :: b :: r => dw_or (h a).t (orTs_ok h (b :: r))
def boolS (op : BoolOp) (ev : Expr → Ev) (es : List Expr) : Ev := match op with
  | .And => ⟨andEs ev es, andEs ev es, noE, andTs ev es⟩
  | .Or => ⟨orEs ev es, orEs ev es, noE, orTs ev es⟩
theorem boolS_ok {op : BoolOp} {ev : Expr → Ev} (h : ∀ x, EvOk X x (ev x)) {pos : Pos} {es : List Expr} : EvOk X (.BoolOp op es pos) (boolS op ev es) := by
  cases op
  · exact ⟨andEs_ok h es, (andEs_ok h es).db, df_no, (andTs_ok h es).dt⟩
  · exact ⟨orEs_ok h es, (orEs_ok h es).db, df_no, (orTs_ok h es).dt⟩

/-! ### comparisons -/
def compS (ev : Expr → Ev) (a : Expr) (ops : List CmpOp) (bs : List Expr) : Ev := match ops, bs with
  | [op], [b] => if behindInMarks op b = false then ⟨bind2 (cmpD op) (ev a).b (ev b).b, bind2 (cmpD op) (ev a).b (ev b).b, noE, asB (bind2 (cmpD op) (ev a).b (ev b).b)⟩ else .bad
  | [op, op'], [b, c] => match cmpB op, cmpB op' with
    | some p, some q => if lastMarks [op, op'] [b, c] = false then ⟨chainV p q (ev a).b (ev b).b (ev c).b, chainV p q (ev a).b (ev b).b (ev c).b, noE, asB (chainV p q (ev a).b (ev b).b (ev c).b)⟩ else .bad
    | _, _ => .bad
  | _, _ => .bad
theorem compS_ok {ev : Expr → Ev} (hu : X.A.units + 65 < cLine) (h : ∀ x, EvOk X x (ev x)) {pos : Pos} {a : Expr} {ops : List CmpOp} {bs : List Expr} : EvOk X (.Compare a ops bs pos) (compS ev a ops bs) := by
  unfold compS
  split
  · rename_i op b
    split
    · rename_i q
      have z := de_cmp (pos := pos) (cmpD_ok hu op) (h a).b (h b).b q
      exact ⟨z, z.db, df_no, dt_cmp (cmpD_ok hu op) (h a).b (h b).b q⟩
    · exact bad_ok
  · rename_i op op' b c
    split
    · rename_i p q e1 e2
      split
      · rename_i z
        have w := de_chain (pos := pos) (cmpB_ok e1) (cmpB_ok e2) (h a).b (h b).b (h c).b z
        exact ⟨w, w.db, df_no, dt_chain (cmpB_ok e1) (cmpB_ok e2) (h a).b (h b).b (h c).b z⟩
      · exact bad_ok
    · exact bad_ok
  · exact bad_ok
def iteS (c a b : Ev) : Ev := ⟨iteV c.t a.e b.e, iteV c.t a.e b.e, noE, noT⟩
theorem iteS_ok {c a b : Expr} {rc ra rb : Ev} {pos : Pos} (hc : EvOk X c rc) (ha : EvOk X a ra) (hb : EvOk X b rb) : EvOk X (.IfExp c a b pos) (iteS rc ra rb) :=
  ⟨de_ite hc.t ha.e hb.e, (de_ite hc.t ha.e hb.e).db, df_no, dt_no⟩

/-! ### displays, subscripts -/
def tupS (x : Expr) (ev : Expr → Ev) (es : List Expr) : Ev := if es.all noStar = true then .ofE x (fun env => (argsE ev es env).bind fun xs => if xs.length ≤ SZ then some (.t xs) else none) else .bad
theorem tupS_ok {ev : Expr → Ev} (h : ∀ x, EvOk X x (ev x)) {pos : Pos} {es : List Expr} {k : Nat} : EvOk X (.Tuple es k pos) (tupS (.Tuple es k pos) ev es) :=
  if_ok fun q => ofE_ok (de_tup (argsE_ok h q))
def lstS (x : Expr) (ev : Expr → Ev) (es : List Expr) : Ev := if es.all noStar = true then .ofF x (fun env => (argsE ev es env).bind fun xs => if xs.length ≤ SZ then some (.l xs) else none) else .bad
theorem lstS_ok {ev : Expr → Ev} (h : ∀ x, EvOk X x (ev x)) {pos : Pos} {es : List Expr} : EvOk X (.List es pos) (lstS (.List es pos) ev es) :=
  if_ok fun q => ofF_ok (df_lst (argsE_ok h q))
def isSlice : Expr → Bool
  | .Slice .. => true
  | _ => false
theorem plainIx_of {b : Expr} (h : isSlice b = false) : PlainIx b := by
  intro o i
  cases b <;> first | (cases h; done) | rfl
def partS (ev : Expr → Ev) : Option Expr → List Cell → Option (Option Int)
  | none => fun _ => some none
  | some a => partV (ev a).e
theorem partS_ok {ev : Expr → Ev} (h : ∀ x, EvOk X x (ev x)) : ∀ o : Option Expr, DP' X o (partS ev o)
  | none => dp_none
  | some a => dp_some (h a).e
def subS (x : Expr) (ev : Expr → Ev) (a b : Expr) : Ev := match b with
  | .Slice lo hi none _ => .ofE x (sliceV (ev a).b (partS ev lo) (partS ev hi))
  | b => if isSlice b = false then .ofE x (bind2 ixD (ev a).b (ev b).b) else .bad
theorem subS_ok {ev : Expr → Ev} (h : ∀ x, EvOk X x (ev x)) {pos : Pos} {a b : Expr} : EvOk X (.Subscript a b pos) (subS (.Subscript a b pos) ev a b) := by
  unfold subS
  split
  · exact ofE_ok (de_slice (h a).b (partS_ok h _) (partS_ok h _))
  · split
    · rename_i q
      exact ofE_ok (de_ix (h a).b (h b).b (plainIx_of q))
    · exact bad_ok
end
end PL
/-! PL q: sorted(set(xs)), xs a list of tuples of ints. -/
namespace PL
open PySem PySem.Spec PyProof.Rows L2

/-! ### the list that comes -/
def srtB : Int := 1000000
/-- k among strictly ascending rows -/
def insT (k : List Int) : List (List Int) → List (List Int)
  | [] => [k]
  | x :: r => if k = x then x :: r else if TS.code srtB k < TS.code srtB x then k :: x :: r else x :: insT k r
def srtT : List (List Int) → List (List Int)
  | [] => []
  | k :: r => insT k (srtT r)
theorem insT_mem {k y : List Int} : ∀ {l : List (List Int)}, y ∈ insT k l ↔ y = k ∨ y ∈ l
  | [] => by simp [insT]
  | x :: r => by
    unfold insT
    split
    · rename_i e
      subst e
      simp
    · split
      · simp
      · rw [List.mem_cons, insT_mem (l := r), List.mem_cons]
        constructor
        · rintro (h | h | h)
          · exact .inr (.inl h)
          · exact .inl h
          · exact .inr (.inr h)
        · rintro (h | h | h)
          · exact .inr (.inl h)
          · exact .inl h
          · exact .inr (.inr h)
theorem srtT_mem {y : List Int} : ∀ {l : List (List Int)}, y ∈ srtT l ↔ y ∈ l
  | [] => by simp [srtT]
  | k :: r => by rw [srtT, insT_mem, srtT_mem (l := r), List.mem_cons]
def SameL (d : Nat) (l : List (List Int)) : Prop := ∀ k ∈ l, k.length = d ∧ TS.Bd srtB k
theorem code_inj' : ∀ {a b : List Int}, a.length = b.length → TS.Bd srtB a → TS.Bd srtB b → TS.code srtB a = TS.code srtB b → a = b
  | [], [], _, _, _, _ => rfl
  | x :: a, y :: b, hl, ha, hb, e => by
    have hl' : a.length = b.length := by simpa using hl
    have hxy : x = y := by
      rcases Int.lt_trichotomy x y with h | h | h
      · have := TS.code_lt hl' ha.tail hb.tail h; omega
      · exact h
      · have := TS.code_lt hl'.symm hb.tail ha.tail h; omega
    subst hxy
    have e2 : TS.code srtB a = TS.code srtB b := by
      rcases Int.lt_trichotomy (TS.code srtB a) (TS.code srtB b) with h | h | h
      · have := (TS.code_same (B := srtB) (d := x) hl').mpr h; omega
      · exact h
      · have := (TS.code_same (B := srtB) (d := x) hl'.symm).mpr h; omega
    rw [code_inj' hl' ha.tail hb.tail e2]
theorem insT_pw {d : Nat} {k : List Int} (hk : k.length = d ∧ TS.Bd srtB k) : ∀ {l : List (List Int)}, SameL d l → l.Pairwise (fun a b => TS.code srtB a < TS.code srtB b) → (insT k l).Pairwise (fun a b => TS.code srtB a < TS.code srtB b)
  | [], _, _ => by simp [insT]
  | x :: r, hs, pw => by
    unfold insT
    rw [List.pairwise_cons] at pw
    split
    · rw [List.pairwise_cons]; exact pw
    · rename_i ne
      split
      · rename_i hlt
        rw [List.pairwise_cons, List.pairwise_cons]
        refine ⟨fun y hy => ?_, pw⟩
        rcases List.mem_cons.mp hy with e | e
        · rw [e]; exact hlt
        · have := pw.1 y e; omega
      · rename_i hge
        rw [List.pairwise_cons]
        refine ⟨fun y hy => ?_, insT_pw hk (fun z hz => hs z (List.mem_cons_of_mem _ hz)) pw.2⟩
        rcases insT_mem.mp hy with e | e
        · subst e
          obtain ⟨x1, x2⟩ := hs x List.mem_cons_self
          have : TS.code srtB y ≠ TS.code srtB x := fun z => ne (code_inj' (by rw [hk.1, x1]) hk.2 x2 z)
          omega
        · exact pw.1 y e
theorem srtT_same {d : Nat} {l : List (List Int)} (h : SameL d l) : SameL d (srtT l) := fun k hk => h k (srtT_mem.mp hk)
theorem srtT_pw {d : Nat} : ∀ {l : List (List Int)}, SameL d l → (srtT l).Pairwise (fun a b => TS.code srtB a < TS.code srtB b)
  | [], _ => by simp [srtT]
  | k :: r, h => by
    rw [srtT]
    have hr : SameL d r := fun z hz => h z (List.mem_cons_of_mem _ hz)
    exact insT_pw (h k List.mem_cons_self) (srtT_same hr) (srtT_pw hr)
theorem srtT_nodup {d : Nat} {l : List (List Int)} (h : SameL d l) : (srtT l).Nodup := (srtT_pw h).imp fun {a b} z e => by subst e; omega
/-- whatever sorts so is it -/
theorem srtT_unique {d : Nat} {l m : List (List Int)} (h : SameL d l) (nd : m.Nodup) (mem : ∀ k, k ∈ m ↔ k ∈ l) (pw : m.Pairwise (fun a b => TS.code srtB a ≤ TS.code srtB b)) : m = srtT l := by
  have hm : SameL d m := fun k hk => h k ((mem k).mp hk)
  refine List.Perm.eq_of_pairwise (le := fun a b => TS.code srtB a ≤ TS.code srtB b) (fun a b ha hb h1 h2 => ?_) pw ((srtT_pw h).imp fun {a b} z => by omega) ((List.perm_ext_iff_of_nodup nd (srtT_nodup h)).mpr fun k => (mem k).trans srtT_mem.symm)
  obtain ⟨a1, a2⟩ := hm a ha
  obtain ⟨b1, b2⟩ := srtT_same h b hb
  exact code_inj' (by rw [a1, b1]) a2 b2 (by omega)
def tupsD : List D → Option (List (List Int))
  | [] => some []
  | .t xs :: r => (intsD xs).bind fun ns => (tupsD r).map (ns :: ·)
  | _ :: _ => none
def sameB (d : Nat) (l : List (List Int)) : Bool := l.all fun k => decide (k.length = d) && k.all fun m => decide (0 ≤ m) && absLe m 999999
theorem sameB_ok {d : Nat} {l : List (List Int)} (h : sameB d l = true) : SameL d l := fun k hk => by
  have q := List.all_eq_true.mp h k hk
  rw [Bool.and_eq_true, decide_eq_true_eq, List.all_eq_true] at q
  refine ⟨q.1, fun m hm => ?_⟩
  have := q.2 m hm
  rw [Bool.and_eq_true, decide_eq_true_eq] at this
  have h2 := absLe_ok this.2
  unfold srtB
  omega
def widthT : List (List Int) → Nat
  | [] => 1
  | k :: _ => k.length
def srtSetD : D → Option D
  | .l ds => (tupsD ds).bind fun ns => if (decide (ns.length < 64) && decide (1 ≤ widthT ns) && sameB (widthT ns) ns) = true then some (.l ((srtT ns).map fun k => .t (k.map .i))) else none
  | _ => none
section
variable {K : PySem.W.Frag} {H : Hp} {O : Addr → Prop}
theorem tupsD_rep : ∀ {vs : List V} {ds : List D} {ns : List (List Int)}, RepL K H O vs ds → tupsD ds = some ns → ∃ ks : List (Addr × List Int), vs = ks.map (fun p => V.ref p.1) ∧ ks.map (·.2) = ns ∧ ∀ p ∈ ks, SqT K H p.1 (p.2.map V.int) ∧ Rep K H O (.ref p.1) (.t (p.2.map .i))
  | _, [], ns, .nil, e => by cases e; exact ⟨[], rfl, rfl, fun p hp => nomatch hp⟩
  | _, d :: ds, ns, .cons a r, e => by
    cases d <;> first
      | (cases e; done)
      | skip
    rename_i xs
    have e : ((intsD xs).bind fun ns => (tupsD ds).map (ns :: ·)) = some ns := e
    obtain ⟨n1, e1, e⟩ := bind_some' e
    obtain ⟨n2, e2, e⟩ := map_some' e
    subst e
    obtain ⟨ks, h1, h2, h3⟩ := tupsD_rep r e2
    have e3 := intsD_some e1
    subst e3
    obtain ⟨q, vs', rfl, s1, s2⟩ := RepB.tup (.inl a)
    rw [s2.ints] at s1
    refine ⟨(q, n1) :: ks, by rw [h1]; rfl, by rw [List.map_cons, h2], fun p hp => ?_⟩
    rcases List.mem_cons.mp hp with e | e
    · subst e; exact ⟨s1, a⟩
    · exact h3 p e
theorem sqT_same {H' : Hp} (k : Same H H') {a : Addr} {xs : List V} (h : SqT K H a xs) : SqT K H' a xs := by
  rcases h with h | h
  · exact .inl (rd_kp (O := fun _ => False) (Kp.of k) h fun z => z)
  · exact .inr h
end
section
variable {X : Cx} {e : Expr} {f : EvF} {p p2 pos pos2 : Pos}
theorem df_srtSet (hc : X.calm = true) (hu : X.A.units + 64 < cLine) (hg : Gl X "sorted") (hm : X.mg "sorted" = none) (hg2 : Gl X "set") (hm2 : X.mg "set" = none) (ha : DB X e f) (hs : starEach [e] X.env = (false, eval e X.env) :: starEach [] X.env) :
    DF X (.Call (.Name "sorted" p) [.Call (.Name "set" p2) [e] [] pos2] [] pos) (fun env => (f env).bind srtSetD) := by
  intro σ H O env d Q ok R z c
  obtain ⟨q, e1, e2⟩ := bind_some' z
  refine PEw (pe_callB (cr_sortedT hc) hg hm (by decide +kernel) (pa_cons (pe_callTy (cr_setOfT hc hu) hg2 hm2 (by decide +kernel) (pa_cons wE_pe pa_nil hs) (by decide) (by decide) hs rfl) pa_nil rfl) (by decide) (by decide) rfl rfl) ?_
  refine ha σ H O env q _ ok R e1 fun v H1 s1 r1 => ?_
  cases q <;> first
    | (cases e2; done)
    | skip
  rename_i ds
  have e2 : ((tupsD ds).bind fun ns => if (decide (ns.length < 64) && decide (1 ≤ widthT ns) && sameB (widthT ns) ns) = true then some (D.l ((srtT ns).map fun k => .t (k.map .i))) else none) = some d := e2
  obtain ⟨ns, e3, e4⟩ := bind_some' e2
  split at e4 <;> first
    | (cases e4; done)
    | skip
  rename_i hk
  cases e4
  rw [Bool.and_eq_true, Bool.and_eq_true, decide_eq_true_eq, decide_eq_true_eq] at hk
  obtain ⟨⟨k1, k2⟩, k3⟩ := hk
  have hsame := sameB_ok k3
  obtain ⟨a, vs, rfl, h1, h2⟩ := r1.lst
  obtain ⟨ks, q1, q2, q3⟩ := tupsD_rep h2 e3
  subst q1
  have hlen : ks.length = ns.length := by rw [← q2, List.length_map]
  refine ⟨a, ks, rfl, SqL.of h1, fun p hp => (q3 p hp).1, by omega, fun b L nb sub cov => ?_⟩
  have sb := same_new (o := SetTO X.prog X.w b L) nb
  refine ⟨b, L, widthT ns, srtB, rfl, upd_same, fun p hp => sqT_same sb (q3 p (sub p hp)).1, k2, fun p hp => hsame p.2 (by rw [← q2]; exact List.mem_map_of_mem (sub p hp)), fun L' p pm nd few pw np => ?_⟩
  have e5 : L'.map (·.2) = srtT ns := by
    refine srtT_unique hsame nd (fun k => ?_) (List.pairwise_map.mpr pw)
    rw [(pm.map (·.2)).mem_iff, ← q2]
    constructor
    · intro h
      obtain ⟨y, y1, y2⟩ := List.mem_map.mp h
      rw [← y2]
      exact List.mem_map_of_mem (sub y y1)
    · intro h
      obtain ⟨y, y1, y2⟩ := List.mem_map.mp h
      rw [← y2]
      exact cov y y1
  have e6 : (srtT ns).map (fun k => D.t (k.map .i)) = L'.map fun q => D.t (q.2.map .i) := by rw [← e5, List.map_map]; rfl
  rw [e6] at c
  have rl : ∀ M : List (Addr × List Int), (∀ q ∈ M, q ∈ ks) → RepL X.K (upd H1 b (SetTO X.prog X.w b L)) O (M.map fun q => V.ref q.1) (M.map fun q => D.t (q.2.map .i)) := by
    intro M
    induction M with
    | nil => intro _; exact .nil
    | cons m M ih => intro h; exact .cons ((q3 m (h m List.mem_cons_self)).2.same sb) (ih fun q hq => h q (List.mem_cons_of_mem _ hq))
  refine c p _ _ _ ((s1.trans sb).trans (same_new np)) (s1.free (sb.free np)) rfl upd_same (newF np (rl L' fun q hq => sub q (pm.mem_iff.mp hq)))
end
end PL
/-! PL n: calls, targets, iterables, comprehensions; the evaluator. -/
namespace PL
open PySem PySem.Spec PyProof.Rows L2

/-! ### built-ins -/
inductive Bl where
  | len | int | abs | max | min | sum | any | all | tuple | list
def blOf (x : Str) : Option Bl :=
  if x = "len" then some .len else if x = "int" then some .int else if x = "tuple" then some .tuple else if x = "all" then some .all else if x = "any" then some .any else if x = "list" then some .list
  else if x = "max" then some .max else if x = "min" then some .min else if x = "abs" then some .abs else if x = "sum" then some .sum else none
def Bl.val : Bl → Value
  | .len => .builtin "len" | .int => .type "int" | .abs => .builtin "abs" | .max => .builtin "max" | .min => .builtin "min" | .sum => .builtin "sum" | .any => .builtin "any" | .all => .builtin "all" | .tuple => .type "tuple" | .list => .type "list"
def Bl.fn : Bl → List D → Option D
  | .len => lenD | .int => intD | .abs => absD | .max => maxD | .min => minD | .sum => sumD | .any => anyD | .all => allD | .tuple => tupleD | .list => listD
theorem blOf_ok {x : Str} {b : Bl} (h : blOf x = some b) : bootBuiltins x = some b.val := by
  unfold blOf at h
  repeat' split at h
  all_goals first
    | (cases h; done)
    | (rename_i e; cases h; subst e; first
        | exact PyProof.Rows.boot_len | exact PyProof.Rows.boot_int | exact PyProof.Rows.boot_tuple | exact PyProof.Rows.boot_all | exact PyProof.Rows.boot_any | exact PyProof.Rows.boot_list | exact PyProof.Rows.boot_max | exact PyProof.Rows.boot_min | exact PyProof.Rows.boot_abs | exact PyProof.Rows.boot_sum
        | decide +kernel)
def tyOf (x : Str) : Option Ty5 := if x = "int" then some .int else if x = "str" then some .str else if x = "bool" then some .bool else if x = "tuple" then some .tuple else if x = "list" then some .list else none
theorem tyOf_ok {x : Str} {T : Ty5} (h : tyOf x = some T) : bootBuiltins x = some (.type T.name) := by
  unfold tyOf at h
  repeat' split at h
  all_goals first
    | (cases h; done)
    | (rename_i e; cases h; subst e; decide +kernel)
def Ga.bl (Γ : Ga) (x : Str) : Bool := Γ.gl x && Γ.free.contains x
section
variable {Γ : Ga} {X : Cx} {rec : Rc}
theorem GOk.bl {x : Str} (g : GOk Γ X) (h : Γ.bl x = true) : Gl X x ∧ X.mg x = none ∧ (x == ("__debug__" : Str)) = false ∧ x ≠ "__name__" := by
  unfold Ga.bl at h
  rw [Bool.and_eq_true] at h
  obtain ⟨h1, h2, h3⟩ := g.gl h.1
  exact ⟨h1, g.free x h.2, h2, h3⟩
@[simp] def rngv (f : EvF) : EvF := fun env => (f env).bind fun d => match d with
  | .i j => some (.r 0 j)
  | _ => none
def instS (Γ : Ga) (x : Expr) (ev : Expr → Ev) (args : List Expr) : Ev := match args with
  | [a, .Name y _] => if (Γ.bl y && noStar a) = true then (match tyOf y with
    | some T => .ofE x (instV [T] (ev a).b)
    | none => .bad) else .bad
  | [a, .Tuple [.Name y _, .Name z _] _ _] => if (Γ.bl y && Γ.bl z && noStar a) = true then (match tyOf y, tyOf z with
    | some T, some U => .ofE x (instV [T, U] (ev a).b)
    | _, _ => .bad) else .bad
  | _ => .bad
theorem boot_isi : bootBuiltins "isinstance" = some (.builtin "isinstance") := by decide +kernel
theorem instS_ok {ev : Expr → Ev} (g : GOk Γ X) (h : ∀ x, EvOk X x (ev x)) {p pos : Pos} {args : List Expr} (hb : Γ.bl "isinstance" = true) : EvOk X (.Call (.Name "isinstance" p) args [] pos) (instS Γ (.Call (.Name "isinstance" p) args [] pos) ev args) := by
  obtain ⟨g1, g2, g3, g4⟩ := g.bl hb
  unfold instS
  split
  · refine if_ok fun q => ?_
    rw [Bool.and_eq_true] at q
    obtain ⟨q1, q2, q3, q4⟩ := g.bl q.1
    split
    · rename_i T e
      exact ofE_ok (de_inst1 g1 g2 boot_isi g4 g3 q1 q2 (tyOf_ok e) q4 q3 (h _).b (star_cons q.2))
    · exact bad_ok
  · refine if_ok fun q => ?_
    rw [Bool.and_eq_true, Bool.and_eq_true] at q
    obtain ⟨q1, q2, q3, q4⟩ := g.bl q.1.1
    obtain ⟨r1, r2, r3, r4⟩ := g.bl q.1.2
    split
    · rename_i T U e e'
      exact ofE_ok (de_inst2 g1 g2 boot_isi g4 g3 q1 q2 (tyOf_ok e) q4 q3 r1 r2 (tyOf_ok e') r4 r3 (h _).b (star_cons q.2))
    · exact bad_ok
  · exact bad_ok
/-- sorted(set(e)) -/
def sortS (Γ : Ga) (x : Expr) (ev : Expr → Ev) (a : Expr) (r : List Expr) : Ev := match a, r with
  | .Call (.Name g _) [e] [] _, [] => if (decide (g = "set") && Γ.bl g && noStar e) = true then .ofF x (fun env => ((ev e).b env).bind srtSetD) else .bad
  | _, _ => .bad
theorem sortS_ok {ev : Expr → Ev} (g : GOk Γ X) (h : ∀ x, EvOk X x (ev x)) {p pos : Pos} {a : Expr} {r : List Expr} (hb : Γ.bl "sorted" = true) : EvOk X (.Call (.Name "sorted" p) (a :: r) [] pos) (sortS Γ (.Call (.Name "sorted" p) (a :: r) [] pos) ev a r) := by
  obtain ⟨g1, g2, g3, g4⟩ := g.bl hb
  unfold sortS
  split
  · refine if_ok fun q => ?_
    rw [Bool.and_eq_true, Bool.and_eq_true, decide_eq_true_eq] at q
    obtain ⟨⟨e, q1⟩, q2⟩ := q
    subst e
    obtain ⟨r1, r2, r3, r4⟩ := g.bl q1
    have hu := g.un
    exact ofF_ok (df_srtSet g.calm (by omega) g1 g2 r1 r2 (h _).b (star_cons q2))
  · exact bad_ok
/-- f(..), f a def of the program or a built-in -/
def callS (Γ : Ga) (x : Expr) (ev : Expr → Ev) (f : Str) (args : List Expr) : Ev :=
  match args with
  | [] => .bad
  | a :: r => if (Γ.gl f && noStar a && r.all noStar) = true then (match Γ.fns.lookup f with
    | some n => if r.length + 1 = n then .ofE x (callV (Γ.call f) (argsE ev (a :: r))) else .bad
    | none => if Γ.free.contains f = true then (if f = "isinstance" then instS Γ x ev (a :: r) else if f = "range" then (match r with
        | [] => .ofE x (rngv (ev a).b)
        | _ => .bad)
      else if f = "sorted" then sortS Γ x ev a r
      else match blOf f with
        | some .list => .ofF x (callV listD (argsB ev (a :: r)))
        | some b => .ofE x (callV b.fn (argsB ev (a :: r)))
        | none => .bad) else .bad) else .bad
theorem bl_ok {ev : Expr → Ev} (g : GOk Γ X) (h : ∀ x, EvOk X x (ev x)) {p pos : Pos} {f : Str} {a : Expr} {r : List Expr} {b : Bl} (e : blOf f = some b) (hb : Γ.bl f = true) (h1 : noStar a = true) (h2 : r.all noStar = true) (nl : b ≠ .list) :
    DE X (.Call (.Name f p) (a :: r) [] pos) (callV b.fn (argsB ev (a :: r))) := by
  obtain ⟨g1, g2, g3, g4⟩ := g.bl hb
  have hv := blOf_ok e
  have hm : DM X (a :: r) (argsB ev (a :: r)) := argsB_ok h (by rw [List.all_cons, h1, h2]; rfl)
  have he := star_cons (es := r) (env := X.env) h1
  have hp := star_any (pos := pos) (env := X.env) h2
  cases b with
  | len => exact de_callB cf_len g1 g2 hv hm g4 g3 he hp
  | int => exact de_callTy cf_int g1 g2 hv hm g4 g3 he hp
  | abs => exact de_callB cf_abs g1 g2 hv hm g4 g3 he hp
  | max => exact de_callB (cf_max g.calm) g1 g2 hv hm g4 g3 he hp
  | min => exact de_callB (cf_min g.calm) g1 g2 hv hm g4 g3 he hp
  | sum => exact de_callB (cf_sum g.calm) g1 g2 hv hm g4 g3 he hp
  | any => exact de_callB (cf_any g.calm) g1 g2 hv hm g4 g3 he hp
  | all => exact de_callB (cf_all g.calm) g1 g2 hv hm g4 g3 he hp
  | tuple => exact de_callTy cf_tuple g1 g2 hv hm g4 g3 he hp
  | list => exact absurd rfl nl
theorem callS_ok {ev : Expr → Ev} (g : GOk Γ X) (h : ∀ x, EvOk X x (ev x)) {p pos : Pos} {f : Str} {args : List Expr} : EvOk X (.Call (.Name f p) args [] pos) (callS Γ (.Call (.Name f p) args [] pos) ev f args) := by
  unfold callS
  split
  · exact bad_ok
  · rename_i a r
    refine if_ok fun q => ?_
    rw [Bool.and_eq_true, Bool.and_eq_true] at q
    obtain ⟨⟨q1, q2⟩, q3⟩ := q
    obtain ⟨g1, g2, g3⟩ := g.gl q1
    split
    · rename_i n e
      split
      · rename_i hn
        obtain ⟨k, fa, fd, ps, G, hr, hm, hk, hb⟩ := g.fns f n e
        exact ofE_ok (de_call G hr g1 hm hk hb (argsE_ok h (by rw [List.all_cons, q2, q3]; rfl)) hn g2 (fun env ds z => by rw [argsE_len z]; exact hn) (star_cons q2) (star_any q3))
      · exact bad_ok
    · refine if_ok fun q4 => ?_
      have hb : Γ.bl f = true := by unfold Ga.bl; rw [q1, q4]; rfl
      split
      · rename_i e
        subst e
        exact instS_ok g h hb
      · split
        · rename_i e
          subst e
          split
          · exact ofE_ok (de_rngv1 g1 (g.free _ q4) (h a).b (star_cons q2) rfl)
          · exact bad_ok
        · split
          · rename_i e
            subst e
            exact sortS_ok g h hb
          split
          · rename_i e
            exact ofF_ok (df_callTy cn_list g1 (g.free _ q4) (blOf_ok e) (argsB_ok h (by rw [List.all_cons, q2, q3]; rfl)) g3 g2 (star_cons q2) (star_any q3))
          · rename_i b nl e
            exact ofE_ok (bl_ok g h e hb q2 q3 nl)
          · exact bad_ok

/-! ### targets -/
def allO {α : Type} : List (Option α) → Option (List α)
  | [] => some []
  | none :: _ => none
  | some a :: r => (allO r).map (a :: ·)
def tgO (Γ : Ga) : Nat → Expr → Option Tg
  | 0, _ => none
  | n + 1, .Name x _ => if Γ.loc x = true then (Γ.slot x).map .nm else none
  | n + 1, .Tuple es _ _ => (allO (es.map (tgO Γ n))).map .tp
  | n + 1, _ => none
theorem tgO_plain {n : Nat} {e : Expr} {t : Tg} (h : tgO Γ n e = some t) : ∀ env : Env, ∀ es : List Expr, assignEach (e :: es) env = (false, assign e env) :: assignEach es env := by
  intro env es
  cases n with
  | zero => cases h
  | succ n =>
    cases e <;> first
      | (cases h; done)
      | rfl
theorem tgOs_len {n : Nat} {env : Env} : ∀ {es : List Expr} {ts : List Tg}, allO (es.map (tgO Γ n)) = some ts → (assignEach es env).length = ts.length ∧ (assignEach es env).findIdx? (·.1) = none
  | [], ts, h => by cases h; exact ⟨rfl, rfl⟩
  | e :: es, ts, h => by
    rw [List.map_cons] at h
    cases z : tgO Γ n e with
    | none => rw [z] at h; cases h
    | some t =>
      rw [z] at h
      obtain ⟨ts', h1, h2⟩ := map_some' (show (allO (es.map (tgO Γ n))).map (t :: ·) = some ts from h)
      subst h2
      obtain ⟨g1, g2⟩ := tgOs_len (env := env) h1
      rw [tgO_plain z env es]
      refine ⟨by rw [List.length_cons, List.length_cons, g1], ?_⟩
      rw [List.findIdx?_cons, g2]
      rfl
theorem tgO_ok (g : GOk Γ X) : ∀ {n : Nat} {e : Expr} {t : Tg}, tgO Γ n e = some t → DG X e t
  | 0, _, _, h => by cases h
  | n + 1, e, t, h => by
    have go : ∀ {es : List Expr} {ts : List Tg}, allO (es.map (tgO Γ n)) = some ts → DGs X es ts := by
      intro es
      induction es with
      | nil => intro ts h; cases h; exact dgs_nil
      | cons e es ih =>
        intro ts h
        rw [List.map_cons] at h
        cases z : tgO Γ n e with
        | none => rw [z] at h; cases h
        | some t =>
          rw [z] at h
          obtain ⟨ts', h1, h2⟩ := map_some' (show (allO (es.map (tgO Γ n))).map (t :: ·) = some ts from h)
          subst h2
          exact dgs_cons (tgO_ok g z) (ih h1) (by rw [tgO_plain z X.env es]; rfl)
    cases e <;> first
      | (cases h; done)
      | skip
    · rename_i x pos
      have h : (if Γ.loc x = true then (Γ.slot x).map Tg.nm else none) = some t := h
      split at h
      · rename_i q
        obtain ⟨i, h1, h2⟩ := map_some' h
        subst h2
        obtain ⟨l1, l2⟩ := g.loc q
        exact dg_name g.nd (g.slot h1) l1 l2
      · cases h
    · rename_i es k pos
      obtain ⟨ts, h1, h2⟩ := map_some' (show (allO (es.map (tgO Γ n))).map Tg.tp = some t from h)
      subst h2
      obtain ⟨g1, g2⟩ := tgOs_len (env := X.env) h1
      exact dg_tup g.calm (go h1) g1 g2

/-! ### what is walked -/
def isTup : Expr → Bool
  | .Tuple .. => true
  | _ => false
def evX (b : Bool) (r : Ev) : EvF := if b = true then r.e else r.b
theorem evX_ok {x : Expr} {r : Ev} (h : EvOk X x r) : ∀ b, DX b X x (evX b r)
  | true => h.e.dx
  | false => h.b.dx
def plainI (ev : Expr → Ev) (b : Bool) (iter : Expr) : List Cell → Option (List D) := fun env => (evX b (ev iter) env).bind walkD
def rngI (ev : Expr → Ev) : List Expr → List Cell → Option (List D)
  | [a] => fun env => ((ev a).b env).bind rng1
  | [a, b] => fun env => ((ev a).b env).bind fun x => ((ev b).b env).bind fun y => rng2 x y
  | [a, b, c] => fun env => ((ev a).b env).bind fun x => ((ev b).b env).bind fun y => ((ev c).b env).bind fun z => rng3 x y z
  | _ => fun _ => none
def itS (Γ : Ga) (ev : Expr → Ev) (b : Bool) (tg iter : Expr) : List Cell → Option (List D) := match iter with
  | .Call (.Name f _) args [] _ => if (Γ.bl f && args.all noStar) = true then
      (if f = "range" then rngI ev args
      else if (decide (f = "enumerate") && isTup tg) = true then (match args with
        | [a] => fun env => (evX b (ev a) env).bind fun d => (seqD d).map (enumD 0)
        | _ => fun _ => none)
      else if (decide (f = "zip") && isTup tg) = true then (match args with
        | [a, c] => fun env => (evX b (ev a) env).bind fun d => (evX b (ev c) env).bind fun d' => (seqD d).bind fun xs => (seqD d').map fun ys => zipD xs ys
        | _ => fun _ => none)
      else plainI ev b iter) else plainI ev b iter
  | _ => plainI ev b iter
theorem di_no {b : Bool} {tg iter : Expr} : DI b X tg iter (fun _ => none) := fun _ _ _ _ _ _ _ _ h => nomatch h
theorem rngI_ok {ev : Expr → Ev} (g : GOk Γ X) (h : ∀ x, EvOk X x (ev x)) {b : Bool} {tg : Expr} {p pos : Pos} (hb : Γ.bl "range" = true) : ∀ {args : List Expr}, args.all noStar = true → DI b X tg (.Call (.Name "range" p) args [] pos) (rngI ev args)
  | [], _ => di_no
  | [a], q => by
    obtain ⟨g1, g2, _, _⟩ := g.bl hb
    rw [List.all_cons, Bool.and_eq_true] at q
    exact di_range1 g1 g2 (h a).b (starE1 (star_cons q.1))
  | [a, c], q => by
    obtain ⟨g1, g2, _, _⟩ := g.bl hb
    rw [List.all_cons, Bool.and_eq_true, List.all_cons, Bool.and_eq_true] at q
    exact di_range2 g1 g2 (h a).b (h c).b (star_cons q.1) (starE1 (star_cons q.2.1))
  | [a, c, d], q => by
    obtain ⟨g1, g2, _, _⟩ := g.bl hb
    rw [List.all_cons, Bool.and_eq_true] at q
    have q2 := q.2
    rw [List.all_cons, Bool.and_eq_true, List.all_cons, Bool.and_eq_true] at q2
    exact di_range3 g1 g2 (h a).b (h c).b (h d).b (star_cons q.1) (star_cons q2.1) (starE1 (star_cons q2.2.1)) (star_any q.2)
  | _ :: _ :: _ :: _ :: _, _ => di_no
theorem itS_ok' {ev : Expr → Ev} (g : GOk Γ X) (h : ∀ x, EvOk X x (ev x)) {b : Bool} {tg iter : Expr} : DI b X tg iter (itS Γ ev b tg iter) := by
  unfold itS
  split
  · rename_i f p args pos
    split
    · rename_i q
      rw [Bool.and_eq_true] at q
      split
      · rename_i e
        subst e
        exact rngI_ok g h q.1 q.2
      · split
        · rename_i e
          rw [Bool.and_eq_true, decide_eq_true_eq] at e
          obtain ⟨e, e2⟩ := e
          subst e
          obtain ⟨g1, g2, _, _⟩ := g.bl q.1
          cases tg <;> first
            | (cases e2; done)
            | skip
          split
          · rename_i a
            have q2 := q.2
            rw [List.all_cons, Bool.and_eq_true] at q2
            exact di_enum g1 g2 (evX_ok (h a) b) (starE1 (star_cons q2.1))
          · exact di_no
        · split
          · rename_i e
            rw [Bool.and_eq_true, decide_eq_true_eq] at e
            obtain ⟨e, e2⟩ := e
            subst e
            obtain ⟨g1, g2, _, _⟩ := g.bl q.1
            cases tg <;> first
              | (cases e2; done)
              | skip
            split
            · rename_i a c
              have q2 := q.2
              rw [List.all_cons, Bool.and_eq_true] at q2
              have q3 := q2.2
              rw [List.all_cons, Bool.and_eq_true] at q3
              exact di_zip g1 g2 (evX_ok (h a) b) (evX_ok (h c) b) (star_cons q2.1) (starE1 (star_cons q3.1)) (star_any q2.2)
            · exact di_no
          · exact di_of (evX_ok (h _) b)
    · exact di_of (evX_ok (h _) b)
  · exact di_of (evX_ok (h _) b)
def isSet : Expr → Bool
  | .Set .. => true
  | _ => false
theorem noSet {e : Expr} (h : isSet e = false) (env : Env) : ∀ x, foldedSetIterable e env x = pure x := by
  intro x
  cases e <;> first | (cases h; done) | rfl

/-! ### comprehensions -/
/-- the block's own names, with their slots -/
def ownOf (Γ : Ga) : List (Str × NameKind) → List (Str × Nat)
  | [] => []
  | (x, k) :: r => if (k == .local || k == .cell) = true then (match Γ.slot x with
    | some i => (x, i) :: ownOf Γ r
    | none => ownOf Γ r) else ownOf Γ r
def testsS (ev : Expr → Ev) : List Expr → List Cell → Option Bool
  | [] => fun _ => some true
  | [c] => (ev c).t
  | _ => fun _ => none
theorem testsS_ok {ev : Expr → Ev} (h : ∀ x, EvOk X x (ev x)) : ∀ {cs : List Expr}, DTs X cs (testsS ev cs)
  | [] => dts_nil
  | [c] => dts_one (h c).t
  | _ :: _ :: _ => fun _ _ _ _ _ _ _ _ h => nomatch h
def subB (a b : List Nat) : Bool := a.all fun i => b.contains i
theorem subB_ok {a b : List Nat} (h : subB a b = true) : ∀ i ∈ a, i ∈ b := fun i hi => by
  have q := List.all_eq_true.mp h i hi
  exact List.contains_iff_mem.mp q
def lcS (Γ : Ga) (rec : Rc) (elt : Expr) (gs : List Comprehension) (scope : Scope) : EvF := match gs with
  | [⟨tg, iter, ifs, 0⟩] => (match tgO (Γ.blk scope) 4 tg with
    | some t => if (blkC Γ.N Γ.sc scope (ownOf Γ scope.names) && subB t.slots ((ownOf Γ scope.names).map (·.2)) && !isSet iter) = true then
        lcV (itS Γ (rec Γ) false tg iter) t (testsS (rec (Γ.blk scope)) ifs) (rec (Γ.blk scope) elt).e ((ownOf Γ scope.names).map (·.2)) else noE
    | none => noE)
  | [⟨tg, iter, ifs, 0⟩, ⟨tg1, iter1, ifs1, 0⟩] => (match tgO (Γ.blk scope) 4 tg, tgO (Γ.blk scope) 4 tg1 with
    | some t, some t1 => if (blkC Γ.N Γ.sc scope (ownOf Γ scope.names) && subB t.slots ((ownOf Γ scope.names).map (·.2)) && subB t1.slots ((ownOf Γ scope.names).map (·.2)) && !isSet iter && !isSet iter1) = true then
        lcV2 (itS Γ (rec Γ) false tg iter) t (testsS (rec (Γ.blk scope)) ifs) (itS (Γ.blk scope) (rec (Γ.blk scope)) true tg1 iter1) t1 (testsS (rec (Γ.blk scope)) ifs1) (rec (Γ.blk scope) elt).e ((ownOf Γ scope.names).map (·.2)) else noE
    | _, _ => noE)
  | _ => noE
theorem lcS_ok (g : GOk Γ X) (h : Snd rec) {elt : Expr} {gs : List Comprehension} {scope : Scope} {pos : Pos} : DF X (.ListComp elt gs scope pos) (lcS Γ rec elt gs scope) := by
  unfold lcS
  split
  · rename_i tg iter ifs
    split
    · rename_i t ht
      split
      · rename_i q
        rw [Bool.and_eq_true, Bool.and_eq_true, Bool.not_eq_true'] at q
        obtain ⟨⟨q1, q2⟩, q3⟩ := q
        exact df_lc g.calm g.nd (by rw [g.N, g.sc]; exact q1) (noSet q3 X.env) (itS_ok' g (fun x => h Γ X x g)) (fun Y hY => tgO_ok (g.blk hY) ht) (fun Y hY => testsS_ok fun x => h _ Y x (g.blk hY)) (fun Y hY => (h _ Y elt (g.blk hY)).e) (subB_ok q2)
      · exact df_no
    · exact df_no
  · rename_i tg iter ifs tg1 iter1 ifs1
    split
    · rename_i t t1 ht ht1
      split
      · rename_i q
        rw [Bool.and_eq_true, Bool.and_eq_true, Bool.and_eq_true, Bool.and_eq_true, Bool.not_eq_true', Bool.not_eq_true'] at q
        obtain ⟨⟨⟨⟨q1, q2⟩, q3⟩, q4⟩, q5⟩ := q
        exact df_lc2 g.calm g.nd (by rw [g.N, g.sc]; exact q1) (noSet q4 X.env) (fun env => noSet q5 env) (itS_ok' g (fun x => h Γ X x g)) (fun Y hY => tgO_ok (g.blk hY) ht) (fun Y hY => testsS_ok fun x => h _ Y x (g.blk hY))
          (fun Y hY => itS_ok' (g.blk hY) fun x => h _ Y x (g.blk hY)) (fun Y hY => tgO_ok (g.blk hY) ht1) (fun Y hY => testsS_ok fun x => h _ Y x (g.blk hY)) (fun Y hY => (h _ Y elt (g.blk hY)).e) (subB_ok q2) (subB_ok q3)
      · exact df_no
    · exact df_no
  · exact df_no

/-! ### the evaluator -/
def step (rec : Rc) (Γ : Ga) (x : Expr) : Ev := match x with
  | .Name y pos => nameS Γ y pos
  | .Constant c k pos => constS c k pos
  | .BinOp a op b _ => binS x op (rec Γ a) (rec Γ b)
  | .UnaryOp op a _ => unS x op (rec Γ a)
  | .BoolOp op es _ => boolS op (rec Γ) es
  | .Compare a ops bs _ => compS (rec Γ) a ops bs
  | .IfExp c a b _ => iteS (rec Γ c) (rec Γ a) (rec Γ b)
  | .Tuple es _ _ => tupS x (rec Γ) es
  | .List es _ => lstS x (rec Γ) es
  | .Subscript a b _ => subS x (rec Γ) a b
  | .Call (.Name f _) args [] _ => callS Γ x (rec Γ) f args
  | .ListComp elt gs scope _ => .ofF x (lcS Γ rec elt gs scope)
  | _ => .bad
theorem step_ok (h : Snd rec) : Snd (step rec) := by
  intro Γ X x g
  have hh : ∀ x, EvOk X x (rec Γ x) := fun x => h Γ X x g
  unfold step
  split
  · exact nameS_ok g _ _
  · exact constS_ok _ _ _
  · exact binS_ok (hh _) (hh _)
  · exact unS_ok (hh _)
  · exact boolS_ok hh
  · exact compS_ok g.un hh
  · exact iteS_ok (hh _) (hh _) (hh _)
  · exact tupS_ok hh
  · exact lstS_ok hh
  · exact subS_ok hh
  · exact callS_ok g hh
  · exact ofF_ok (lcS_ok g h)
  · exact bad_ok
def ev : Nat → Rc
  | 0 => fun _ _ => .bad
  | n + 1 => step (ev n)
theorem ev_ok : ∀ n, Snd (ev n)
  | 0 => fun _ _ _ _ => bad_ok
  | n + 1 => step_ok (ev_ok n)
end
end PL
/-! PL o: the evaluator of statements and of defs, and that the model keeps to it. -/
namespace PL
open PySem PySem.Spec PyProof.Rows L2

/-! ### name = [.. for ..] -/
/-- a fresh list stored in a name -/
def DA (X : Cx) (st : Stmt) (i : Nat) (f : EvF) : Prop := ∀ (σ : L2.St) (H : Hp) (O : Addr → Prop) (env : List Cell) (d : D) (D : Ends), OkO H O → RelC X.K H O σ env → f env = some d →
  (∀ a xs ds H', Same H H' → H a = none → d = .l ds → H' a = some (.lst xs) → RepL X.K H' (fun b => O b ∨ b = a) xs ds → D.nx (σ.set i (some (.ref a))) H') → wS X st D σ H
section
variable {Γ : Ga} {X : Cx} {rec : Rc}
theorem da_no {st : Stmt} {i : Nat} : DA X st i noE := fun _ _ _ _ _ _ _ _ h => nomatch h
theorem da_lc (g : GOk Γ X) (h : Snd rec) {elt : Expr} {gs : List Comprehension} {scope : Scope} {y : Str} {py pos spos : Pos} {i : Nat} (hy : Γ.slot y = some i) (hl : Γ.sc.names.lookup y = some .local) (hk : Γ.sc.kind = .function) (hline : (py.line == pos.line) = true)
    (hno : (scope.names.any fun (n, k) => n == y && (k == .local || k == .cell)) = false) : DA X (.Assign [.Name y py] (.ListComp elt gs scope pos) spos) i (lcS Γ rec elt gs scope) := by
  have hyl : X.env.scope.names.lookup y = some .local := by rw [g.sc]; exact hl
  have hkk : X.env.scope.kind = .function := by rw [g.sc]; exact hk
  unfold lcS
  split
  · rename_i tg iter ifs
    split
    · rename_i t ht
      split
      · rename_i q
        rw [Bool.and_eq_true, Bool.and_eq_true, Bool.not_eq_true'] at q
        obtain ⟨⟨q1, q2⟩, q3⟩ := q
        intro σ H O env d D ok R z c
        exact PSw (ps_setLc g.calm g.nd (g.slot hy) hyl (sw_true hkk hyl hline hno) wI_pi (blkOk_by (by rw [g.N, g.sc]; exact q1)) bG_pg bTs_pts bE_pe (noSet q3 X.env))
          (tlc_go (Q := fun x H1 => gName i x σ H1 D.nx) (itS_ok' g (fun x => h Γ X x g)) (fun Y hY => tgO_ok (g.blk hY) ht) (fun Y hY => testsS_ok fun x => h _ Y x (g.blk hY)) (fun Y hY => (h _ Y elt (g.blk hY)).e) (subB_ok q2) ok R z c)
      · exact da_no
    · exact da_no
  · rename_i tg iter ifs tg1 iter1 ifs1
    split
    · rename_i t t1 ht ht1
      split
      · rename_i q
        rw [Bool.and_eq_true, Bool.and_eq_true, Bool.and_eq_true, Bool.and_eq_true, Bool.not_eq_true', Bool.not_eq_true'] at q
        obtain ⟨⟨⟨⟨q1, q2⟩, q3⟩, q4⟩, q5⟩ := q
        intro σ H O env d D ok R z c
        exact PSw (ps_setLc2 g.calm g.nd (g.slot hy) hyl (sw_true hkk hyl hline hno) wI_pi (blkOk_by (by rw [g.N, g.sc]; exact q1)) (subB_ok q3) bG_pg bTs_pts bI_pi bG_pg bTs_pts bE_pe (noSet q4 X.env) (fun env => noSet q5 env))
          (tlc2_go (Q := fun x H1 => gName i x σ H1 D.nx) (itS_ok' g (fun x => h Γ X x g)) (fun Y hY => tgO_ok (g.blk hY) ht) (fun Y hY => testsS_ok fun x => h _ Y x (g.blk hY))
            (fun Y hY => itS_ok' (g.blk hY) fun x => h _ Y x (g.blk hY)) (fun Y hY => tgO_ok (g.blk hY) ht1) (fun Y hY => testsS_ok fun x => h _ Y x (g.blk hY)) (fun Y hY => (h _ Y elt (g.blk hY)).e) (subB_ok q2) ok R z c)
      · exact da_no
    · exact da_no
  · exact da_no
theorem DA.own {st : Stmt} {i : Nat} {f : EvF} (h : DA X st i f) : DS X st (ownF i f) := by
  intro H0 M0 H O σ env fl D R z k
  obtain ⟨d, e1, z⟩ := map_some' z
  subst z
  refine h σ H _ env d D R.okW R.rel e1 fun a xs ds H1 s na ed ha r => ?_
  subst ed
  exact k _ H1 (R.fresh s na ha r)
theorem DA.asg {st : Stmt} {i : Nat} {f : EvF} (h : DA X st i f) : DS X st (asgF (.nm i) f) := by
  intro H0 M0 H O σ env fl D R z k
  obtain ⟨d, e1, z⟩ := bind_some' z
  obtain ⟨env', e2, z⟩ := map_some' z
  subst z
  refine h σ H _ env d D R.okW R.rel e1 fun a xs ds H1 s na ed ha r => ?_
  subst ed
  have rr : Rep X.K H1 (Ow O σ env) (.ref a) (.l ds) := .l ha (fun q => R.okW a q na) (r.less fun b q => .inl q)
  have e3 := e2
  rw [bindT] at e2
  cases e2
  exact k _ H1 ((R.same s).bind e3 ((R.same s).rel.set rr) (by rw [Tg.slots]; exact Off.set))
theorem sw_cell {y : Str} {e : Expr} {py : Pos} {l : Nat} {env : Env} (h : env.scope.names.lookup y = some .cell) : swapsWith e (some (.Name y py)) l env = pure false := by
  have ky : env.kindOf y = some .cell := h
  unfold swapsWith
  cases e <;> first
    | rfl
    | (simp only [ky]; rw [show (some NameKind.cell == some NameKind.local) = false from rfl, Bool.and_false]; rfl)
def isComp : Expr → Bool
  | .ListComp .. => true
  | .SetComp .. => true
  | .DictComp .. => true
  | _ => false
theorem sw_plain {e : Expr} (h : isComp e = false) {t : Option Expr} {l : Nat} {env : Env} : swapsWith e t l env = pure false := by
  unfold swapsWith
  cases e <;> first
    | (cases h; done)
    | rfl
theorem sws_plain {e tg : Expr} (h : isComp e = false) {l : Nat} {env : Env} : swapsWithSole [tg] e l env = pure false := sw_plain h
theorem sst_none {tg e : Expr} (h : isTup e = false ∨ (isTup tg = false ∧ (match tg with | .List .. => false | _ => true) = true)) {env : Env} : swappedStores [tg] e env = pure none := by
  unfold swappedStores
  rcases h with h | ⟨h, h2⟩
  · cases tg <;> first
      | rfl
      | (cases e <;> first | (cases h; done) | rfl)
  · cases tg <;> first
      | (cases h; done)
      | (cases h2; done)
      | rfl

/-! ### statements -/
def mutL : Nat → List Stmt → List Str
  | 0, _ => []
  | _ + 1, [] => []
  | n + 1, st :: r => (match st with
    | .Expr (.Call (.Attribute (.Name x _) _ _) _ _ _) _ => [x]
    | .Assign [.Subscript (.Name x _) _ _] _ _ => [x]
    | .AugAssign (.Subscript (.Name x _) _ _) _ _ _ => [x]
    | .For _ _ b _ _ => mutL n b
    | .While _ b _ _ => mutL n b
    | .If _ a b _ => mutL n a ++ mutL n b
    | _ => []) ++ mutL n r
def keepB (Γ : Ga) (names : List Str) (i : Nat) : Bool := match Γ.N[i]? with
  | some x => names.contains x
  | none => false
def isRet : Stmt → Bool
  | .Return .. => true
  | _ => false
def frS (Γ : Ga) (M names : List Str) (st : Stmt) (f : StF) : StF := if (isRet st || M.all fun x => names.contains x) = true then f else fun env => f (frC (keepB Γ names) 0 env)
def assignS (Γ : Ga) (rec : Rc) (M : List Str) (tg e : Expr) : StF := match tg with
  | .Name y py => (match Γ.slot y with
    | some i => if Γ.loc y = true then (match e with
      | .ListComp elt gs scope pos => (match Γ.sc.names.lookup y with
        | some .local => if (decide (Γ.sc.kind = .function) && (py.line == pos.line) && !(scope.names.any fun (n, k) => n == y && (k == .local || k == .cell))) = true then
            (if M.contains y = true then ownF i (lcS Γ rec elt gs scope) else asgF (.nm i) (lcS Γ rec elt gs scope)) else fun _ => none
        | some .cell => if M.contains y = true then ownF i (lcS Γ rec elt gs scope) else fun _ => none
        | _ => fun _ => none)
      | e => if isComp e = true then fun _ => none else if M.contains y = true then ownF i (rec Γ e).f else asgF (.nm i) (rec Γ e).e) else fun _ => none
    | none => fun _ => none)
  | .Subscript (.Name x _) k _ => (match Γ.slot x with
    | some i => if (Γ.vis x && !isComp e && !isSlice k) = true then setF i (rec Γ k).e (rec Γ e).e else fun _ => none
    | none => fun _ => none)
  | .Tuple _ _ _ => (match tgO Γ 4 tg with
    | some t => if (!isComp e && !isTup e) = true then asgF t (rec Γ e).e else fun _ => none
    | none => fun _ => none)
  | _ => fun _ => none
theorem ds_no {st : Stmt} : DS X st (fun _ => none) := ds_never
theorem dsif {c : Bool} {st : Stmt} {f : StF} (h : c = true → DS X st f) : DS X st (if c = true then f else fun _ => none) := by
  split
  · rename_i q; exact h q
  · exact ds_no
theorem assignS_ok (g : GOk Γ X) (h : Snd rec) {M : List Str} {tg e : Expr} {pos : Pos} : DS X (.Assign [tg] e pos) (assignS Γ rec M tg e) := by
  have hh : ∀ x, EvOk X x (rec Γ x) := fun x => h Γ X x g
  unfold assignS
  split
  · rename_i y py
    split
    · rename_i i hy
      refine dsif fun hl => ?_
      obtain ⟨l1, l2⟩ := g.loc hl
      split
      · rename_i elt gs scope lpos
        split
        · rename_i hloc
          refine dsif fun q => ?_
          rw [Bool.and_eq_true, Bool.and_eq_true, Bool.not_eq_true', decide_eq_true_eq] at q
          have A := da_lc (spos := pos) g h (elt := elt) (gs := gs) hy hloc q.1.1 q.1.2 q.2
          split
          · exact A.own
          · exact A.asg
        · rename_i hcell
          refine dsif fun _ => ?_
          exact ds_own g.nd (g.slot hy) l1 l2 (lcS_ok g h) (sw_cell (by rw [g.sc]; exact hcell))
        · exact ds_no
      · split
        · exact ds_no
        · rename_i hc
          have hc := Bool.not_eq_true _ ▸ hc
          split
          · exact ds_own g.nd (g.slot hy) l1 l2 (hh e).f (sw_plain hc)
          · exact ds_asg (hh e).e (dg_name g.nd (g.slot hy) l1 l2) (sws_plain hc) (sst_none (.inr ⟨rfl, rfl⟩)) rfl
    · exact ds_no
  · rename_i x p1 k p2
    split
    · rename_i i hy
      refine dsif fun q => ?_
      rw [Bool.and_eq_true, Bool.and_eq_true, Bool.not_eq_true', Bool.not_eq_true'] at q
      obtain ⟨⟨q1, q2⟩, q3⟩ := q
      obtain ⟨v1, v2, v3⟩ := g.vis q1
      exact ds_setIx (g.slot hy) v1 v2 v3 (hh k).e (hh e).e (fun v => by cases k <;> first | (cases q3; done) | rfl) (sws_plain q2) (sst_none (.inr ⟨rfl, rfl⟩)) rfl
    · exact ds_no
  · rename_i ts k p2
    split
    · rename_i t ht
      refine dsif fun q => ?_
      rw [Bool.and_eq_true, Bool.not_eq_true', Bool.not_eq_true'] at q
      exact ds_asg (hh e).e (tgO_ok g ht) (sws_plain q.1) (sst_none (.inl q.2)) rfl
    · exact ds_no
  · exact ds_no
def exprS (Γ : Ga) (rec : Rc) (e : Expr) : StF := match e with
  | .Call (.Attribute (.Name x _) m apos) [a] [] cpos => (match Γ.slot x with
    | some i => if (decide (m = "append") && Γ.vis x && noStar a && (apos.endLine == cpos.line)) = true then appF i (rec Γ a).e else fun _ => none
    | none => fun _ => none)
  | e => if isComp e = true then fun _ => none else fun env => ((rec Γ e).e env).map fun _ => .nx env
theorem exprS_ok (g : GOk Γ X) (h : Snd rec) {e : Expr} {pos : Pos} : DS X (.Expr e pos) (exprS Γ rec e) := by
  have hh : ∀ x, EvOk X x (rec Γ x) := fun x => h Γ X x g
  unfold exprS
  split
  · rename_i x p1 m apos a cpos
    split
    · rename_i i hy
      refine dsif fun q => ?_
      rw [Bool.and_eq_true, Bool.and_eq_true, Bool.and_eq_true, decide_eq_true_eq] at q
      obtain ⟨⟨⟨e, q1⟩, q2⟩, q3⟩ := q
      subst e
      obtain ⟨v1, v2, v3⟩ := g.vis q1
      exact ds_append (g.slot hy) v1 v2 v3 (hh a).e q3 (star_cons q2) rfl
    · exact ds_no
  · split
    · exact ds_no
    · rename_i hc
      have hc := Bool.not_eq_true _ ▸ hc
      exact ds_expr (hh e).e (sw_plain hc)
def augS (Γ : Ga) (rec : Rc) (op : Operator) (x : Str) (e : Expr) : StF := match Γ.slot x with
  | some i => if Γ.loc x = true then (match op with
    | .Add => augF i (fun a b => a + b) (rec Γ e).e
    | .Sub => augF i (fun a b => a - b) (rec Γ e).e
    | _ => fun _ => none) else fun _ => none
  | none => fun _ => none
theorem augS_ok (g : GOk Γ X) (h : Snd rec) {op : Operator} {x : Str} {e : Expr} {p pos : Pos} : DS X (.AugAssign (.Name x p) op e pos) (augS Γ rec op x e) := by
  have hh : ∀ x, EvOk X x (rec Γ x) := fun x => h Γ X x g
  unfold augS
  split
  · rename_i i hy
    refine dsif fun hl => ?_
    obtain ⟨l1, l2⟩ := g.loc hl
    split
    · exact ds_aug g.nd (g.slot hy) l1 l2 ip_add (hh e).e
    · exact ds_aug g.nd (g.slot hy) l1 l2 ip_sub (hh e).e
    · exact ds_no
  · exact ds_no
def oneS (Γ : Ga) (rec : Rc) (W : Nat) (M : List Str) (ba bl : List Stmt → StF) (st : Stmt) : StF := match st with
  | .Assign [tg] e _ => assignS Γ rec M tg e
  | .AugAssign (.Name x _) op e _ => augS Γ rec op x e
  | .Expr e _ => exprS Γ rec e
  | .Return (some e) _ => retF (rec Γ e).e
  | .Return none _ => fun _ => some (.rt .n)
  | .If c a b _ => ifF (rec Γ c).t (ba a) (ba b)
  | .For tg iter body [] _ => (match tgO Γ 4 tg with
    | some t => if isSet iter = false then forF (itS Γ (rec Γ) true tg iter) t (bl body) else fun _ => none
    | none => fun _ => none)
  | .While c body [] _ => whileV (rec Γ c).t (bl body) W
  | .Pass _ => fun env => some (.nx env)
  | .Break _ => fun env => some (.bk env)
  | .Continue _ => fun env => some (.ct env)
  | _ => fun _ => none
/-- n: how deep; W: turns of a while -/
def stS (Γ : Ga) (rec : Rc) (W : Nat) : Nat → List Str → List Str → List Stmt → StF
  | 0, _, _, _ => fun _ => none
  | n + 1, M, later, [] => fun env => some (.nx env)
  | n + 1, M, later, st :: rest => seqF (frS Γ M (mutL 100 (st :: rest) ++ later) st (oneS Γ rec W (M.filter fun x => (mutL 100 (st :: rest) ++ later).contains x)
      (stS Γ rec W n (M.filter fun x => (mutL 100 (st :: rest) ++ later).contains x) (mutL 100 rest ++ later)) (stS Γ rec W n (M.filter fun x => (mutL 100 (st :: rest) ++ later).contains x) (mutL 100 (st :: rest) ++ later)) st))
      (stS Γ rec W n (M.filter fun x => (mutL 100 (st :: rest) ++ later).contains x) later rest)
theorem frS_ok {M names : List Str} {st st' : Stmt} {f : StF} (h : DS X st f) : DS X st (frS Γ M names st' f) := by
  unfold frS
  split
  · exact h
  · exact ds_free _ h
theorem oneS_ok (g : GOk Γ X) (h : Snd rec) (hp : PassesOwn (model X.prog X.w) X.A X.env X.xe) {W : Nat} {M : List Str} {ba bl : List Stmt → StF} (ha : ∀ sts, DSs X sts (ba sts)) (hl : ∀ sts, DSs X sts (bl sts)) {st : Stmt} : DS X st (oneS Γ rec W M ba bl st) := by
  have hh : ∀ x, EvOk X x (rec Γ x) := fun x => h Γ X x g
  unfold oneS
  split
  · exact assignS_ok g h
  · exact augS_ok g h
  · exact exprS_ok g h
  · exact ds_ret (hh _).e
  · exact ds_retN
  · exact ds_if (hh _).t (ha _) (ha _)
  · split
    · rename_i t ht
      split
      · rename_i hs
        exact ds_for hp g.calm (itS_ok' g hh) (tgO_ok g ht) (hl _) (noSet hs X.env)
      · exact ds_no
    · exact ds_no
  · exact ds_while W hp (hh _).t (hl _)
  · exact ds_pass
  · exact ds_break
  · exact ds_cont
  · exact ds_no
theorem stS_ok (g : GOk Γ X) (h : Snd rec) (hp : PassesOwn (model X.prog X.w) X.A X.env X.xe) {W : Nat} : ∀ (n : Nat) (M later : List Str) (sts : List Stmt), DSs X sts (stS Γ rec W n M later sts)
  | 0, _, _, _ => fun _ _ _ _ _ _ _ _ _ e => nomatch e
  | n + 1, M, later, [] => dss_nil
  | n + 1, M, later, st :: rest => by
    rw [stS]
    exact dss_cons (frS_ok (oneS_ok g h hp (stS_ok g h hp n _ _) (stS_ok g h hp n _ _))) (stS_ok g h hp n _ later rest)
end
end PL
/-! PL p: defs: what a call gives; every def keeps its promise. -/
namespace PL
open PySem PySem.Spec PyProof.Rows L2

/-! ### binding, by position alone -/
theorem zip_look {as : List Str} (nd : as.Nodup) : ∀ {us : List Value}, us.length = as.length → (as.filterMap fun n => ((as.zip us).lookup n).map (n, ·)) = as.zip us := by
  have aux : ∀ (as : List Str) (us : List Value) (pre : List (Str × Value)), as.Nodup → us.length = as.length → (∀ n ∈ as, pre.lookup n = none) → (as.filterMap fun n => ((pre ++ as.zip us).lookup n).map (n, ·)) = as.zip us := by
    intro as
    induction as with
    | nil => intro us pre _ _ _; rfl
    | cons a as ih =>
      intro us pre nd hl hp
      cases us with
      | nil => cases hl
      | cons u us =>
        rw [List.zip_cons_cons, List.filterMap_cons]
        have h1 : (pre ++ (a, u) :: as.zip us).lookup a = some u := by
          rw [List.lookup_append, hp a List.mem_cons_self]
          simp [List.lookup]
        rw [h1]
        have h2 : pre ++ (a, u) :: as.zip us = (pre ++ [(a, u)]) ++ as.zip us := by simp
        rw [h2]
        rw [List.nodup_cons] at nd
        have h3 := ih us (pre ++ [(a, u)]) nd.2 (by simpa using hl) (fun n hn => by
          rw [List.lookup_append, hp n (List.mem_cons_of_mem _ hn)]
          have ne : (n == a) = false := by
            rw [beq_eq_false_iff_ne]
            intro e
            exact nd.1 (e ▸ hn)
          simp [List.lookup, ne])
        show (a, u) :: _ = _
        rw [h3]
  intro us hl
  have := aux as us [] nd hl (fun _ _ => rfl)
  simpa using this
theorem zip_none {as : List Str} : ∀ {us : List Value}, us.length = as.length → (as.filter fun n => ((as.zip us).lookup n).isNone) = [] := by
  intro us hl
  rw [List.filter_eq_nil_iff]
  intro n hn
  have aux : ∀ (as : List Str) (us : List Value), us.length = as.length → n ∈ as → ((as.zip us).lookup n).isSome = true := by
    intro as
    induction as with
    | nil => intro us _ h; cases h
    | cons a as ih =>
      intro us hl h
      cases us with
      | nil => cases hl
      | cons u us =>
        rw [List.zip_cons_cons, List.lookup_cons]
        split
        · rfl
        · rcases List.mem_cons.mp h with e | e
          · subst e; rename_i z; simp at z
          · exact ih us (by simpa using hl) e
  have q := aux as us hl hn
  cases z : (as.zip us).lookup n with
  | none => rw [z] at q; cases q
  | some v => simp
theorem bind_gen {x qual : Str} {body : List Stmt} {scope : Scope} {kV doc pm : Value} {an : Option Addr} {cdv ct : Value} {as : List Arg} (nd : (as.map (·.arg)).Nodup) {us : List Value} (hl : us.length = (as.map (·.arg)).length) :
    bindArgs (PySem.W.fnOf x qual ⟨[], as, none, [], [], none, []⟩ body scope .none kV doc pm an cdv ct) ⟨us, []⟩ = pure ((as.map (·.arg)).zip us) := by
  have h1 := zip_look nd hl
  have h2 := zip_none hl
  have h3 : ¬ us.length > (as.map (·.arg)).length := by omega
  have h4 : seqItems? Value.none = pure none := rfl
  have h5 : decide (us.length > (as.map (·.arg)).length) = false := decide_eq_false h3
  unfold bindArgs
  simp only [h4, List.map_nil, List.nil_append, List.append_nil, pure_bind, List.forIn_nil, h5, Bool.false_and, Option.isNone_none, Option.getD_none, List.length_nil, Nat.zero_sub, List.drop_nil, Nat.sub_zero, List.take_length, h2, List.isEmpty_nil, Bool.not_true, List.zip_nil_right, Bool.false_eq_true, if_false, h1]

/-! ### a def -/
def plainArgs (p : Arguments) : Option (List Str) := match p with
  | ⟨[], as, none, [], [], none, []⟩ => some (as.map (·.arg))
  | _ => none
/-- the blocks of comprehensions within -/
def scE : Nat → Expr → List Scope
  | 0, _ => []
  | n + 1, x => match x with
    | .BinOp a _ b _ => scE n a ++ scE n b
    | .UnaryOp _ a _ => scE n a
    | .BoolOp _ es _ => es.flatMap (scE n)
    | .Compare a _ bs _ => scE n a ++ bs.flatMap (scE n)
    | .IfExp c a b _ => scE n c ++ (scE n a ++ scE n b)
    | .Tuple es _ _ => es.flatMap (scE n)
    | .List es _ => es.flatMap (scE n)
    | .Subscript a b _ => scE n a ++ scE n b
    | .Slice a b _ _ => (match a with | some a => scE n a | none => []) ++ (match b with | some b => scE n b | none => [])
    | .Call f args _ _ => scE n f ++ args.flatMap (scE n)
    | .Attribute a _ _ => scE n a
    | .ListComp elt gs scope _ => scope :: (scE n elt ++ gs.flatMap fun g => scE n g.iter ++ g.ifs.flatMap (scE n))
    | .SetComp elt gs scope _ => scope :: (scE n elt ++ gs.flatMap fun g => scE n g.iter ++ g.ifs.flatMap (scE n))
    | .DictComp k v gs scope _ => scope :: (scE n k ++ (scE n v ++ gs.flatMap fun g => scE n g.iter ++ g.ifs.flatMap (scE n)))
    | .Dict ks vs _ => (ks.flatMap fun k => match k with | some k => scE n k | none => []) ++ vs.flatMap (scE n)
    | _ => []
def scL : Nat → List Stmt → List Scope
  | 0, _ => []
  | n + 1, [] => []
  | n + 1, st :: r => (match st with
    | .Expr e _ => scE 40 e
    | .Assign ts e _ => scE 40 e ++ ts.flatMap (scE 40)
    | .AugAssign t _ e _ => scE 40 e ++ scE 40 t
    | .Return (some e) _ => scE 40 e
    | .For _ i b o _ => scE 40 i ++ (scL n b ++ scL n o)
    | .While c b o _ => scE 40 c ++ (scL n b ++ scL n o)
    | .If c a b _ => scE 40 c ++ (scL n a ++ scL n b)
    | .Raise (some e) _ _ => scE 40 e
    | _ => []) ++ scL n r
def addS (acc : List Str) (x : Str) : List Str := if acc.contains x = true then acc else acc ++ [x]
def locN (names : List (Str × NameKind)) : List Str := (names.filter fun y => y.2 == .local || y.2 == .cell).map (·.1)
def namesOf (ps : List Str) (sc : Scope) (body : List Stmt) : List Str := ((locN sc.names) ++ (scL 100 body).flatMap fun s => locN s.names).foldl addS ps
def fsB (N ps : List Str) (sc : Scope) : Bool := decide (sc.kind = .function) && decide (sc.isCoroutine = false) && decide (sc.isGenerator = false) && decide N.Nodup && decide (N.take ps.length = ps) &&
  (ps.all fun x => match sc.names.lookup x with
    | some .local => true
    | some .cell => true
    | _ => false) && sc.names.all fun y => decide (y.2 ≠ .free)
theorem fsB_ok {N ps : List Str} {sc : Scope} (h : fsB N ps sc = true) : FnScope N ps sc := by
  unfold fsB at h
  simp only [Bool.and_eq_true, List.all_eq_true, decide_eq_true_eq] at h
  obtain ⟨⟨⟨⟨⟨⟨h1, h2⟩, h3⟩, h4⟩, h5⟩, h6⟩, h7⟩ := h
  refine ⟨h1, h2, h3, h4, h5, fun x hx => ?_, h7⟩
  have q := h6 x hx
  split at q
  · rename_i e; exact .inl e
  · rename_i e; exact .inr e
  · cases q
abbrev Dfs := List He.DefD
def okDef (d : He.DefD) : Bool := decide (d.at_ = (d.name, none)) && d.dfl.isEmpty && d.kwd.isEmpty && (match plainArgs d.params with
  | some ps => fsB (namesOf ps d.scope d.body) ps d.scope
  | none => false)
def parsOf (d : He.DefD) : List Str := (plainArgs d.params).getD []
def gaOf (fns : List (Str × Nat)) (free : List Str) (call : Str → List D → Option D) (d : He.DefD) : Ga := ⟨namesOf (parsOf d) d.scope d.body, d.scope, fun _ => true, fns, free, call⟩
/-- a while's turns, at most -/
def WH : Nat := 100000
/-- what the body does -/
def bodyF (fns : List (Str × Nat)) (free : List Str) (call : Str → List D → Option D) (d : He.DefD) : StF := stS (gaOf fns free call d) (ev 60) WH 60 (mutL 100 d.body) [] d.body
@[simp] def startC (n : Nat) (ds : List D) : List Cell := ds.map .v ++ List.replicate (n - ds.length) .no
@[simp] def outF : Fl → Option D
  | .rt d => some d
  | .nx _ => some .n
  | _ => none
def defF (fns : List (Str × Nat)) (free : List Str) (call : Str → List D → Option D) (d : He.DefD) : List D → Option D := fun ds => (bodyF fns free call d (startC (namesOf (parsOf d) d.scope d.body).length ds)).bind outF
def fnsOf (fn : Dfs) : List (Str × Nat) := fn.map fun d => (d.name, (parsOf d).length)
def findD (x : Str) : Dfs → Option He.DefD
  | [] => none
  | d :: r => if d.name = x then some d else findD x r
theorem findD_mem {x : Str} {d : He.DefD} : ∀ {fn : Dfs}, findD x fn = some d → d ∈ fn ∧ d.name = x
  | [], h => by cases h
  | e :: r, h => by
    unfold findD at h
    split at h
    · rename_i q
      cases h
      exact ⟨List.mem_cons_self, q⟩
    · obtain ⟨h1, h2⟩ := findD_mem h
      exact ⟨List.mem_cons_of_mem _ h1, h2⟩
theorem findD_look {x : Str} {n : Nat} : ∀ {fn : Dfs}, (fnsOf fn).lookup x = some n → ∃ d, findD x fn = some d ∧ n = (parsOf d).length
  | [], h => by cases h
  | e :: r, h => by
    unfold fnsOf at h
    rw [List.map_cons, List.lookup_cons] at h
    unfold findD
    split at h
    · rename_i q
      cases h
      exact ⟨e, if_pos (eq_of_beq q).symm, rfl⟩
    · rename_i q
      obtain ⟨d, h1, h2⟩ := findD_look (fn := r) h
      rw [if_neg fun z => by rw [z, beq_self_eq_true] at q; cases q]
      exact ⟨d, h1, h2⟩
/-- a call, at most k deep -/
def callD (fn : Dfs) (free : List Str) : Nat → Str → List D → Option D
  | 0, _ => fun _ => none
  | k + 1, x => match findD x fn with
    | some d => defF (fnsOf fn) free (callD fn free k) d
    | none => fun _ => none

section
variable {P : Program} {w : World} {K : PySem.W.Frag} {mg : Str → Option Value} {base : Heap} {fn : Dfs} {free : List Str}
theorem startC_rel {H : Hp} {O : Addr → Prop} {N : List Str} {vs : List V} {ds : List D} (ok : OkO H O) (r : RepL K H O vs ds) : RelM K H (fun _ => False) H O (L2.start N vs) (startC N.length ds) := by
  have l := r.length
  have no : ∀ i d, (startC N.length ds)[i]? ≠ some (Cell.o d) := fun i d e => by
    unfold startC at e
    rw [List.getElem?_append] at e
    split at e
    · rw [List.getElem?_map] at e
      obtain ⟨a, _, h⟩ := map_some' e
      cases h
    · rw [List.getElem?_replicate] at e
      split at e <;> cases e
  have nown : ∀ i a, ¬ Own (L2.start N vs) (startC N.length ds) i a := fun i a o => let ⟨⟨d, e⟩, _⟩ := o; no i d e
  refine ⟨⟨?_, fun i c e => ?_⟩, ok, fun i a o => (nown i a o).elim, fun i j a o _ => (nown i a o).elim, Kp.refl, fun i a o => (nown i a o).elim⟩
  · unfold startC L2.start
    rw [List.length_append, List.length_append, List.length_map, List.length_map, List.length_replicate, List.length_replicate, l]
    exact Nat.le_refl _
  · unfold startC at e
    rw [List.getElem?_append] at e
    split at e
    · rename_i hi
      rw [List.getElem?_map] at e
      obtain ⟨d, h1, h2⟩ := map_some' e
      subst h2
      obtain ⟨v, g1, g2⟩ := r.get h1
      refine ⟨v, ?_, g2.less fun a z => z.elim id fun ⟨j, o⟩ => (nown j a o).elim⟩
      unfold L2.start
      rw [List.getElem?_append_left (by rw [List.length_map, l]; rw [List.length_map] at hi; exact hi), List.getElem?_map, g1]
      rfl
    · rw [List.getElem?_replicate] at e
      split at e
      · cases e; trivial
      · cases e
/-- the defs as the head tells them -/
structure Known (K : PySem.W.Frag) (mg : Str → Option Value) (fn : Dfs) (free : List Str) : Prop where
  def_ : ∀ d ∈ fn, ∃ fd, FunD K d.name d.qual d.params d.body d.scope [] [] (He.ga K d.name) fd
  glo : ∀ d ∈ fn, mg d.name = some (.ref (He.ga K d.name))
  free : ∀ x, free.contains x = true → mg x = none
theorem plainArgs_some {p : Arguments} {ps : List Str} (h : plainArgs p = some ps) : ∃ as : List Arg, p = ⟨[], as, none, [], [], none, []⟩ ∧ ps = as.map (·.arg) := by
  unfold plainArgs at h
  split at h
  · cases h; exact ⟨_, rfl, rfl⟩
  · cases h
theorem okDef_some {d : He.DefD} (h : okDef d = true) : ∃ as : List Arg, d.params = ⟨[], as, none, [], [], none, []⟩ ∧ parsOf d = as.map (·.arg) ∧ FnScope (namesOf (parsOf d) d.scope d.body) (parsOf d) d.scope := by
  unfold okDef at h
  rw [Bool.and_eq_true] at h
  obtain ⟨_, h⟩ := h
  split at h
  · rename_i ps e
    obtain ⟨as, e1, e2⟩ := plainArgs_some e
    have e3 : parsOf d = ps := by unfold parsOf; rw [e]; rfl
    rw [e3]
    exact ⟨as, e1, e2, fsB_ok h⟩
  · cases h
theorem binds_of {d : He.DefD} {f : Addr} {fd : FuncData} (ok : okDef d = true) (F : FunD K d.name d.qual d.params d.body d.scope [] [] f fd) : Binds K fd (parsOf d) [] := by
  obtain ⟨as, e1, e2, S⟩ := okDef_some ok
  have nd : (as.map (·.arg)).Nodup := by
    rw [← e2, ← S.pre]
    exact S.nd.sublist (List.take_sublist _ _)
  rw [e1] at F
  rw [e2]
  exact F.bindsN fun kV doc pm an cdv ct us hl => bind_gen nd hl
theorem bindsA_of {d : He.DefD} {f : Addr} {fd : FuncData} (ok : okDef d = true) (F : FunD K d.name d.qual d.params d.body d.scope [] [] f fd) (s : Shared) (us : List Value) (hl : us.length = (parsOf d).length) : BindsTo s fd ⟨us, []⟩ ((parsOf d).zip us) := by
  obtain ⟨as, e1, e2, S⟩ := okDef_some ok
  have nd : (as.map (·.arg)).Nodup := by
    rw [← e2, ← S.pre]
    exact S.nd.sublist (List.take_sublist _ _)
  rw [e1] at F
  rw [e2] at hl ⊢
  exact F.bindsA (fun kV doc pm an cdv ct us hl => bind_gen nd hl) s us hl
/-- every def does what callD says -/
theorem call_ok (hok : fn.all okDef = true) (kn : Known K mg fn free) : ∀ (k : Nat) (x : Str) (d : He.DefD), findD x fn = some d → ∀ fd, FunD K d.name d.qual d.params d.body d.scope [] [] (He.ga K d.name) fd →
    FnOk P w K mg base CX0 k (He.ga K d.name) fd (parsOf d) (spD K (parsOf d).length (callD fn free k x))
  | 0, x, d, hd, fd, F => ⟨fun vs H Q E h => h.1, fun A outer s H args us vs Q E _ _ _ _ h => by
      obtain ⟨_, ds, d', O, _, _, e, _⟩ := h
      cases e⟩
  | k + 1, x, d, hd, fd, F => by
    have hm := findD_mem hd
    have okd := List.all_eq_true.mp hok d hm.1
    obtain ⟨as, e1, e2, S⟩ := okDef_some okd
    refine F.ok S (fun vs H Q E h => h.1) (fun cdv A outer s H vs Q E hr h => ⟨wSs (cxOf CX0 P w K mg base (namesOf (parsOf d) d.scope d.body) d.qual d.scope (He.ga K d.name) cdv A outer s H E).nox d.body, PSs.nox wSs_pss, ?_⟩)
    obtain ⟨hl, ds, r, O, ok, rl, e, c⟩ := h
    have e : (match findD x fn with
      | some d => defF (fnsOf fn) free (callD fn free k) d
      | none => fun _ => none) ds = some r := e
    rw [hd] at e
    have e : (bodyF (fnsOf fn) free (callD fn free k) d (startC (namesOf (parsOf d) d.scope d.body).length ds)).bind outF = some r := e
    obtain ⟨fl, e3, e4⟩ := bind_some' e
    have g : GOk (gaOf (fnsOf fn) free (callD fn free k) d) (cxOf CX0 P w K mg base (namesOf (parsOf d) d.scope d.body) d.qual d.scope (He.ga K d.name) cdv A outer s H E).nox := by
      refine ⟨rfl, S.nd, rfl, fun _ _ => rfl, rfl, ?_, fun y hy => kn.free y hy, fun y n hy => ?_⟩
      · have := hr.un
        show (A.deeper _).units + 65 < cLine
        omega
      · obtain ⟨d', h1, h2⟩ := findD_look hy
        have hm' := findD_mem h1
        obtain ⟨fd', F'⟩ := kn.def_ d' hm'.1
        have okd' := List.all_eq_true.mp hok d' hm'.1
        refine ⟨k, He.ga K d'.name, fd', parsOf d', ?_, hr, ?_, F'.kp, binds_of okd' F'⟩
        · rw [h2]
          exact call_ok hok kn k y d' h1 fd' F'
        · rw [← hm'.2]
          exact kn.glo d' hm'.1
    refine stS_ok g (ev_ok 60) .never 60 (mutL 100 d.body) [] d.body H (fun _ => False) H O _ _ fl _ (startC_rel ok rl) e3 ?_
    cases fl with
    | rt q =>
      cases e4
      exact fun v H' kp ok' rp => c v H' (fun a o z => kp a o z fun f => f) rp
    | nx env' =>
      cases e4
      exact fun σ' H' R => c .non H' (fun a o z => R.kp a o z fun f => f) .n
    | bk _ => cases e4
    | ct _ => cases e4
end
end PL
/-! PL r: a law's end. -/
namespace PL
open PySem PySem.Spec PySem.W PyProof.Rows L2

def defD : Stmt → Option He.DefD
  | .FunctionDef n a b _ _ _ sc _ _ _ => some ⟨(n, none), n, n, a, b, sc, [], []⟩
  | _ => none
def defsOf (P : Program) : Dfs := P.main.body.filterMap defD
def faOf (fn : Dfs) (free : List Str) : List He.Fa := fn.map (fun d => .glo d.name) ++ free.map .free
theorem says_fact {fa : List He.Fa} {fn : List He.DefD} {K : PySem.W.Frag} (c : He.SaysD fa fn K) : ∀ f ∈ fa, f.ok K = true := fun f hf => by
  obtain ⟨i, hi⟩ := List.mem_iff_getElem?.mp hf
  exact c.fact i hi
theorem says_def {fa : List He.Fa} {fn : List He.DefD} {K : PySem.W.Frag} (c : He.SaysD fa fn K) (hok : fn.all okDef = true) : ∀ d ∈ fn, ∃ fd, FunD K d.name d.qual d.params d.body d.scope [] [] (He.ga K d.name) fd := fun d hd => by
  obtain ⟨i, hi⟩ := List.mem_iff_getElem?.mp hd
  obtain ⟨fd, F⟩ := c.def_ i hi
  have ok := List.all_eq_true.mp hok d hd
  unfold okDef at ok
  rw [Bool.and_eq_true, Bool.and_eq_true, Bool.and_eq_true, decide_eq_true_eq, List.isEmpty_iff, List.isEmpty_iff] at ok
  obtain ⟨⟨⟨e1, e2⟩, e3⟩, _⟩ := ok
  have f1 : d.dvs K = [] := by unfold He.DefD.dvs; rw [e2]; rfl
  have f2 : d.kws K = [] := by unfold He.DefD.kws; rw [e3]; rfl
  have f3 : He.fAd K d.at_ = He.ga K d.name := by rw [e1]; rfl
  rw [f1, f2, f3] at F
  exact ⟨fd, F⟩
theorem known_of {fn : Dfs} {free : List Str} {K : PySem.W.Frag} {mg : Str → Option Value} {h : Heap} (X : K.In h) (G : h.Ns mainGlobals mg) (hok : fn.all okDef = true) (c : He.SaysD (faOf fn free) fn K) : Known K mg fn free where
  def_ := says_def c hok
  glo := fun d hd => He.glo_ok X G (says_fact c (.glo d.name) (List.mem_append_left _ (List.mem_map_of_mem hd)))
  free := fun x hx => He.free_ok X G (says_fact c (.free x) (List.mem_append_right _ (List.mem_map_of_mem (List.contains_iff_mem.mp hx))))
/-- what the law's def promises -/
def spLaw (K : PySem.W.Frag) : Sp := fun vs H Q _ => ∃ (a : Addr) (ns : List Int), vs = [.ref a] ∧ ns.length ≤ 63 ∧ (∀ z ∈ ns, Builtin.Int.intBits z ≤ 1048576) ∧ SqL K H a (ns.map V.int) ∧ ∀ H', Q (.bl true) H'
theorem lawOk {P : Program} {w : World} {K : PySem.W.Frag} {mg : Str → Option Value} {base : Heap} {fn : Dfs} {free : List Str} {d : He.DefD} {fd : FuncData} {k : Nat} {x : Str} (hok : fn.all okDef = true) (kn : Known K mg fn free) (hd : findD x fn = some d) (hp : (parsOf d).length = 1)
    (F : FunD K d.name d.qual d.params d.body d.scope [] [] (He.ga K d.name) fd)
    (h : ∀ ns : List Int, ns.length ≤ 63 → (∀ z ∈ ns, Builtin.Int.intBits z ≤ 1048576) → callD fn free k x [.z (ns.map .i)] = some (.b true)) : FnOk P w K mg base CX0 k (He.ga K d.name) fd (parsOf d) (spLaw K) := by
  refine (call_ok hok kn k x d hd fd F).imp fun vs H Q E q => ?_
  obtain ⟨a, ns, rfl, hl, hb, hs, q⟩ := q
  refine ⟨hp.symm, [.z (ns.map .i)], .b true, fun _ => False, fun a z => z.elim, .cons ?_ .nil, h ns hl hb, fun v H' _ r => ?_⟩
  · rcases hs with hs | ⟨o, its, n, e1, e2, e3, e4, e5⟩
    · exact .z hs (fun z => z) (RepL.of_ints ns)
    · exact .zk (fun G => .inr ⟨o, its, n, e1, e2, e3, e4, e5⟩) (RepL.of_ints ns)
  · cases r
    exact q H'
theorem walk_fin {l : PySem.W.OpenLaw} {n k : Nat} {q : Program} {loose : List Str} {XP : (Str → Option Value) → Heap → Prop} {YP : World → Heap → Prop} {d : DefRec} {x : Str}
    (hn : l.most = some n) (hn2 : n ≤ sizeLine) (hdf : d.params.defaults = []) (hr : Room k callerA)
    (F : ∀ (w : World) (mg : Str → Option Value) (fa : Addr) (h : Heap), YP w h → h.Ns mainGlobals mg → mg d.name = some (.ref fa) →
      ∃ (K : PySem.W.Frag) (fd : FuncData) (sp : Sp), K.In h ∧ (∀ (s : Shared) (u : Value), BindsTo s fd ⟨[u], []⟩ [(x, u)]) ∧
        (∀ (H : Hp) (a : Addr) (ns : List Int), ns.length ≤ n → (∀ z ∈ ns, Builtin.Int.intBits z ≤ 1048576) → SqL K H a (ns.map V.int) → sp [.ref a] H (fun v _ => v = .bl true) fun _ _ _ => False) ∧
        ∀ base : Heap, K.In base → base.Ns mainGlobals mg → FnOk l.prog w K mg base CX0 k fa fd [x] sp) :
    PySem.W.WalkO q loose XP YP l.row.toRowW d [] (fun f vs => PySem.call f vs) := by
  refine Att.attach_callB hn hdf fun w s₀ s₁ mg mb fa o pm cd doc a vs ns G Y ho hd hcd hmg hobj hints hlen hbits hg => ?_
  obtain ⟨K, fd, sp, KX, hb, hsp, hF⟩ := F w mg fa _ Y G.T.g hmg
  exact law_call KX G.T.g G.T.b G.T.builtins G.T.nolimit hg hobj hints (Nat.le_trans hlen hn2) hr hF hb (fun H hO hS => hsp H a ns hlen hbits hS) fun H e s' z => z
end PL
/-! PL s: short names of the evaluator's forms. -/
namespace PL
open PySem PySem.Spec PyProof.Rows L2
@[simp] def vV (i : Nat) : EvF := fun env => getV env i
@[simp] def vB (i : Nat) : EvF := fun env => getB env i
@[simp] def kI (i : Int) : EvF := fun _ => some (.i i)
@[simp] def kB (b : Bool) : EvF := fun _ => some (.b b)
@[simp] def kN : EvF := fun _ => some .n
@[simp] def kS (s : Str) : EvF := fun _ => some (.s s)
@[simp] def tupV (f : List Cell → Option (List D)) : EvF := fun env => (f env).bind fun xs => if xs.length ≤ SZ then some (.t xs) else none
@[simp] def lstV (f : List Cell → Option (List D)) : EvF := fun env => (f env).bind fun xs => if xs.length ≤ SZ then some (.l xs) else none
@[simp] def srtV (f : EvF) : EvF := fun env => (f env).bind srtSetD
@[simp] def a0 : List Cell → Option (List D) := fun _ => some []
@[simp] def p0 : List Cell → Option (Option Int) := fun _ => some none
@[simp] def itR1 (f : EvF) : List Cell → Option (List D) := fun env => (f env).bind rng1
@[simp] def itR2 (f g : EvF) : List Cell → Option (List D) := fun env => (f env).bind fun x => (g env).bind fun y => rng2 x y
@[simp] def itR3 (f g h : EvF) : List Cell → Option (List D) := fun env => (f env).bind fun x => (g env).bind fun y => (h env).bind fun z => rng3 x y z
@[simp] def itE (f : EvF) : List Cell → Option (List D) := fun env => (f env).bind fun d => (seqD d).map (enumD 0)
@[simp] def itZ (f g : EvF) : List Cell → Option (List D) := fun env => (f env).bind fun d => (g env).bind fun d' => (seqD d).bind fun xs => (seqD d').map fun ys => zipD xs ys
@[simp] def itP (f : EvF) : List Cell → Option (List D) := fun env => (f env).bind walkD
@[simp] def tY : List Cell → Option Bool := fun _ => some true
@[simp] def plI (a b : Int) : Int := a + b
@[simp] def miI (a b : Int) : Int := a - b
@[simp] def dropF (f : EvF) : StF := fun env => (f env).map fun _ => .nx env
@[simp] def ret0 : StF := fun _ => some (.rt .n)
@[simp] def nop : StF := fun env => some (.nx env)
@[simp] def brk : StF := fun env => some (.bk env)
@[simp] def cnt : StF := fun env => some (.ct env)
@[simp] def stk : StF := fun _ => none
@[simp] def keepL (N names : List Str) (i : Nat) : Bool := match N[i]? with
  | some x => names.contains x
  | none => false
@[simp] def freeF (N names : List Str) (f : StF) : StF := fun env => f (frC (keepL N names) 0 env)
@[simp] def runF (n : Nat) (b : StF) : List D → Option D := fun ds => (b (startC n ds)).bind outF
end PL
/-! PL t: loops and comprehensions on mapped lists; defs that the laws share. -/
namespace PL
open PySem PySem.Spec PyProof.Rows L2

/-! ### mapped lists -/
theorem compD_filter {α : Type} {t : Tg} {ft : List Cell → Option Bool} {f : EvF} {env : List Cell} (enc g : α → D) (p : α → Bool) : ∀ (l : List α), (∀ a ∈ l, ∃ env1, bindT t (enc a) env = some env1 ∧ ft env1 = some (p a) ∧ (p a = true → f env1 = some (g a))) →
    compD t ft f env (l.map enc) = some ((l.filter p).map g)
  | [], _ => rfl
  | a :: l, h => by
    obtain ⟨env1, h1, h2, h3⟩ := h a List.mem_cons_self
    have ih := compD_filter enc g p l fun b hb => h b (List.mem_cons_of_mem _ hb)
    rw [List.map_cons, compD, h1, Option.bind_some, h2, Option.bind_some, ih]
    cases hp : p a with
    | true => rw [if_pos rfl, h3 hp, List.filter_cons_of_pos hp]; rfl
    | false => rw [if_neg Bool.false_ne_true, List.filter_cons_of_neg (by rw [hp]; exact Bool.false_ne_true)]
theorem compD_map {α : Type} {t : Tg} {ft : List Cell → Option Bool} {f : EvF} {env : List Cell} (enc g : α → D) (l : List α) (h : ∀ a ∈ l, ∃ env1, bindT t (enc a) env = some env1 ∧ ft env1 = some true ∧ f env1 = some (g a)) :
    compD t ft f env (l.map enc) = some (l.map g) := by
  have := compD_filter (t := t) (ft := ft) (f := f) (env := env) enc g (fun _ => true) l fun a ha => by
    obtain ⟨env1, h1, h2, h3⟩ := h a ha
    exact ⟨env1, h1, h2, fun _ => h3⟩
  rwa [List.filter_eq_self.mpr fun _ _ => rfl] at this
theorem blsD_map {α : Type} (q : α → Bool) : ∀ l : List α, blsD (l.map fun a => .b (q a)) = some (l.map q)
  | [] => rfl
  | a :: l => by rw [List.map_cons, blsD, blsD_map q l]; rfl
theorem allD_map {α : Type} (q : α → Bool) (l : List α) : allD [.l (l.map fun a => .b (q a))] = some (.b (l.all q)) := by
  rw [allD, blsD_map q l]
  simp [List.all_map]
theorem anyD_map {α : Type} (q : α → Bool) (l : List α) : anyD [.l (l.map fun a => .b (q a))] = some (.b (l.any q)) := by
  rw [anyD, blsD_map q l]
  simp [List.any_map]
theorem intsD_map : ∀ l : List Int, intsD (l.map .i) = some l
  | [] => rfl
  | a :: l => by rw [List.map_cons, intsD, intsD_map l]; rfl
theorem zipD_map {α β : Type} (f : α → D) (g : β → D) : ∀ (l : List α) (m : List β), zipD (l.map f) (m.map g) = (List.zip l m).map fun p => .t [f p.1, g p.2]
  | [], _ => by simp [zipD]
  | _ :: _, [] => by simp [zipD]
  | a :: l, b :: m => by rw [List.map_cons, List.map_cons, zipD, zipD_map f g l m, List.zip_cons_cons, List.map_cons]
theorem enumD_map {α : Type} (f : α → D) : ∀ (l : List α) (n : Nat), enumD n (l.map f) = (l.zipIdx n).map fun p => .t [.i p.2, f p.1]
  | [], _ => rfl
  | a :: l, n => by rw [List.map_cons, enumD, enumD_map f l (n + 1), List.zipIdx_cons, List.map_cons]
theorem rngD_map (lo : Int) (n : Nat) : rngD lo n = (List.range n).map fun i => .i (lo + (i : Nat)) := rfl
/-- a loop, by what holds ahead of each turn -/
theorem forV_inv {t : Tg} {fb : StF} (P : Nat → List Cell → Prop) : ∀ (ds : List D) (i : Nat) (env : List Cell), P i env →
    (∀ j d env, ds[j]? = some d → P (i + j) env → ∃ env1 env2, bindT t d env = some env1 ∧ (fb env1 = some (.nx env2) ∨ fb env1 = some (.ct env2)) ∧ P (i + j + 1) env2) → ∃ env', forV t fb ds env = some (.nx env') ∧ P (i + ds.length) env'
  | [], i, env, h0, _ => ⟨env, rfl, h0⟩
  | d :: ds, i, env, h0, hs => by
    obtain ⟨env1, env2, h1, h2, h3⟩ := hs 0 d env rfl h0
    obtain ⟨env', h4, h5⟩ := forV_inv P ds (i + 1) env2 h3 fun j d' e q p => by
      have := hs (j + 1) d' e (by rw [List.getElem?_cons_succ]; exact q) (by rw [show i + (j + 1) = i + 1 + j by omega]; exact p)
      rw [show i + (j + 1) + 1 = i + 1 + j + 1 by omega] at this
      exact this
    refine ⟨env', ?_, by rw [List.length_cons, show i + (ds.length + 1) = i + 1 + ds.length by omega]; exact h5⟩
    rw [forV, h1, Option.bind_some]
    rcases h2 with h2 | h2 <;> (rw [h2, Option.bind_some]; exact h4)
/-- .. over a mapped list, the state a fold -/
theorem forV_fold {α β : Type} {t : Tg} {fb : StF} (enc : α → D) (P : β → List Cell → Prop) (stp : β → α → β) : ∀ (l : List α) (b : β) (env : List Cell), P b env →
    (∀ a b env, a ∈ l → P b env → ∃ env1 env2, bindT t (enc a) env = some env1 ∧ (fb env1 = some (.nx env2) ∨ fb env1 = some (.ct env2)) ∧ P (stp b a) env2) → ∃ env', forV t fb (l.map enc) env = some (.nx env') ∧ P (l.foldl stp b) env'
  | [], b, env, h0, _ => ⟨env, rfl, h0⟩
  | a :: l, b, env, h0, hs => by
    obtain ⟨env1, env2, h1, h2, h3⟩ := hs a b env List.mem_cons_self h0
    obtain ⟨env', h4, h5⟩ := forV_fold enc P stp l (stp b a) env2 h3 fun a' b' e m p => hs a' b' e (List.mem_cons_of_mem _ m) p
    refine ⟨env', ?_, h5⟩
    rw [List.map_cons, forV, h1, Option.bind_some]
    rcases h2 with h2 | h2 <;> (rw [h2, Option.bind_some]; exact h4)

/-! ### shared defs -/
/-- need(good, at); slots [good, at] -/
def S_need (c : Str → List D → Option D) : List D → Option D := runF 2 (
  (seqF (ifF (notT (asT (vB 0)))
    (seqF stk
    nop)
    nop)
  nop))

/-- is_seq(value); slots [value] -/
def S_is_seq (c : Str → List D → Option D) : List D → Option D := runF 1 (
  (seqF (retF (instV [.tuple, .list] (vB 0)))
  nop))

/-- is_long(value, low, high); slots [value, low, high] -/
def S_is_long (c : Str → List D → Option D) : List D → Option D := runF 3 (
  (seqF (retF (andV (callV (c "is_seq") (consL (vV 0) a0)) (chainV fLe fLe (vB 1) (callV lenD (consL (vB 0) a0)) (vB 2))))
  nop))

/-- is_int(value); slots [value] -/
def S_is_int (c : Str → List D → Option D) : List D → Option D := runF 1 (
  (seqF (retF (andV (instV [.int] (vB 0)) (notV (instV [.bool] (vB 0)))))
  nop))

/-- is_from(value, low, high); slots [value, low, high] -/
def S_is_from (c : Str → List D → Option D) : List D → Option D := runF 3 (
  (seqF (retF (andV (callV (c "is_int") (consL (vV 0) a0)) (chainV fLe fLe (vB 1) (vB 0) (vB 2))))
  nop))

/-- plain(value); slots [value, .0, part] -/
def S_plain (c : Str → List D → Option D) : List D → Option D := runF 3 (
  (seqF (ifF (asT (callV (c "is_seq") (consL (vV 0) a0)))
    (seqF (retF (callV tupleD (consL (lcV (itP (vB 0)) (.nm 2) tY (callV (c "plain") (consL (vV 2) a0)) [1, 2]) a0)))
    nop)
    nop)
  (seqF (retF (vV 0))
  nop)))

/-- _law_power(base, many); slots [base, many, result, k] -/
def S__law_power (c : Str → List D → Option D) : List D → Option D := runF 4 (
  (seqF (asgF (.nm 2) (kI 1))
  (seqF (forF (itR1 (vB 1)) (.nm 3)
    (seqF (asgF (.nm 2) (bind2 mulD (vB 2) (vB 0)))
    nop))
  (seqF (retF (vV 2))
  nop))))

/-- _law_cell(script, place); slots [script, place] -/
def S__law_cell (c : Str → List D → Option D) : List D → Option D := runF 2 (
  (seqF (ifF (asB (bind2 (cmpI fLt) (vB 1) (callV lenD (consL (vB 0) a0))))
    (seqF (retF (callV intD (consL (bind2 ixD (vB 0) (vB 1)) a0)))
    nop)
    nop)
  (seqF (retF (kI 0))
  nop)))

/-- _law_numbers(script, place, many); slots [script, place, many, cell, numbers, rest, k, twice] -/
def S__law_numbers (c : Str → List D → Option D) : List D → Option D := runF 8 (
  (seqF (asgF (.nm 3) (callV (c "_law_cell") (consL (vV 0) (consL (vV 1) a0))))
  (seqF (ownF 4 (lstV a0))
  (seqF (asgF (.nm 5) (vV 3))
  (seqF (forF (itR1 (vB 2)) (.nm 6)
    (seqF (ifF (asB (bind2 (cmpI fGe) (vB 3) (bind2 powD (kI 10) (kI 18))))
      (seqF (appF 4 (bind2 modD (callV intD (consL (vB 5) a0)) (bind2 powD (kI 10) (kI 9))))
      (seqF (asgF (.nm 5) (bind2 fdivD (vB 5) (bind2 powD (kI 10) (kI 9))))
      nop))
      (seqF (asgF (.nm 7) (bind2 modD (callV intD (consL (bind2 addD (bind2 addD (bind2 mulD (vB 3) (kI 48271)) (bind2 mulD (bind2 addD (vB 6) (kI 1)) (kI 69621))) (vB 1)) a0)) (kI 2147483647)))
      (seqF (appF 4 (bind2 modD (bind2 modD (callV intD (consL (bind2 addD (bind2 mulD (vB 7) (kI 16807)) (bind2 mulD (bind2 addD (vB 6) (kI 3)) (kI 40692))) a0)) (kI 2147483399)) (bind2 powD (kI 10) (kI 9))))
      nop)))
    nop))
  (seqF (retF (vV 4))
  nop))))))

/-- _law_same(one, other); slots [one, other, k] -/
def S__law_same (c : Str → List D → Option D) : List D → Option D := runF 3 (
  (seqF (ifF (orT (asT (instV [.tuple] (vB 1))) (asT (instV [.tuple] (vB 0))))
    (seqF (ifF (orT (notT (asT (instV [.tuple] (vB 0)))) (orT (notT (asT (instV [.tuple] (vB 1)))) (asB (bind2 neqD (callV lenD (consL (vB 0) a0)) (callV lenD (consL (vB 1) a0))))))
      (seqF (retF (kB false))
      nop)
      nop)
    (seqF (forF (itR1 (callV lenD (consL (vB 1) a0))) (.nm 2)
      (seqF (ifF (notT (asT (callV (c "_law_same") (consL (bind2 ixD (vB 0) (vB 2)) (consL (bind2 ixD (vB 1) (vB 2)) a0)))))
        (seqF (retF (kB false))
        nop)
        nop)
      nop))
    (seqF (retF (kB true))
    nop)))
    nop)
  (seqF (ifF (orT (asB (bind2 isD (vB 0) kN)) (asB (bind2 isD (vB 1) kN)))
    (seqF (retF (andV (bind2 isD (vB 0) kN) (bind2 isD (vB 1) kN)))
    nop)
    nop)
  (seqF (ifF (orT (asB (bind2 neqD (instV [.bool] (vB 0)) (instV [.bool] (vB 1)))) (asB (bind2 neqD (instV [.str] (vB 0)) (instV [.str] (vB 1)))))
    (seqF (retF (kB false))
    nop)
    nop)
  (seqF (retF (andV (instV [.int, .str] (vB 0)) (andV (instV [.int, .str] (vB 1)) (bind2 eqqD (vB 0) (vB 1)))))
  nop)))))

/-- _law_listed(value); slots [value, .0, part] -/
def S__law_listed (c : Str → List D → Option D) : List D → Option D := runF 3 (
  (seqF (ifF (asT (instV [.tuple] (vB 0)))
    (seqF (retF (lcV (itP (vB 0)) (.nm 2) tY (callV (c "_law_listed") (consL (vV 2) a0)) [1, 2]))
    nop)
    nop)
  (seqF (retF (vV 0))
  nop)))


section
variable {c : Str → List D → Option D}
theorem is_seq_t (xs : List D) : S_is_seq c [.t xs] = some (.b true) := by simp [S_is_seq]
theorem is_seq_l (xs : List D) : S_is_seq c [.l xs] = some (.b true) := by simp [S_is_seq]
theorem is_seq_n : S_is_seq c [.n] = some (.b false) := by simp [S_is_seq]
theorem is_seq_i (x : Int) : S_is_seq c [.i x] = some (.b false) := by simp [S_is_seq]
theorem is_seq_s (x : Str) : S_is_seq c [.s x] = some (.b false) := by simp [S_is_seq]
theorem is_seq_b (x : Bool) : S_is_seq c [.b x] = some (.b false) := by simp [S_is_seq]
theorem is_long_t {xs : List D} {lo hi : Int} (h : c "is_seq" [.t xs] = some (.b true)) : S_is_long c [.t xs, .i lo, .i hi] = some (.b (decide (lo ≤ xs.length) && decide ((xs.length : Int) ≤ hi))) := by
  simp [S_is_long, h]
  by_cases h1 : lo ≤ (xs.length : Int) <;> simp [h1]
theorem is_long_l {xs : List D} {lo hi : Int} (h : c "is_seq" [.l xs] = some (.b true)) : S_is_long c [.l xs, .i lo, .i hi] = some (.b (decide (lo ≤ xs.length) && decide ((xs.length : Int) ≤ hi))) := by
  simp [S_is_long, h]
  by_cases h1 : lo ≤ (xs.length : Int) <;> simp [h1]
theorem is_long_no {d : D} {lo hi : Int} (h : c "is_seq" [d] = some (.b false)) : S_is_long c [d, .i lo, .i hi] = some (.b false) := by simp [S_is_long, h]
theorem is_int_i (x : Int) : S_is_int c [.i x] = some (.b true) := by simp [S_is_int]
theorem is_int_b (x : Bool) : S_is_int c [.b x] = some (.b false) := by simp [S_is_int]
theorem is_int_n : S_is_int c [.n] = some (.b false) := by simp [S_is_int]
theorem is_int_s (x : Str) : S_is_int c [.s x] = some (.b false) := by simp [S_is_int]
theorem is_int_t (x : List D) : S_is_int c [.t x] = some (.b false) := by simp [S_is_int]
theorem is_int_l (x : List D) : S_is_int c [.l x] = some (.b false) := by simp [S_is_int]
theorem is_from_i {x lo hi : Int} (h : c "is_int" [.i x] = some (.b true)) : S_is_from c [.i x, .i lo, .i hi] = some (.b (decide (lo ≤ x) && decide (x ≤ hi))) := by
  simp [S_is_from, h]
  by_cases h1 : lo ≤ x <;> simp [h1]
theorem is_from_no {d : D} {lo hi : Int} (h : c "is_int" [d] = some (.b false)) : S_is_from c [d, .i lo, .i hi] = some (.b false) := by simp [S_is_from, h]
theorem need_t {d : D} : S_need c [.b true, d] = some .n := by simp [S_need]
theorem ixN_nat {n p : Nat} (h : p < n) : ixN n (p : Int) = some p := by
  unfold ixN
  rw [if_pos (Int.natCast_nonneg p), if_pos (by omega)]
  simp
theorem atI_nat {α : Type} {xs : List α} {p : Nat} (h : p < xs.length) : atI xs (p : Int) = some xs[p] := by
  unfold atI
  rw [ixN_nat h]
  simp [h]
theorem atI_map {α β : Type} (f : α → β) {xs : List α} {p : Nat} (h : p < xs.length) : atI (xs.map f) (p : Int) = some (f xs[p]) := by
  rw [atI_nat (by simpa using h)]
  simp
theorem law_cell_eq (s : List Int) (p : Nat) : S__law_cell c [.z (s.map .i), .i p] = some (.i (s.getD p 0)) := by
  by_cases h : p < s.length
  · simp [S__law_cell, h, atI_map D.i h]
  · have h' : s.length ≤ p := by omega
    simp [S__law_cell, h, h']
theorem smallI_of {x : Int} (h : -(2 ^ 64) < x ∧ x < 2 ^ 64) : smallI x = true := absLe_of (by omega)
theorem smI_nat {n : Nat} (h : n ≤ 4611686018427387903) : smI n = true := absLe_of (by simpa using h)
theorem law_power_eq {b : Int} {n : Nat} (hb : smallI b = true) (hn : smI n = true) : S__law_power c [.i b, .i n] = some (.i (b ^ n)) := by
  have hl := forV_inv (t := .nm 3) (fb := seqF (asgF (.nm 2) (bind2 mulD (vB 2) (vB 0))) nop) (fun j env => ∃ x, env = [.v (.i b), .v (.i n), .v (.i (b ^ j)), x]) (rngD 0 n) 0 [.v (.i b), .v (.i n), .v (.i 1), .no] ⟨.no, by simp⟩ (fun j d env hd hp => by
    obtain ⟨x, rfl⟩ := hp
    refine ⟨_, _, rfl, .inl ?_, .v d, rfl⟩
    have hm : (smallI (b ^ (0 + j)) || smallI b) = true := by rw [hb, Bool.or_true]
    have e : mulD (.i (b ^ (0 + j))) (.i b) = some (.i (b ^ (0 + j + 1))) := by
      rw [mulD, if_pos hm, Int.pow_succ]
    simp only [seqF, asgF, bind2, vB, getB, Cell.any, List.set, Option.bind_some, e, bindT, Option.map_some, nop])
  obtain ⟨env', h1, x, h2⟩ := hl
  rw [rngD_length, Nat.zero_add] at h2
  subst h2
  simp [S__law_power, hn, h1]
theorem pow18 : powD (.i 10) (.i 18) = some (.i 1000000000000000000) := by decide +kernel
theorem pow9 : powD (.i 10) (.i 9) = some (.i 1000000000) := by decide +kernel
theorem mul_r {x y : Int} (h : smallI y = true) : mulD (.i x) (.i y) = some (.i (x * y)) := by rw [mulD, if_pos (by rw [h, Bool.or_true])]
theorem mul_l {x y : Int} (h : smallI x = true) : mulD (.i x) (.i y) = some (.i (x * y)) := by rw [mulD, if_pos (by rw [h, Bool.true_or])]
def Small9 (xs : List Int) : Prop := ∀ x ∈ xs, 0 ≤ x ∧ x < 1000000000
def numsB : StF := (seqF (ifF (asB (bind2 (cmpI fGe) (vB 3) (bind2 powD (kI 10) (kI 18))))
      (seqF (appF 4 (bind2 modD (callV intD (consL (vB 5) a0)) (bind2 powD (kI 10) (kI 9))))
      (seqF (asgF (.nm 5) (bind2 fdivD (vB 5) (bind2 powD (kI 10) (kI 9))))
      nop))
      (seqF (asgF (.nm 7) (bind2 modD (callV intD (consL (bind2 addD (bind2 addD (bind2 mulD (vB 3) (kI 48271)) (bind2 mulD (bind2 addD (vB 6) (kI 1)) (kI 69621))) (vB 1)) a0)) (kI 2147483647)))
      (seqF (appF 4 (bind2 modD (bind2 modD (callV intD (consL (bind2 addD (bind2 mulD (vB 7) (kI 16807)) (bind2 mulD (bind2 addD (vB 6) (kI 3)) (kI 40692))) a0)) (kI 2147483399)) (bind2 powD (kI 10) (kI 9))))
      nop)))
    nop)
theorem numsB_step {z : D} {p m cell rest kk : Int} {xs : List Int} {tw : Cell} (hx : Small9 xs) (hl : xs.length < 1000) :
    ∃ y rest' tw', numsB [.v z, .v (.i p), .v (.i m), .v (.i cell), .o (.l (xs.map .i)), .v (.i rest), .v (.i kk), tw] = some (.nx [.v z, .v (.i p), .v (.i m), .v (.i cell), .o (.l ((xs ++ [y]).map .i)), .v (.i rest'), .v (.i kk), tw']) ∧ 0 ≤ y ∧ y < 1000000000 := by
  have hz : xs.length < SZ := by unfold SZ; omega
  by_cases h : (1000000000000000000 : Int) ≤ cell
  · refine ⟨rest % 1000000000, rest / 1000000000, tw, ?_, by omega, by omega⟩
    have hf : fdivD (.i rest) (.i 1000000000) = some (.i (rest / 1000000000)) := by rw [fdivD, if_pos ⟨by decide, by decide +kernel⟩]
    simp [-powD, -fdivD, numsB, pow18, pow9, h, hz, hf]
  · refine ⟨(((cell * 48271 + (kk + 1) * 69621 + p) % 2147483647 * 16807 + (kk + 3) * 40692) % 2147483399) % 1000000000, rest, .v (.i ((cell * 48271 + (kk + 1) * 69621 + p) % 2147483647)), ?_, by omega, by omega⟩
    simp [-powD, -mulD, numsB, pow18, pow9, h, hz, mul_r (y := 48271) (by decide +kernel), mul_r (y := 69621) (by decide +kernel), mul_r (y := 16807) (by decide +kernel), mul_r (y := 40692) (by decide +kernel)]
theorem law_numbers_ex {ns : List Int} {p : Int} {m : Nat} {cell : Int} (hm : m ≤ 100) (hc : c "_law_cell" [.z (ns.map .i), .i p] = some (.i cell)) :
    ∃ xs : List Int, S__law_numbers c [.z (ns.map .i), .i p, .i m] = some (.l (xs.map .i)) ∧ xs.length = m ∧ Small9 xs := by
  obtain ⟨env', h1, xs, rest, kk, tw, rfl, h3, h4⟩ := forV_inv (t := .nm 6) (fb := numsB) (fun j env => ∃ (xs : List Int) (rest : Int) (kk tw : Cell), env = [.v (.z (ns.map .i)), .v (.i p), .v (.i m), .v (.i cell), .o (.l (xs.map .i)), .v (.i rest), kk, tw] ∧ xs.length = j ∧ Small9 xs)
    (rngD 0 m) 0 [.v (.z (ns.map .i)), .v (.i p), .v (.i m), .v (.i cell), .o (.l []), .v (.i cell), .no, .no] ⟨[], cell, .no, .no, rfl, rfl, fun _ h => nomatch h⟩ (fun j d env hd hp => by
      obtain ⟨xs, rest, kk, tw, rfl, h3, h4⟩ := hp
      obtain ⟨e, hj⟩ := rngD_get hd
      subst e
      obtain ⟨y, rest', tw', h5, h6, h7⟩ := numsB_step (z := .z (ns.map .i)) (p := p) (m := m) (cell := cell) (rest := rest) (kk := 0 + (j : Int)) (tw := tw) h4 (by omega)
      refine ⟨_, _, rfl, .inl h5, xs ++ [y], rest', _, tw', rfl, by simp [h3], fun x hx => ?_⟩
      rcases List.mem_append.mp hx with h | h
      · exact h4 x h
      · rw [List.mem_singleton.mp h]; exact ⟨h6, h7⟩)
  refine ⟨xs, ?_, by rw [h3, rngD_length]; simp, h4⟩
  have hn : smI m = true := smI_nat (by omega)
  unfold numsB at h1
  simp [-powD, -mulD, -fdivD, -modD, -addD, S__law_numbers, hc, hn, h1]
end
end PL
/-! PL u: more of the shared defs. -/
namespace PL
open PySem PySem.Spec PyProof.Rows L2
theorem ok_i (n : Nat) (x : Int) : okD n (.i x) = true := by cases n <;> rfl
theorem ok_b (n : Nat) (x : Bool) : okD n (.b x) = true := by cases n <;> rfl
theorem ok_n (n : Nat) : okD n .n = true := by cases n <;> rfl
theorem ok_s {n : Nat} {x : Str} (h : PyData.canLay0 (.str x) = true) : okD n (.s x) = true := by cases n <;> exact h
theorem nb_i (n : Nat) (x : Int) : nbD n (.i x) = true := by cases n <;> rfl
theorem nb_n (n : Nat) : nbD n .n = true := by cases n <;> rfl
theorem nb_s {n : Nat} {x : Str} (h : PyData.canLay0 (.str x) = true) : nbD n (.s x) = true := by cases n <;> exact h
theorem eq_i (x y : Int) : eqD (.i x) (.i y) = decide (x = y) := by
  rw [eqD_nb 0 _ _ (nb_i 0 x) (nb_i 0 y)]
  simp
theorem eq_s {x y : Str} (hx : PyData.canLay0 (.str x) = true) (hy : PyData.canLay0 (.str y) = true) : eqD (.s x) (.s y) = decide (x = y) := by
  rw [eqD_nb 0 _ _ (nb_s (n := 0) hx) (nb_s (n := 0) hy)]
  simp
theorem eqq_i (x y : Int) : eqqD (.i x) (.i y) = some (.b (decide (x = y))) := by rw [eqqD, ok_i, ok_i, eq_i]; rfl
theorem neq_i (x y : Int) : neqD (.i x) (.i y) = some (.b (!decide (x = y))) := by rw [neqD, ok_i, ok_i, eq_i]; rfl
theorem eqq_s {x y : Str} (hx : PyData.canLay0 (.str x) = true) (hy : PyData.canLay0 (.str y) = true) : eqqD (.s x) (.s y) = some (.b (decide (x = y))) := by rw [eqqD, ok_s hx, ok_s hy, eq_s hx hy]; rfl
theorem eqq_b : ∀ x y : Bool, eqqD (.b x) (.b y) = some (.b (x == y))
  | true, true => by decide +kernel
  | true, false => by decide +kernel
  | false, true => by decide +kernel
  | false, false => by decide +kernel
theorem neq_b : ∀ x y : Bool, neqD (.b x) (.b y) = some (.b (x != y))
  | true, true => by decide +kernel
  | true, false => by decide +kernel
  | false, true => by decide +kernel
  | false, false => by decide +kernel
/-- without bools: == is equality -/
theorem eqq_nb {n : Nat} {x y : D} (hn : n ≤ 20) (hx : nbD n x = true) (hy : nbD n y = true) (ox : okD DP x = true) (oy : okD DP y = true) : eqqD x y = some (.b (decide (x = y))) := by rw [eqqD, ox, oy, eqD_nb n _ _ hx hy]; rfl
section
variable {c : Str → List D → Option D}
theorem law_same_i (x : Int) : S__law_same c [.i x, .i x] = some (.b true) := by
  simp [-eqqD, -neqD, S__law_same, eqq_i, neq_b, isND]
theorem law_same_b (x y : Bool) : S__law_same c [.b x, .b y] = some (.b (x == y)) := by
  simp [-eqqD, -neqD, S__law_same, eqq_b, neq_b, isND]
theorem law_same_n : S__law_same c [.n, .n] = some (.b true) := by
  simp [-eqqD, -neqD, S__law_same, isND]
theorem law_same_s {x : Str} (h : PyData.canLay0 (.str x) = true) : S__law_same c [.s x, .s x] = some (.b true) := by
  simp [-eqqD, -neqD, S__law_same, eqq_s h h, neq_b, isND]
end
end PL
namespace PL
open PySem PySem.Spec PyProof.Rows L2
section
variable {c : Str → List D → Option D}
theorem law_same_t {xs : List D} (hl : xs.length ≤ 1000) (h : ∀ x ∈ xs, c "_law_same" [x, x] = some (.b true)) : S__law_same c [.t xs, .t xs] = some (.b true) := by
  obtain ⟨env', h1, k, rfl⟩ := forV_inv (t := .nm 2) (fb := (seqF (ifF (notT (asT (callV (c "_law_same") (consL (bind2 ixD (vB 0) (vB 2)) (consL (bind2 ixD (vB 1) (vB 2)) a0)))))
        (seqF (retF (kB false))
        nop)
        nop)
      nop)) (fun j env => ∃ k, env = [.v (.t xs), .v (.t xs), k]) (rngD 0 xs.length) 0 [.v (.t xs), .v (.t xs), .no] ⟨.no, rfl⟩ (fun j d env hd hp => by
      obtain ⟨k, rfl⟩ := hp
      obtain ⟨e, hj⟩ := rngD_get hd
      subst e
      have hx := h xs[j] (List.getElem_mem hj)
      refine ⟨_, [.v (.t xs), .v (.t xs), .v (.i (0 + (j : Int)))], rfl, .inl ?_, _, rfl⟩
      simp [atI_nat hj, hx])
  have hn : smI xs.length = true := smI_nat (by omega)
  simp [-eqqD, -neqD, S__law_same, isND, hn, h1, neq_i]
theorem law_listed_t {α : Type} (enc dec : α → D) {l : List α} (hl : l.length ≤ SZ) (h : ∀ a ∈ l, c "_law_listed" [enc a] = some (dec a)) : S__law_listed c [.t (l.map enc)] = some (.l (l.map dec)) := by
  have e := compD_map (t := .nm 2) (ft := tY) (f := callV (c "_law_listed") (consL (vV 2) a0)) (env := [.v (.t (l.map enc)), .no, .no]) enc dec l fun a ha => ⟨_, rfl, rfl, by simp [h a ha]⟩
  simp [S__law_listed, e, hl]
theorem law_listed_i (x : Int) : S__law_listed c [.i x] = some (.i x) := by simp [S__law_listed]
theorem law_listed_s (x : Str) : S__law_listed c [.s x] = some (.s x) := by simp [S__law_listed]
theorem plain_t {α : Type} (enc dec : α → D) {l : List α} (hl : l.length ≤ SZ) (hs : c "is_seq" [.t (l.map enc)] = some (.b true)) (h : ∀ a ∈ l, c "plain" [enc a] = some (dec a)) : S_plain c [.t (l.map enc)] = some (.t (l.map dec)) := by
  have e := compD_map (t := .nm 2) (ft := tY) (f := callV (c "plain") (consL (vV 2) a0)) (env := [.v (.t (l.map enc)), .no, .no]) enc dec l fun a ha => ⟨_, rfl, rfl, by simp [h a ha]⟩
  simp [S_plain, e, hl, hs]
theorem plain_l {α : Type} (enc dec : α → D) {l : List α} (hl : l.length ≤ SZ) (hs : c "is_seq" [.l (l.map enc)] = some (.b true)) (h : ∀ a ∈ l, c "plain" [enc a] = some (dec a)) : S_plain c [.l (l.map enc)] = some (.t (l.map dec)) := by
  have e := compD_map (t := .nm 2) (ft := tY) (f := callV (c "plain") (consL (vV 2) a0)) (env := [.v (.l (l.map enc)), .no, .no]) enc dec l fun a ha => ⟨_, rfl, rfl, by simp [h a ha]⟩
  simp [S_plain, e, hl, hs]
theorem plain_no {d : D} (hs : c "is_seq" [d] = some (.b false)) : S_plain c [d] = some d := by simp [S_plain, hs]
end
/-- a loop that appends -/
theorem forV_app {α γ : Type} {t : Tg} {fb : StF} (enc : α → D) (g : α → List γ) (P : List γ → List Cell → Prop) : ∀ (l : List α) (f0 : List γ) (env : List Cell), P f0 env →
    (∀ a f env, a ∈ l → f.length + (g a).length ≤ f0.length + (l.flatMap g).length → P f env → ∃ env1 env2, bindT t (enc a) env = some env1 ∧ (fb env1 = some (.nx env2) ∨ fb env1 = some (.ct env2)) ∧ P (f ++ g a) env2) →
    ∃ env', forV t fb (l.map enc) env = some (.nx env') ∧ P (f0 ++ l.flatMap g) env'
  | [], f0, env, h0, _ => ⟨env, rfl, by simpa using h0⟩
  | a :: l, f0, env, h0, hs => by
    have e : f0.length + ((a :: l).flatMap g).length = (f0 ++ g a).length + (l.flatMap g).length := by rw [List.flatMap_cons, List.length_append, List.length_append]; omega
    obtain ⟨env1, env2, h1, h2, h3⟩ := hs a f0 env List.mem_cons_self (by rw [List.flatMap_cons, List.length_append]; omega) h0
    obtain ⟨env', h4, h5⟩ := forV_app enc g P l (f0 ++ g a) env2 h3 fun a' f' e' m hl p => hs a' f' e' (List.mem_cons_of_mem _ m) (by rw [e]; exact hl) p
    refine ⟨env', ?_, by rw [List.flatMap_cons, ← List.append_assoc]; exact h5⟩
    rw [List.map_cons, forV, h1, Option.bind_some]
    rcases h2 with h2 | h2 <;> (rw [h2, Option.bind_some]; exact h4)
/-! ### slices -/
theorem cut_to {xs : List D} {k : Nat} (h : k ≤ xs.length) : cutD xs none (some (k : Int)) = xs.take k := by
  have e1 : HT.sIx xs.length 0 none = 0 := rfl
  have e2 : HT.sIx xs.length xs.length (some (k : Int)) = k := by
    rw [HT.sIx_nat]
    omega
  unfold cutD
  rw [e1, e2]
  simp
theorem cut_from {xs : List D} {k : Nat} (h : k ≤ xs.length) : cutD xs (some (k : Int)) none = xs.drop k := by
  have e1 : HT.sIx xs.length 0 (some (k : Int)) = k := by
    rw [HT.sIx_nat]
    omega
  have e2 : HT.sIx xs.length xs.length none = xs.length := rfl
  unfold cutD
  rw [e1, e2, List.take_of_length_le]
  rw [List.length_drop]; exact Nat.le_refl _
@[simp] def Cell.fr : Cell → Cell
  | .o d => .v d
  | .v d => .v d
  | .no => .no
/-- all given up, whatever the cell is -/
@[simp] theorem frC_any (n : Nat) (x : Cell) (r : List Cell) : frC (fun _ => false) n (x :: r) = x.fr :: frC (fun _ => false) (n + 1) r := by cases x <;> simp
end PL
namespace K42
open PySem PySem.Spec PyProof.Rows L2 PL
abbrev thP : Program := PySem.Challenge.pw_surelysound_k42_whole_lessons_of_fewest
def fn : Dfs := defsOf thP
def free : List Str := ["isinstance", "tuple", "list", "len", "int", "bool", "all", "any", "zip", "min", "sorted", "set", "enumerate", "range", "str"]
end K42
namespace K42
open PySem PySem.Spec PyProof.Rows L2 PL
/-- is_marks(value, kinds); slots [value, kinds, .0, mark] -/
def S_is_marks (c : Str → List D → Option D) : List D → Option D := runF 4 (
  (seqF (retF (andV (callV (c "is_long") (consL (vV 0) (consL (vV 1) (consL (vV 1) a0)))) (callV allD (consL (lcV (itP (vB 0)) (.nm 3) tY (callV (c "is_from") (consL (vV 3) (consL (kI 0) (consL (kI 9) a0)))) [2, 3]) a0))))
  nop))

/-- is_any_marks(value); slots [value] -/
def S_is_any_marks (c : Str → List D → Option D) : List D → Option D := runF 1 (
  (seqF (retF (andV (callV (c "is_long") (consL (vV 0) (consL (kI 1) (consL (kI 4) a0)))) (callV (c "is_marks") (consL (vV 0) (consL (callV lenD (consL (vB 0) a0)) a0)))))
  nop))

/-- is_row(value, kinds); slots [value, kinds] -/
def S_is_row (c : Str → List D → Option D) : List D → Option D := runF 2 (
  (seqF (retF (andV (callV (c "is_long") (consL (vV 0) (consL (kI 2) (consL (kI 2) a0)))) (andV (callV (c "is_marks") (consL (bind2 ixD (vB 0) (kI 0)) (consL (vV 1) a0))) (bind2 inD (bind2 ixD (vB 0) (kI 1)) (tupV (consL (kS "fit") (consL (kS "unfit") a0)))))))
  nop))

/-- is_grades(value); slots [value, .0, row] -/
def S_is_grades (c : Str → List D → Option D) : List D → Option D := runF 3 (
  (seqF (ifF (orT (notT (asT (callV (c "is_long") (consL (vV 0) (consL (kI 2) (consL (kI 2) a0)))))) (orT (notT (asT (callV (c "is_from") (consL (bind2 ixD (vB 0) (kI 0)) (consL (kI 1) (consL (kI 4) a0)))))) (notT (asT (callV (c "is_long") (consL (bind2 ixD (vB 0) (kI 1)) (consL (kI 0) (consL (kI 20) a0))))))))
    (seqF (retF (kB false))
    nop)
    nop)
  (seqF (retF (callV allD (consL (lcV (itP (bind2 ixD (vB 0) (kI 1))) (.nm 2) tY (callV (c "is_row") (consL (vV 2) (consL (bind2 ixD (vB 0) (kI 0)) a0))) [1, 2]) a0)))
  nop)))

/-- need_grades(value); slots [value] -/
def S_need_grades (c : Str → List D → Option D) : List D → Option D := runF 1 (
  (seqF (dropF (callV (c "need") (consL (callV (c "is_grades") (consL (vV 0) a0)) (consL (kI 1) a0))))
  (seqF (retF (callV (c "plain") (consL (vV 0) a0)))
  nop)))

/-- suits(rule, beast); slots [rule, beast, .0, number, mark] -/
def S_suits (c : Str → List D → Option D) : List D → Option D := runF 5 (
  (seqF (retF (callV allD (consL (lcV (itZ (vB 0) (vB 1)) (.tp [(.nm 3), (.nm 4)]) tY (bind2 (cmpI fGe) (vB 4) (vB 3)) [2, 3, 4]) a0)))
  nop))

/-- agrees(grades, rule); slots [grades, rule, .0, beast, word] -/
def S_agrees (c : Str → List D → Option D) : List D → Option D := runF 5 (
  (seqF (retF (callV allD (consL (lcV (itP (bind2 ixD (vB 0) (kI 1))) (.tp [(.nm 3), (.nm 4)]) tY (bind2 eqqD (callV (c "suits") (consL (vV 1) (consL (vV 3) a0))) (bind2 eqqD (vB 4) (kS "fit"))) [2, 3, 4]) a0)))
  nop))

/-- least_marks(grades); slots [grades, kinds, rows, found, beast, word, .0, number, mark] -/
def S_least_marks (c : Str → List D → Option D) : List D → Option D := runF 9 (
  (seqF (asgF (.tp [(.nm 1), (.nm 2)]) (vV 0))
  (seqF (asgF (.nm 3) (bind2 mulD (lstV (consL (kI 9) a0)) (vB 1)))
  (seqF (forF (itP (vV 2)) (.tp [(.nm 4), (.nm 5)])
    (seqF (ifF (asB (bind2 eqqD (vB 5) (kS "fit")))
      (seqF (asgF (.nm 3) (lcV (itZ (vB 3) (vB 4)) (.tp [(.nm 7), (.nm 8)]) tY (callV minD (consL (vB 7) (consL (vB 8) a0))) [6, 7, 8]))
      nop)
      nop)
    nop))
  (seqF (retF (callV tupleD (consL (vB 3) a0)))
  nop)))))

/-- highest_rule(grades); slots [grades, rule] -/
def S_highest_rule (c : Str → List D → Option D) : List D → Option D := runF 2 (
  (seqF (asgF (.nm 1) (callV (c "least_marks") (consL (vV 0) a0)))
  (seqF (retF (iteV (asT (callV (c "agrees") (consL (vV 0) (consL (vV 1) a0)))) (vV 1) kN))
  nop)))

/-- shut_out(rules, beast, top); slots [rules, beast, top, found, rule, kind, mark] -/
def S_shut_out (c : Str → List D → Option D) : List D → Option D := runF 7 (
  (seqF (ownF 3 (lstV a0))
  (seqF (forF (itP (vV 0)) (.nm 4)
    (seqF (ifF (notT (asT (callV (c "suits") (consL (vV 4) (consL (vV 1) a0)))))
      (seqF (appF 3 (vV 4))
      (seqF cnt
      nop))
      nop)
    (seqF (forF (itE (vV 1)) (.tp [(.nm 5), (.nm 6)])
      (seqF (ifF (asB (bind2 (cmpI fLt) (vB 6) (bind2 ixD (vB 2) (vB 5))))
        (seqF (appF 3 (bind2 addD (bind2 addD (sliceV (vB 4) p0 (partV (vV 5))) (tupV (consL (bind2 addD (vB 6) (kI 1)) a0))) (sliceV (vB 4) (partV (bind2 addD (vB 5) (kI 1))) p0)))
        nop)
        nop)
      nop))
    nop)))
  (seqF (retF (vV 3))
  nop))))

/-- least_of(rules); slots [rules, found, rule, .0, other] -/
def S_least_of (c : Str → List D → Option D) : List D → Option D := runF 5 (
  (seqF (ownF 1 (lstV a0))
  (seqF (forF (itP (srtV (vB 0))) (.nm 2)
    (seqF (ifF (notT (asT (callV anyD (consL (lcV (itP (vB 1)) (.nm 4) tY (callV (c "suits") (consL (vV 4) (consL (vV 2) a0))) [3, 4]) a0))))
      (seqF (appF 1 (vV 2))
      nop)
      nop)
    nop))
  (seqF (retF (vV 1))
  nop))))

/-- lowest_rules(grades); slots [grades, kinds, rows, top, rules, beast, word] -/
def S_lowest_rules (c : Str → List D → Option D) : List D → Option D := runF 7 (
  (seqF (asgF (.tp [(.nm 1), (.nm 2)]) (vV 0))
  (seqF (asgF (.nm 3) (callV (c "least_marks") (consL (vV 0) a0)))
  (seqF (asgF (.nm 4) (lstV (consL (bind2 mulD (tupV (consL (kI 0) a0)) (vB 1)) a0)))
  (seqF (forF (itP (vV 2)) (.tp [(.nm 5), (.nm 6)])
    (seqF (ifF (asB (bind2 eqqD (vB 6) (kS "unfit")))
      (seqF (asgF (.nm 4) (callV (c "least_of") (consL (callV (c "shut_out") (consL (vV 4) (consL (vV 5) (consL (vV 3) a0)))) a0)))
      nop)
      nop)
    nop))
  (seqF (retF (callV tupleD (consL (vB 4) a0)))
  nop))))))

/-- first_letting(rules, beast); slots [rules, beast, rule] -/
def S_first_letting (c : Str → List D → Option D) : List D → Option D := runF 3 (
  (seqF (forF (itP (vV 0)) (.nm 2)
    (seqF (ifF (asT (callV (c "suits") (consL (vV 2) (consL (vV 1) a0))))
      (seqF (retF (vV 2))
      nop)
      nop)
    nop))
  (seqF (retF kN)
  nop)))

/-- word_of(grades, beast); slots [grades, beast, top] -/
def S_word_of (c : Str → List D → Option D) : List D → Option D := runF 3 (
  (seqF (asgF (.nm 2) (callV (c "highest_rule") (consL (vV 0) a0)))
  (seqF (ifF (asB (bind2 isD (vB 2) kN))
    (seqF (retF kN)
    nop)
    nop)
  (seqF (ifF (asT (callV (c "suits") (consL (vV 2) (consL (vV 1) a0))))
    (seqF (retF (kS "fit"))
    nop)
    nop)
  (seqF (retF (iteV (asB (bind2 isD (callV (c "first_letting") (consL (callV (c "lowest_rules") (consL (vV 0) a0)) (consL (vV 1) a0))) kN)) (kS "unfit") (kS "open")))
  nop)))))

/-- told(grades, beast); slots [grades, beast] -/
def S_told (c : Str → List D → Option D) : List D → Option D := runF 2 (
  (seqF (asgF (.nm 0) (callV (c "need_grades") (consL (vV 0) a0)))
  (seqF (dropF (callV (c "need") (consL (callV (c "is_marks") (consL (vV 1) (consL (bind2 ixD (vB 0) (kI 0)) a0))) (consL (kI 2) a0))))
  (seqF (retF (callV (c "word_of") (consL (vV 0) (consL (vV 1) a0))))
  nop))))

/-- teaches(grades, rule); slots [grades, rule] -/
def S_teaches (c : Str → List D → Option D) : List D → Option D := runF 2 (
  (seqF (asgF (.nm 0) (callV (c "need_grades") (consL (vV 0) a0)))
  (seqF (dropF (callV (c "need") (consL (callV (c "is_marks") (consL (vV 1) (consL (bind2 ixD (vB 0) (kI 0)) a0))) (consL (kI 2) a0))))
  (seqF (asgF (.nm 1) (callV (c "plain") (consL (vV 1) a0)))
  (seqF (retF (andV (bind2 eqqD (callV (c "highest_rule") (consL (vV 0) a0)) (vB 1)) (bind2 eqqD (callV (c "lowest_rules") (consL (vV 0) a0)) (tupV (consL (vV 1) a0)))))
  nop)))))

/-- lesson(rule); slots [rule, rows, number, kind, beast, .0] -/
def S_lesson (c : Str → List D → Option D) : List D → Option D := runF 6 (
  (seqF (dropF (callV (c "need") (consL (callV (c "is_any_marks") (consL (vV 0) a0)) (consL (kI 1) a0))))
  (seqF (asgF (.nm 0) (callV (c "plain") (consL (vV 0) a0)))
  (seqF (ownF 1 (lstV a0))
  (seqF (ifF (asT (callV anyD (consL (lcV (itP (vB 0)) (.nm 2) tY (bind2 (cmpI fLt) (vB 2) (kI 9)) [5, 2]) a0)))
    (seqF (appF 1 (tupV (consL (vV 0) (consL (kS "fit") a0))))
    nop)
    nop)
  (seqF (forF (itE (vV 0)) (.tp [(.nm 3), (.nm 2)])
    (seqF (ifF (asB (bind2 (cmpI fGt) (vB 2) (kI 0)))
      (seqF (ownF 4 (bind2 mulLD (lstV (consL (kI 9) a0)) (callV lenD (consL (vB 0) a0))))
      (seqF (setF 4 (vV 3) (bind2 subD (vB 2) (kI 1)))
      (seqF (appF 1 (tupV (consL (callV tupleD (consL (vB 4) a0)) (consL (kS "unfit") a0))))
      nop)))
      nop)
    nop))
  (seqF (retF (tupV (consL (callV lenD (consL (vB 0) a0)) (consL (callV tupleD (consL (vB 1) a0)) a0))))
  nop)))))))

/-- less_row(grades, row); slots [grades, row, kinds, rows] -/
def S_less_row (c : Str → List D → Option D) : List D → Option D := runF 4 (
  (seqF (asgF (.tp [(.nm 2), (.nm 3)]) (vV 0))
  (seqF (retF (tupV (consL (vV 2) (consL (bind2 addD (sliceV (vB 3) p0 (partV (vV 1))) (sliceV (vB 3) (partV (bind2 addD (vB 1) (kI 1))) p0)) a0))))
  nop)))

/-- without_row(grades, row); slots [grades, row] -/
def S_without_row (c : Str → List D → Option D) : List D → Option D := runF 2 (
  (seqF (asgF (.nm 0) (callV (c "need_grades") (consL (vV 0) a0)))
  (seqF (dropF (callV (c "need") (consL (callV (c "is_from") (consL (vV 1) (consL (kI 0) (consL (bind2 subD (callV lenD (consL (bind2 ixD (vB 0) (kI 1)) a0)) (kI 1)) a0)))) (consL (kI 2) a0))))
  (seqF (retF (callV (c "less_row") (consL (vV 0) (consL (vV 1) a0))))
  nop))))

/-- bounds(grades); slots [grades] -/
def S_bounds (c : Str → List D → Option D) : List D → Option D := runF 1 (
  (seqF (retF (tupV (consL (callV (c "highest_rule") (consL (vV 0) a0)) (consL (callV (c "lowest_rules") (consL (vV 0) a0)) a0))))
  nop))

/-- spare(grades); slots [grades, here, .0, row] -/
def S_spare (c : Str → List D → Option D) : List D → Option D := runF 4 (
  (seqF (asgF (.nm 0) (callV (c "need_grades") (consL (vV 0) a0)))
  (seqF (asgF (.nm 1) (callV (c "bounds") (consL (vV 0) a0)))
  (seqF (retF (callV tupleD (consL (lcV (itR1 (callV lenD (consL (bind2 ixD (vB 0) (kI 1)) a0))) (.nm 3) (asB (bind2 eqqD (callV (c "bounds") (consL (callV (c "less_row") (consL (vV 0) (consL (vV 3) a0))) a0)) (vB 1))) (vV 3) [2, 3]) a0)))
  nop))))

/-- _law_rows(kinds); slots [kinds, rows, k, more, row, .0, mark] -/
def S__law_rows (c : Str → List D → Option D) : List D → Option D := runF 7 (
  (seqF (asgF (.nm 1) (lstV (consL (tupV a0) a0)))
  (seqF (forF (itR1 (vB 0)) (.nm 2)
    (seqF (asgF (.nm 3) (lstV a0))
    (seqF (forF (itP (vV 1)) (.nm 4)
      (seqF (asgF (.nm 3) (bind2 addD (vB 3) (lcV (itR1 (kI 10)) (.nm 6) tY (bind2 addD (vB 4) (tupV (consL (vV 6) a0))) [5, 6])))
      nop))
    (seqF (asgF (.nm 1) (vV 3))
    nop))))
  (seqF (retF (vV 1))
  nop))))

/-- _law_fit(rule, beast); slots [rule, beast, .0, k] -/
def S__law_fit (c : Str → List D → Option D) : List D → Option D := runF 4 (
  (seqF (retF (bind2 eqqD (lcV (itR1 (callV lenD (consL (vB 0) a0))) (.nm 3) (asB (bind2 (cmpI fLt) (bind2 ixD (vB 1) (vB 3)) (bind2 ixD (vB 0) (vB 3)))) (kI 1) [2, 3]) (lstV a0)))
  nop))

/-- _law_grades(numbers); slots [numbers, kinds, k, rule, rows, number, beast, word, .0, j] -/
def S__law_grades (c : Str → List D → Option D) : List D → Option D := runF 10 (
  (seqF (asgF (.nm 1) (bind2 addD (kI 1) (bind2 modD (callV intD (consL (bind2 ixD (vB 0) (kI 0)) a0)) (kI 2))))
  (seqF (asgF (.nm 3) (callV tupleD (consL (lcV (itR1 (vB 1)) (.nm 2) tY (bind2 modD (callV intD (consL (bind2 fdivD (bind2 ixD (vB 0) (kI 0)) (bind2 mulD (kI 10) (callV (c "_law_power") (consL (kI 10) (consL (vV 2) a0))))) a0)) (kI 10)) [8, 2]) a0)))
  (seqF (ownF 4 (lstV a0))
  (seqF (forF (itR1 (bind2 modD (callV intD (consL (bind2 ixD (vB 0) (kI 1)) a0)) (kI 7))) (.nm 2)
    (seqF (asgF (.nm 5) (bind2 ixD (vB 0) (bind2 addD (kI 2) (vB 2))))
    (seqF (asgF (.nm 6) (callV tupleD (consL (lcV (itR1 (vB 1)) (.nm 9) tY (bind2 modD (callV intD (consL (bind2 fdivD (vB 5) (callV (c "_law_power") (consL (kI 10) (consL (vV 9) a0)))) a0)) (kI 10)) [8, 9]) a0)))
    (seqF (asgF (.nm 7) (kS "unfit"))
    (seqF (ifF (asT (callV (c "_law_fit") (consL (vV 3) (consL (vV 6) a0))))
      (seqF (asgF (.nm 7) (kS "fit"))
      nop)
      nop)
    (seqF (ifF (asB (bind2 eqqD (bind2 modD (callV intD (consL (bind2 fdivD (vB 5) (kI 100)) a0)) (kI 12)) (kI 0)))
      (seqF (asgF (.nm 7) (bind2 ixD (lstV (consL (kS "fit") (consL (kS "unfit") a0))) (bind2 modD (callV intD (consL (bind2 fdivD (vB 5) (kI 1200)) a0)) (kI 2))))
      nop)
      nop)
    (seqF (appF 4 (tupV (consL (vV 6) (consL (vV 7) a0))))
    nop)))))))
  (seqF (retF (tupV (consL (vV 1) (consL (callV tupleD (consL (vB 4) a0)) a0))))
  nop))))))

/-- _law_going(grades); slots [grades, .0, rule, beast, word] -/
def S__law_going (c : Str → List D → Option D) : List D → Option D := runF 5 (
  (seqF (retF (lcV (itP (callV (c "_law_rows") (consL (bind2 ixD (vB 0) (kI 0)) a0))) (.nm 2) (asB (bind2 eqqD (lcV (itP (bind2 ixD (vB 0) (kI 1))) (.tp [(.nm 3), (.nm 4)]) (asB (bind2 neqD (callV (c "_law_fit") (consL (vV 2) (consL (vV 3) a0))) (bind2 eqqD (vB 4) (kS "fit")))) (kI 1) [1, 3, 4]) (lstV a0))) (vV 2) [1, 2]))
  nop))

/-- _law_lesson(rule); slots [rule, rows, k, .0, mark] -/
def S__law_lesson (c : Str → List D → Option D) : List D → Option D := runF 5 (
  (seqF (ownF 1 (lstV a0))
  (seqF (ifF (asB (bind2 neqD (lcV (itP (vB 0)) (.nm 4) (asB (bind2 (cmpI fLt) (vB 4) (kI 9))) (vV 4) [3, 4]) (lstV a0)))
    (seqF (appF 1 (tupV (consL (vV 0) (consL (kS "fit") a0))))
    nop)
    nop)
  (seqF (forF (itR1 (callV lenD (consL (vB 0) a0))) (.nm 2)
    (seqF (ifF (asB (bind2 (cmpI fGt) (bind2 ixD (vB 0) (vB 2)) (kI 0)))
      (seqF (appF 1 (tupV (consL (bind2 addD (bind2 addD (bind2 mulD (tupV (consL (kI 9) a0)) (vB 2)) (tupV (consL (bind2 subD (bind2 ixD (vB 0) (vB 2)) (kI 1)) a0))) (bind2 mulD (tupV (consL (kI 9) a0)) (bind2 subD (bind2 subD (callV lenD (consL (vB 0) a0)) (vB 2)) (kI 1)))) (consL (kS "unfit") a0))))
      nop)
      nop)
    nop))
  (seqF (retF (tupV (consL (callV lenD (consL (vB 0) a0)) (consL (callV tupleD (consL (vB 1) a0)) a0))))
  nop)))))

/-- law(script); slots [script, grades, kinds, rows, rules, number, k, rule, due, less, even, beast, word, more, other, .0] -/
def S_law (c : Str → List D → Option D) : List D → Option D := runF 16 (
  (seqF (asgF (.nm 1) (callV (c "_law_grades") (consL (callV (c "_law_numbers") (consL (vV 0) (consL (kI 0) (consL (kI 8) a0)))) a0)))
  (seqF (asgF (.tp [(.nm 2), (.nm 3)]) (vV 1))
  (seqF (asgF (.nm 4) (callV (c "_law_going") (consL (vV 1) a0)))
  (seqF (asgF (.nm 5) (bind2 modD (callV intD (consL (callV (c "_law_cell") (consL (vV 0) (consL (kI 1) a0))) a0)) (kI 10000)))
  (seqF (forF (itP (lstV (consL (callV tupleD (consL (lcV (itR1 (vB 2)) (.nm 6) tY (bind2 modD (callV intD (consL (bind2 fdivD (vB 5) (callV (c "_law_power") (consL (kI 10) (consL (vV 6) a0)))) a0)) (kI 10)) [15, 6]) a0)) (consL (bind2 mulD (tupV (consL (kI 9) a0)) (vB 2)) (consL (bind2 mulD (tupV (consL (kI 0) a0)) (vB 2)) (consL (bind2 addD (tupV (consL (kI 9) a0)) (bind2 mulD (tupV (consL (kI 3) a0)) (bind2 subD (vB 2) (kI 1)))) a0)))))) (.nm 7)
    (seqF (asgF (.nm 8) (callV (c "_law_lesson") (consL (vV 7) a0)))
    (seqF (ifF (orT (notT (asT (callV (c "_law_same") (consL (callV (c "lesson") (consL (vV 7) a0)) (consL (vV 8) a0))))) (notT (asT (callV (c "_law_same") (consL (callV (c "lesson") (consL (callV listD (consL (vB 7) a0)) a0)) (consL (vV 8) a0))))))
      (seqF (retF (kB false))
      nop)
      nop)
    (seqF (ifF (orT (asB (bind2 isntD (callV (c "teaches") (consL (vV 8) (consL (vV 7) a0))) (kB true))) (asB (bind2 neqD (callV (c "_law_going") (consL (vV 8) a0)) (lstV (consL (vV 7) a0)))))
      (seqF (retF (kB false))
      nop)
      nop)
    (seqF (forF (itR1 (callV lenD (consL (bind2 ixD (vB 8) (kI 1)) a0))) (.nm 6)
      (seqF (asgF (.nm 9) (tupV (consL (vV 2) (consL (bind2 addD (sliceV (bind2 ixD (vB 8) (kI 1)) p0 (partV (vV 6))) (sliceV (bind2 ixD (vB 8) (kI 1)) (partV (bind2 addD (vB 6) (kI 1))) p0)) a0))))
      (seqF (ifF (orT (asB (bind2 isntD (callV (c "teaches") (consL (vV 9) (consL (vV 7) a0))) (kB false))) (notT (asT (callV (c "_law_same") (consL (callV (c "without_row") (consL (vV 8) (consL (vV 6) a0))) (consL (vV 9) a0))))))
        (seqF (retF (kB false))
        nop)
        nop)
      nop)))
    (seqF (ifF (orT (notT (asT (callV (c "_law_same") (consL (callV (c "teaches") (consL (vV 1) (consL (vV 7) a0))) (consL (bind2 eqqD (vB 4) (lstV (consL (vV 7) a0))) a0))))) (andT (asB (bind2 eqqD (vB 4) (lstV (consL (vV 7) a0)))) (asB (bind2 (cmpI fLt) (callV lenD (consL (vB 3) a0)) (callV lenD (consL (bind2 ixD (vB 8) (kI 1)) a0))))))
      (seqF (retF (kB false))
      nop)
      nop)
    nop))))))
  (seqF (ownF 10 (lstV a0))
  (seqF (forF (itR1 (callV lenD (consL (vB 3) a0))) (.nm 6)
    (seqF (asgF (.nm 9) (tupV (consL (vV 2) (consL (bind2 addD (sliceV (vB 3) p0 (partV (vV 6))) (sliceV (vB 3) (partV (bind2 addD (vB 6) (kI 1))) p0)) a0))))
    (seqF (ifF (notT (asT (callV (c "_law_same") (consL (callV (c "without_row") (consL (callV (c "_law_listed") (consL (vV 1) a0)) (consL (vV 6) a0))) (consL (vV 9) a0)))))
      (seqF (retF (kB false))
      nop)
      nop)
    (seqF (ifF (asB (bind2 eqqD (callV (c "_law_going") (consL (vV 9) a0)) (vB 4)))
      (seqF (appF 10 (vV 6))
      nop)
      nop)
    nop))))
  (seqF (freeF ["script", "grades", "kinds", "rows", "rules", "number", "k", "rule", "due", "less", "even", "beast", "word", "more", "other", ".0"] [] (ifF (notT (asT (callV (c "_law_same") (consL (callV (c "spare") (consL (vV 1) a0)) (consL (callV tupleD (consL (vB 10) a0)) a0)))))
    (seqF (retF (kB false))
    nop)
    nop))
  (seqF (asgF (.nm 11) (callV tupleD (consL (lcV (itR1 (vB 2)) (.nm 6) tY (bind2 modD (callV intD (consL (bind2 fdivD (vB 5) (callV (c "_law_power") (consL (kI 10) (consL (vV 6) a0)))) a0)) (kI 10)) [15, 6]) a0)))
  (seqF (forF (itP (lstV (consL (kS "fit") (consL (kS "unfit") a0)))) (.nm 12)
    (seqF (asgF (.nm 13) (tupV (consL (vV 2) (consL (bind2 addD (vB 3) (tupV (consL (tupV (consL (vV 11) (consL (vV 12) a0))) a0))) a0))))
    (seqF (forF (itP (lstV (consL (vV 11) (consL (bind2 mulD (tupV (consL (kI 5) a0)) (vB 2)) (consL (bind2 mulD (tupV (consL (kI 9) a0)) (vB 2)) a0))))) (.nm 14)
      (seqF (ifF (andT (asB (bind2 neqD (callV (c "told") (consL (vV 1) (consL (vV 14) a0))) (kS "open"))) (asB (bind2 ninD (callV (c "told") (consL (vV 13) (consL (vV 14) a0))) (lstV (consL (callV (c "told") (consL (vV 1) (consL (vV 14) a0))) (consL kN a0))))))
        (seqF (retF (kB false))
        nop)
        nop)
      nop))
    nop)))
  (seqF (retF (kB true))
  nop))))))))))))


theorem sh_need (k : Nat) : callD fn free (k + 1) "need" = S_need (callD fn free k) := by kernel_rfl
theorem sh_is_seq (k : Nat) : callD fn free (k + 1) "is_seq" = S_is_seq (callD fn free k) := by kernel_rfl
theorem sh_is_long (k : Nat) : callD fn free (k + 1) "is_long" = S_is_long (callD fn free k) := by kernel_rfl
theorem sh_is_int (k : Nat) : callD fn free (k + 1) "is_int" = S_is_int (callD fn free k) := by kernel_rfl
theorem sh_is_from (k : Nat) : callD fn free (k + 1) "is_from" = S_is_from (callD fn free k) := by kernel_rfl
theorem sh_plain (k : Nat) : callD fn free (k + 1) "plain" = S_plain (callD fn free k) := by kernel_rfl
theorem sh_is_marks (k : Nat) : callD fn free (k + 1) "is_marks" = S_is_marks (callD fn free k) := by kernel_rfl
theorem sh_is_any_marks (k : Nat) : callD fn free (k + 1) "is_any_marks" = S_is_any_marks (callD fn free k) := by kernel_rfl
theorem sh_is_row (k : Nat) : callD fn free (k + 1) "is_row" = S_is_row (callD fn free k) := by kernel_rfl
theorem sh_is_grades (k : Nat) : callD fn free (k + 1) "is_grades" = S_is_grades (callD fn free k) := by kernel_rfl
theorem sh_need_grades (k : Nat) : callD fn free (k + 1) "need_grades" = S_need_grades (callD fn free k) := by kernel_rfl
theorem sh_suits (k : Nat) : callD fn free (k + 1) "suits" = S_suits (callD fn free k) := by kernel_rfl
theorem sh_agrees (k : Nat) : callD fn free (k + 1) "agrees" = S_agrees (callD fn free k) := by kernel_rfl
theorem sh_least_marks (k : Nat) : callD fn free (k + 1) "least_marks" = S_least_marks (callD fn free k) := by kernel_rfl
theorem sh_highest_rule (k : Nat) : callD fn free (k + 1) "highest_rule" = S_highest_rule (callD fn free k) := by kernel_rfl
theorem sh_shut_out (k : Nat) : callD fn free (k + 1) "shut_out" = S_shut_out (callD fn free k) := by kernel_rfl
theorem sh_least_of (k : Nat) : callD fn free (k + 1) "least_of" = S_least_of (callD fn free k) := by kernel_rfl
theorem sh_lowest_rules (k : Nat) : callD fn free (k + 1) "lowest_rules" = S_lowest_rules (callD fn free k) := by kernel_rfl
theorem sh_first_letting (k : Nat) : callD fn free (k + 1) "first_letting" = S_first_letting (callD fn free k) := by kernel_rfl
theorem sh_word_of (k : Nat) : callD fn free (k + 1) "word_of" = S_word_of (callD fn free k) := by kernel_rfl
theorem sh_told (k : Nat) : callD fn free (k + 1) "told" = S_told (callD fn free k) := by kernel_rfl
theorem sh_teaches (k : Nat) : callD fn free (k + 1) "teaches" = S_teaches (callD fn free k) := by kernel_rfl
theorem sh_lesson (k : Nat) : callD fn free (k + 1) "lesson" = S_lesson (callD fn free k) := by kernel_rfl
theorem sh_less_row (k : Nat) : callD fn free (k + 1) "less_row" = S_less_row (callD fn free k) := by kernel_rfl
theorem sh_without_row (k : Nat) : callD fn free (k + 1) "without_row" = S_without_row (callD fn free k) := by kernel_rfl
theorem sh_bounds (k : Nat) : callD fn free (k + 1) "bounds" = S_bounds (callD fn free k) := by kernel_rfl
theorem sh_spare (k : Nat) : callD fn free (k + 1) "spare" = S_spare (callD fn free k) := by kernel_rfl
theorem sh__law_power (k : Nat) : callD fn free (k + 1) "_law_power" = S__law_power (callD fn free k) := by kernel_rfl
theorem sh__law_cell (k : Nat) : callD fn free (k + 1) "_law_cell" = S__law_cell (callD fn free k) := by kernel_rfl
theorem sh__law_numbers (k : Nat) : callD fn free (k + 1) "_law_numbers" = S__law_numbers (callD fn free k) := by kernel_rfl
theorem sh__law_same (k : Nat) : callD fn free (k + 1) "_law_same" = S__law_same (callD fn free k) := by kernel_rfl
theorem sh__law_listed (k : Nat) : callD fn free (k + 1) "_law_listed" = S__law_listed (callD fn free k) := by kernel_rfl
theorem sh__law_rows (k : Nat) : callD fn free (k + 1) "_law_rows" = S__law_rows (callD fn free k) := by kernel_rfl
theorem sh__law_fit (k : Nat) : callD fn free (k + 1) "_law_fit" = S__law_fit (callD fn free k) := by kernel_rfl
theorem sh__law_grades (k : Nat) : callD fn free (k + 1) "_law_grades" = S__law_grades (callD fn free k) := by kernel_rfl
theorem sh__law_going (k : Nat) : callD fn free (k + 1) "_law_going" = S__law_going (callD fn free k) := by kernel_rfl
theorem sh__law_lesson (k : Nat) : callD fn free (k + 1) "_law_lesson" = S__law_lesson (callD fn free k) := by kernel_rfl
theorem sh_law (k : Nat) : callD fn free (k + 1) "law" = S_law (callD fn free k) := by kernel_rfl
end K42
namespace K42
open PySem PySem.Spec PyProof.Rows L2 PL

/-! ### data -/
def mk (b : List Int) : D := .t (b.map .i)
def wd (w : Bool) : D := .s (if w = true then "fit" else "unfit")
abbrev Row := List Int × Bool
def row (p : Row) : D := .t [mk p.1, wd p.2]
def gr (n : Nat) (rows : List Row) : D := .t [.i n, .t (rows.map row)]
theorem lay_fit : PyData.canLay0 (.str "fit") = true := by decide +kernel
theorem lay_unfit : PyData.canLay0 (.str "unfit") = true := by decide +kernel
theorem fit_ne : ((("fit" : Str)) = "unfit") = False := by
  have : ¬ ((("fit" : Str)) = "unfit") := by decide +kernel
  simpa using this
theorem wd_fit (w : Bool) : eqqD (wd w) (.s "fit") = some (.b w) := by
  cases w <;> decide +kernel
theorem wd_unfit (w : Bool) : eqqD (wd w) (.s "unfit") = some (.b (!w)) := by
  cases w <;> decide +kernel

/-! ### the model -/
def suitsB (r b : List Int) : Bool := (List.zip r b).all fun p => decide (p.1 ≤ p.2)
def agreeB (rows : List Row) (r : List Int) : Bool := rows.all fun p => suitsB r p.1 == p.2
def stepL (f : List Int) (p : Row) : List Int := if p.2 = true then (List.zip f p.1).map fun q => if q.2 < q.1 then q.2 else q.1 else f
def least (n : Nat) (rows : List Row) : List Int := rows.foldl stepL (List.replicate n 9)

section
variable {c : Str → List D → Option D}
theorem suits_eq {r b : List Int} (hr : r.length ≤ 100) : S_suits c [mk r, mk b] = some (.b (suitsB r b)) := by
  have e := compD_map (t := .tp [.nm 3, .nm 4]) (ft := tY) (f := bind2 (cmpI fGe) (vB 4) (vB 3)) (env := [.v (mk r), .v (mk b), .no, .no, .no]) (fun p : Int × Int => D.t [.i p.1, .i p.2]) (fun p => .b (decide (p.1 ≤ p.2))) (List.zip r b) (fun p _ => ⟨_, rfl, rfl, rfl⟩)
  have hl : min r.length b.length ≤ SZ := by unfold SZ; omega
  unfold mk at e
  simp [S_suits, mk, zipD_map, e, hl, -allD, allD_map]
  rfl
theorem agrees_eq {n : Nat} {rows : List Row} {r : List Int} (hl : rows.length ≤ 100) (hs : ∀ p ∈ rows, c "suits" [mk r, mk p.1] = some (.b (suitsB r p.1))) : S_agrees c [gr n rows, mk r] = some (.b (agreeB rows r)) := by
  have e := compD_map (t := .tp [.nm 3, .nm 4]) (ft := tY) (f := bind2 eqqD (callV (c "suits") (consL (vV 1) (consL (vV 3) a0))) (bind2 eqqD (vB 4) (kS "fit"))) (env := [.v (gr n rows), .v (mk r), .no, .no, .no]) row (fun p => .b (suitsB r p.1 == p.2)) rows
    (fun p hp => ⟨_, rfl, rfl, by simp [-eqqD, hs p hp, wd_fit, eqq_b]⟩)
  have hl : rows.length ≤ SZ := by unfold SZ; omega
  have h1 : atI [D.i n, .t (rows.map row)] 1 = some (.t (rows.map row)) := rfl
  simp [S_agrees, -eqqD, -allD, gr, h1] at e ⊢
  simp [e, hl, -allD, allD_map]
  rfl
theorem stepL_len {f : List Int} {p : Row} : (stepL f p).length ≤ f.length := by
  unfold stepL
  split
  · rw [List.length_map, List.length_zip]; omega
  · exact Nat.le_refl _
theorem least_marks_eq {n : Nat} {rows : List Row} (hn : n ≤ 100) : S_least_marks c [gr n rows] = some (mk (least n rows)) := by
  obtain ⟨env', h1, hP⟩ := forV_fold (t := .tp [.nm 4, .nm 5]) (fb := (seqF (ifF (asB (bind2 eqqD (vB 5) (kS "fit")))
      (seqF (asgF (.nm 3) (lcV (itZ (vB 3) (vB 4)) (.tp [(.nm 7), (.nm 8)]) tY (callV minD (consL (vB 7) (consL (vB 8) a0))) [6, 7, 8]))
      nop)
      nop)
    nop)) row (fun (f : List Int) env => f.length ≤ 100 ∧ ∃ c4 c5, env = [.v (gr n rows), .v (.i n), .v (.t (rows.map row)), .v (.l (f.map .i)), c4, c5, .no, .no, .no]) stepL rows (List.replicate n 9)
    [.v (gr n rows), .v (.i n), .v (.t (rows.map row)), .v (.l ((List.replicate n (9 : Int)).map .i)), .no, .no, .no, .no, .no] ⟨by simpa using hn, .no, .no, rfl⟩ (fun p f env hp hP => by
      obtain ⟨hf, c4, c5, rfl⟩ := hP
      refine ⟨[.v (gr n rows), .v (.i n), .v (.t (rows.map row)), .v (.l (f.map .i)), .v (mk p.1), .v (wd p.2), .no, .no, .no], [.v (gr n rows), .v (.i n), .v (.t (rows.map row)), .v (.l ((stepL f p).map .i)), .v (mk p.1), .v (wd p.2), .no, .no, .no], rfl, .inl ?_, Nat.le_trans stepL_len hf, _, _, rfl⟩
      have e := compD_map (t := .tp [.nm 7, .nm 8]) (ft := tY) (f := callV minD (consL (vB 7) (consL (vB 8) a0))) (env := [.v (gr n rows), .v (.i n), .v (.t (rows.map row)), .v (.l (f.map .i)), .v (mk p.1), .v (wd p.2), .no, .no, .no]) (fun p : Int × Int => D.t [.i p.1, .i p.2]) (fun q => .i (if q.2 < q.1 then q.2 else q.1)) (List.zip f p.1) (fun p _ => ⟨_, rfl, rfl, rfl⟩)
      have hl : min f.length p.1.length ≤ SZ := by unfold SZ; omega
      unfold stepL
      cases hw : p.2 with
      | true =>
        rw [hw] at e
        unfold mk at e
        simp [-eqqD, mk, wd_fit, zipD_map, e, hl]
      | false => simp [-eqqD, wd_fit])
  obtain ⟨_, c4, c5, rfl⟩ := hP
  have hm : mulD (.l [.i 9]) (.i n) = some (.l (List.replicate n (.i 9))) := by
    rw [mulD, if_pos ⟨by omega, absLe_of (by simp; omega), by simp [SZ]; omega⟩]
    simp
  have hz : ¬ (SZ < 1) := by unfold SZ; omega
  unfold gr at h1 ⊢
  simp at h1
  simp [-mulD, -eqqD, S_least_marks, gr, hm, h1, SZ]
  rfl
theorem highest_eq {n : Nat} {rows : List Row} (h1 : c "least_marks" [gr n rows] = some (mk (least n rows))) (h2 : c "agrees" [gr n rows, mk (least n rows)] = some (.b (agreeB rows (least n rows)))) :
    S_highest_rule c [gr n rows] = some (if agreeB rows (least n rows) = true then mk (least n rows) else .n) := by
  simp [S_highest_rule, h1, h2]
  split <;> simp_all
/-! ### shut_out -/
def cand1 (r : List Int) (top : List Int) (p : Int × Nat) : List (List Int) := if p.1 < top.getD p.2 0 then [r.take p.2 ++ [p.1 + 1] ++ r.drop (p.2 + 1)] else []
def cands (r b top : List Int) : List (List Int) := b.zipIdx.flatMap (cand1 r top)
def shutR (b top r : List Int) : List (List Int) := if suitsB r b = true then cands r b top else [r]
def fbI : StF := (seqF (ifF (asB (bind2 (cmpI fLt) (vB 6) (bind2 ixD (vB 2) (vB 5))))
        (seqF (appF 3 (bind2 addD (bind2 addD (sliceV (vB 4) p0 (partV (vV 5))) (tupV (consL (bind2 addD (vB 6) (kI 1)) a0))) (sliceV (vB 4) (partV (bind2 addD (vB 5) (kI 1))) p0)))
        nop)
        nop)
      nop)
theorem fbI_eq {R : D} {b top r : List Int} {f : List (List Int)} {m : Int} {k : Nat} (hk : k < r.length) (ht : k < top.length) (hl : r.length ≤ 100) (hf : f.length + (cand1 r top (m, k)).length ≤ SZ) :
    fbI [.v R, .v (mk b), .v (mk top), .o (.l (f.map mk)), .v (mk r), .v (.i k), .v (.i m)] = some (.nx [.v R, .v (mk b), .v (mk top), .o (.l ((f ++ cand1 r top (m, k)).map mk)), .v (mk r), .v (.i k), .v (.i m)]) := by
  have e1 : atI (top.map D.i) (k : Int) = some (.i (top.getD k 0)) := by
    rw [atI_map D.i ht]
    simp [ht]
  have e2 : cutD (r.map D.i) none (some (k : Int)) = (r.take k).map .i := by rw [cut_to (by simp; omega), List.map_take]
  have e3 : cutD (r.map D.i) (some ((k : Int) + 1)) none = (r.drop (k + 1)).map .i := by
    have := cut_from (xs := r.map D.i) (k := k + 1) (by simp; omega)
    rw [Int.natCast_add] at this
    rw [List.map_drop]
    exact this
  unfold cand1 at hf ⊢
  by_cases h : m < top.getD k 0
  · rw [if_pos h] at hf ⊢
    have z1 : (min k r.length) + 1 ≤ SZ := by unfold SZ; omega
    have z2 : (min k r.length) + 1 + (r.length - (k + 1)) ≤ SZ := by unfold SZ; omega
    have z3 : f.length < SZ := by simp at hf; omega
    have z4 : 1 ≤ SZ := by unfold SZ; omega
    have h' : m < top[k]?.getD 0 := by simpa [List.getD] using h
    simp [fbI, mk, e1, e2, e3, h, h', z1, z2, z3, z4]
  · rw [if_neg h]
    have h' : ¬ (m < top[k]?.getD 0) := by simpa [List.getD] using h
    simp [fbI, mk, e1, h, h']
theorem shut_out_eq {n : Nat} {rules : List (List Int)} {b top : List Int} (hr : ∀ r ∈ rules, r.length = n) (hb : b.length = n) (ht : top.length = n) (hn : n ≤ 100) (hs : ∀ r ∈ rules, c "suits" [mk r, mk b] = some (.b (suitsB r b)))
    (hz : (rules.flatMap (shutR b top)).length ≤ SZ) : S_shut_out c [.l (rules.map mk), mk b, mk top] = some (.l ((rules.flatMap (shutR b top)).map mk)) := by
  obtain ⟨env', h1, c4, c5, c6, rfl⟩ := forV_app (t := .nm 4) (fb := (seqF (ifF (notT (asT (callV (c "suits") (consL (vV 4) (consL (vV 1) a0)))))
      (seqF (appF 3 (vV 4))
      (seqF cnt
      nop))
      nop)
    (seqF (forF (itE (vV 1)) (.tp [(.nm 5), (.nm 6)])
      fbI)
    nop))) mk (shutR b top) (fun f env => ∃ c4 c5 c6, env = [.v (.l (rules.map mk)), .v (mk b), .v (mk top), .o (.l (f.map mk)), c4, c5, c6]) rules [] [.v (.l (rules.map mk)), .v (mk b), .v (mk top), .o (.l []), .no, .no, .no] ⟨.no, .no, .no, rfl⟩
    (fun r f env hm hl hP => by
      obtain ⟨c4, c5, c6, rfl⟩ := hP
      have hlr := hr r hm
      have hsr := hs r hm
      rw [List.length_nil, Nat.zero_add] at hl
      by_cases hsu : suitsB r b = true
      · rw [show shutR b top r = cands r b top from if_pos hsu] at hl ⊢
        obtain ⟨env2, g1, k5, k6, rfl⟩ := forV_app (t := .tp [.nm 5, .nm 6]) (fb := fbI) (fun p : Int × Nat => D.t [.i p.2, .i p.1]) (cand1 r top) (fun f env => ∃ c5 c6, env = [.v (.l (rules.map mk)), .v (mk b), .v (mk top), .o (.l (f.map mk)), .v (mk r), c5, c6]) b.zipIdx f
          [.v (.l (rules.map mk)), .v (mk b), .v (mk top), .o (.l (f.map mk)), .v (mk r), c5, c6] ⟨c5, c6, rfl⟩ (fun p f' env hm' hl' hP => by
            obtain ⟨d5, d6, rfl⟩ := hP
            obtain ⟨m, k⟩ := p
            have hk : k < b.length := by
              have := List.mem_zipIdx_iff_getElem?.mp hm'
              exact (List.getElem?_eq_some_iff.mp this).1
            have hq : f'.length + (cand1 r top (m, k)).length ≤ f.length + (cands r b top).length := hl'
            exact ⟨_, _, rfl, .inl (fbI_eq (by omega) (by omega) (by omega) (Nat.le_trans hq (Nat.le_trans hl hz))), _, _, rfl⟩)
        refine ⟨_, [.v (.l (rules.map mk)), .v (mk b), .v (mk top), .o (.l ((f ++ cands r b top).map mk)), .v (mk r), k5, k6], rfl, .inl ?_, _, _, _, rfl⟩
        have ez : enumD 0 (b.map D.i) = b.zipIdx.map fun p : Int × Nat => D.t [.i p.2, .i p.1] := enumD_map D.i b 0
        have eb : mk b = .t (b.map .i) := rfl
        rw [eb] at g1 hsr ⊢
        simp [hsr, hsu, ez, g1]
        rfl
      · have hsu' : suitsB r b = false := by simpa using hsu
        rw [show shutR b top r = [r] from if_neg hsu] at hl ⊢
        refine ⟨_, [.v (.l (rules.map mk)), .v (mk b), .v (mk top), .o (.l ((f ++ [r]).map mk)), .v (mk r), c5, c6], rfl, .inr ?_, _, _, _, rfl⟩
        have z : f.length < SZ := by rw [List.length_singleton] at hl; omega
        simp [hsr, hsu', z])
  unfold fbI at h1
  simp [S_shut_out, h1]
theorem first_letting_eq {rules : List (List Int)} {b : List Int} (hs : ∀ r ∈ rules, c "suits" [mk r, mk b] = some (.b (suitsB r b))) : S_first_letting c [.t (rules.map mk), mk b] = some (match rules.find? (suitsB · b) with
    | some r => mk r
    | none => .n) := by
  have go : ∀ (l : List (List Int)) (c2 : Cell), (∀ r ∈ l, c "suits" [mk r, mk b] = some (.b (suitsB r b))) → ∃ c3, forV (.nm 2) (seqF (ifF (asT (callV (c "suits") (consL (vV 2) (consL (vV 1) a0))))
      (seqF (retF (vV 2))
      nop)
      nop)
    nop) (l.map mk) [.v (.t (rules.map mk)), .v (mk b), c2] = some (match l.find? (suitsB · b) with
    | some r => .rt (mk r)
    | none => .nx [.v (.t (rules.map mk)), .v (mk b), c3]) := by
    intro l
    induction l with
    | nil => intro c2 _; exact ⟨c2, rfl⟩
    | cons r l ih =>
      intro c2 h
      have h1 := h r List.mem_cons_self
      cases hh : suitsB r b with
      | true =>
        rw [hh] at h1
        refine ⟨.no, ?_⟩
        simp [h1, hh, List.find?_cons]
      | false =>
        rw [hh] at h1
        obtain ⟨c3, h3⟩ := ih (.v (mk r)) fun r' hr' => h r' (List.mem_cons_of_mem _ hr')
        refine ⟨c3, ?_⟩
        simp [h1, hh, List.find?_cons]
        exact h3
  obtain ⟨c3, h3⟩ := go rules .no hs
  simp [S_first_letting, h3]
  cases rules.find? (suitsB · b) with
  | none => simp
  | some r => simp
end
end K42
namespace K42
open PySem PySem.Spec PyProof.Rows L2 PL

/-! ### the plain law: sets of rules -/
def dig : List Int := [0, 1, 2, 3, 4, 5, 6, 7, 8, 9]
def allR : Nat → List (List Int)
  | 0 => [[]]
  | n + 1 => (allR n).flatMap fun r => dig.map fun m => r ++ [m]
theorem dig_mem {x : Int} : x ∈ dig ↔ 0 ≤ x ∧ x ≤ 9 := by
  unfold dig
  simp
  omega
theorem allR_1 {r : List Int} : r ∈ allR 1 ↔ ∃ x, r = [x] ∧ 0 ≤ x ∧ x ≤ 9 := by
  simp only [allR, List.flatMap_cons, List.flatMap_nil, List.append_nil, List.nil_append, List.mem_map]
  constructor
  · rintro ⟨x, h, rfl⟩
    exact ⟨x, rfl, dig_mem.mp h⟩
  · rintro ⟨x, rfl, h⟩
    exact ⟨x, dig_mem.mpr h, rfl⟩
theorem allR_2 {r : List Int} : r ∈ allR 2 ↔ ∃ x y, r = [x, y] ∧ (0 ≤ x ∧ x ≤ 9) ∧ 0 ≤ y ∧ y ≤ 9 := by
  rw [allR, List.mem_flatMap]
  constructor
  · rintro ⟨a, h, h2⟩
    obtain ⟨x, rfl, hx⟩ := allR_1.mp h
    obtain ⟨y, hy, rfl⟩ := List.mem_map.mp h2
    exact ⟨x, y, rfl, hx, dig_mem.mp hy⟩
  · rintro ⟨x, y, rfl, hx, hy⟩
    exact ⟨[x], allR_1.mpr ⟨x, rfl, hx⟩, List.mem_map.mpr ⟨y, dig_mem.mpr hy, rfl⟩⟩
abbrev K12 (n : Nat) : Prop := n = 1 ∨ n = 2
theorem le1 (x u : Int) : suitsB [x] [u] = decide (x ≤ u) := by simp [suitsB]
theorem le2 (x y u v : Int) : suitsB [x, y] [u, v] = (decide (x ≤ u) && decide (y ≤ v)) := by simp [suitsB]
theorem allR_len {n : Nat} (k : K12 n) {r : List Int} (h : r ∈ allR n) : r.length = n := by
  rcases k with rfl | rfl
  · obtain ⟨x, rfl, _⟩ := allR_1.mp h; rfl
  · obtain ⟨x, y, rfl, _⟩ := allR_2.mp h; rfl
theorem allR_dig {n : Nat} (k : K12 n) {r : List Int} (h : r ∈ allR n) : ∀ m ∈ r, 0 ≤ m ∧ m ≤ 9 := by
  rcases k with rfl | rfl
  · obtain ⟨x, rfl, hx⟩ := allR_1.mp h; intro m hm; rw [List.mem_singleton.mp hm]; exact hx
  · obtain ⟨x, y, rfl, hx, hy⟩ := allR_2.mp h
    intro m hm
    rcases List.mem_cons.mp hm with e | e
    · rw [e]; exact hx
    · rw [List.mem_singleton.mp e]; exact hy
theorem le_refl {n : Nat} (k : K12 n) {r : List Int} (h : r ∈ allR n) : suitsB r r = true := by
  rcases k with rfl | rfl
  · obtain ⟨x, rfl, _⟩ := allR_1.mp h; simp [le1]
  · obtain ⟨x, y, rfl, _⟩ := allR_2.mp h; simp [le2]
theorem le_trans {n : Nat} (k : K12 n) {r s t : List Int} (hr : r ∈ allR n) (hs : s ∈ allR n) (ht : t ∈ allR n) (h1 : suitsB r s = true) (h2 : suitsB s t = true) : suitsB r t = true := by
  rcases k with rfl | rfl
  · obtain ⟨x, rfl, _⟩ := allR_1.mp hr; obtain ⟨y, rfl, _⟩ := allR_1.mp hs; obtain ⟨z, rfl, _⟩ := allR_1.mp ht
    simp only [le1, decide_eq_true_eq] at *; omega
  · obtain ⟨x, x', rfl, _⟩ := allR_2.mp hr; obtain ⟨y, y', rfl, _⟩ := allR_2.mp hs; obtain ⟨z, z', rfl, _⟩ := allR_2.mp ht
    simp only [le2, Bool.and_eq_true, decide_eq_true_eq] at *; omega
theorem le_anti {n : Nat} (k : K12 n) {r s : List Int} (hr : r ∈ allR n) (hs : s ∈ allR n) (h1 : suitsB r s = true) (h2 : suitsB s r = true) : r = s := by
  rcases k with rfl | rfl
  · obtain ⟨x, rfl, _⟩ := allR_1.mp hr; obtain ⟨y, rfl, _⟩ := allR_1.mp hs
    simp only [le1, decide_eq_true_eq] at *
    have : x = y := by omega
    rw [this]
  · obtain ⟨x, x', rfl, _⟩ := allR_2.mp hr; obtain ⟨y, y', rfl, _⟩ := allR_2.mp hs
    simp only [le2, Bool.and_eq_true, decide_eq_true_eq] at *
    have : x = y := by omega
    have : x' = y' := by omega
    simp_all
/-- the digits' sum -/
def wt (r : List Int) : Nat := r.sum.toNat
theorem wt_lt {n : Nat} (k : K12 n) {r s : List Int} (hr : r ∈ allR n) (hs : s ∈ allR n) (h : suitsB r s = true) (ne : r ≠ s) : wt r < wt s := by
  rcases k with rfl | rfl
  · obtain ⟨x, rfl, _⟩ := allR_1.mp hr; obtain ⟨y, rfl, _⟩ := allR_1.mp hs
    simp only [le1, decide_eq_true_eq] at h
    have : x ≠ y := fun e => ne (by rw [e])
    simp [wt]; omega
  · obtain ⟨x, x', rfl, _⟩ := allR_2.mp hr; obtain ⟨y, y', rfl, _⟩ := allR_2.mp hs
    simp only [le2, Bool.and_eq_true, decide_eq_true_eq] at h
    have : x ≠ y ∨ x' ≠ y' := by
      by_cases e : x = y
      · by_cases e' : x' = y'
        · exact absurd (by rw [e, e']) ne
        · exact .inr e'
      · exact .inl e
    simp [wt]; omega
abbrev Pd := List Int → Bool
def isMin (n : Nat) (P : Pd) (r : List Int) : Bool := P r && (allR n).all fun s => !(P s && suitsB s r) || decide (s = r)
def minsOf (n : Nat) (P : Pd) : List (List Int) := (allR n).filter (isMin n P)
theorem isMin_iff {n : Nat} {P : Pd} {r : List Int} : isMin n P r = true ↔ P r = true ∧ ∀ s ∈ allR n, P s = true → suitsB s r = true → s = r := by
  unfold isMin
  rw [Bool.and_eq_true, List.all_eq_true]
  constructor
  · rintro ⟨h1, h2⟩
    refine ⟨h1, fun s hs hp hl => ?_⟩
    have := h2 s hs
    rw [hp, hl] at this
    simpa using this
  · rintro ⟨h1, h2⟩
    refine ⟨h1, fun s hs => ?_⟩
    cases hp : P s with
    | false => simp
    | true =>
      cases hl : suitsB s r with
      | false => simp
      | true => simp [h2 s hs hp hl]
theorem mem_mins {n : Nat} {P : Pd} {r : List Int} : r ∈ minsOf n P ↔ r ∈ allR n ∧ P r = true ∧ ∀ s ∈ allR n, P s = true → suitsB s r = true → s = r := by
  unfold minsOf
  rw [List.mem_filter, isMin_iff]
theorem exists_min {n : Nat} (k : K12 n) {P : Pd} : ∀ (m : Nat) {r : List Int}, wt r ≤ m → r ∈ allR n → P r = true → ∃ s ∈ minsOf n P, suitsB s r = true := by
  intro m
  induction m with
  | zero =>
    intro r hw hr hp
    refine ⟨r, mem_mins.mpr ⟨hr, hp, fun s hs _ hl => ?_⟩, le_refl k hr⟩
    by_cases e : s = r
    · exact e
    · have := wt_lt k hs hr hl e; omega
  | succ m ih =>
    intro r hw hr hp
    by_cases h : isMin n P r = true
    · exact ⟨r, List.mem_filter.mpr ⟨hr, h⟩, le_refl k hr⟩
    · rw [isMin_iff] at h
      have : ∃ s, s ∈ allR n ∧ P s = true ∧ suitsB s r = true ∧ s ≠ r := Classical.byContradiction fun z => h ⟨hp, fun s hs hps hl => Classical.byContradiction fun e => z ⟨s, hs, hps, hl, e⟩⟩
      obtain ⟨s, hs, hps, hl, ne⟩ := this
      have w := wt_lt k hs hr hl ne
      obtain ⟨t, ht, hl2⟩ := ih (by omega) hs hps
      exact ⟨t, ht, le_trans k (mem_mins.mp ht).1 hs hr hl2 hl⟩
theorem exists_min' {n : Nat} (k : K12 n) {P : Pd} {r : List Int} (hr : r ∈ allR n) (hp : P r = true) : ∃ s ∈ minsOf n P, suitsB s r = true := exists_min k (wt r) (Nat.le_refl _) hr hp
theorem mins_congr {n : Nat} {P Q : Pd} (h : ∀ r ∈ allR n, P r = Q r) : minsOf n P = minsOf n Q := by
  unfold minsOf
  refine List.filter_congr fun r hr => ?_
  rw [Bool.eq_iff_iff, isMin_iff, isMin_iff, h r hr]
  constructor
  · rintro ⟨h1, h2⟩
    exact ⟨h1, fun s hs hp => h2 s hs (by rw [h s hs]; exact hp)⟩
  · rintro ⟨h1, h2⟩
    exact ⟨h1, fun s hs hp => h2 s hs (by rw [← h s hs]; exact hp)⟩

/-! ### sorted(set(..)), the least of a list -/
theorem allR_same {n : Nat} (k : K12 n) : SameL n (allR n) := fun r hr => ⟨allR_len k hr, fun m hm => by
  have := allR_dig k hr m hm
  unfold srtB
  omega⟩
theorem allR_pw {n : Nat} (k : K12 n) : (allR n).Pairwise (fun a b => TS.code srtB a < TS.code srtB b) := by
  rcases k with rfl | rfl <;> decide +kernel
theorem le_code {n : Nat} (k : K12 n) {r s : List Int} (hr : r ∈ allR n) (hs : s ∈ allR n) (h : suitsB r s = true) : TS.code srtB r ≤ TS.code srtB s := by
  rcases k with rfl | rfl
  · obtain ⟨x, rfl, _⟩ := allR_1.mp hr; obtain ⟨y, rfl, _⟩ := allR_1.mp hs
    simp only [le1, decide_eq_true_eq] at h
    simp [TS.code]; omega
  · obtain ⟨x, x', rfl, _⟩ := allR_2.mp hr; obtain ⟨y, y', rfl, _⟩ := allR_2.mp hs
    simp only [le2, Bool.and_eq_true, decide_eq_true_eq] at h
    simp [TS.code, srtB]; omega
theorem srt_all {n : Nat} (k : K12 n) {X : List (List Int)} (h : ∀ x ∈ X, x ∈ allR n) : srtT X = (allR n).filter fun r => X.contains r := by
  have hs : SameL n X := fun r hr => allR_same k r (h r hr)
  refine (srtT_unique hs ?_ (fun r => ?_) ?_).symm
  · exact ((allR_pw k).imp (fun {a b} z e => by subst e; omega) : (allR n).Nodup).filter _
  · rw [List.mem_filter, List.contains_iff_mem]
    exact ⟨fun z => z.2, fun z => ⟨h r z, z⟩⟩
  · exact ((allR_pw k).filter _).imp fun {a b} z => by omega
def stepK (found : List (List Int)) (r : List Int) : List (List Int) := if (found.any fun o => suitsB o r) = true then found else found ++ [r]
def leastL (X : List (List Int)) : List (List Int) := (srtT X).foldl stepK []
def minIn (l : List (List Int)) (r : List Int) : Bool := l.all fun s => !suitsB s r || decide (s = r)
theorem minIn_iff {l : List (List Int)} {r : List Int} : minIn l r = true ↔ ∀ s ∈ l, suitsB s r = true → s = r := by
  unfold minIn
  rw [List.all_eq_true]
  constructor
  · intro h s hs hl
    have := h s hs
    rw [hl] at this
    simpa using this
  · intro h s hs
    cases hl : suitsB s r with
    | false => simp
    | true => simp [h s hs hl]
theorem greedy {n : Nat} (k : K12 n) : ∀ (l pre acc : List (List Int)), (∀ x ∈ pre ++ l, x ∈ allR n) → (pre ++ l).Pairwise (fun a b => TS.code srtB a < TS.code srtB b) → acc = pre.filter (minIn pre) → (∀ r ∈ pre, ∃ s ∈ acc, suitsB s r = true) →
    l.foldl stepK acc = (pre ++ l).filter (minIn (pre ++ l))
  | [], pre, acc, _, _, h, _ => by rw [List.append_nil]; exact h
  | x :: l, pre, acc, ha, pw, h, hc => by
    have e : pre ++ x :: l = (pre ++ [x]) ++ l := by simp
    have hx : x ∈ allR n := ha x (by simp)
    have hpre : ∀ r ∈ pre, r ∈ allR n := fun r hr => ha r (by simp [hr])
    have hlt : ∀ r ∈ pre, TS.code srtB r < TS.code srtB x := fun r hr => (List.pairwise_append.mp pw).2.2 r hr x (by simp)
    have nole : ∀ r ∈ pre, suitsB x r = false := fun r hr => by
      cases z : suitsB x r with
      | false => rfl
      | true =>
        have := le_code k hx (hpre r hr) z
        have := hlt r hr
        omega
    have f1 : (pre ++ [x]).filter (minIn (pre ++ [x])) = pre.filter (minIn pre) ++ (if minIn (pre ++ [x]) x = true then [x] else []) := by
      rw [List.filter_append]
      congr 1
      · refine List.filter_congr fun r hr => ?_
        unfold minIn
        rw [List.all_append]
        simp [nole r hr]
      · rw [List.filter_cons, List.filter_nil]
    have f2 : (acc.any fun o => suitsB o x) = !minIn (pre ++ [x]) x := by
      rw [Bool.eq_iff_iff, List.any_eq_true, Bool.not_eq_true', ← Bool.not_eq_true, minIn_iff]
      constructor
      · rintro ⟨o, ho, hl⟩ hm
        rw [h] at ho
        have hop := (List.mem_filter.mp ho).1
        have e := hm o (by simp [hop]) hl
        have := hlt o hop
        rw [e] at this
        omega
      · intro hm
        have : ∃ s ∈ pre, suitsB s x = true := Classical.byContradiction fun z => hm fun s hs hl => by
          rcases List.mem_append.mp hs with q | q
          · exact absurd ⟨s, q, hl⟩ z
          · exact List.mem_singleton.mp q
        obtain ⟨s, hs, hl⟩ := this
        obtain ⟨t, ht, hl2⟩ := hc s hs
        rw [h] at ht
        refine ⟨t, by rw [h]; exact ht, le_trans k (hpre t (List.mem_filter.mp ht).1) (hpre s hs) hx hl2 hl⟩
    rw [List.foldl_cons, e]
    refine greedy k l (pre ++ [x]) (stepK acc x) (fun y hy => ha y (by simpa using hy)) (by rw [← e]; exact pw) ?_ fun r hr => ?_
    · unfold stepK
      rw [f1, f2, h]
      cases minIn (pre ++ [x]) x <;> simp
    · rcases List.mem_append.mp hr with q | q
      · obtain ⟨s, hs, hl⟩ := hc r q
        refine ⟨s, ?_, hl⟩
        unfold stepK
        split
        · exact hs
        · exact List.mem_append_left _ hs
      · rw [List.mem_singleton.mp q]
        unfold stepK
        split
        · rename_i z
          rw [List.any_eq_true] at z
          exact z
        · exact ⟨x, by simp, le_refl k hx⟩
theorem leastL_eq {n : Nat} (k : K12 n) {X : List (List Int)} (h : ∀ x ∈ X, x ∈ allR n) : leastL X = (allR n).filter fun r => X.contains r && minIn X r := by
  unfold leastL
  rw [srt_all k h]
  have g := greedy k ((allR n).filter fun r => X.contains r) [] [] (fun x hx => by rw [List.nil_append] at hx; exact (List.mem_filter.mp hx).1) (by rw [List.nil_append]; exact (allR_pw k).filter _) rfl (fun r hr => nomatch hr)
  rw [g, List.nil_append, List.filter_filter]
  refine List.filter_congr fun r hr => ?_
  rw [Bool.and_comm, Bool.eq_iff_iff, Bool.and_eq_true, Bool.and_eq_true, minIn_iff, minIn_iff]
  constructor
  · rintro ⟨a, b⟩
    exact ⟨a, fun s hs => b s (List.mem_filter.mpr ⟨h s hs, List.contains_iff_mem.mpr hs⟩)⟩
  · rintro ⟨a, b⟩
    exact ⟨a, fun s hs => b s (List.contains_iff_mem.mp (List.mem_filter.mp hs).2)⟩
/-! ### one unfit row -/
/-- what may be asked of a set of rules below top -/
structure UpSet (n : Nat) (top : List Int) (Q : Pd) : Prop where
  below : ∀ r ∈ allR n, Q r = true → suitsB r top = true
  up : ∀ r ∈ allR n, ∀ s ∈ allR n, Q r = true → suitsB r s = true → suitsB s top = true → Q s = true
def cut (Q : Pd) (b : List Int) : Pd := fun r => Q r && !suitsB r b
theorem UpSet.cut {n : Nat} (k : K12 n) {top b : List Int} {Q : Pd} (U : UpSet n top Q) (hb : b ∈ allR n) : UpSet n top (cut Q b) := by
  refine ⟨fun r hr h => U.below r hr (Bool.and_eq_true_iff.mp h).1, fun r hr s hs h hl ht => ?_⟩
  unfold K42.cut at h ⊢
  rw [Bool.and_eq_true, Bool.not_eq_true'] at h ⊢
  refine ⟨U.up r hr s hs h.1 hl ht, ?_⟩
  cases z : suitsB s b with
  | false => rfl
  | true => rw [le_trans k hr hs hb hl z] at h; cases h.2
theorem shut_in {n : Nat} (k : K12 n) {top b : List Int} {Q : Pd} (U : UpSet n top Q) (ht : top ∈ allR n) (hb : b ∈ allR n) {r x : List Int} (hr : r ∈ allR n) (hq : Q r = true) (hx : x ∈ shutR b top r) : x ∈ allR n ∧ cut Q b x = true := by
  unfold shutR at hx
  split at hx
  · rename_i hs
    have hbel := U.below r hr hq
    rcases k with rfl | rfl
    · obtain ⟨p, rfl, _⟩ := allR_1.mp hr; obtain ⟨u, rfl, _⟩ := allR_1.mp hb; obtain ⟨t, rfl, _⟩ := allR_1.mp ht
      simp only [le1, decide_eq_true_eq] at hs hbel
      simp [cands, cand1] at hx
      obtain ⟨h1, rfl⟩ := hx
      have hx' : [u + 1] ∈ allR 1 := allR_1.mpr ⟨_, rfl, by omega, by omega⟩
      refine ⟨hx', ?_⟩
      unfold K42.cut
      rw [U.up _ hr _ hx' hq (by simp [le1]; omega) (by simp [le1]; omega)]
      simp [le1]; omega
    · obtain ⟨p, p', rfl, _⟩ := allR_2.mp hr; obtain ⟨u, u', rfl, _⟩ := allR_2.mp hb; obtain ⟨t, t', rfl, _⟩ := allR_2.mp ht
      simp only [le2, Bool.and_eq_true, decide_eq_true_eq] at hs hbel
      simp [cands, cand1] at hx
      rcases hx with ⟨h1, rfl⟩ | ⟨h1, rfl⟩
      · have hx' : [u + 1, p'] ∈ allR 2 := allR_2.mpr ⟨_, _, rfl, by omega, by omega⟩
        refine ⟨hx', ?_⟩
        unfold K42.cut
        rw [U.up _ hr _ hx' hq (by simp [le2]; omega) (by simp [le2]; omega)]
        simp [le2]; omega
      · have hx' : [p, u' + 1] ∈ allR 2 := allR_2.mpr ⟨_, _, rfl, by omega, by omega⟩
        refine ⟨hx', ?_⟩
        unfold K42.cut
        rw [U.up _ hr _ hx' hq (by simp [le2]; omega) (by simp [le2]; omega)]
        simp [le2]; omega
  · rename_i hs
    rw [List.mem_singleton.mp hx]
    refine ⟨hr, ?_⟩
    unfold K42.cut
    rw [hq]
    simpa using hs
theorem shut_cov {n : Nat} (k : K12 n) {top b : List Int} {Q : Pd} (U : UpSet n top Q) (ht : top ∈ allR n) (hb : b ∈ allR n) {r y : List Int} (hr : r ∈ allR n) (hy : y ∈ allR n) (hq : cut Q b y = true) (hl : suitsB r y = true) : ∃ x ∈ shutR b top r, suitsB x y = true := by
  unfold K42.cut at hq
  rw [Bool.and_eq_true, Bool.not_eq_true'] at hq
  have hbel := U.below y hy hq.1
  by_cases hs : suitsB r b = true
  · rw [show shutR b top r = cands r b top from if_pos hs]
    rcases k with rfl | rfl
    · obtain ⟨p, rfl, _⟩ := allR_1.mp hr; obtain ⟨u, rfl, _⟩ := allR_1.mp hb; obtain ⟨t, rfl, _⟩ := allR_1.mp ht; obtain ⟨z, rfl, _⟩ := allR_1.mp hy
      have hq2 := hq.2
      simp only [le1, decide_eq_true_eq, decide_eq_false_iff_not] at hs hbel hq2 hl
      have h1 : u < t := by omega
      refine ⟨[u + 1], by simp [cands, cand1, h1], by simp [le1]; omega⟩
    · obtain ⟨p, p', rfl, _⟩ := allR_2.mp hr; obtain ⟨u, u', rfl, _⟩ := allR_2.mp hb; obtain ⟨t, t', rfl, _⟩ := allR_2.mp ht; obtain ⟨z, z', rfl, _⟩ := allR_2.mp hy
      have hq2 := hq.2
      simp only [le2, Bool.and_eq_true, decide_eq_true_eq, Bool.and_eq_false_iff, decide_eq_false_iff_not] at hs hbel hq2 hl
      by_cases h1 : u < z
      · have h2 : u < t := by omega
        refine ⟨[u + 1, p'], by simp [cands, cand1, h2], by simp [le2]; omega⟩
      · have h2 : u' < t' := by omega
        refine ⟨[p, u' + 1], by simp [cands, cand1, h2], by simp [le2]; omega⟩
  · rw [show shutR b top r = [r] from if_neg hs]
    exact ⟨r, by simp, hl⟩
/-- least_of(shut_out(..)) -/
theorem step_mins {n : Nat} (k : K12 n) {top b : List Int} {Q : Pd} (U : UpSet n top Q) (ht : top ∈ allR n) (hb : b ∈ allR n) :
    (∀ x ∈ (minsOf n Q).flatMap (shutR b top), x ∈ allR n) ∧ leastL ((minsOf n Q).flatMap (shutR b top)) = minsOf n (cut Q b) := by
  have i1 : ∀ x ∈ (minsOf n Q).flatMap (shutR b top), x ∈ allR n ∧ cut Q b x = true := fun x hx => by
    obtain ⟨r, hr, hx⟩ := List.mem_flatMap.mp hx
    obtain ⟨h1, h2, _⟩ := mem_mins.mp hr
    exact shut_in k U ht hb h1 h2 hx
  have i2 : ∀ y ∈ allR n, cut Q b y = true → ∃ x ∈ (minsOf n Q).flatMap (shutR b top), suitsB x y = true := fun y hy hq => by
    obtain ⟨r, hr, hl⟩ := exists_min' k hy (P := Q) (by unfold K42.cut at hq; exact (Bool.and_eq_true_iff.mp hq).1)
    obtain ⟨x, hx, h⟩ := shut_cov k U ht hb (mem_mins.mp hr).1 hy hq hl
    exact ⟨x, List.mem_flatMap.mpr ⟨r, hr, hx⟩, h⟩
  refine ⟨fun x hx => (i1 x hx).1, ?_⟩
  rw [leastL_eq k fun x hx => (i1 x hx).1]
  unfold minsOf
  refine List.filter_congr fun r hr => ?_
  rw [Bool.eq_iff_iff, Bool.and_eq_true, List.contains_iff_mem, minIn_iff, isMin_iff]
  constructor
  · rintro ⟨h1, h2⟩
    refine ⟨(i1 r h1).2, fun s hs hp hl => ?_⟩
    obtain ⟨x, hx, hxs⟩ := i2 s hs hp
    have e := h2 x hx (le_trans k (i1 x hx).1 hs hr hxs hl)
    subst e
    exact le_anti k hs hr hl hxs
  · rintro ⟨h1, h2⟩
    obtain ⟨x, hx, hl⟩ := i2 r hr h1
    have e := h2 x (i1 x hx).1 (i1 x hx).2 hl
    subst e
    exact ⟨hx, fun s hs hl => h2 s (i1 s hs).1 (i1 s hs).2 hl⟩
end K42
namespace K42
open PySem PySem.Spec PyProof.Rows L2 PL

theorem nodup_len {α : Type} [DecidableEq α] : ∀ {l m : List α}, l.Nodup → (∀ x ∈ l, x ∈ m) → l.length ≤ m.length
  | [], _, _, _ => Nat.zero_le _
  | a :: l, m, nd, h => by
    rw [List.nodup_cons] at nd
    have ha : a ∈ m := h a List.mem_cons_self
    have := nodup_len (m := m.erase a) nd.2 fun x hx => (List.mem_erase_of_ne (fun e => nd.1 (by rw [← e]; exact hx))).mpr (h x (List.mem_cons_of_mem _ hx))
    rw [List.length_erase_of_mem ha] at this
    have : 0 < m.length := List.length_pos_of_mem ha
    rw [List.length_cons]
    omega
theorem allR_nodup {n : Nat} (k : K12 n) : (allR n).Nodup := (allR_pw k).imp fun {a b} z e => by subst e; omega
theorem mins_len {n : Nat} (k : K12 n) (Q : Pd) : (minsOf n Q).length ≤ 10 := by
  rcases k with rfl | rfl
  · exact Nat.le_trans (List.length_filter_le _ _) (by decide)
  · have nd : ((minsOf 2 Q).map fun r => r.headD 0).Nodup := by
      rw [List.nodup_iff_pairwise_ne, List.pairwise_map]
      refine (List.nodup_iff_pairwise_ne.mp ((allR_nodup (.inr rfl)).filter (isMin 2 Q))).imp_of_mem fun {a b} ha hb ne e => ?_
      obtain ⟨a1, a2, a3⟩ := mem_mins.mp ha
      obtain ⟨b1, b2, b3⟩ := mem_mins.mp hb
      obtain ⟨x, x', rfl, _⟩ := allR_2.mp a1
      obtain ⟨y, y', rfl, _⟩ := allR_2.mp b1
      have e : x = y := e
      subst e
      by_cases h : x' ≤ y'
      · exact ne (b3 _ a1 a2 (by simp [le2, h]))
      · exact ne (a3 _ b1 b2 (by simp [le2]; omega)).symm
    have := nodup_len (m := dig) nd fun x hx => by
      obtain ⟨r, hr, rfl⟩ := List.mem_map.mp hx
      obtain ⟨x, y, rfl, h, _⟩ := allR_2.mp (mem_mins.mp hr).1
      exact dig_mem.mpr h
    rw [List.length_map] at this
    exact this
theorem shut_len {n : Nat} (k : K12 n) {b top r : List Int} (hb : b ∈ allR n) : (shutR b top r).length ≤ 2 := by
  unfold shutR
  split
  · rcases k with rfl | rfl
    · obtain ⟨u, rfl, _⟩ := allR_1.mp hb
      simp [cands, cand1]
      split <;> simp
    · obtain ⟨u, u', rfl, _⟩ := allR_2.mp hb
      simp [cands, cand1]
      split <;> split <;> simp
  · simp
theorem flat_len {α β : Type} (g : α → List β) (m : Nat) : ∀ l : List α, (∀ a ∈ l, (g a).length ≤ m) → (l.flatMap g).length ≤ m * l.length
  | [], _ => by simp
  | a :: l, h => by
    rw [List.flatMap_cons, List.length_append, List.length_cons]
    have h1 := h a List.mem_cons_self
    have h2 := flat_len g m l fun b hb => h b (List.mem_cons_of_mem _ hb)
    rw [Nat.mul_add, Nat.mul_one]
    omega

/-! ### the top -/
def OkRows (n : Nat) (rows : List Row) : Prop := ∀ p ∈ rows, p.1 ∈ allR n
theorem stepL_ok {n : Nat} (k : K12 n) {f : List Int} {p : Row} (hf : f ∈ allR n) (hp : p.1 ∈ allR n) : stepL f p ∈ allR n ∧ ∀ r ∈ allR n, suitsB r (stepL f p) = true ↔ suitsB r f = true ∧ (p.2 = true → suitsB r p.1 = true) := by
  obtain ⟨b, w⟩ := p
  unfold stepL
  cases w with
  | false => exact ⟨by simpa using hf, fun r hr => by simp⟩
  | true =>
    rcases k with rfl | rfl
    · obtain ⟨x, rfl, hx⟩ := allR_1.mp hf; obtain ⟨u, e, hu⟩ := allR_1.mp hp
      have e : b = [u] := e
      subst e
      refine ⟨allR_1.mpr ⟨if u < x then u else x, by simp, by split <;> omega⟩, fun r hr => ?_⟩
      obtain ⟨z, rfl, _⟩ := allR_1.mp hr
      simp [le1]
      split <;> omega
    · obtain ⟨x, x', rfl, hx, hx'⟩ := allR_2.mp hf; obtain ⟨u, u', e, hu, hu'⟩ := allR_2.mp hp
      have e : b = [u, u'] := e
      subst e
      refine ⟨allR_2.mpr ⟨if u < x then u else x, if u' < x' then u' else x', by simp, by split <;> omega, by split <;> omega⟩, fun r hr => ?_⟩
      obtain ⟨z, z', rfl, _⟩ := allR_2.mp hr
      simp [le2]
      split <;> split <;> omega
theorem foldL_ok {n : Nat} (k : K12 n) : ∀ (rows : List Row) {f : List Int}, f ∈ allR n → OkRows n rows → rows.foldl stepL f ∈ allR n ∧ ∀ r ∈ allR n, suitsB r (rows.foldl stepL f) = true ↔ suitsB r f = true ∧ ∀ p ∈ rows, p.2 = true → suitsB r p.1 = true
  | [], f, hf, _ => ⟨hf, fun r hr => by simp⟩
  | p :: rows, f, hf, ho => by
    obtain ⟨h1, h2⟩ := stepL_ok k hf (ho p List.mem_cons_self)
    obtain ⟨h3, h4⟩ := foldL_ok k rows h1 fun q hq => ho q (List.mem_cons_of_mem _ hq)
    refine ⟨h3, fun r hr => ?_⟩
    rw [List.foldl_cons, h4 r hr, h2 r hr]
    constructor
    · rintro ⟨⟨a, b⟩, c⟩
      refine ⟨a, fun q hq => ?_⟩
      rcases List.mem_cons.mp hq with e | e
      · rw [e]; exact b
      · exact c q e
    · rintro ⟨a, b⟩
      exact ⟨⟨a, b p List.mem_cons_self⟩, fun q hq => b q (List.mem_cons_of_mem _ hq)⟩
theorem nines {n : Nat} (k : K12 n) : List.replicate n (9 : Int) ∈ allR n ∧ ∀ r ∈ allR n, suitsB r (List.replicate n 9) = true := by
  rcases k with rfl | rfl
  · refine ⟨allR_1.mpr ⟨9, rfl, by omega⟩, fun r hr => ?_⟩
    obtain ⟨x, rfl, hx⟩ := allR_1.mp hr
    show suitsB [x] [9] = true
    simp [le1]; omega
  · refine ⟨allR_2.mpr ⟨9, 9, rfl, by omega⟩, fun r hr => ?_⟩
    obtain ⟨x, y, rfl, hx⟩ := allR_2.mp hr
    show suitsB [x, y] [9, 9] = true
    simp [le2]; omega
theorem least_ok {n : Nat} (k : K12 n) {rows : List Row} (ho : OkRows n rows) : least n rows ∈ allR n ∧ ∀ r ∈ allR n, suitsB r (least n rows) = true ↔ ∀ p ∈ rows, p.2 = true → suitsB r p.1 = true := by
  obtain ⟨h1, h2⟩ := foldL_ok k rows (nines k).1 ho
  refine ⟨h1, fun r hr => ?_⟩
  unfold least
  rw [h2 r hr]
  exact ⟨fun z => z.2, fun z => ⟨(nines k).2 r hr, z⟩⟩

/-! ### the lowest -/
def stepU (top : List Int) (rules : List (List Int)) (p : Row) : List (List Int) := if p.2 = true then rules else leastL (rules.flatMap (shutR p.1 top))
def lowest (n : Nat) (rows : List Row) : List (List Int) := rows.foldl (stepU (least n rows)) [List.replicate n 0]
def cutR (Q : Pd) (p : Row) : Pd := if p.2 = true then Q else cut Q p.1
theorem fold_mins {n : Nat} (k : K12 n) {top : List Int} (ht : top ∈ allR n) : ∀ (rows : List Row) (Q : Pd), OkRows n rows → UpSet n top Q → rows.foldl (stepU top) (minsOf n Q) = minsOf n (rows.foldl cutR Q) ∧ UpSet n top (rows.foldl cutR Q)
  | [], Q, _, U => ⟨rfl, U⟩
  | p :: rows, Q, ho, U => by
    have hp := ho p List.mem_cons_self
    rw [List.foldl_cons, List.foldl_cons]
    unfold stepU cutR
    cases hw : p.2 with
    | true =>
      rw [if_pos rfl, if_pos rfl]
      exact fold_mins k ht rows Q (fun q hq => ho q (List.mem_cons_of_mem _ hq)) U
    | false =>
      rw [if_neg Bool.false_ne_true, if_neg Bool.false_ne_true, (step_mins k U ht hp).2]
      exact fold_mins k ht rows _ (fun q hq => ho q (List.mem_cons_of_mem _ hq)) (U.cut k hp)
theorem up0 {n : Nat} (k : K12 n) {top : List Int} (ht : top ∈ allR n) : UpSet n top (fun r => suitsB r top) := ⟨fun _ _ h => h, fun _ _ _ _ _ _ h => h⟩
theorem zero_min {n : Nat} (k : K12 n) {top : List Int} (ht : top ∈ allR n) : minsOf n (fun r => suitsB r top) = [List.replicate n 0] := by
  have z : List.replicate n (0 : Int) ∈ allR n ∧ ∀ r ∈ allR n, suitsB (List.replicate n 0) r = true := by
    rcases k with rfl | rfl
    · refine ⟨allR_1.mpr ⟨0, rfl, by omega⟩, fun r hr => ?_⟩
      obtain ⟨x, rfl, hx⟩ := allR_1.mp hr
      show suitsB [0] [x] = true
      simp [le1]; omega
    · refine ⟨allR_2.mpr ⟨0, 0, rfl, by omega⟩, fun r hr => ?_⟩
      obtain ⟨x, y, rfl, hx⟩ := allR_2.mp hr
      show suitsB [0, 0] [x, y] = true
      simp [le2]; omega
  have e : minsOf n (fun r => suitsB r top) = (allR n).filter fun r => decide (r = List.replicate n 0) := by
    unfold minsOf
    refine List.filter_congr fun r hr => ?_
    rw [Bool.eq_iff_iff, isMin_iff, decide_eq_true_eq]
    constructor
    · rintro ⟨h1, h2⟩
      exact (h2 _ z.1 (z.2 top ht) (z.2 r hr)).symm
    · rintro rfl
      exact ⟨z.2 top ht, fun s hs _ hl => le_anti k hs z.1 hl (z.2 s hs)⟩
  rw [e]
  rcases k with rfl | rfl <;> decide +kernel
theorem cutR_iff : ∀ (rows : List Row) (Q : Pd) (r : List Int), (rows.foldl cutR Q) r = true ↔ Q r = true ∧ ∀ p ∈ rows, p.2 = false → suitsB r p.1 = false
  | [], Q, r => by simp
  | p :: rows, Q, r => by
    rw [List.foldl_cons, cutR_iff rows]
    unfold cutR
    cases hw : p.2 with
    | true =>
      rw [if_pos rfl]
      simp [hw]
    | false =>
      rw [if_neg Bool.false_ne_true]
      unfold K42.cut
      rw [Bool.and_eq_true, Bool.not_eq_true']
      simp [hw, and_assoc]
theorem agree_iff {rows : List Row} {r : List Int} : agreeB rows r = true ↔ ∀ p ∈ rows, suitsB r p.1 = p.2 := by
  unfold agreeB
  rw [List.all_eq_true]
  exact ⟨fun h p hp => by simpa using h p hp, fun h p hp => by simpa using h p hp⟩
theorem cut_agree {n : Nat} (k : K12 n) {rows : List Row} (ho : OkRows n rows) : ∀ r ∈ allR n, (rows.foldl cutR (fun r => suitsB r (least n rows))) r = agreeB rows r := fun r hr => by
  rw [Bool.eq_iff_iff, cutR_iff, agree_iff, (least_ok k ho).2 r hr]
  constructor
  · rintro ⟨h1, h2⟩ p hp
    cases hw : p.2 with
    | true => exact h1 p hp hw
    | false => exact h2 p hp hw
  · intro h
    exact ⟨fun p hp hw => by rw [h p hp]; exact hw, fun p hp hw => by rw [h p hp]; exact hw⟩
theorem lowest_eq {n : Nat} (k : K12 n) {rows : List Row} (ho : OkRows n rows) : lowest n rows = minsOf n (agreeB rows) := by
  have ht := (least_ok k ho).1
  unfold lowest
  rw [← zero_min k ht, (fold_mins k ht rows _ ho (up0 k ht)).1]
  exact mins_congr (cut_agree k ho)
/-- the highest rule -/
def high (n : Nat) (rows : List Row) : Option (List Int) := if agreeB rows (least n rows) = true then some (least n rows) else none
theorem agree_le {n : Nat} (k : K12 n) {rows : List Row} (ho : OkRows n rows) {r : List Int} (hr : r ∈ allR n) (h : agreeB rows r = true) : suitsB r (least n rows) = true ∧ agreeB rows (least n rows) = true := by
  have hl := least_ok k ho
  rw [agree_iff] at h
  have h1 : suitsB r (least n rows) = true := (hl.2 r hr).mpr fun p hp hw => by rw [h p hp]; exact hw
  refine ⟨h1, agree_iff.mpr fun p hp => ?_⟩
  cases hw : p.2 with
  | true => exact (hl.2 _ hl.1).mp (le_refl k hl.1) p hp hw
  | false =>
    cases z : suitsB (least n rows) p.1 with
    | false => rfl
    | true =>
      have := le_trans k hr hl.1 (ho p hp) h1 z
      rw [h p hp, hw] at this
      cases this
end K42
namespace K42
open PySem PySem.Spec PyProof.Rows L2 PL

def going (n : Nat) (rows : List Row) : List (List Int) := (allR n).filter (agreeB rows)
theorem mem_going {n : Nat} {rows : List Row} {r : List Int} : r ∈ going n rows ↔ r ∈ allR n ∧ agreeB rows r = true := List.mem_filter
theorem sandwich {n : Nat} (k : K12 n) {rows : List Row} (ho : OkRows n rows) {l r t : List Int} (hl : l ∈ allR n) (hr : r ∈ allR n) (ht : t ∈ allR n) (al : agreeB rows l = true) (at_ : agreeB rows t = true) (h1 : suitsB l r = true) (h2 : suitsB r t = true) : agreeB rows r = true := by
  rw [agree_iff] at al at_ ⊢
  intro p hp
  cases hw : p.2 with
  | true => exact le_trans k hr ht (ho p hp) h2 (by rw [at_ p hp]; exact hw)
  | false =>
    cases z : suitsB r p.1 with
    | false => rfl
    | true =>
      have := le_trans k hl hr (ho p hp) h1 z
      rw [al p hp, hw] at this
      cases this
theorem high_some {n : Nat} (k : K12 n) {rows : List Row} (ho : OkRows n rows) {r : List Int} (hr : r ∈ allR n) (h : agreeB rows r = true) : high n rows = some (least n rows) := if_pos (agree_le k ho hr h).2
theorem low_mem {n : Nat} (k : K12 n) {rows : List Row} (ho : OkRows n rows) {r : List Int} (h : r ∈ lowest n rows) : r ∈ allR n ∧ agreeB rows r = true := by
  rw [lowest_eq k ho] at h
  obtain ⟨h1, h2, _⟩ := mem_mins.mp h
  exact ⟨h1, h2⟩
theorem low_ex {n : Nat} (k : K12 n) {rows : List Row} (ho : OkRows n rows) {r : List Int} (hr : r ∈ allR n) (h : agreeB rows r = true) : ∃ l ∈ lowest n rows, suitsB l r = true := by
  rw [lowest_eq k ho]
  exact exists_min' k hr h
theorem bounds_going {n : Nat} (k : K12 n) {rows rows' : List Row} (ho : OkRows n rows) (ho' : OkRows n rows') (h1 : high n rows = high n rows') (h2 : lowest n rows = lowest n rows') : ∀ r ∈ allR n, agreeB rows r = true → agreeB rows' r = true := fun r hr h => by
  have e1 := high_some k ho hr h
  obtain ⟨l, hl, hle⟩ := low_ex k ho hr h
  rw [h2] at hl
  obtain ⟨l1, l2⟩ := low_mem k ho' hl
  have e2 := high_some k ho' l1 l2
  have e3 : least n rows = least n rows' := by
    rw [h1, e2] at e1
    exact (Option.some.inj e1).symm
  have h3 := (agree_le k ho hr h).1
  rw [e3] at h3
  exact sandwich k ho' l1 hr (least_ok k ho').1 l2 (agree_le k ho' l1 l2).2 hle h3
theorem going_bounds {n : Nat} (k : K12 n) {rows rows' : List Row} (ho : OkRows n rows) (ho' : OkRows n rows') (h : ∀ r ∈ allR n, agreeB rows r = agreeB rows' r) : high n rows = high n rows' ∧ lowest n rows = lowest n rows' := by
  refine ⟨?_, by rw [lowest_eq k ho, lowest_eq k ho']; exact mins_congr h⟩
  have t1 := (least_ok k ho).1
  have t2 := (least_ok k ho').1
  unfold high
  by_cases a : agreeB rows (least n rows) = true
  · have a' := a
    rw [h _ t1] at a'
    obtain ⟨b1, b2⟩ := agree_le k ho' t1 a'
    have b3 := b2
    rw [← h _ t2] at b3
    have e := le_anti k t1 t2 b1 (agree_le k ho t2 b3).1
    rw [if_pos a, if_pos b2, e]
  · by_cases a2 : agreeB rows' (least n rows') = true
    · have a3 := a2
      rw [← h _ t2] at a3
      exact absurd (agree_le k ho t2 a3).2 a
    · rw [if_neg a, if_neg a2]
theorem bounds_iff {n : Nat} (k : K12 n) {rows rows' : List Row} (ho : OkRows n rows) (ho' : OkRows n rows') : (high n rows = high n rows' ∧ lowest n rows = lowest n rows') ↔ going n rows = going n rows' := by
  constructor
  · rintro ⟨h1, h2⟩
    refine List.filter_congr fun r hr => ?_
    rw [Bool.eq_iff_iff]
    exact ⟨bounds_going k ho ho' h1 h2 r hr, bounds_going k ho' ho h1.symm h2.symm r hr⟩
  · intro h
    refine going_bounds k ho ho' fun r hr => ?_
    rw [Bool.eq_iff_iff]
    constructor
    · intro z
      have : r ∈ going n rows' := by rw [← h]; exact mem_going.mpr ⟨hr, z⟩
      exact (mem_going.mp this).2
    · intro z
      have : r ∈ going n rows := by rw [h]; exact mem_going.mpr ⟨hr, z⟩
      exact (mem_going.mp this).2
theorem single {n : Nat} (k : K12 n) : ∀ r ∈ allR n, ((allR n).filter fun x => decide (x = r)) = [r] := by
  rcases k with rfl | rfl <;> decide +kernel
theorem teach_iff {n : Nat} (k : K12 n) {rows : List Row} (ho : OkRows n rows) {r : List Int} (hr : r ∈ allR n) : (high n rows = some r ∧ lowest n rows = [r]) ↔ going n rows = [r] := by
  constructor
  · rintro ⟨h1, h2⟩
    rw [← single k r hr]
    refine List.filter_congr fun x hx => ?_
    have ht : least n rows = r ∧ agreeB rows r = true := by
      unfold high at h1
      split at h1
      · rename_i a
        have e := Option.some.inj h1
        rw [e] at a
        exact ⟨e, a⟩
      · cases h1
    rw [Bool.eq_iff_iff, decide_eq_true_eq]
    constructor
    · intro a
      obtain ⟨l, hl, hle⟩ := low_ex k ho hx a
      rw [h2] at hl
      rw [List.mem_singleton.mp hl] at hle
      have := (agree_le k ho hx a).1
      rw [ht.1] at this
      exact le_anti k hx hr this hle
    · rintro rfl
      exact ht.2
  · intro h
    have hr2 : agreeB rows r = true := (mem_going.mp (by rw [h]; exact List.mem_singleton.mpr rfl : r ∈ going n rows)).2
    have un : ∀ x ∈ allR n, agreeB rows x = true → x = r := fun x hx a => by
      have : x ∈ going n rows := mem_going.mpr ⟨hx, a⟩
      rw [h] at this
      exact List.mem_singleton.mp this
    have e : least n rows = r := un _ (least_ok k ho).1 (agree_le k ho hr hr2).2
    refine ⟨by rw [high_some k ho hr hr2, e], ?_⟩
    rw [lowest_eq k ho, ← h]
    unfold minsOf going
    refine List.filter_congr fun x hx => ?_
    rw [Bool.eq_iff_iff, isMin_iff]
    exact ⟨fun z => z.1, fun z => ⟨z, fun s hs a _ => by rw [un s hs a, un x hx z]⟩⟩

/-! ### lessons -/
def lessonRows (r : List Int) : List Row := (if (r.any fun x => decide (x < 9)) = true then [(r, true)] else []) ++ (r.zipIdx.flatMap fun p => if 0 < p.1 then [((List.replicate r.length (9 : Int)).set p.2 (p.1 - 1), false)] else [])
theorem no_agree {rows : List Row} {r : List Int} (h : agreeB rows r ≠ true) : ∃ p ∈ rows, suitsB r p.1 ≠ p.2 := Classical.byContradiction fun z => h (agree_iff.mpr fun p hp => Classical.byContradiction fun y => z ⟨p, hp, y⟩)
theorem fewest {n : Nat} (k : K12 n) {rows : List Row} (ho : OkRows n rows) {r : List Int} (hr : r ∈ allR n) (h : going n rows = [r]) : (lessonRows r).length ≤ rows.length := by
  have ag : ∀ p ∈ rows, suitsB r p.1 = p.2 := agree_iff.mp (mem_going.mp (by rw [h]; exact List.mem_singleton.mpr rfl : r ∈ going n rows)).2
  have un : ∀ x ∈ allR n, x ≠ r → ∃ p ∈ rows, suitsB x p.1 ≠ p.2 := fun x hx ne => no_agree fun a => ne (by
    have : x ∈ going n rows := mem_going.mpr ⟨hx, a⟩
    rw [h] at this
    exact List.mem_singleton.mp this)
  rcases k with rfl | rfl
  · obtain ⟨x, rfl, hx⟩ := allR_1.mp hr
    have fit : x < 9 → ∃ p ∈ rows, p.2 = true := fun hlt => by
      obtain ⟨p, hp, ne⟩ := un [9] (allR_1.mpr ⟨9, rfl, by omega⟩) (by simp; omega)
      obtain ⟨u, e, hu⟩ := allR_1.mp (ho p hp)
      have a := ag p hp
      rw [e, le1] at a ne
      refine ⟨p, hp, ?_⟩
      cases hw : p.2 with
      | true => rfl
      | false => rw [hw] at a ne; simp at a ne; omega
    have unf : 0 < x → ∃ p ∈ rows, p.2 = false := fun hlt => by
      obtain ⟨p, hp, ne⟩ := un [x - 1] (allR_1.mpr ⟨x - 1, rfl, by omega⟩) (by simp; omega)
      obtain ⟨u, e, hu⟩ := allR_1.mp (ho p hp)
      have a := ag p hp
      rw [e, le1] at a ne
      refine ⟨p, hp, ?_⟩
      cases hw : p.2 with
      | false => rfl
      | true => rw [hw] at a ne; simp at a ne; omega
    by_cases h9 : x < 9 <;> by_cases h0 : 0 < x
    · obtain ⟨p, hp, e⟩ := fit h9
      obtain ⟨q, hq, e'⟩ := unf h0
      have := nodup_len (l := [p, q]) (m := rows) (by simp; intro z; rw [z, e'] at e; cases e) (by simp [hp, hq])
      simp [lessonRows, h9, h0]
      simpa using this
    · obtain ⟨p, hp, e⟩ := fit h9
      have := List.length_pos_of_mem hp
      simp [lessonRows, h9, h0]
      omega
    · obtain ⟨p, hp, e⟩ := unf h0
      have := List.length_pos_of_mem hp
      simp [lessonRows, h9, h0]
      omega
    · simp [lessonRows, h9, h0]
  · obtain ⟨x, y, rfl, hx, hy⟩ := allR_2.mp hr
    have fit : x < 9 ∨ y < 9 → ∃ p ∈ rows, p.2 = true := fun hlt => by
      obtain ⟨p, hp, ne⟩ := un [9, 9] (allR_2.mpr ⟨9, 9, rfl, by omega⟩) (by simp; omega)
      obtain ⟨u, v, e, hu, hv⟩ := allR_2.mp (ho p hp)
      have a := ag p hp
      rw [e, le2] at a ne
      refine ⟨p, hp, ?_⟩
      cases hw : p.2 with
      | true => rfl
      | false => rw [hw] at a ne; simp at a ne; omega
    have unf1 : 0 < x → ∃ p ∈ rows, p.2 = false ∧ p.1.headD 0 < x := fun hlt => by
      obtain ⟨p, hp, ne⟩ := un [x - 1, y] (allR_2.mpr ⟨x - 1, y, rfl, by omega⟩) (by simp; omega)
      obtain ⟨u, v, e, hu, hv⟩ := allR_2.mp (ho p hp)
      have a := ag p hp
      rw [e, le2] at a ne
      refine ⟨p, hp, ?_⟩
      rw [e]
      cases hw : p.2 with
      | false => rw [hw] at a ne; simp at a ne ⊢; omega
      | true => rw [hw] at a ne; simp at a ne; omega
    have unf2 : 0 < y → ∃ p ∈ rows, p.2 = false ∧ x ≤ p.1.headD 0 := fun hlt => by
      obtain ⟨p, hp, ne⟩ := un [x, y - 1] (allR_2.mpr ⟨x, y - 1, rfl, by omega⟩) (by simp; omega)
      obtain ⟨u, v, e, hu, hv⟩ := allR_2.mp (ho p hp)
      have a := ag p hp
      rw [e, le2] at a ne
      refine ⟨p, hp, ?_⟩
      rw [e]
      cases hw : p.2 with
      | false => rw [hw] at a ne; simp at a ne ⊢; omega
      | true => rw [hw] at a ne; simp at a ne; omega
    have ex : ∃ l : List Row, l.Nodup ∧ (∀ p ∈ l, p ∈ rows) ∧ l.length = (lessonRows [x, y]).length := by
      by_cases h9 : x < 9 ∨ y < 9 <;> by_cases h0 : 0 < x <;> by_cases h1 : 0 < y
      · obtain ⟨p, hp, e⟩ := fit h9
        obtain ⟨q, hq, e1, e2⟩ := unf1 h0
        obtain ⟨s, hs, e3, e4⟩ := unf2 h1
        refine ⟨[p, q, s], ?_, by simp [hp, hq, hs], by simp [lessonRows, h9, h0, h1]⟩
        simp
        refine ⟨⟨fun z => ?_, fun z => ?_⟩, fun z => ?_⟩
        · rw [z, e1] at e; cases e
        · rw [z, e3] at e; cases e
        · rw [z] at e2; omega
      · obtain ⟨p, hp, e⟩ := fit h9
        obtain ⟨q, hq, e1, e2⟩ := unf1 h0
        refine ⟨[p, q], ?_, by simp [hp, hq], by simp [lessonRows, h9, h0, h1]⟩
        simp
        intro z; rw [z, e1] at e; cases e
      · obtain ⟨p, hp, e⟩ := fit h9
        obtain ⟨s, hs, e3, e4⟩ := unf2 h1
        refine ⟨[p, s], ?_, by simp [hp, hs], by simp [lessonRows, h9, h0, h1]⟩
        simp
        intro z; rw [z, e3] at e; cases e
      · obtain ⟨p, hp, e⟩ := fit h9
        exact ⟨[p], by simp, by simp [hp], by simp [lessonRows, h9, h0, h1]⟩
      · obtain ⟨q, hq, e1, e2⟩ := unf1 h0
        obtain ⟨s, hs, e3, e4⟩ := unf2 h1
        refine ⟨[q, s], ?_, by simp [hq, hs], by simp [lessonRows, h9, h0, h1]⟩
        simp
        intro z; rw [z] at e2; omega
      · omega
      · omega
      · omega
    obtain ⟨l, h1, h2, h3⟩ := ex
    rw [← h3]
    exact nodup_len h1 h2
theorem lesson_going {n : Nat} (k : K12 n) : ∀ r ∈ allR n, going n (lessonRows r) = [r] := by
  rcases k with rfl | rfl <;> decide +kernel
theorem lesson_ok {n : Nat} (k : K12 n) : ∀ r ∈ allR n, ∀ p ∈ lessonRows r, p.1 ∈ allR n := by
  rcases k with rfl | rfl <;> decide +kernel

/-! ### told -/
inductive Tl where
  | no | fit | unfit | opn
  deriving DecidableEq
def toldM (n : Nat) (rows : List Row) (b : List Int) : Tl := match high n rows with
  | none => .no
  | some t => if suitsB t b = true then .fit else if ((lowest n rows).any fun l => suitsB l b) = true then .opn else .unfit
theorem told_more {n : Nat} (k : K12 n) {rows : List Row} (ho : OkRows n rows) {p : Row} (hp : p.1 ∈ allR n) {b : List Int} (hb : b ∈ allR n) (h : toldM n rows b ≠ .opn) : toldM n (rows ++ [p]) b = toldM n rows b ∨ toldM n (rows ++ [p]) b = .no := by
  have ho' : OkRows n (rows ++ [p]) := fun q hq => by
    rcases List.mem_append.mp hq with e | e
    · exact ho q e
    · rw [List.mem_singleton.mp e]; exact hp
  have sub : ∀ r, agreeB (rows ++ [p]) r = true → agreeB rows r = true := fun r a => agree_iff.mpr fun q hq => agree_iff.mp a q (List.mem_append_left _ hq)
  by_cases a' : agreeB (rows ++ [p]) (least n (rows ++ [p])) = true
  · have t' := (least_ok k ho').1
    have a := sub _ a'
    obtain ⟨a1, a2⟩ := agree_le k ho t' a
    have t := (least_ok k ho).1
    have e1 : high n (rows ++ [p]) = some (least n (rows ++ [p])) := if_pos a'
    have e2 : high n rows = some (least n rows) := if_pos a2
    left
    unfold toldM at h ⊢
    rw [e1, e2]
    rw [e2] at h
    by_cases s : suitsB (least n rows) b = true
    · have s' := le_trans k t' t hb a1 s
      simp [s, s']
    · by_cases l : ((lowest n rows).any fun l => suitsB l b) = true
      · exact absurd (by simp [s, l]) h
      · have s' : ¬ suitsB (least n (rows ++ [p])) b = true := fun z => l (by
          obtain ⟨lo, hlo, hle⟩ := low_ex k ho t' a
          exact List.any_eq_true.mpr ⟨lo, hlo, le_trans k (low_mem k ho hlo).1 t' hb hle z⟩)
        have l' : ¬ ((lowest n (rows ++ [p])).any fun l => suitsB l b) = true := fun z => l (by
          obtain ⟨q, hq, hqb⟩ := List.any_eq_true.mp z
          obtain ⟨q1, q2⟩ := low_mem k ho' hq
          obtain ⟨lo, hlo, hle⟩ := low_ex k ho q1 (sub q q2)
          exact List.any_eq_true.mpr ⟨lo, hlo, le_trans k (low_mem k ho hlo).1 q1 hb hle hqb⟩)
        simp [s, l, s', l']
  · right
    have e1 : high n (rows ++ [p]) = none := if_neg a'
    unfold toldM
    rw [e1]
end K42
namespace K42
open PySem PySem.Spec PyProof.Rows L2 PL
theorem sz1 {a : Nat} (h : a ≤ 1000) : a ≤ SZ := by unfold SZ; omega
theorem tupsD_mk : ∀ X : List (List Int), tupsD (X.map mk) = some X
  | [] => rfl
  | x :: X => by
    rw [List.map_cons]
    unfold mk
    rw [tupsD, intsD_map, Option.bind_some]
    have := tupsD_mk X
    unfold mk at this
    rw [this]
    rfl
theorem srtSet_mk {n : Nat} (k : K12 n) {X : List (List Int)} (h : ∀ x ∈ X, x ∈ allR n) (hl : X.length < 64) : srtSetD (.l (X.map mk)) = some (.l ((srtT X).map mk)) := by
  have hw : 1 ≤ widthT X ∧ sameB (widthT X) X = true := by
    cases X with
    | nil => exact ⟨Nat.le_refl _, rfl⟩
    | cons x X =>
      have hx := allR_len k (h x List.mem_cons_self)
      refine ⟨by show 1 ≤ x.length; rw [hx]; rcases k with rfl | rfl <;> omega, List.all_eq_true.mpr fun y hy => ?_⟩
      have hy1 := allR_len k (h y hy)
      have e : y.length = widthT (x :: X) := by show y.length = x.length; rw [hx, hy1]
      rw [Bool.and_eq_true, decide_eq_true_eq, List.all_eq_true]
      refine ⟨e, fun m hm => ?_⟩
      have := allR_dig k (h y hy) m hm
      rw [Bool.and_eq_true, decide_eq_true_eq]
      exact ⟨this.1, absLe_of (by omega)⟩
  rw [srtSetD, tupsD_mk, Option.bind_some]
  rw [if_pos (by rw [hw.2, decide_eq_true hl, decide_eq_true hw.1]; rfl)]
  rfl
theorem foldK_len : ∀ (l acc : List (List Int)), (l.foldl stepK acc).length ≤ acc.length + l.length
  | [], acc => Nat.le_refl _
  | x :: l, acc => by
    rw [List.foldl_cons, List.length_cons]
    have := foldK_len l (stepK acc x)
    have h2 : (stepK acc x).length ≤ acc.length + 1 := by
      unfold stepK
      split
      · omega
      · simp
    omega
theorem foldK_sub : ∀ (l acc : List (List Int)) (r : List Int), r ∈ l.foldl stepK acc → r ∈ acc ∨ r ∈ l
  | [], acc, r, h => .inl h
  | x :: l, acc, r, h => by
    rw [List.foldl_cons] at h
    rcases foldK_sub l _ r h with e | e
    · unfold stepK at e
      split at e
      · exact .inl e
      · rcases List.mem_append.mp e with q | q
        · exact .inl q
        · rw [List.mem_singleton.mp q]; exact .inr List.mem_cons_self
    · exact .inr (List.mem_cons_of_mem _ e)
def OkSuits (c : Str → List D → Option D) (n : Nat) : Prop := ∀ r ∈ allR n, ∀ s ∈ allR n, c "suits" [mk r, mk s] = some (.b (suitsB r s))
section
variable {c : Str → List D → Option D} {n : Nat}
theorem srtT_len {n : Nat} (k : K12 n) {X : List (List Int)} (h : ∀ x ∈ X, x ∈ allR n) : (srtT X).length ≤ X.length := nodup_len (srtT_nodup fun r hr => allR_same k r (h r hr)) fun x hx => srtT_mem.mp hx
theorem least_of_eq (k : K12 n) (hs : OkSuits c n) {X : List (List Int)} (h : ∀ x ∈ X, x ∈ allR n) (hl : X.length < 64) : S_least_of c [.l (X.map mk)] = some (.l ((leastL X).map mk)) := by
  have hS : ∀ r ∈ srtT X, r ∈ allR n := fun r hr => h r (srtT_mem.mp hr)
  have hSl := srtT_len k h
  obtain ⟨env', h1, c2, rfl⟩ := forV_inv (t := .nm 2) (fb := (seqF (ifF (notT (asT (callV anyD (consL (lcV (itP (vB 1)) (.nm 4) tY (callV (c "suits") (consL (vV 4) (consL (vV 2) a0))) [3, 4]) a0))))
      (seqF (appF 1 (vV 2))
      nop)
      nop)
    nop)) (fun j env => ∃ c2, env = [.v (.l (X.map mk)), .o (.l ((((srtT X).take j).foldl stepK []).map mk)), c2, .no, .no]) ((srtT X).map mk) 0 [.v (.l (X.map mk)), .o (.l []), .no, .no, .no] ⟨.no, rfl⟩ (fun j d env hd hp => by
      obtain ⟨c2, rfl⟩ := hp
      rw [Nat.zero_add]
      rw [List.getElem?_map] at hd
      obtain ⟨r, hr, rfl⟩ := map_some' hd
      have hj := (List.getElem?_eq_some_iff.mp hr).1
      have hrm : r ∈ srtT X := List.mem_of_getElem? hr
      generalize hf : ((srtT X).take j).foldl stepK [] = f
      have hfl : f.length ≤ j := by
        rw [← hf]
        have := foldK_len ((srtT X).take j) []
        rw [List.length_take] at this
        simp at this
        omega
      have hfs : ∀ o ∈ f, o ∈ allR n := fun o ho => by
        rw [← hf] at ho
        rcases foldK_sub _ _ _ ho with e | e
        · cases e
        · exact hS o (List.mem_of_mem_take e)
      have e2 : ((srtT X).take (j + 1)).foldl stepK [] = stepK f r := by
        rw [List.take_succ, hr, List.foldl_append, hf]
        rfl
      rw [e2]
      have e := compD_map (t := .nm 4) (ft := tY) (f := callV (c "suits") (consL (vV 4) (consL (vV 2) a0))) (env := [.v (.l (X.map mk)), .o (.l (f.map mk)), .v (mk r), .no, .no]) mk (fun o => .b (suitsB o r)) f (fun o ho => ⟨_, rfl, rfl, by simp [hs o (hfs o ho) r (hS r hrm)]⟩)
      refine ⟨_, [.v (.l (X.map mk)), .o (.l ((stepK f r).map mk)), .v (mk r), .no, .no], rfl, .inl ?_, _, rfl⟩
      have z1 : f.length ≤ SZ := sz1 (by omega)
      have z2 : f.length < SZ := by unfold SZ; omega
      unfold stepK
      cases ha : (f.any fun o => suitsB o r) with
      | true => simp [-anyD, e, z1, anyD_map, ha]
      | false => simp [-anyD, e, z1, z2, anyD_map, ha])
  rw [List.length_map, Nat.zero_add, List.take_length] at h1
  simp [S_least_of, srtSet_mk k h hl, h1]
  rfl
def OkShut (c : Str → List D → Option D) (n : Nat) : Prop := ∀ (rules : List (List Int)) (b top : List Int), (∀ r ∈ rules, r ∈ allR n) → b ∈ allR n → top ∈ allR n → rules.length ≤ 100 → c "shut_out" [.l (rules.map mk), mk b, mk top] = some (.l ((rules.flatMap (shutR b top)).map mk))
def OkLeast (c : Str → List D → Option D) (n : Nat) : Prop := ∀ X : List (List Int), (∀ x ∈ X, x ∈ allR n) → X.length < 64 → c "least_of" [.l (X.map mk)] = some (.l ((leastL X).map mk))
theorem ok_shut (k : K12 n) (hs : OkSuits c n) (rules : List (List Int)) (b top : List Int) (hr : ∀ r ∈ rules, r ∈ allR n) (hb : b ∈ allR n) (ht : top ∈ allR n) (hl : rules.length ≤ 100) : S_shut_out c [.l (rules.map mk), mk b, mk top] = some (.l ((rules.flatMap (shutR b top)).map mk)) :=
  shut_out_eq (n := n) (fun r h => allR_len k (hr r h)) (allR_len k hb) (allR_len k ht) (by rcases k with rfl | rfl <;> omega) (fun r h => hs r (hr r h) b hb) (sz1 (by
    have := flat_len (shutR b top) 2 rules fun r _ => shut_len k hb
    omega))
theorem lowest_rules_eq (k : K12 n) {rows : List Row} (ho : OkRows n rows) (h1 : c "least_marks" [gr n rows] = some (mk (least n rows))) (h2 : OkShut c n) (h3 : OkLeast c n) : S_lowest_rules c [gr n rows] = some (.t ((lowest n rows).map mk)) := by
  have ht := (least_ok k ho).1
  obtain ⟨env', g1, c5, c6, rfl⟩ := forV_inv (t := .tp [.nm 5, .nm 6]) (fb := (seqF (ifF (asB (bind2 eqqD (vB 6) (kS "unfit")))
      (seqF (asgF (.nm 4) (callV (c "least_of") (consL (callV (c "shut_out") (consL (vV 4) (consL (vV 5) (consL (vV 3) a0)))) a0)))
      nop)
      nop)
    nop)) (fun j env => ∃ c5 c6, env = [.v (gr n rows), .v (.i n), .v (.t (rows.map row)), .v (mk (least n rows)), .v (.l (((rows.take j).foldl (stepU (least n rows)) [List.replicate n 0]).map mk)), c5, c6]) (rows.map row) 0
    [.v (gr n rows), .v (.i n), .v (.t (rows.map row)), .v (mk (least n rows)), .v (.l [mk (List.replicate n 0)]), .no, .no] ⟨.no, .no, rfl⟩ (fun j d env hd hp => by
      obtain ⟨c5, c6, rfl⟩ := hp
      rw [Nat.zero_add]
      rw [List.getElem?_map] at hd
      obtain ⟨p, hr, rfl⟩ := map_some' hd
      have hpm : p ∈ rows := List.mem_of_getElem? hr
      have e2 : (rows.take (j + 1)).foldl (stepU (least n rows)) [List.replicate n 0] = stepU (least n rows) ((rows.take j).foldl (stepU (least n rows)) [List.replicate n 0]) p := by
        rw [List.take_succ, hr, List.foldl_append]
        rfl
      rw [e2]
      have ho' : OkRows n (rows.take j) := fun q hq => ho q (List.mem_of_mem_take hq)
      have hF := fold_mins k ht (rows.take j) _ ho' (up0 k ht)
      rw [zero_min k ht] at hF
      rw [hF.1]
      generalize (rows.take j).foldl cutR (fun r => suitsB r (least n rows)) = Q at hF
      obtain ⟨i1, i2⟩ := step_mins k hF.2 ht (ho p hpm)
      have hm := mins_len k Q
      have hsl : ((minsOf n Q).flatMap (shutR p.1 (least n rows))).length < 64 := by
        have := flat_len (shutR p.1 (least n rows)) 2 (minsOf n Q) fun r _ => shut_len k (ho p hpm)
        omega
      have q1 := h2 (minsOf n Q) p.1 (least n rows) (fun r hr => (mem_mins.mp hr).1) (ho p hpm) ht (by omega)
      have q2 := h3 _ i1 hsl
      refine ⟨_, [.v (gr n rows), .v (.i n), .v (.t (rows.map row)), .v (mk (least n rows)), .v (.l ((stepU (least n rows) (minsOf n Q) p).map mk)), .v (mk p.1), .v (wd p.2)], rfl, .inl ?_, _, _, rfl⟩
      unfold stepU
      cases hw : p.2 with
      | true => simp [-eqqD, wd_unfit]
      | false => simp [-eqqD, wd_unfit, q1, q2])
  rw [List.length_map, Nat.zero_add, List.take_length] at g1
  have hm : mulD (.t [.i 0]) (.i n) = some (mk (List.replicate n 0)) := by
    have hn : n ≤ 2 := by rcases k with rfl | rfl <;> omega
    rw [mulD, if_pos ⟨by omega, absLe_of (by simp; omega), by simp⟩]
    unfold mk
    simp
  have z : 1 ≤ SZ := sz1 (by omega)
  unfold gr at h1 g1 ⊢
  simp [-mulD, S_lowest_rules, hm, h1, g1, z]
  rfl
def tlD : Tl → D
  | .no => .n
  | .fit => .s "fit"
  | .unfit => .s "unfit"
  | .opn => .s "open"
theorem word_of_eq {rows : List Row} {b : List Int} (h1 : c "highest_rule" [gr n rows] = some (match high n rows with | some t => mk t | none => .n)) (h2 : ∀ t, high n rows = some t → c "suits" [mk t, mk b] = some (.b (suitsB t b)))
    (h3 : c "lowest_rules" [gr n rows] = some (.t ((lowest n rows).map mk))) (h4 : c "first_letting" [.t ((lowest n rows).map mk), mk b] = some (match (lowest n rows).find? (suitsB · b) with
    | some r => mk r
    | none => .n)) : S_word_of c [gr n rows, mk b] = some (tlD (toldM n rows b)) := by
  unfold toldM
  cases hh : high n rows with
  | none =>
    rw [hh] at h1
    simp [S_word_of, h1, isND, tlD]
  | some t =>
    rw [hh] at h1
    have h2 := h2 t hh
    by_cases hs : suitsB t b = true
    · rw [hs] at h2
      simp [S_word_of, h1, h2, hs, isND, tlD, mk]
      simp [mk] at h2
      simp [h2]
    · have hs : suitsB t b = false := by simpa using hs
      rw [hs] at h2
      cases hf : (lowest n rows).find? (suitsB · b) with
      | none =>
        rw [hf] at h4
        have ha : ((lowest n rows).any fun l => suitsB l b) = false := by
          rw [← Bool.not_eq_true, List.any_eq_true]
          rintro ⟨x, hx, hxb⟩
          rw [List.find?_eq_none] at hf
          exact hf x hx hxb
        unfold mk at h1 h2 h3 h4 ⊢
        simp [S_word_of, h1, h2, h3, h4, hs, isND, tlD, ha]
      | some r =>
        rw [hf] at h4
        have ha : ((lowest n rows).any fun l => suitsB l b) = true := List.any_eq_true.mpr ⟨r, List.mem_of_find?_eq_some hf, by simpa using List.find?_some hf⟩
        unfold mk at h1 h2 h3 h4 ⊢
        simp [S_word_of, h1, h2, h3, h4, hs, isND, tlD, ha]
end
end K42
namespace K42
open PySem PySem.Spec PyProof.Rows L2 PL
@[simp] theorem atI_0 {α : Type} (a : α) (l : List α) : atI (a :: l) 0 = some a := by
  have := atI_nat (xs := a :: l) (p := 0) (by simp)
  simpa using this
@[simp] theorem atI_1 {α : Type} (a b : α) (l : List α) : atI (a :: b :: l) 1 = some b := by
  have := atI_nat (xs := a :: b :: l) (p := 1) (by simp)
  simpa using this
/-- a tuple, or a list (l) -/
def sq (l : Bool) (xs : List D) : D := if l = true then .l xs else .t xs
def mkQ (l : Bool) (b : List Int) : D := sq l (b.map .i)
def rowQ (l : Bool) (p : Row) : D := sq l [mkQ l p.1, wd p.2]
def grQ (l : Bool) (n : Nat) (rows : List Row) : D := sq l [.i n, sq l (rows.map (rowQ l))]
theorem mkQ_t (b : List Int) : mkQ false b = mk b := rfl
theorem grQ_t (n : Nat) (rows : List Row) : grQ false n rows = gr n rows := rfl
section
variable {c : Str → List D → Option D} {n : Nat}
theorem is_seq_q (l : Bool) (xs : List D) : S_is_seq c [sq l xs] = some (.b true) := by cases l <;> simp [S_is_seq, sq]
theorem is_long_q {l : Bool} {xs : List D} {lo hi : Int} (h : c "is_seq" [sq l xs] = some (.b true)) : S_is_long c [sq l xs, .i lo, .i hi] = some (.b (decide (lo ≤ xs.length) && decide ((xs.length : Int) ≤ hi))) := by
  cases l
  · exact is_long_t h
  · exact is_long_l h
theorem is_marks_q {l : Bool} {b : List Int} {m : Int} (hb : b.length ≤ 100) (h1 : c "is_long" [mkQ l b, .i m, .i m] = some (.b true)) (h2 : ∀ x ∈ b, c "is_from" [.i x, .i 0, .i 9] = some (.b true)) : S_is_marks c [mkQ l b, .i m] = some (.b true) := by
  have e := compD_map (t := .nm 3) (ft := tY) (f := callV (c "is_from") (consL (vV 3) (consL (kI 0) (consL (kI 9) a0)))) (env := [.v (mkQ l b), .v (.i m), .no, .no]) D.i (fun _ => .b true) b (fun x hx => ⟨_, rfl, rfl, by simp [h2 x hx]⟩)
  have z : b.length ≤ SZ := sz1 (by omega)
  have a := allD_map (fun _ : Int => true) b
  have a2 : (b.all fun _ => true) = true := List.all_eq_true.mpr fun _ _ => rfl
  rw [a2] at a
  cases l
  · simp [mkQ, sq] at e h1 ⊢
    simp [S_is_marks, h1, e, z, -allD, a]
  · simp [mkQ, sq] at e h1 ⊢
    simp [S_is_marks, h1, e, z, -allD, a]
theorem wd_in (w : Bool) : inD (wd w) (.t [.s "fit", .s "unfit"]) = some (.b true) := by cases w <;> decide +kernel
theorem is_row_q {l : Bool} {p : Row} {m : Int} (h1 : c "is_long" [rowQ l p, .i 2, .i 2] = some (.b true)) (h2 : c "is_marks" [mkQ l p.1, .i m] = some (.b true)) : S_is_row c [rowQ l p, .i m] = some (.b true) := by
  have z : 2 ≤ SZ := sz1 (by omega)
  cases l
  · simp [rowQ, sq] at h1 h2 ⊢
    simp [S_is_row, h1, h2, z, -inD, wd_in]
  · simp [rowQ, sq] at h1 h2 ⊢
    simp [S_is_row, h1, h2, z, -inD, wd_in]
theorem is_grades_q {l : Bool} {rows : List Row} (hr : rows.length ≤ 100) (h1 : c "is_long" [grQ l n rows, .i 2, .i 2] = some (.b true)) (h2 : c "is_from" [.i n, .i 1, .i 4] = some (.b true)) (h3 : c "is_long" [sq l (rows.map (rowQ l)), .i 0, .i 20] = some (.b true))
    (h4 : ∀ p ∈ rows, c "is_row" [rowQ l p, .i n] = some (.b true)) : S_is_grades c [grQ l n rows] = some (.b true) := by
  have e := compD_map (t := .nm 2) (ft := tY) (f := callV (c "is_row") (consL (vV 2) (consL (bind2 ixD (vB 0) (kI 0)) a0))) (env := [.v (grQ l n rows), .no, .no]) (rowQ l) (fun _ => .b true) rows (fun x hx => ⟨_, rfl, rfl, by
    have := h4 x hx
    cases l <;> simp [grQ, sq, this]⟩)
  have z : rows.length ≤ SZ := sz1 (by omega)
  have a := allD_map (fun _ : Row => true) rows
  have a2 : (rows.all fun _ => true) = true := List.all_eq_true.mpr fun _ _ => rfl
  rw [a2] at a
  cases l
  · simp [grQ, sq] at e h1 h3 ⊢
    simp [S_is_grades, h1, h2, h3, e, z, -allD, a]
  · simp [grQ, sq] at e h1 h3 ⊢
    simp [S_is_grades, h1, h2, h3, e, z, -allD, a]
theorem need_grades_q {d d' : D} (h1 : c "is_grades" [d] = some (.b true)) (h2 : c "need" [.b true, .i 1] = some .n) (h3 : c "plain" [d] = some d') : S_need_grades c [d] = some d' := by
  simp [S_need_grades, h1, h2, h3]
theorem is_any_q {l : Bool} {b : List Int} (h1 : c "is_long" [mkQ l b, .i 1, .i 4] = some (.b true)) (h2 : c "is_marks" [mkQ l b, .i b.length] = some (.b true)) : S_is_any_marks c [mkQ l b] = some (.b true) := by
  cases l
  · simp [mkQ, sq] at h1 h2 ⊢
    simp [S_is_any_marks, h1, h2]
  · simp [mkQ, sq] at h1 h2 ⊢
    simp [S_is_any_marks, h1, h2]
theorem told_eq' {l : Bool} {rows : List Row} {b : List Int} {d : D} {t : D} (h1 : c "need_grades" [d] = some (gr n rows)) (h2 : c "is_marks" [mk b, .i n] = some (.b true)) (h3 : c "need" [.b true, .i 2] = some .n) (h4 : c "word_of" [gr n rows, mk b] = some t) : S_told c [d, mk b] = some t := by
  unfold gr at h1 h4
  simp [S_told, h1, h2, h3, h4]
def hiD (n : Nat) (rows : List Row) : D := match high n rows with
  | some t => mk t
  | none => .n
def loD (n : Nat) (rows : List Row) : D := .t ((lowest n rows).map mk)
theorem bounds_eq {rows : List Row} (h1 : c "highest_rule" [gr n rows] = some (hiD n rows)) (h2 : c "lowest_rules" [gr n rows] = some (loD n rows)) : S_bounds c [gr n rows] = some (.t [hiD n rows, loD n rows]) := by
  have z : 2 ≤ SZ := sz1 (by omega)
  unfold gr at h1 h2 ⊢
  simp [S_bounds, h1, h2, z]
/-- D's of digits -/
theorem nb_mk (m : Nat) (b : List Int) : nbD (m + 1) (mk b) = true := by
  unfold mk
  rw [nbD, List.all_map]
  exact List.all_eq_true.mpr fun x _ => by cases m <;> rfl
theorem ok_mk (m : Nat) (b : List Int) : okD (m + 1) (mk b) = true := by
  unfold mk
  rw [okD, List.all_map]
  exact List.all_eq_true.mpr fun x _ => by cases m <;> rfl
theorem nb_hi (m : Nat) (rows : List Row) : nbD (m + 1) (hiD n rows) = true := by
  unfold hiD
  cases high n rows with
  | none => rfl
  | some t => exact nb_mk m t
theorem ok_hi (m : Nat) (rows : List Row) : okD (m + 1) (hiD n rows) = true := by
  unfold hiD
  cases high n rows with
  | none => rfl
  | some t => exact ok_mk m t
theorem nb_lo (m : Nat) (rows : List Row) : nbD (m + 2) (loD n rows) = true := by
  unfold loD
  rw [nbD, List.all_map]
  exact List.all_eq_true.mpr fun x _ => nb_mk m x
theorem ok_lo (m : Nat) (rows : List Row) : okD (m + 2) (loD n rows) = true := by
  unfold loD
  rw [okD, List.all_map]
  exact List.all_eq_true.mpr fun x _ => ok_mk m x
theorem map_i_inj {a b : List Int} (h : a.map D.i = b.map D.i) : a = b := by
  have := congrArg intsD h
  rw [intsD_map, intsD_map] at this
  exact Option.some.inj this
theorem mk_inj {a b : List Int} (h : mk a = mk b) : a = b := map_i_inj (D.t.inj h)
theorem map_mk_inj {a b : List (List Int)} (h : a.map mk = b.map mk) : a = b := by
  have := congrArg tupsD h
  rw [tupsD_mk, tupsD_mk] at this
  exact Option.some.inj this
theorem hi_iff {rows : List Row} {r : List Int} : hiD n rows = mk r ↔ high n rows = some r := by
  unfold hiD
  cases high n rows with
  | none => exact ⟨fun h => (by unfold mk at h; cases h), fun h => nomatch h⟩
  | some t => exact ⟨fun h => by rw [mk_inj h], fun h => by rw [Option.some.inj h]⟩
theorem hi_eq {rows rows' : List Row} : hiD n rows = hiD n rows' ↔ high n rows = high n rows' := by
  constructor
  · intro h
    cases hh : high n rows' with
    | some t =>
      have e : hiD n rows' = mk t := hi_iff.mpr hh
      rw [e] at h
      exact hi_iff.mp h
    | none =>
      have e : hiD n rows' = .n := by unfold hiD; rw [hh]
      rw [e] at h
      unfold hiD at h
      cases hk : high n rows with
      | none => rfl
      | some t => rw [hk] at h; unfold mk at h; cases h
  · intro h
    unfold hiD
    rw [h]
theorem lo_eq {rows rows' : List Row} : loD n rows = loD n rows' ↔ lowest n rows = lowest n rows' := by
  unfold loD
  exact ⟨fun h => map_mk_inj (D.t.inj h), fun h => by rw [h]⟩
def teachB (n : Nat) (rows : List Row) (r : List Int) : Bool := decide (high n rows = some r ∧ lowest n rows = [r])
theorem teaches_eq' {rows : List Row} {r : List Int} {d : D} (h1 : c "need_grades" [d] = some (gr n rows)) (h2 : c "is_marks" [mk r, .i n] = some (.b true)) (h3 : c "need" [.b true, .i 2] = some .n) (h4 : c "plain" [mk r] = some (mk r)) (h5 : c "highest_rule" [gr n rows] = some (hiD n rows)) (h6 : c "lowest_rules" [gr n rows] = some (loD n rows)) :
    S_teaches c [d, mk r] = some (.b (teachB n rows r)) := by
  have z : 1 ≤ SZ := sz1 (by omega)
  have q1 : eqqD (hiD n rows) (mk r) = some (.b (decide (high n rows = some r))) := by
    rw [eqq_nb (n := 1) (by omega) (nb_hi 0 rows) (nb_mk 0 r) (ok_hi 19 rows) (ok_mk 19 r)]
    simp only [hi_iff]
  have q2 : eqqD (loD n rows) (.t [mk r]) = some (.b (decide (lowest n rows = [r]))) := by
    have e : D.t [mk r] = .t (List.map mk [r]) := rfl
    rw [eqq_nb (n := 2) (by omega) (nb_lo 0 rows) (by rw [nbD, List.all_cons, nb_mk]; rfl) (ok_lo 18 rows) (by show okD 20 _ = true; rw [okD, List.all_cons, ok_mk]; rfl)]
    have : (loD n rows = .t [mk r]) ↔ lowest n rows = [r] := by
      unfold loD
      rw [e]
      exact ⟨fun h => map_mk_inj (D.t.inj h), fun h => by rw [h]⟩
    simp only [this]
  unfold gr at h1 h5 h6
  unfold teachB
  simp [S_teaches, h1, h2, h3, h4, h5, h6, -eqqD, q1, q2, z]
  by_cases a : high n rows = some r <;> simp [a, q2, z, -eqqD]
def lessR (rows : List Row) (k : Nat) : List Row := rows.take k ++ rows.drop (k + 1)
theorem less_row_eq {rows : List Row} {k : Nat} (hk : k < rows.length) (hl : rows.length ≤ 100) : S_less_row c [gr n rows, .i k] = some (gr n (lessR rows k)) := by
  have e2 : cutD (rows.map row) none (some (k : Int)) = (rows.take k).map row := by rw [cut_to (by simp; omega), List.map_take]
  have e3 : cutD (rows.map row) (some ((k : Int) + 1)) none = (rows.drop (k + 1)).map row := by
    have := cut_from (xs := rows.map row) (k := k + 1) (by simp; omega)
    rw [Int.natCast_add] at this
    rw [List.map_drop]
    exact this
  have z1 : min k rows.length + (rows.length - (k + 1)) ≤ SZ := sz1 (by omega)
  have z : 2 ≤ SZ := sz1 (by omega)
  unfold gr lessR
  simp [S_less_row, e2, e3, z1, z]
theorem without_row_eq {rows : List Row} {k : Nat} {d : D} (hk : k < rows.length) (hl : rows.length ≤ 100) (h1 : c "need_grades" [d] = some (gr n rows)) (h2 : c "is_from" [.i k, .i 0, .i ((rows.length : Int) - 1)] = some (.b true)) (h3 : c "need" [.b true, .i 2] = some .n) (h4 : c "less_row" [gr n rows, .i k] = some (gr n (lessR rows k))) :
    S_without_row c [d, .i k] = some (gr n (lessR rows k)) := by
  unfold gr at h1 h4 ⊢
  simp [S_without_row, h1, h2, h3, h4]
end
end K42
namespace K42
open PySem PySem.Spec PyProof.Rows L2 PL
section
variable {c : Str → List D → Option D} {n : Nat}
def bdD (n : Nat) (rows : List Row) : D := .t [hiD n rows, loD n rows]
theorem bd_eq (rows rows' : List Row) : eqqD (bdD n rows) (bdD n rows') = some (.b (decide (high n rows = high n rows' ∧ lowest n rows = lowest n rows'))) := by
  have nb : ∀ rows : List Row, nbD 3 (bdD n rows) = true := fun rows => by unfold bdD; rw [nbD, List.all_cons, List.all_cons, nb_hi, nb_lo]; rfl
  have ok : ∀ rows : List Row, okD DP (bdD n rows) = true := fun rows => by unfold bdD DP; rw [okD, List.all_cons, List.all_cons, ok_hi, ok_lo]; rfl
  rw [eqq_nb (n := 3) (by omega) (nb rows) (nb rows') (ok rows) (ok rows')]
  have : (bdD n rows = bdD n rows') ↔ (high n rows = high n rows' ∧ lowest n rows = lowest n rows') := by
    unfold bdD
    constructor
    · intro h
      have e := D.t.inj h
      simp only [List.cons.injEq, and_true] at e
      exact ⟨hi_eq.mp e.1, lo_eq.mp e.2⟩
    · rintro ⟨a, b⟩
      rw [hi_eq.mpr a, lo_eq.mpr b]
  simp only [this]
def spareL (n : Nat) (rows : List Row) : List Nat := (List.range rows.length).filter fun k => decide (high n (lessR rows k) = high n rows ∧ lowest n (lessR rows k) = lowest n rows)
theorem spare_eq {rows : List Row} {d : D} (hl : rows.length ≤ 100) (h1 : c "need_grades" [d] = some (gr n rows)) (h2 : c "bounds" [gr n rows] = some (bdD n rows)) (h3 : ∀ k < rows.length, c "less_row" [gr n rows, .i k] = some (gr n (lessR rows k))) (h4 : ∀ k < rows.length, c "bounds" [gr n (lessR rows k)] = some (bdD n (lessR rows k))) :
    S_spare c [d] = some (.t ((spareL n rows).map fun k => .i (k : Nat))) := by
  have e := compD_filter (t := .nm 3) (ft := asB (bind2 eqqD (callV (c "bounds") (consL (callV (c "less_row") (consL (vV 0) (consL (vV 3) a0))) a0)) (vB 1))) (f := vV 3) (env := [.v (gr n rows), .v (bdD n rows), .no, .no]) (fun k : Nat => D.i (0 + (k : Int))) (fun k : Nat => D.i (k : Nat))
    (fun k => decide (high n (lessR rows k) = high n rows ∧ lowest n (lessR rows k) = lowest n rows)) (List.range rows.length) (fun k hk => ⟨[.v (gr n rows), .v (bdD n rows), .no, .v (.i k)], by simp, by
      have hk := List.mem_range.mp hk
      simp [h3 k hk, h4 k hk, -eqqD, bd_eq], fun _ => by simp⟩)
  have hn : smI rows.length = true := smI_nat (by omega)
  have z : ((List.range rows.length).filter fun k => decide (high n (lessR rows k) = high n rows ∧ lowest n (lessR rows k) = lowest n rows)).length ≤ SZ := sz1 (by
    have := List.length_filter_le (fun k => decide (high n (lessR rows k) = high n rows ∧ lowest n (lessR rows k) = lowest n rows)) (List.range rows.length)
    rw [List.length_range] at this
    omega)
  unfold spareL
  rw [← rngD_map] at e
  have g : gr n rows = .t [.i n, .t (rows.map row)] := rfl
  rw [g] at h1 h2 e
  simp [S_spare, h1, h2, hn, e, z, -Bool.decide_and]

/-! ### the law's own defs -/
theorem law_rows_1 : S__law_rows c [.i (1 : Nat)] = some (.l ((allR 1).map mk)) := by kernel_rfl
theorem law_rows_2 : S__law_rows c [.i (2 : Nat)] = some (.l ((allR 2).map mk)) := by kernel_rfl
theorem law_rows_eq (k : K12 n) : S__law_rows c [.i n] = some (.l ((allR n).map mk)) := by
  rcases k with rfl | rfl
  · exact law_rows_1
  · exact law_rows_2
theorem eqq_ones (xs : List D) (h : ∀ x ∈ xs, x = .i 1) : eqqD (.l xs) (.l []) = some (.b xs.isEmpty) := by
  have nb : nbD 1 (.l xs) = true := by rw [nbD]; exact List.all_eq_true.mpr fun x hx => by rw [h x hx]; rfl
  have ok : okD DP (.l xs) = true := by show okD 20 _ = true; rw [okD]; exact List.all_eq_true.mpr fun x hx => by rw [h x hx]; rfl
  rw [eqq_nb (n := 1) (by omega) nb rfl ok rfl]
  cases xs <;> simp
theorem law_fit_eq (k : K12 n) {r b : List Int} (hr : r ∈ allR n) (hb : b ∈ allR n) : S__law_fit c [mk r, mk b] = some (.b (suitsB r b)) := by
  have e := compD_filter (t := .nm 3) (ft := asB (bind2 (cmpI fLt) (bind2 ixD (vB 1) (vB 3)) (bind2 ixD (vB 0) (vB 3)))) (f := kI 1) (env := [.v (mk r), .v (mk b), .no, .no]) (fun k : Nat => D.i (0 + (k : Int))) (fun _ => D.i 1)
    (fun k => decide (b.getD k 0 < r.getD k 0)) (List.range r.length) (fun k hk => by
      have hk := List.mem_range.mp hk
      have hl1 := allR_len (by assumption) hr
      have hl2 := allR_len (by assumption) hb
      have hk2 : k < b.length := by omega
      have e1 := atI_map D.i hk
      have e2 := atI_map D.i hk2
      refine ⟨[.v (mk r), .v (mk b), .no, .v (.i k)], by simp, ?_, fun _ => rfl⟩
      simp [mk, e1, e2, hk, hk2])
  have hn : smI r.length = true := smI_nat (by rw [allR_len k hr]; rcases k with rfl | rfl <;> omega)
  rw [← rngD_map] at e
  have z : ((List.range r.length).filter fun k => decide (b.getD k 0 < r.getD k 0)).length ≤ SZ := sz1 (by
    have := List.length_filter_le (fun k => decide (b.getD k 0 < r.getD k 0)) (List.range r.length)
    rw [List.length_range] at this
    have hlr := allR_len k hr
    rcases k with rfl | rfl <;> omega)
  have q := eqq_ones (((List.range r.length).filter fun k => decide (b.getD k 0 < r.getD k 0)).map fun _ => D.i 1) (fun x hx => by
    obtain ⟨_, _, h⟩ := List.mem_map.mp hx
    exact h.symm)
  have fin : (((List.range r.length).filter fun k => decide (b.getD k 0 < r.getD k 0)).map fun _ => D.i 1).isEmpty = suitsB r b := by
    rcases k with rfl | rfl
    · obtain ⟨x, rfl, _⟩ := allR_1.mp hr; obtain ⟨u, rfl, _⟩ := allR_1.mp hb
      rw [le1]
      by_cases h : u < x
      · simp [List.range_succ, h]
      · simp [List.range_succ, h]; omega
    · obtain ⟨x, y, rfl, _⟩ := allR_2.mp hr; obtain ⟨u, v, rfl, _⟩ := allR_2.mp hb
      rw [le2]
      by_cases h : u < x <;> by_cases h2 : v < y <;> simp [List.range_succ, h, h2] <;> omega
  rw [fin] at q
  have g : mk r = .t (r.map .i) := rfl
  rw [g] at e ⊢
  simp only [List.getD] at e z q
  simp [S__law_fit, hn, e, z, -eqqD, q]
theorem law_going_eq (k : K12 n) {rows : List Row} (ho : OkRows n rows) (hl : rows.length ≤ 100) (h1 : c "_law_rows" [.i n] = some (.l ((allR n).map mk))) (h2 : ∀ r ∈ allR n, ∀ b ∈ allR n, c "_law_fit" [mk r, mk b] = some (.b (suitsB r b))) :
    S__law_going c [gr n rows] = some (.l ((going n rows).map mk)) := by
  have e := compD_filter (t := .nm 2) (ft := asB (bind2 eqqD (lcV (itP (bind2 ixD (vB 0) (kI 1))) (.tp [(.nm 3), (.nm 4)]) (asB (bind2 neqD (callV (c "_law_fit") (consL (vV 2) (consL (vV 3) a0))) (bind2 eqqD (vB 4) (kS "fit")))) (kI 1) [1, 3, 4]) (lstV a0))) (f := vV 2) (env := [.v (gr n rows), .no, .no, .no, .no]) mk mk (agreeB rows) (allR n) (fun r hr => by
      refine ⟨[.v (gr n rows), .no, .v (mk r), .no, .no], by simp, ?_, fun _ => by simp⟩
      have e2 := compD_filter (t := .tp [.nm 3, .nm 4]) (ft := asB (bind2 neqD (callV (c "_law_fit") (consL (vV 2) (consL (vV 3) a0))) (bind2 eqqD (vB 4) (kS "fit")))) (f := kI 1) (env := [.v (gr n rows), .no, .v (mk r), .no, .no]) row (fun _ => D.i 1) (fun p => suitsB r p.1 != p.2) rows (fun p hp => ⟨[.v (gr n rows), .no, .v (mk r), .v (mk p.1), .v (wd p.2)], by simp [row], by
        simp [h2 r hr p.1 (ho p hp), -eqqD, -neqD, wd_fit, neq_b], fun _ => rfl⟩)
      have z : (rows.filter fun p => suitsB r p.1 != p.2).length ≤ SZ := sz1 (by
        have := List.length_filter_le (fun p : Row => suitsB r p.1 != p.2) rows
        omega)
      have q := eqq_ones ((rows.filter fun p => suitsB r p.1 != p.2).map fun _ => D.i 1) (fun x hx => by
        obtain ⟨_, _, h⟩ := List.mem_map.mp hx
        exact h.symm)
      have fin : ((rows.filter fun p => suitsB r p.1 != p.2).map fun _ => D.i 1).isEmpty = agreeB rows r := by
        rw [Bool.eq_iff_iff, List.isEmpty_iff, List.map_eq_nil_iff, List.filter_eq_nil_iff, agree_iff]
        simp
      rw [fin] at q
      have g : gr n rows = .t [.i n, .t (rows.map row)] := rfl
      rw [g] at e2 ⊢
      simp [e2, z, -eqqD, q])
  have z : ((allR n).filter (agreeB rows)).length ≤ SZ := sz1 (by
    have := List.length_filter_le (agreeB rows) (allR n)
    have h : (allR n).length ≤ 100 := by rcases k with rfl | rfl <;> decide
    omega)
  have g : gr n rows = .t [.i n, .t (rows.map row)] := rfl
  unfold going
  rw [g] at e ⊢
  simp [S__law_going, h1, -eqqD, e, z]
end
end K42
namespace K42
open PySem PySem.Spec PyProof.Rows L2 PL
theorem mulL_1 : mulLD (.l [.i 9]) (.i 1) = some (.l [.i 9]) := by decide +kernel
theorem mulL_2 : mulLD (.l [.i 9]) (.i 2) = some (.l [.i 9, .i 9]) := by decide +kernel
theorem ixN_a : ixN 1 0 = some 0 := by decide
theorem ixN_b : ixN 2 0 = some 0 := by decide
theorem ixN_c : ixN 2 1 = some 1 := by decide
theorem smi1 : smI 1 = true := by decide +kernel
theorem smi2 : smI 2 = true := by decide +kernel
section
variable {c : Str → List D → Option D} {n : Nat}
theorem lesson_eq (k : K12 n) (l : Bool) {r : List Int} (hr : r ∈ allR n) (h1 : c "is_any_marks" [mkQ l r] = some (.b true)) (h2 : c "need" [.b true, .i 1] = some .n) (h3 : c "plain" [mkQ l r] = some (mk r)) : S_lesson c [mkQ l r] = some (gr n (lessonRows r)) := by
  have z0 : 0 < SZ := by unfold SZ; omega
  have z1 : 1 < SZ := by unfold SZ; omega
  have z2 : 2 < SZ := by unfold SZ; omega
  have y1 : 1 ≤ SZ := by unfold SZ; omega
  have y2 : 2 ≤ SZ := by unfold SZ; omega
  have y3 : 3 ≤ SZ := by unfold SZ; omega
  rcases k with rfl | rfl
  · obtain ⟨x, rfl, _⟩ := allR_1.mp hr
    by_cases h9 : x < 9 <;> by_cases h0 : 0 < x <;>
      simp [S_lesson, h1, h2, h3, mk, h9, h0, lessonRows, gr, row, wd, z0, z1, z2, y1, y2, y3, -mulLD, mulL_1, ixN_a]
  · obtain ⟨x, y, rfl, _⟩ := allR_2.mp hr
    by_cases h9 : x < 9 <;> by_cases g9 : y < 9 <;> by_cases h0 : 0 < x <;> by_cases g0 : 0 < y <;>
      simp [S_lesson, h1, h2, h3, mk, h9, h0, g9, g0, lessonRows, gr, row, wd, z0, z1, z2, y1, y2, y3, -mulLD, mulL_2, ixN_b, ixN_c]
theorem mulT (m : Int) : mulD (.t [.i m]) (.i 0) = some (.t []) ∧ mulD (.t [.i m]) (.i 1) = some (.t [.i m]) := by
  constructor
  · rw [mulD, if_pos ⟨by decide, by decide +kernel, by simp⟩]; rfl
  · rw [mulD, if_pos ⟨by decide, by decide +kernel, by simp⟩]; rfl
theorem neq_l (xs : List D) (h : nbD 5 (.l xs) = true) (h' : okD DP (.l xs) = true) : neqD (.l xs) (.l []) = some (.b (!xs.isEmpty)) := by
  rw [neqD, h', show okD DP (.l []) = true from rfl, eqD_nb 5 _ _ h rfl]
  cases xs <;> simp
theorem neq_li (xs : List Int) : neqD (.l (xs.map .i)) (.l []) = some (.b (!xs.isEmpty)) := by
  rw [neq_l]
  · cases xs <;> rfl
  · rw [nbD, List.all_map]; exact List.all_eq_true.mpr fun x _ => rfl
  · show okD 20 _ = true; rw [okD, List.all_map]; exact List.all_eq_true.mpr fun x _ => rfl
set_option maxHeartbeats 4000000 in
theorem law_lesson_eq (k : K12 n) {r : List Int} (hr : r ∈ allR n) : S__law_lesson c [mk r] = some (gr n (lessonRows r)) := by
  have z0 : 0 < SZ := by unfold SZ; omega
  have z1 : 1 < SZ := by unfold SZ; omega
  have z2 : 2 < SZ := by unfold SZ; omega
  have y0 : 0 ≤ SZ := by unfold SZ; omega
  have y1 : 1 ≤ SZ := by unfold SZ; omega
  have y2 : 2 ≤ SZ := by unfold SZ; omega
  have y3 : 3 ≤ SZ := by unfold SZ; omega
  have n0 : neqD (.l []) (.l []) = some (.b false) := neq_li []
  have r1 : rngD 0 1 = [.i 0] := rfl
  have r2 : rngD 0 2 = [.i 0, .i 1] := rfl
  have i0 := (mulT 9).1
  have i1 := (mulT 9).2
  rcases k with rfl | rfl
  · obtain ⟨x, rfl, _⟩ := allR_1.mp hr
    have n1 : neqD (.l [.i x]) (.l []) = some (.b true) := neq_li [x]
    by_cases h9 : x < 9 <;> by_cases h0 : 0 < x <;>
      simp [S__law_lesson, mk, h9, h0, lessonRows, gr, row, wd, z0, z1, z2, y0, y1, y2, y3, -mulD, -neqD, n0, n1, i0, i1, smi1, r1]
  · obtain ⟨x, y, rfl, _⟩ := allR_2.mp hr
    have n1 : neqD (.l [.i x]) (.l []) = some (.b true) := neq_li [x]
    have n2 : neqD (.l [.i y]) (.l []) = some (.b true) := neq_li [y]
    have n3 : neqD (.l [.i x, .i y]) (.l []) = some (.b true) := neq_li [x, y]
    by_cases h9 : x < 9 <;> by_cases g9 : y < 9 <;> by_cases h0 : 0 < x <;> by_cases g0 : 0 < y <;>
      simp [S__law_lesson, mk, h9, h0, g9, g0, lessonRows, gr, row, wd, z0, z1, z2, y0, y1, y2, y3, -mulD, -neqD, n0, n1, n2, n3, i0, i1, smi2, r2]
end
end K42
namespace K42
open PySem PySem.Spec PyProof.Rows L2 PL
theorem range_allR {n : Nat} (k : K12 n) (f : Nat → Int) (h : ∀ i, 0 ≤ f i ∧ f i ≤ 9) : (List.range n).map f ∈ allR n := by
  rcases k with rfl | rfl
  · exact allR_1.mpr ⟨f 0, rfl, h 0⟩
  · exact allR_2.mpr ⟨f 0, f 1, rfl, h 0, h 1⟩
theorem fdiv_ok {x y : Int} (h : 0 < y ∧ y < 100000) : fdivD (.i x) (.i y) = some (.i (x / y)) := by
  rw [fdivD, if_pos ⟨h.1, absLe_of (by
    have e : y.natAbs < 100000 := by omega
    exact Nat.le_trans (Nat.le_of_lt e) (by decide +kernel))⟩]
def OkPow (c : Str → List D → Option D) : Prop := ∀ j : Nat, j ≤ 2 → c "_law_power" [.i 10, .i j] = some (.i ((10 : Int) ^ j))
def OkFit (c : Str → List D → Option D) (n : Nat) : Prop := ∀ r ∈ allR n, ∀ b ∈ allR n, c "_law_fit" [mk r, mk b] = some (.b (suitsB r b))
def dgs (n : Nat) (x : Int) : List Int := (List.range n).map fun j => x / (10 : Int) ^ j % 10
theorem dgs_in {n : Nat} (k : K12 n) (x : Int) : dgs n x ∈ allR n := range_allR k _ fun i => by
  have h1 := Int.emod_nonneg (x / (10 : Int) ^ i) (by decide : (10 : Int) ≠ 0)
  have h2 := Int.emod_lt_of_pos (x / (10 : Int) ^ i) (by decide : (0 : Int) < 10)
  omega
section
variable {c : Str → List D → Option D} {n : Nat}
theorem pow_le {j : Nat} (h : j ≤ 2) : (0 : Int) < 10 ^ j ∧ (10 : Int) ^ j < 1000 := by
  rcases j with _ | _ | _ | j
  · decide
  · decide
  · decide
  · omega
def gradesB (c : Str → List D → Option D) : StF :=
    (seqF (asgF (.nm 5) (bind2 ixD (vB 0) (bind2 addD (kI 2) (vB 2))))
    (seqF (asgF (.nm 6) (callV tupleD (consL (lcV (itR1 (vB 1)) (.nm 9) tY (bind2 modD (callV intD (consL (bind2 fdivD (vB 5) (callV (c "_law_power") (consL (kI 10) (consL (vV 9) a0)))) a0)) (kI 10)) [8, 9]) a0)))
    (seqF (asgF (.nm 7) (kS "unfit"))
    (seqF (ifF (asT (callV (c "_law_fit") (consL (vV 3) (consL (vV 6) a0))))
      (seqF (asgF (.nm 7) (kS "fit"))
      nop)
      nop)
    (seqF (ifF (asB (bind2 eqqD (bind2 modD (callV intD (consL (bind2 fdivD (vB 5) (kI 100)) a0)) (kI 12)) (kI 0)))
      (seqF (asgF (.nm 7) (bind2 ixD (lstV (consL (kS "fit") (consL (kS "unfit") a0))) (bind2 modD (callV intD (consL (bind2 fdivD (vB 5) (kI 1200)) a0)) (kI 2))))
      nop)
      nop)
    (seqF (appF 4 (tupV (consL (vV 6) (consL (vV 7) a0))))
    nop))))))
theorem gradesB_step (k : K12 n) (hp : OkPow c) (hf : OkFit c n) {xs : List Int} {rule : List Int} (hr : rule ∈ allR n) {rows : List Row} {j : Nat} (hj : 2 + j < xs.length) (hl : rows.length ≤ 100) (c5 c6 c7 : Cell) :
    ∃ (p : Row) (d5 d6 d7 : Cell), p.1 ∈ allR n ∧ gradesB c [.v (.l (xs.map .i)), .v (.i n), .v (.i (j : Nat)), .v (mk rule), .o (.l (rows.map row)), c5, c6, c7, .no, .no] = some (.nx [.v (.l (xs.map .i)), .v (.i n), .v (.i (j : Nat)), .v (mk rule), .o (.l ((rows ++ [p]).map row)), d5, d6, d7, .no, .no]) := by
  generalize hx : xs[2 + j] = x
  have e0 : atI (xs.map D.i) (2 + (j : Int)) = some (.i x) := by
    have := atI_map D.i hj
    rw [hx] at this
    rw [show (2 : Int) + (j : Int) = ((2 + j : Nat) : Int) by omega]
    exact this
  have hd := dgs_in k x
  have e := compD_map (t := .nm 9) (ft := tY) (f := bind2 modD (callV intD (consL (bind2 fdivD (vB 5) (callV (c "_law_power") (consL (kI 10) (consL (vV 9) a0)))) a0)) (kI 10)) (env := [.v (.l (xs.map .i)), .v (.i n), .v (.i (j : Nat)), .v (mk rule), .o (.l (rows.map row)), .v (.i x), c6, c7, .no, .no])
    (fun i : Nat => D.i (0 + (i : Int))) (fun i => D.i (x / (10 : Int) ^ i % 10)) (List.range n) (fun i hi => by
      have hi := List.mem_range.mp hi
      have hi2 : i ≤ 2 := by rcases k with rfl | rfl <;> omega
      have q := hp i hi2
      have q2 := fdiv_ok (x := x) (y := (10 : Int) ^ i) (by have := pow_le hi2; omega)
      refine ⟨[.v (.l (xs.map .i)), .v (.i n), .v (.i (j : Nat)), .v (mk rule), .o (.l (rows.map row)), .v (.i x), c6, c7, .no, .v (.i i)], by simp, rfl, ?_⟩
      simp [q, -fdivD, q2])
  rw [← rngD_map] at e
  have hn : smI n = true := smI_nat (by rcases k with rfl | rfl <;> omega)
  have z : n ≤ SZ := sz1 (by rcases k with rfl | rfl <;> omega)
  have z2 : 2 ≤ SZ := sz1 (by omega)
  have z3 : rows.length < SZ := by unfold SZ; omega
  have f1 := hf rule hr _ hd
  have m1 : D.t ((List.range n).map fun i => D.i (x / (10 : Int) ^ i % 10)) = mk (dgs n x) := by unfold mk dgs; rw [List.map_map]; rfl
  have q100 := fdiv_ok (x := x) (y := 100) (by omega)
  have q1200 := fdiv_ok (x := x) (y := 1200) (by omega)
  have hm := Int.emod_nonneg (x / 1200) (by decide : (2 : Int) ≠ 0)
  have hm2 := Int.emod_lt_of_pos (x / 1200) (by decide : (0 : Int) < 2)
  by_cases h12 : x / 100 % 12 = 0
  · have hc : x / 1200 % 2 = 0 ∨ x / 1200 % 2 = 1 := by omega
    rcases hc with hc | hc
    · refine ⟨(dgs n x, true), .v (.i x), .v (mk (dgs n x)), .v (.s "fit"), hd, ?_⟩
      cases hs : suitsB rule (dgs n x) <;> rw [hs] at f1 <;>
        simp [gradesB, e0, e, hn, z, z2, z3, m1, f1, -fdivD, -eqqD, eqq_i, q100, q1200, h12, hc, row, wd]
    · refine ⟨(dgs n x, false), .v (.i x), .v (mk (dgs n x)), .v (.s "unfit"), hd, ?_⟩
      cases hs : suitsB rule (dgs n x) <;> rw [hs] at f1 <;>
        simp [gradesB, e0, e, hn, z, z2, z3, m1, f1, -fdivD, -eqqD, eqq_i, q100, q1200, h12, hc, row, wd]
  · refine ⟨(dgs n x, suitsB rule (dgs n x)), .v (.i x), .v (mk (dgs n x)), .v (wd (suitsB rule (dgs n x))), hd, ?_⟩
    cases hs : suitsB rule (dgs n x) <;> rw [hs] at f1 <;>
      simp [gradesB, e0, e, hn, z, z2, z3, m1, f1, -fdivD, -eqqD, eqq_i, q100, q1200, h12, row, wd]
theorem law_grades_ex (hp : OkPow c) (hf : ∀ n, K12 n → OkFit c n) {xs : List Int} (hl : xs.length = 8) : ∃ (n : Nat) (rows : List Row), K12 n ∧ OkRows n rows ∧ rows.length ≤ 6 ∧ S__law_grades c [.l (xs.map .i)] = some (gr n rows) := by
  have h0 : 0 < xs.length := by omega
  have h1 : 1 < xs.length := by omega
  generalize hx0 : xs[0] = x0
  generalize hx1 : xs[1] = x1
  have e0 : atI (xs.map D.i) 0 = some (.i x0) := by
    have := atI_map D.i h0
    rw [hx0] at this
    exact this
  have e1 : atI (xs.map D.i) 1 = some (.i x1) := by
    have := atI_map D.i h1
    rw [hx1] at this
    exact this
  have a1 := Int.emod_nonneg x0 (by decide : (2 : Int) ≠ 0)
  have a2 := Int.emod_lt_of_pos x0 (by decide : (0 : Int) < 2)
  have b1 := Int.emod_nonneg x1 (by decide : (7 : Int) ≠ 0)
  have b2 := Int.emod_lt_of_pos x1 (by decide : (0 : Int) < 7)
  obtain ⟨n, hn⟩ : ∃ n : Nat, (1 + x0 % 2 : Int) = n := ⟨(1 + x0 % 2).toNat, by omega⟩
  obtain ⟨m, hm⟩ : ∃ m : Nat, (x1 % 7 : Int) = m := ⟨(x1 % 7).toNat, by omega⟩
  have k : K12 n := by omega
  have smn : smI n = true := smI_nat (by omega)
  have smm : smI m = true := smI_nat (by omega)
  have z : n ≤ SZ := sz1 (by omega)
  have e := compD_map (t := .nm 2) (ft := tY) (f := bind2 modD (callV intD (consL (bind2 fdivD (bind2 ixD (vB 0) (kI 0)) (bind2 mulD (kI 10) (callV (c "_law_power") (consL (kI 10) (consL (vV 2) a0))))) a0)) (kI 10)) (env := [.v (.l (xs.map .i)), .v (.i n), .no, .no, .no, .no, .no, .no, .no, .no])
    (fun i : Nat => D.i (0 + (i : Int))) (fun i => D.i (x0 / (10 * (10 : Int) ^ i) % 10)) (List.range n) (fun i hi => by
      have hi := List.mem_range.mp hi
      have hi2 : i ≤ 2 := by omega
      have q := hp i hi2
      have q2 := fdiv_ok (x := x0) (y := 10 * (10 : Int) ^ i) (by have := pow_le hi2; omega)
      have q3 : mulD (.i 10) (.i ((10 : Int) ^ i)) = some (.i (10 * (10 : Int) ^ i)) := mul_l (by decide +kernel)
      refine ⟨[.v (.l (xs.map .i)), .v (.i n), .v (.i i), .no, .no, .no, .no, .no, .no, .no], by simp, rfl, ?_⟩
      simp [q, e0, -fdivD, q2, -mulD, q3])
  rw [← rngD_map] at e
  generalize hru : (List.range n).map (fun i => x0 / (10 * (10 : Int) ^ i) % 10) = rule
  have hrule : rule ∈ allR n := by
    rw [← hru]
    exact range_allR k _ fun i => by
      have h1 := Int.emod_nonneg (x0 / (10 * (10 : Int) ^ i)) (by decide : (10 : Int) ≠ 0)
      have h2 := Int.emod_lt_of_pos (x0 / (10 * (10 : Int) ^ i)) (by decide : (0 : Int) < 10)
      omega
  have m1 : D.t ((List.range n).map fun i => D.i (x0 / (10 * (10 : Int) ^ i) % 10)) = mk rule := by rw [← hru]; unfold mk; rw [List.map_map]; rfl
  obtain ⟨env', g1, rows, d2, d5, d6, d7, rfl, g3, g4⟩ := forV_inv (t := .nm 2) (fb := gradesB c) (fun j env => ∃ (rows : List Row) (d2 d5 d6 d7 : Cell), env = [.v (.l (xs.map .i)), .v (.i n), d2, .v (mk rule), .o (.l (rows.map row)), d5, d6, d7, .no, .no] ∧ rows.length = j ∧ OkRows n rows) (rngD 0 m) 0
    [.v (.l (xs.map .i)), .v (.i n), .no, .v (mk rule), .o (.l []), .no, .no, .no, .no, .no] ⟨[], .no, .no, .no, .no, rfl, rfl, fun _ h => nomatch h⟩ (fun j d env hd hP => by
      obtain ⟨rows, d2, d5, d6, d7, rfl, h3, h4⟩ := hP
      obtain ⟨e, hj⟩ := rngD_get hd
      subst e
      rw [Int.zero_add]
      obtain ⟨p, f5, f6, f7, hp1, hst⟩ := gradesB_step k hp (hf n k) hrule (xs := xs) (rows := rows) (j := j) (by omega) (by omega) d5 d6 d7
      exact ⟨_, _, rfl, .inl hst, rows ++ [p], _, f5, f6, f7, rfl, by simp [h3], fun q hq => (List.mem_append.mp hq).elim (h4 q) fun e => by rw [List.mem_singleton.mp e]; exact hp1⟩)
  rw [rngD_length, Nat.zero_add] at g3
  refine ⟨n, rows, k, g4, by omega, ?_⟩
  have z2 : 2 ≤ SZ := sz1 (by omega)
  unfold gradesB at g1
  simp [S__law_grades, e0, e1, hn, hm, smn, smm, e, z, z2, m1, g1, -fdivD, -mulD, -eqqD]
  rfl
end
end K42
namespace K42
open PySem PySem.Spec PyProof.Rows L2 PL
abbrev C (k : Nat) : Str → List D → Option D := callD fn free k
section
variable {n : Nat} (k : Nat)
theorem c_seq (l : Bool) (xs : List D) : C (k + 1) "is_seq" [sq l xs] = some (.b true) := by rw [C, sh_is_seq]; exact is_seq_q l xs
theorem c_seq_i (x : Int) : C (k + 1) "is_seq" [.i x] = some (.b false) := by rw [C, sh_is_seq]; exact is_seq_i x
theorem c_seq_s (x : Str) : C (k + 1) "is_seq" [.s x] = some (.b false) := by rw [C, sh_is_seq]; exact is_seq_s x
theorem c_long (l : Bool) (xs : List D) (lo hi : Int) : C (k + 2) "is_long" [sq l xs, .i lo, .i hi] = some (.b (decide (lo ≤ xs.length) && decide ((xs.length : Int) ≤ hi))) := by
  show callD fn free ((k + 1) + 1) "is_long" _ = _
  rw [sh_is_long]; exact is_long_q (c_seq k l xs)
theorem c_int (x : Int) : C (k + 1) "is_int" [.i x] = some (.b true) := by rw [C, sh_is_int]; exact is_int_i x
theorem c_from (x lo hi : Int) : C (k + 2) "is_from" [.i x, .i lo, .i hi] = some (.b (decide (lo ≤ x) && decide (x ≤ hi))) := by
  show callD fn free ((k + 1) + 1) "is_from" _ = _
  rw [sh_is_from]; exact is_from_i (c_int k x)
theorem c_need (d : D) : C (k + 1) "need" [.b true, d] = some .n := by rw [C, sh_need]; exact need_t
theorem c_marks (h : K12 n) (l : Bool) {b : List Int} (hb : b ∈ allR n) : C (k + 3) "is_marks" [mkQ l b, .i n] = some (.b true) := by
  show callD fn free ((k + 2) + 1) "is_marks" _ = _
  rw [sh_is_marks]
  have hl := allR_len h hb
  refine is_marks_q (by rcases h with rfl | rfl <;> omega) ?_ fun x hx => ?_
  · have := c_long k l (b.map .i) n n
    rw [List.length_map, hl, decide_eq_true (Int.le_refl _)] at this
    exact this
  · have := c_from k x 0 9
    have hd := allR_dig h hb x hx
    rw [decide_eq_true hd.1, decide_eq_true hd.2] at this
    exact this
theorem c_row (h : K12 n) (l : Bool) {p : Row} (hp : p.1 ∈ allR n) : C (k + 4) "is_row" [rowQ l p, .i n] = some (.b true) := by
  show callD fn free ((k + 3) + 1) "is_row" _ = _
  rw [sh_is_row]
  exact is_row_q (c_long (k + 1) l _ 2 2) (c_marks k h l hp)
theorem c_isgr (h : K12 n) (l : Bool) {rows : List Row} (ho : OkRows n rows) (hl : rows.length ≤ 20) : C (k + 5) "is_grades" [grQ l n rows] = some (.b true) := by
  show callD fn free ((k + 4) + 1) "is_grades" _ = _
  rw [sh_is_grades]
  refine is_grades_q (by omega) (c_long (k + 2) l _ 2 2) ?_ ?_ fun p hp => c_row k h l (ho p hp)
  · have := c_from (k + 2) n 1 4
    rcases h with rfl | rfl <;> exact this
  · have := c_long (k + 2) l (rows.map (rowQ l)) 0 20
    rw [List.length_map, decide_eq_true (by omega), decide_eq_true (by omega)] at this
    exact this
theorem c_plain_i (x : Int) : C (k + 2) "plain" [.i x] = some (.i x) := by
  show callD fn free ((k + 1) + 1) "plain" _ = _
  rw [sh_plain]; exact plain_no (c_seq_i k x)
theorem c_plain_w (w : Bool) : C (k + 2) "plain" [wd w] = some (wd w) := by
  show callD fn free ((k + 1) + 1) "plain" _ = _
  rw [sh_plain]; exact plain_no (c_seq_s k _)
theorem c_plain_q {α : Type} (l : Bool) (enc dec : α → D) {xs : List α} (hl : xs.length ≤ 1000) (h : ∀ a ∈ xs, C (k + 1) "plain" [enc a] = some (dec a)) : C (k + 2) "plain" [sq l (xs.map enc)] = some (.t (xs.map dec)) := by
  show callD fn free ((k + 1) + 1) "plain" _ = _
  rw [sh_plain]
  cases l
  · exact plain_t enc dec (sz1 hl) (c_seq k false _) h
  · exact plain_l enc dec (sz1 hl) (c_seq k true _) h
theorem c_plain_mk (l : Bool) {b : List Int} (hb : b.length ≤ 1000) : C (k + 3) "plain" [mkQ l b] = some (mk b) := c_plain_q (k + 1) l D.i D.i hb fun x _ => c_plain_i k x
theorem c_plain_row (l : Bool) {p : Row} (hb : p.1.length ≤ 1000) : C (k + 4) "plain" [rowQ l p] = some (row p) := by
  have := c_plain_q (k + 2) l (fun q : D × D => q.1) (fun q => q.2) (xs := [(mkQ l p.1, mk p.1), (wd p.2, wd p.2)]) (by simp) (fun a ha => by
    rcases List.mem_cons.mp ha with e | e
    · rw [e]; exact c_plain_mk k l hb
    · rw [List.mem_singleton.mp e]; exact c_plain_w (k + 1) p.2)
  exact this
theorem c_plain_gr (h : K12 n) (l : Bool) {rows : List Row} (ho : OkRows n rows) (hl : rows.length ≤ 100) : C (k + 6) "plain" [grQ l n rows] = some (gr n rows) := by
  have h1 := c_plain_q (k + 3) l (rowQ l) row (xs := rows) (by omega) (fun p hp => c_plain_row k l (by rw [allR_len h (ho p hp)]; rcases h with rfl | rfl <;> omega))
  have := c_plain_q (k + 4) l (fun q : D × D => q.1) (fun q => q.2) (xs := [(.i n, .i n), (sq l (rows.map (rowQ l)), .t (rows.map row))]) (by simp) (fun a ha => by
    rcases List.mem_cons.mp ha with e | e
    · rw [e]; exact c_plain_i (k + 3) n
    · rw [List.mem_singleton.mp e]; exact h1)
  exact this
theorem c_ng (h : K12 n) (l : Bool) {rows : List Row} (ho : OkRows n rows) (hl : rows.length ≤ 20) : C (k + 7) "need_grades" [grQ l n rows] = some (gr n rows) := by
  show callD fn free ((k + 6) + 1) "need_grades" _ = _
  rw [sh_need_grades]
  exact need_grades_q (c_isgr (k + 1) h l ho hl) (c_need (k + 5) _) (c_plain_gr k h l ho (by omega))
theorem c_suits (h : K12 n) {r b : List Int} (hr : r ∈ allR n) (hb : b ∈ allR n) : C (k + 1) "suits" [mk r, mk b] = some (.b (suitsB r b)) := by
  rw [C, sh_suits]; exact suits_eq (by rw [allR_len h hr]; rcases h with rfl | rfl <;> omega)
theorem c_agrees (h : K12 n) {rows : List Row} (ho : OkRows n rows) (hl : rows.length ≤ 20) {r : List Int} (hr : r ∈ allR n) : C (k + 2) "agrees" [gr n rows, mk r] = some (.b (agreeB rows r)) := by
  show callD fn free ((k + 1) + 1) "agrees" _ = _
  rw [sh_agrees]; exact agrees_eq (by omega) fun p hp => c_suits k h hr (ho p hp)
theorem c_least (h : K12 n) (rows : List Row) : C (k + 1) "least_marks" [gr n rows] = some (mk (least n rows)) := by
  rw [C, sh_least_marks]; exact least_marks_eq (by rcases h with rfl | rfl <;> omega)
theorem c_high (h : K12 n) {rows : List Row} (ho : OkRows n rows) (hl : rows.length ≤ 20) : C (k + 3) "highest_rule" [gr n rows] = some (hiD n rows) := by
  show callD fn free ((k + 2) + 1) "highest_rule" _ = _
  rw [sh_highest_rule, highest_eq (c_least (k + 1) h rows) (c_agrees k h ho hl (least_ok h ho).1)]
  unfold hiD high
  split <;> rfl
theorem c_low (h : K12 n) {rows : List Row} (ho : OkRows n rows) : C (k + 3) "lowest_rules" [gr n rows] = some (loD n rows) := by
  show callD fn free ((k + 2) + 1) "lowest_rules" _ = _
  rw [sh_lowest_rules]
  refine lowest_rules_eq h ho (c_least (k + 1) h rows) (fun rules b top hr hb ht hl => ?_) fun X hX hl => ?_
  · show callD fn free ((k + 1) + 1) "shut_out" _ = _
    rw [sh_shut_out]; exact ok_shut h (fun r hr s hs => c_suits k h hr hs) rules b top hr hb ht hl
  · show callD fn free ((k + 1) + 1) "least_of" _ = _
    rw [sh_least_of]; exact least_of_eq h (fun r hr s hs => c_suits k h hr hs) hX hl
theorem c_first (h : K12 n) {rules : List (List Int)} (hr : ∀ r ∈ rules, r ∈ allR n) {b : List Int} (hb : b ∈ allR n) : C (k + 2) "first_letting" [.t (rules.map mk), mk b] = some (match rules.find? (suitsB · b) with
    | some r => mk r
    | none => .n) := by
  show callD fn free ((k + 1) + 1) "first_letting" _ = _
  rw [sh_first_letting]; exact first_letting_eq fun r hr' => c_suits k h (hr r hr') hb
theorem c_word (h : K12 n) {rows : List Row} (ho : OkRows n rows) (hl : rows.length ≤ 20) {b : List Int} (hb : b ∈ allR n) : C (k + 4) "word_of" [gr n rows, mk b] = some (tlD (toldM n rows b)) := by
  show callD fn free ((k + 3) + 1) "word_of" _ = _
  rw [sh_word_of]
  refine word_of_eq (c_high k h ho hl) (fun t ht => c_suits (k + 2) h ?_ hb) (c_low k h ho) (c_first (k + 1) h (fun r hr => (low_mem h ho hr).1) hb)
  unfold high at ht
  split at ht
  · rw [← Option.some.inj ht]; exact (least_ok h ho).1
  · cases ht
theorem c_told (h : K12 n) {rows : List Row} (ho : OkRows n rows) (hl : rows.length ≤ 20) {b : List Int} (hb : b ∈ allR n) : C (k + 8) "told" [gr n rows, mk b] = some (tlD (toldM n rows b)) := by
  show callD fn free ((k + 7) + 1) "told" _ = _
  rw [sh_told]
  exact told_eq' (l := false) (c_ng k h false ho hl) (c_marks (k + 4) h false hb) (c_need (k + 6) _) (c_word (k + 3) h ho hl hb)
theorem c_bounds (h : K12 n) {rows : List Row} (ho : OkRows n rows) (hl : rows.length ≤ 20) : C (k + 4) "bounds" [gr n rows] = some (bdD n rows) := by
  show callD fn free ((k + 3) + 1) "bounds" _ = _
  rw [sh_bounds]; exact bounds_eq (c_high k h ho hl) (c_low k h ho)
theorem c_teaches (h : K12 n) {rows : List Row} (ho : OkRows n rows) (hl : rows.length ≤ 20) {r : List Int} (hr : r ∈ allR n) : C (k + 8) "teaches" [gr n rows, mk r] = some (.b (teachB n rows r)) := by
  show callD fn free ((k + 7) + 1) "teaches" _ = _
  rw [sh_teaches]
  exact teaches_eq' (c_ng k h false ho hl) (c_marks (k + 4) h false hr) (c_need (k + 6) _) (c_plain_mk (k + 4) false (by rw [allR_len h hr]; rcases h with rfl | rfl <;> omega)) (c_high (k + 4) h ho hl) (c_low (k + 4) h ho)
theorem c_lesson (h : K12 n) (l : Bool) {r : List Int} (hr : r ∈ allR n) : C (k + 5) "lesson" [mkQ l r] = some (gr n (lessonRows r)) := by
  show callD fn free ((k + 4) + 1) "lesson" _ = _
  rw [sh_lesson]
  have hlr := allR_len h hr
  refine lesson_eq h l hr ?_ (c_need (k + 3) _) (c_plain_mk (k + 1) l (by rw [hlr]; rcases h with rfl | rfl <;> omega))
  show callD fn free ((k + 3) + 1) "is_any_marks" _ = _
  rw [sh_is_any_marks]
  refine is_any_q ?_ (by rw [hlr]; exact c_marks k h l hr)
  have := c_long (k + 1) l (r.map .i) 1 4
  rw [List.length_map, hlr] at this
  rcases h with rfl | rfl <;> exact this
theorem c_less {rows : List Row} {j : Nat} (hj : j < rows.length) (hl : rows.length ≤ 20) : C (k + 1) "less_row" [gr n rows, .i j] = some (gr n (lessR rows j)) := by
  rw [C, sh_less_row]; exact less_row_eq hj (by omega)
theorem c_without (h : K12 n) (l : Bool) {rows : List Row} (ho : OkRows n rows) {j : Nat} (hj : j < rows.length) (hl : rows.length ≤ 20) : C (k + 8) "without_row" [grQ l n rows, .i j] = some (gr n (lessR rows j)) := by
  show callD fn free ((k + 7) + 1) "without_row" _ = _
  rw [sh_without_row]
  refine without_row_eq hj (by omega) (c_ng k h l ho hl) ?_ (c_need (k + 6) _) (c_less (k + 6) hj hl)
  have := c_from (k + 5) j 0 ((rows.length : Int) - 1)
  rw [decide_eq_true (by omega), decide_eq_true (by omega)] at this
  exact this
theorem less_ok {rows : List Row} (ho : OkRows n rows) (j : Nat) : OkRows n (lessR rows j) := fun p hp => by
  unfold lessR at hp
  rcases List.mem_append.mp hp with e | e
  · exact ho p (List.mem_of_mem_take e)
  · exact ho p (List.mem_of_mem_drop e)
theorem less_len (rows : List Row) (j : Nat) : (lessR rows j).length ≤ rows.length := by
  unfold lessR
  rw [List.length_append, List.length_take, List.length_drop]
  omega
theorem c_spare (h : K12 n) {rows : List Row} (ho : OkRows n rows) (hl : rows.length ≤ 20) : C (k + 8) "spare" [gr n rows] = some (.t ((spareL n rows).map fun j => .i (j : Nat))) := by
  show callD fn free ((k + 7) + 1) "spare" _ = _
  rw [sh_spare]
  exact spare_eq (by omega) (c_ng k h false ho hl) (c_bounds (k + 3) h ho hl) (fun j hj => c_less (k + 6) hj hl) fun j hj => c_bounds (k + 3) h (less_ok ho j) (Nat.le_trans (less_len rows j) hl)
theorem c_power (j : Nat) (hj : j ≤ 1000) : C (k + 1) "_law_power" [.i 10, .i j] = some (.i ((10 : Int) ^ j)) := by
  rw [C, sh__law_power]; exact law_power_eq (by decide +kernel) (smI_nat (by omega))
theorem c_cell (ns : List Int) (p : Nat) : C (k + 1) "_law_cell" [.z (ns.map .i), .i p] = some (.i (ns.getD p 0)) := by rw [C, sh__law_cell]; exact law_cell_eq ns p
theorem c_numbers (ns : List Int) (p m : Nat) (hm : m ≤ 100) : ∃ xs : List Int, C (k + 2) "_law_numbers" [.z (ns.map .i), .i p, .i m] = some (.l (xs.map .i)) ∧ xs.length = m ∧ Small9 xs := by
  show ∃ xs, callD fn free ((k + 1) + 1) "_law_numbers" _ = _ ∧ _
  rw [sh__law_numbers]
  exact law_numbers_ex hm (c_cell k ns p)
theorem c_fit (h : K12 n) {r b : List Int} (hr : r ∈ allR n) (hb : b ∈ allR n) : C (k + 1) "_law_fit" [mk r, mk b] = some (.b (suitsB r b)) := by rw [C, sh__law_fit]; exact law_fit_eq h hr hb
theorem c_lgrades {xs : List Int} (hl : xs.length = 8) : ∃ (n : Nat) (rows : List Row), K12 n ∧ OkRows n rows ∧ rows.length ≤ 6 ∧ C (k + 2) "_law_grades" [.l (xs.map .i)] = some (gr n rows) := by
  show ∃ n rows, _ ∧ _ ∧ _ ∧ callD fn free ((k + 1) + 1) "_law_grades" _ = _
  rw [sh__law_grades]
  exact law_grades_ex (fun j hj => c_power k j (by omega)) (fun n h r hr b hb => c_fit k h hr hb) hl
theorem c_going (h : K12 n) {rows : List Row} (ho : OkRows n rows) (hl : rows.length ≤ 20) : C (k + 2) "_law_going" [gr n rows] = some (.l ((going n rows).map mk)) := by
  show callD fn free ((k + 1) + 1) "_law_going" _ = _
  rw [sh__law_going]
  refine law_going_eq h ho (by omega) ?_ fun r hr b hb => c_fit k h hr hb
  show callD fn free (k + 1) "_law_rows" _ = _
  rw [sh__law_rows]; exact law_rows_eq h
theorem c_llesson (h : K12 n) {r : List Int} (hr : r ∈ allR n) : C (k + 1) "_law_lesson" [mk r] = some (gr n (lessonRows r)) := by rw [C, sh__law_lesson]; exact law_lesson_eq h hr

/-! ### _law_same -/
theorem s_i (x : Int) : C (k + 1) "_law_same" [.i x, .i x] = some (.b true) := by rw [C, sh__law_same]; exact law_same_i x
theorem s_b (x y : Bool) : C (k + 1) "_law_same" [.b x, .b y] = some (.b (x == y)) := by rw [C, sh__law_same]; exact law_same_b x y
theorem s_w (w : Bool) : C (k + 1) "_law_same" [wd w, wd w] = some (.b true) := by
  rw [C, sh__law_same]
  cases w
  · exact law_same_s lay_unfit
  · exact law_same_s lay_fit
theorem s_t {xs : List D} (hl : xs.length ≤ 1000) (h : ∀ x ∈ xs, C k "_law_same" [x, x] = some (.b true)) : C (k + 1) "_law_same" [.t xs, .t xs] = some (.b true) := by rw [C, sh__law_same]; exact law_same_t hl h
theorem s_mk {b : List Int} (hb : b.length ≤ 1000) : C (k + 2) "_law_same" [mk b, mk b] = some (.b true) := s_t (k + 1) (by simpa using hb) fun x hx => by
  obtain ⟨y, _, rfl⟩ := List.mem_map.mp hx
  exact s_i k y
theorem s_gr (h : K12 n) {rows : List Row} (ho : OkRows n rows) (hl : rows.length ≤ 100) : C (k + 5) "_law_same" [gr n rows, gr n rows] = some (.b true) := by
  refine s_t (k + 4) (by simp) fun x hx => ?_
  rcases List.mem_cons.mp hx with e | e
  · rw [e]; exact s_i (k + 3) n
  · rw [List.mem_singleton.mp e]
    refine s_t (k + 3) (by simp; omega) fun y hy => ?_
    obtain ⟨p, hp, rfl⟩ := List.mem_map.mp hy
    refine s_t (k + 2) (by simp) fun z hz => ?_
    rcases List.mem_cons.mp hz with e | e
    · rw [e]; exact s_mk k (by rw [allR_len h (ho p hp)]; rcases h with rfl | rfl <;> omega)
    · rw [List.mem_singleton.mp e]; exact s_w (k + 1) p.2
theorem s_ns {l : List Nat} (hl : l.length ≤ 1000) : C (k + 2) "_law_same" [.t (l.map fun j => .i (j : Nat)), .t (l.map fun j => .i (j : Nat))] = some (.b true) := s_t (k + 1) (by simpa using hl) fun x hx => by
  obtain ⟨y, _, rfl⟩ := List.mem_map.mp hx
  exact s_i k y

/-! ### _law_listed -/
theorem l_i (x : Int) : C (k + 1) "_law_listed" [.i x] = some (.i x) := by rw [C, sh__law_listed]; exact law_listed_i x
theorem l_w (w : Bool) : C (k + 1) "_law_listed" [wd w] = some (wd w) := by rw [C, sh__law_listed]; exact law_listed_s _
theorem l_t {α : Type} (enc dec : α → D) {xs : List α} (hl : xs.length ≤ 1000) (h : ∀ a ∈ xs, C k "_law_listed" [enc a] = some (dec a)) : C (k + 1) "_law_listed" [.t (xs.map enc)] = some (.l (xs.map dec)) := by
  rw [C, sh__law_listed]; exact law_listed_t enc dec (sz1 hl) h
theorem l_gr (h : K12 n) {rows : List Row} (ho : OkRows n rows) (hl : rows.length ≤ 100) : C (k + 5) "_law_listed" [gr n rows] = some (grQ true n rows) := by
  have h3 : ∀ p ∈ rows, C (k + 3) "_law_listed" [row p] = some (rowQ true p) := fun p hp => by
    have h2 : C (k + 2) "_law_listed" [mk p.1] = some (mkQ true p.1) := l_t (k + 1) D.i D.i (by rw [allR_len h (ho p hp)]; rcases h with rfl | rfl <;> omega) fun x _ => l_i k x
    exact l_t (k + 2) (fun q : D × D => q.1) (fun q => q.2) (xs := [(mk p.1, mkQ true p.1), (wd p.2, wd p.2)]) (by simp) (fun a ha => by
      rcases List.mem_cons.mp ha with e | e
      · rw [e]; exact h2
      · rw [List.mem_singleton.mp e]; exact l_w (k + 1) p.2)
  have h4 := l_t (k + 3) row (rowQ true) (xs := rows) (by omega) h3
  exact l_t (k + 4) (fun q : D × D => q.1) (fun q => q.2) (xs := [(.i n, .i n), (.t (rows.map row), .l (rows.map (rowQ true)))]) (by simp) (fun a ha => by
    rcases List.mem_cons.mp ha with e | e
    · rw [e]; exact l_i (k + 3) n
    · rw [List.mem_singleton.mp e]; exact h4)
end
end K42
namespace K42
open PySem PySem.Spec PyProof.Rows L2 PL
structure Fx (c : Str → List D → Option D) (ns : List Int) (n : Nat) : Prop where
  cell : c "_law_cell" [.z (ns.map .i), .i 1] = some (.i (ns.getD 1 0))
  pow : OkPow c
  going : ∀ rows, OkRows n rows → rows.length ≤ 20 → c "_law_going" [gr n rows] = some (.l ((going n rows).map mk))
  llesson : ∀ r ∈ allR n, c "_law_lesson" [mk r] = some (gr n (lessonRows r))
  lesson : ∀ l, ∀ r ∈ allR n, c "lesson" [mkQ l r] = some (gr n (lessonRows r))
  sgr : ∀ rows, OkRows n rows → rows.length ≤ 100 → c "_law_same" [gr n rows, gr n rows] = some (.b true)
  sb : ∀ x y : Bool, c "_law_same" [.b x, .b y] = some (.b (x == y))
  sns : ∀ l : List Nat, l.length ≤ 1000 → c "_law_same" [.t (l.map fun j => .i (j : Nat)), .t (l.map fun j => .i (j : Nat))] = some (.b true)
  teaches : ∀ rows, OkRows n rows → rows.length ≤ 20 → ∀ r ∈ allR n, c "teaches" [gr n rows, mk r] = some (.b (teachB n rows r))
  told : ∀ rows, OkRows n rows → rows.length ≤ 20 → ∀ b ∈ allR n, c "told" [gr n rows, mk b] = some (tlD (toldM n rows b))
  without : ∀ l, ∀ rows, OkRows n rows → rows.length ≤ 20 → ∀ j : Nat, j < rows.length → c "without_row" [grQ l n rows, .i j] = some (gr n (lessR rows j))
  spare : ∀ rows, OkRows n rows → rows.length ≤ 20 → c "spare" [gr n rows] = some (.t ((spareL n rows).map fun j => .i (j : Nat)))
  listed : ∀ rows, OkRows n rows → rows.length ≤ 20 → c "_law_listed" [gr n rows] = some (grQ true n rows)
theorem fx {n : Nat} (h : K12 n) (ns : List Int) : Fx (C 59) ns n where
  cell := c_cell 58 ns 1
  pow := fun j hj => c_power 58 j (by omega)
  going := fun rows ho hl => c_going 57 h ho hl
  llesson := fun r hr => c_llesson 58 h hr
  lesson := fun l r hr => c_lesson 54 h l hr
  sgr := fun rows ho hl => s_gr 54 h ho hl
  sb := fun x y => s_b 58 x y
  sns := fun l hl => s_ns 57 hl
  teaches := fun rows ho hl r hr => c_teaches 51 h ho hl hr
  told := fun rows ho hl b hb => c_told 51 h ho hl hb
  without := fun l rows ho hl j hj => c_without 51 h l ho hj hl
  spare := fun rows ho hl => c_spare 51 h ho hl
  listed := fun rows ho hl => l_gr 54 h ho (by omega)
section
variable {c : Str → List D → Option D} {n : Nat} {ns : List Int}
theorem lessonRows_len (k : K12 n) : ∀ r ∈ allR n, (lessonRows r).length ≤ 3 := by
  rcases k with rfl | rfl <;> decide +kernel
theorem teachB_eq (k : K12 n) {rows : List Row} (ho : OkRows n rows) {r : List Int} (hr : r ∈ allR n) : teachB n rows r = decide (going n rows = [r]) := by
  unfold teachB
  simp only [teach_iff k ho hr]
/-- the row's slice -/
theorem less_slices {rows : List Row} {j : Nat} (hj : j < rows.length) : cutD (rows.map row) none (some (j : Int)) = (rows.take j).map row ∧ cutD (rows.map row) (some ((j : Int) + 1)) none = (rows.drop (j + 1)).map row := by
  constructor
  · rw [cut_to (by simp; omega), List.map_take]
  · have := cut_from (xs := rows.map row) (k := j + 1) (by simp; omega)
    rw [Int.natCast_add] at this
    rw [List.map_drop]
    exact this
def innerB (c : Str → List D → Option D) : StF :=
      (seqF (asgF (.nm 9) (tupV (consL (vV 2) (consL (bind2 addD (sliceV (bind2 ixD (vB 8) (kI 1)) p0 (partV (vV 6))) (sliceV (bind2 ixD (vB 8) (kI 1)) (partV (bind2 addD (vB 6) (kI 1))) p0)) a0))))
      (seqF (ifF (orT (asB (bind2 isntD (callV (c "teaches") (consL (vV 9) (consL (vV 7) a0))) (kB false))) (notT (asT (callV (c "_law_same") (consL (callV (c "without_row") (consL (vV 8) (consL (vV 6) a0))) (consL (vV 9) a0))))))
        (seqF (retF (kB false))
        nop)
        nop)
      nop))
theorem innerB_step (k : K12 n) (F : Fx c ns n) {r : List Int} (hr : r ∈ allR n) {j : Nat} (hj : j < (lessonRows r).length) (x0 x1 x3 x4 x5 c9 c10 c11 c12 c13 c14 c15 : Cell) :
    innerB c [x0, x1, .v (.i n), x3, x4, x5, .v (.i j), .v (mk r), .v (gr n (lessonRows r)), c9, c10, c11, c12, c13, c14, c15] = some (.nx [x0, x1, .v (.i n), x3, x4, x5, .v (.i j), .v (mk r), .v (gr n (lessonRows r)), .v (gr n (lessR (lessonRows r) j)), c10, c11, c12, c13, c14, c15]) := by
  have ho : OkRows n (lessonRows r) := lesson_ok k r hr
  have hl := lessonRows_len k r hr
  have hlen := less_len (lessonRows r) j
  have hlt : (lessR (lessonRows r) j).length < (lessonRows r).length := by
    unfold lessR
    rw [List.length_append, List.length_take, List.length_drop]
    omega
  have ho' := less_ok ho j
  have t := F.teaches _ ho' (by omega) r hr
  have tf : teachB n (lessR (lessonRows r) j) r = false := by
    rw [teachB_eq k ho' hr, decide_eq_false_iff_not]
    intro e
    have := fewest k ho' hr e
    omega
  rw [tf] at t
  have w := F.without false _ ho (by omega) j hj
  have s := F.sgr _ ho' (by omega)
  obtain ⟨e2, e3⟩ := less_slices hj
  have z1 : min j (lessonRows r).length + ((lessonRows r).length - (j + 1)) ≤ SZ := sz1 (by omega)
  have z : 2 ≤ SZ := sz1 (by omega)
  have g : ∀ rows : List Row, gr n rows = .t [.i n, .t (rows.map row)] := fun _ => rfl
  have gl : D.t [D.i n, D.t ((lessonRows r).take j |>.map row |>.append ((lessonRows r).drop (j + 1) |>.map row))] = gr n (lessR (lessonRows r) j) := by
    unfold lessR
    rw [g, List.map_append]
    rfl
  rw [grQ_t] at w
  rw [g (lessonRows r)] at w ⊢
  have m : D.t [D.i n, D.t ((lessonRows r).take j |>.map row |>.append ((lessonRows r).drop (j + 1) |>.map row))] = .t [.i n, .t ((lessR (lessonRows r) j).map row)] := gl
  rw [g (lessR (lessonRows r) j)] at t w s ⊢
  have m2 : ((lessonRows r).take j).map row ++ ((lessonRows r).drop (j + 1)).map row = (lessR (lessonRows r) j).map row := by unfold lessR; rw [List.map_append]
  simp only [List.map_take, List.map_drop] at m2 e2 e3
  simp [innerB, e2, e3, z1, z, m2, t, w, s]
end
end K42
namespace K42
open PySem PySem.Spec PyProof.Rows L2 PL
section
variable {c : Str → List D → Option D} {n : Nat} {ns : List Int}
theorem ok_ml (m : Nat) (X : List (List Int)) : okD (m + 2) (.l (X.map mk)) = true := by
  rw [okD, List.all_map]
  exact List.all_eq_true.mpr fun x _ => ok_mk m x
theorem nb_ml (m : Nat) (X : List (List Int)) : nbD (m + 2) (.l (X.map mk)) = true := by
  rw [nbD, List.all_map]
  exact List.all_eq_true.mpr fun x _ => nb_mk m x
theorem eqq_ml (X Y : List (List Int)) : eqqD (.l (X.map mk)) (.l (Y.map mk)) = some (.b (decide (X = Y))) := by
  rw [eqq_nb (n := 2) (by omega) (nb_ml 0 X) (nb_ml 0 Y) (ok_ml 18 X) (ok_ml 18 Y)]
  have : (D.l (X.map mk) = .l (Y.map mk)) ↔ X = Y := ⟨fun h => map_mk_inj (D.l.inj h), fun h => by rw [h]⟩
  simp only [this]
theorem neq_ml (X Y : List (List Int)) : neqD (.l (X.map mk)) (.l (Y.map mk)) = some (.b (!decide (X = Y))) := by
  have h := eqq_ml X Y
  rw [eqqD] at h
  rw [neqD]
  split at h
  · rename_i q
    rw [if_pos q]
    simp only [Option.some.injEq, D.b.injEq] at h
    rw [h]
  · cases h
def ruleB (c : Str → List D → Option D) : StF :=
    (seqF (asgF (.nm 8) (callV (c "_law_lesson") (consL (vV 7) a0)))
    (seqF (ifF (orT (notT (asT (callV (c "_law_same") (consL (callV (c "lesson") (consL (vV 7) a0)) (consL (vV 8) a0))))) (notT (asT (callV (c "_law_same") (consL (callV (c "lesson") (consL (callV listD (consL (vB 7) a0)) a0)) (consL (vV 8) a0))))))
      (seqF (retF (kB false))
      nop)
      nop)
    (seqF (ifF (orT (asB (bind2 isntD (callV (c "teaches") (consL (vV 8) (consL (vV 7) a0))) (kB true))) (asB (bind2 neqD (callV (c "_law_going") (consL (vV 8) a0)) (lstV (consL (vV 7) a0)))))
      (seqF (retF (kB false))
      nop)
      nop)
    (seqF (forF (itR1 (callV lenD (consL (bind2 ixD (vB 8) (kI 1)) a0))) (.nm 6)
      (seqF (asgF (.nm 9) (tupV (consL (vV 2) (consL (bind2 addD (sliceV (bind2 ixD (vB 8) (kI 1)) p0 (partV (vV 6))) (sliceV (bind2 ixD (vB 8) (kI 1)) (partV (bind2 addD (vB 6) (kI 1))) p0)) a0))))
      (seqF (ifF (orT (asB (bind2 isntD (callV (c "teaches") (consL (vV 9) (consL (vV 7) a0))) (kB false))) (notT (asT (callV (c "_law_same") (consL (callV (c "without_row") (consL (vV 8) (consL (vV 6) a0))) (consL (vV 9) a0))))))
        (seqF (retF (kB false))
        nop)
        nop)
      nop)))
    (seqF (ifF (orT (notT (asT (callV (c "_law_same") (consL (callV (c "teaches") (consL (vV 1) (consL (vV 7) a0))) (consL (bind2 eqqD (vB 4) (lstV (consL (vV 7) a0))) a0))))) (andT (asB (bind2 eqqD (vB 4) (lstV (consL (vV 7) a0)))) (asB (bind2 (cmpI fLt) (callV lenD (consL (vB 3) a0)) (callV lenD (consL (bind2 ixD (vB 8) (kI 1)) a0))))))
      (seqF (retF (kB false))
      nop)
      nop)
    nop)))))
theorem ruleB_step (k : K12 n) (F : Fx c ns n) {rows : List Row} (ho : OkRows n rows) (hl : rows.length ≤ 6) {r : List Int} (hr : r ∈ allR n) (x0 x5 c6 c8 c9 c10 c11 c12 c13 c14 c15 : Cell) :
    ∃ d6 d9, ruleB c [x0, .v (gr n rows), .v (.i n), .v (.t (rows.map row)), .v (.l ((going n rows).map mk)), x5, c6, .v (mk r), c8, c9, c10, c11, c12, c13, c14, c15] = some (.nx [x0, .v (gr n rows), .v (.i n), .v (.t (rows.map row)), .v (.l ((going n rows).map mk)), x5, d6, .v (mk r), .v (gr n (lessonRows r)), d9, c10, c11, c12, c13, c14, c15]) := by
  have hd : OkRows n (lessonRows r) := lesson_ok k r hr
  have hdl := lessonRows_len k r hr
  have f1 := F.llesson r hr
  have f2 : c "lesson" [mk r] = some (gr n (lessonRows r)) := F.lesson false r hr
  have f3 : c "lesson" [.l (r.map .i)] = some (gr n (lessonRows r)) := F.lesson true r hr
  have f4 := F.sgr _ hd (by omega)
  have f5 := F.teaches _ hd (by omega) r hr
  have t1 : teachB n (lessonRows r) r = true := by rw [teachB_eq k hd hr, decide_eq_true (lesson_going k r hr)]
  rw [t1] at f5
  have f6 := F.going _ hd (by omega)
  rw [lesson_going k r hr] at f6
  have f7 := F.teaches _ ho (by omega) r hr
  rw [teachB_eq k ho hr] at f7
  have q1 := neq_ml [r] [r]
  have q2 := eqq_ml (going n rows) [r]
  have q3 := F.sb (decide (going n rows = [r])) (decide (going n rows = [r]))
  have few : going n rows = [r] → ¬ rows.length < (lessonRows r).length := fun e => by
    have := fewest k ho hr e
    omega
  obtain ⟨env', g1, d6, d9, rfl⟩ := forV_inv (t := .nm 6) (fb := innerB c) (fun j env => ∃ d6 d9, env = [x0, .v (gr n rows), .v (.i n), .v (.t (rows.map row)), .v (.l ((going n rows).map mk)), x5, d6, .v (mk r), .v (gr n (lessonRows r)), d9, c10, c11, c12, c13, c14, c15]) (rngD 0 (lessonRows r).length) 0
    [x0, .v (gr n rows), .v (.i n), .v (.t (rows.map row)), .v (.l ((going n rows).map mk)), x5, c6, .v (mk r), .v (gr n (lessonRows r)), c9, c10, c11, c12, c13, c14, c15] ⟨c6, c9, rfl⟩ (fun j d env hd hp => by
      obtain ⟨d6, d9, rfl⟩ := hp
      obtain ⟨e, hj⟩ := rngD_get hd
      subst e
      rw [Int.zero_add]
      exact ⟨_, _, rfl, .inl (innerB_step k F hr hj x0 _ _ _ x5 d9 c10 c11 c12 c13 c14 c15), _, _, rfl⟩)
  refine ⟨d6, d9, ?_⟩
  have hn : smI (lessonRows r).length = true := smI_nat (by omega)
  have z1 : 1 ≤ SZ := sz1 (by omega)
  unfold innerB at g1
  have gm : mk r = .t (r.map .i) := rfl
  have gg : gr n (lessonRows r) = .t [.i n, .t ((lessonRows r).map row)] := rfl
  simp only [List.map_cons, List.map_nil] at q1 q2 f6
  rw [gm] at f1 f2 f5 f6 f7 q1 q2 g1 ⊢
  rw [gg] at f1 f2 f3 f4 f5 f6 g1 ⊢
  by_cases e : going n rows = [r]
  · have few := few e
    rw [e] at q2 f7 q3 g1 ⊢
    simp only [List.map_cons, List.map_nil, gm, decide_true] at q2 f7 q3 g1 ⊢
    simp [ruleB, f1, f2, f3, f4, f5, f6, f7, q1, q2, q3, hn, z1, g1, -eqqD, -neqD, few]
  · simp only [e, decide_false] at q2 f7 q3
    simp [ruleB, f1, f2, f3, f4, f5, f6, f7, q1, q2, q3, hn, z1, g1, -eqqD, -neqD]
def evenB (c : Str → List D → Option D) : StF :=
    (seqF (asgF (.nm 9) (tupV (consL (vV 2) (consL (bind2 addD (sliceV (vB 3) p0 (partV (vV 6))) (sliceV (vB 3) (partV (bind2 addD (vB 6) (kI 1))) p0)) a0))))
    (seqF (ifF (notT (asT (callV (c "_law_same") (consL (callV (c "without_row") (consL (callV (c "_law_listed") (consL (vV 1) a0)) (consL (vV 6) a0))) (consL (vV 9) a0)))))
      (seqF (retF (kB false))
      nop)
      nop)
    (seqF (ifF (asB (bind2 eqqD (callV (c "_law_going") (consL (vV 9) a0)) (vB 4)))
      (seqF (appF 10 (vV 6))
      nop)
      nop)
    nop)))
theorem evenB_step (k : K12 n) (F : Fx c ns n) {rows : List Row} (ho : OkRows n rows) (hl : rows.length ≤ 6) {j : Nat} (hj : j < rows.length) {ev : List Nat} (hev : ev.length ≤ 100) (x0 x5 c7 c8 c9 c11 c12 c13 c14 c15 : Cell) :
    evenB c [x0, .v (gr n rows), .v (.i n), .v (.t (rows.map row)), .v (.l ((going n rows).map mk)), x5, .v (.i j), c7, c8, c9, .o (.l (ev.map fun j => .i (j : Nat))), c11, c12, c13, c14, c15] =
      some (.nx [x0, .v (gr n rows), .v (.i n), .v (.t (rows.map row)), .v (.l ((going n rows).map mk)), x5, .v (.i j), c7, c8, .v (gr n (lessR rows j)), .o (.l ((if going n (lessR rows j) = going n rows then ev ++ [j] else ev).map fun j => .i (j : Nat))), c11, c12, c13, c14, c15]) := by
  have hlen := less_len rows j
  have ho' := less_ok ho j
  have f1 := F.listed rows ho (by omega)
  have f2 := F.without true rows ho (by omega) j hj
  have f3 := F.sgr _ ho' (by omega)
  have f4 := F.going _ ho' (by omega)
  have q := eqq_ml (going n (lessR rows j)) (going n rows)
  obtain ⟨e2, e3⟩ := less_slices hj
  have z1 : min j rows.length + (rows.length - (j + 1)) ≤ SZ := sz1 (by omega)
  have z : 2 ≤ SZ := sz1 (by omega)
  have z3 : ev.length < SZ := by unfold SZ; omega
  have g : ∀ rows : List Row, gr n rows = .t [.i n, .t (rows.map row)] := fun _ => rfl
  rw [g (lessR rows j)] at f2 f3 f4 ⊢
  have m2 : (rows.take j).map row ++ (rows.drop (j + 1)).map row = (lessR rows j).map row := by unfold lessR; rw [List.map_append]
  simp only [List.map_take, List.map_drop] at m2 e2 e3
  by_cases e : going n (lessR rows j) = going n rows
  · simp only [e, decide_true] at q
    rw [e] at f4
    simp [evenB, e2, e3, z1, z, z3, m2, f1, f2, f3, f4, q, -eqqD, e]
  · simp only [e, decide_false] at q
    simp [evenB, e2, e3, z1, z, z3, m2, f1, f2, f3, f4, q, -eqqD, e]
end
end K42
namespace K42
open PySem PySem.Spec PyProof.Rows L2 PL
section
variable {c : Str → List D → Option D} {n : Nat} {ns : List Int}
theorem tl_open (t : Tl) : neqD (tlD t) (.s "open") = some (.b (!decide (t = .opn))) := by cases t <;> decide +kernel
theorem tl_in (t t' : Tl) : ninD (tlD t') (.l [tlD t, .n]) = some (.b (!(decide (t' = t) || decide (t' = .no)))) := by cases t <;> cases t' <;> decide +kernel
def otherB (c : Str → List D → Option D) : StF :=
      (seqF (ifF (andT (asB (bind2 neqD (callV (c "told") (consL (vV 1) (consL (vV 14) a0))) (kS "open"))) (asB (bind2 ninD (callV (c "told") (consL (vV 13) (consL (vV 14) a0))) (lstV (consL (callV (c "told") (consL (vV 1) (consL (vV 14) a0))) (consL kN a0))))))
        (seqF (retF (kB false))
        nop)
        nop)
      nop)
theorem otherB_step (k : K12 n) (F : Fx c ns n) {rows : List Row} (ho : OkRows n rows) (hl : rows.length ≤ 6) {p : Row} (hp : p.1 ∈ allR n) {b : List Int} (hb : b ∈ allR n) (x0 x2 x3 x4 x5 x6 x7 x8 x9 x10 x11 x12 x15 : Cell) :
    otherB c [x0, .v (gr n rows), x2, x3, x4, x5, x6, x7, x8, x9, x10, x11, x12, .v (gr n (rows ++ [p])), .v (mk b), x15] = some (.nx [x0, .v (gr n rows), x2, x3, x4, x5, x6, x7, x8, x9, x10, x11, x12, .v (gr n (rows ++ [p])), .v (mk b), x15]) := by
  have ho' : OkRows n (rows ++ [p]) := fun q hq => by
    rcases List.mem_append.mp hq with e | e
    · exact ho q e
    · rw [List.mem_singleton.mp e]; exact hp
  have f1 := F.told rows ho (by omega) b hb
  have f2 := F.told (rows ++ [p]) ho' (by simp; omega) b hb
  have q1 := tl_open (toldM n rows b)
  have q2 := tl_in (toldM n rows b) (toldM n (rows ++ [p]) b)
  have z2 : 2 ≤ SZ := sz1 (by omega)
  by_cases e : toldM n rows b = .opn
  · simp only [e, decide_true] at q1
    rw [e] at f1
    simp [otherB, f1, f2, q1, -neqD]
  · have q3 : (decide (toldM n (rows ++ [p]) b = toldM n rows b) || decide (toldM n (rows ++ [p]) b = .no)) = true := by
      rw [Bool.or_eq_true, decide_eq_true_eq, decide_eq_true_eq]
      exact told_more k ho hp hb e
    rw [q3] at q2
    simp only [e, decide_false] at q1
    simp [otherB, f1, f2, q1, q2, z2, -neqD, -ninD]
theorem mulT2 (k : K12 n) (m : Int) : mulD (.t [.i m]) (.i n) = some (mk (List.replicate n m)) := by
  have hn : n ≤ 2 := by rcases k with rfl | rfl <;> omega
  rw [mulD, if_pos ⟨by omega, absLe_of (by simp; omega), by simp⟩]
  unfold mk
  simp
theorem rep_in (k : K12 n) {m : Int} (h : 0 ≤ m ∧ m ≤ 9) : List.replicate n m ∈ allR n := by
  rcases k with rfl | rfl
  · exact allR_1.mpr ⟨m, rfl, h⟩
  · exact allR_2.mpr ⟨m, m, rfl, h, h⟩
def wordB (c : Str → List D → Option D) : StF :=
    (seqF (asgF (.nm 13) (tupV (consL (vV 2) (consL (bind2 addD (vB 3) (tupV (consL (tupV (consL (vV 11) (consL (vV 12) a0))) a0))) a0))))
    (seqF (forF (itP (lstV (consL (vV 11) (consL (bind2 mulD (tupV (consL (kI 5) a0)) (vB 2)) (consL (bind2 mulD (tupV (consL (kI 9) a0)) (vB 2)) a0))))) (.nm 14)
      (seqF (ifF (andT (asB (bind2 neqD (callV (c "told") (consL (vV 1) (consL (vV 14) a0))) (kS "open"))) (asB (bind2 ninD (callV (c "told") (consL (vV 13) (consL (vV 14) a0))) (lstV (consL (callV (c "told") (consL (vV 1) (consL (vV 14) a0))) (consL kN a0))))))
        (seqF (retF (kB false))
        nop)
        nop)
      nop))
    nop))
theorem wordB_step (k : K12 n) (F : Fx c ns n) {rows : List Row} (ho : OkRows n rows) (hl : rows.length ≤ 6) {b : List Int} (hb : b ∈ allR n) (w : Bool) (x0 x4 x5 x6 x7 x8 x9 x10 c13 c14 x15 : Cell) :
    ∃ d13 d14, wordB c [x0, .v (gr n rows), .v (.i n), .v (.t (rows.map row)), x4, x5, x6, x7, x8, x9, x10, .v (mk b), .v (wd w), c13, c14, x15] = some (.nx [x0, .v (gr n rows), .v (.i n), .v (.t (rows.map row)), x4, x5, x6, x7, x8, x9, x10, .v (mk b), .v (wd w), d13, d14, x15]) := by
  obtain ⟨env', g1, d14, rfl⟩ := forV_inv (t := .nm 14) (fb := otherB c) (fun j env => ∃ d14, env = [x0, .v (gr n rows), .v (.i n), .v (.t (rows.map row)), x4, x5, x6, x7, x8, x9, x10, .v (mk b), .v (wd w), .v (gr n (rows ++ [(b, w)])), d14, x15]) ([b, List.replicate n 5, List.replicate n 9].map mk) 0
    [x0, .v (gr n rows), .v (.i n), .v (.t (rows.map row)), x4, x5, x6, x7, x8, x9, x10, .v (mk b), .v (wd w), .v (gr n (rows ++ [(b, w)])), c14, x15] ⟨c14, rfl⟩ (fun j d env hd hP => by
      obtain ⟨d14, rfl⟩ := hP
      rw [List.getElem?_map] at hd
      obtain ⟨r, hr, rfl⟩ := map_some' hd
      have hr' : r ∈ allR n := by
        rcases List.mem_cons.mp (List.mem_of_getElem? hr) with e | e
        · rw [e]; exact hb
        · rcases List.mem_cons.mp e with e | e
          · rw [e]; exact rep_in k (by omega)
          · rw [List.mem_singleton.mp e]; exact rep_in k (by omega)
      exact ⟨_, _, rfl, .inl (otherB_step k F ho hl (p := (b, w)) hb hr' x0 _ _ x4 x5 x6 x7 x8 x9 x10 _ _ x15), _, rfl⟩)
  refine ⟨.v (gr n (rows ++ [(b, w)])), d14, ?_⟩
  have z1 : 1 ≤ SZ := sz1 (by omega)
  have z2 : 2 ≤ SZ := sz1 (by omega)
  have z3 : 3 ≤ SZ := sz1 (by omega)
  have z4 : rows.length + 1 ≤ SZ := sz1 (by omega)
  have m5 := mulT2 k 5
  have m9 := mulT2 k 9
  unfold otherB at g1
  have gg : gr n (rows ++ [(b, w)]) = .t [.i n, .t (rows.map row ++ [.t [mk b, wd w]])] := by unfold gr; rw [List.map_append]; rfl
  rw [gg] at g1 ⊢
  simp only [List.map_cons, List.map_nil] at g1
  simp [wordB, z1, z2, z3, z4, m5, m9, g1, -mulD, -forV]
end
end K42
namespace K42
open PySem PySem.Spec PyProof.Rows L2 PL
theorem fr0 (N : List Str) (m : Nat) (env : List Cell) : frC (keepL N []) m env = frC (fun _ => false) m env := by
  have : keepL N [] = fun _ => false := by
    funext i
    unfold keepL
    cases N[i]? <;> rfl
  rw [this]
theorem frv (d : D) : Cell.fr (.v d) = .v d := rfl
theorem fro (d : D) : Cell.fr (.o d) = .v d := rfl
theorem frn : Cell.fr .no = .no := rfl
theorem four (k : K12 n) : (9 : Int) :: List.replicate (n - 1) 3 ∈ allR n := by
  rcases k with rfl | rfl
  · exact allR_1.mpr ⟨9, rfl, by omega⟩
  · exact allR_2.mpr ⟨9, 3, rfl, by omega, by omega⟩
section
variable {c : Str → List D → Option D} {n : Nat} {ns : List Int}
theorem law_body (k : K12 n) (F : Fx c ns n) {xs : List Int} {rows : List Row} (ho : OkRows n rows) (hl : rows.length ≤ 6) (h1 : c "_law_numbers" [.z (ns.map .i), .i 0, .i 8] = some (.l (xs.map .i))) (h2 : c "_law_grades" [.l (xs.map .i)] = some (gr n rows)) :
    S_law c [.z (ns.map .i)] = some (.b true) := by
  have f1 := F.going rows ho (by omega)
  have f2 := F.cell
  generalize hN : ns.getD 1 0 % 10000 = N
  have hsm : smI n = true := smI_nat (by rcases k with rfl | rfl <;> omega)
  have hsr : smI rows.length = true := smI_nat (by omega)
  have z : n ≤ SZ := sz1 (by rcases k with rfl | rfl <;> omega)
  -- the drawn digits
  have digs : ∀ x0 x1 x3 x4 x6 x7 x8 x9 x10 x11 x12 x13 x14 x15 : Cell, compD (.nm 6) tY (bind2 modD (callV intD (consL (bind2 fdivD (vB 5) (callV (c "_law_power") (consL (kI 10) (consL (vV 6) a0)))) a0)) (kI 10)) [x0, x1, .v (.i n), x3, x4, .v (.i N), x6, x7, x8, x9, x10, x11, x12, x13, x14, x15] (rngD 0 n) = some ((dgs n N).map .i) := by
    intro x0 x1 x3 x4 x6 x7 x8 x9 x10 x11 x12 x13 x14 x15
    have e := compD_map (t := .nm 6) (ft := tY) (f := bind2 modD (callV intD (consL (bind2 fdivD (vB 5) (callV (c "_law_power") (consL (kI 10) (consL (vV 6) a0)))) a0)) (kI 10)) (env := [x0, x1, .v (.i n), x3, x4, .v (.i N), x6, x7, x8, x9, x10, x11, x12, x13, x14, x15])
      (fun i : Nat => D.i (0 + (i : Int))) (fun i => D.i (N / (10 : Int) ^ i % 10)) (List.range n) (fun i hi => by
        have hi := List.mem_range.mp hi
        have hi2 : i ≤ 2 := by rcases k with rfl | rfl <;> omega
        have q := F.pow i hi2
        have q2 := fdiv_ok (x := N) (y := (10 : Int) ^ i) (by have := pow_le hi2; omega)
        refine ⟨[x0, x1, .v (.i n), x3, x4, .v (.i N), .v (.i i), x7, x8, x9, x10, x11, x12, x13, x14, x15], by simp, rfl, ?_⟩
        simp [q, -fdivD, q2])
    rw [rngD_map, e]
    unfold dgs
    rw [List.map_map]
    rfl
  have dlen : (dgs n N).length = n := by unfold dgs; simp
  have hdg := dgs_in k N
  generalize hb : dgs n N = b at digs dlen hdg
  -- first loop
  obtain ⟨env1, g1, d6, d7, d8, d9, rfl⟩ := forV_inv (t := .nm 7) (fb := ruleB c) (fun j env => ∃ d6 d7 d8 d9, env = [.v (.z (ns.map .i)), .v (gr n rows), .v (.i n), .v (.t (rows.map row)), .v (.l ((going n rows).map mk)), .v (.i N), d6, d7, d8, d9, .no, .no, .no, .no, .no, .no]) ([b, List.replicate n 9, List.replicate n 0, (9 : Int) :: List.replicate (n - 1) 3].map mk) 0
    [.v (.z (ns.map .i)), .v (gr n rows), .v (.i n), .v (.t (rows.map row)), .v (.l ((going n rows).map mk)), .v (.i N), .no, .no, .no, .no, .no, .no, .no, .no, .no, .no] ⟨.no, .no, .no, .no, rfl⟩ (fun j d env hd hP => by
      obtain ⟨d6, d7, d8, d9, rfl⟩ := hP
      rw [List.getElem?_map] at hd
      obtain ⟨r, hr, rfl⟩ := map_some' hd
      have hr' : r ∈ allR n := by
        rcases List.mem_cons.mp (List.mem_of_getElem? hr) with e | e
        · rw [e]; exact hdg
        · rcases List.mem_cons.mp e with e | e
          · rw [e]; exact rep_in k (by omega)
          · rcases List.mem_cons.mp e with e | e
            · rw [e]; exact rep_in k (by omega)
            · rw [List.mem_singleton.mp e]; exact four k
      obtain ⟨e6, e9, hs⟩ := ruleB_step k F ho hl hr' (.v (.z (ns.map .i))) (.v (.i N)) d6 d8 d9 .no .no .no .no .no .no
      exact ⟨_, _, rfl, .inl hs, _, _, _, _, rfl⟩)
  -- second loop
  obtain ⟨env2, g2, e6, e9, rfl⟩ := forV_inv (t := .nm 6) (fb := evenB c) (fun j env => ∃ e6 e9, env = [.v (.z (ns.map .i)), .v (gr n rows), .v (.i n), .v (.t (rows.map row)), .v (.l ((going n rows).map mk)), .v (.i N), e6, d7, d8, e9, .o (.l (((List.range j).filter fun i => decide (going n (lessR rows i) = going n rows)).map fun j => .i (j : Nat))), .no, .no, .no, .no, .no]) (rngD 0 rows.length) 0
    [.v (.z (ns.map .i)), .v (gr n rows), .v (.i n), .v (.t (rows.map row)), .v (.l ((going n rows).map mk)), .v (.i N), d6, d7, d8, d9, .o (.l []), .no, .no, .no, .no, .no] ⟨d6, d9, rfl⟩ (fun j d env hd hP => by
      obtain ⟨e6, e9, rfl⟩ := hP
      obtain ⟨e, hj⟩ := rngD_get hd
      subst e
      rw [Int.zero_add, Nat.zero_add]
      have hev : ((List.range j).filter fun i => decide (going n (lessR rows i) = going n rows)).length ≤ 100 := by
        have := List.length_filter_le (fun i => decide (going n (lessR rows i) = going n rows)) (List.range j)
        rw [List.length_range] at this
        omega
      have hs := evenB_step k F ho hl hj hev (.v (.z (ns.map .i))) (.v (.i N)) d7 d8 e9 .no .no .no .no .no
      refine ⟨_, _, rfl, .inl hs, .v (.i (j : Nat)), .v (gr n (lessR rows j)), ?_⟩
      rw [List.range_succ, List.filter_append]
      by_cases q : going n (lessR rows j) = going n rows <;> simp [q])
  rw [rngD_length, Nat.zero_add] at g2
  have sp := F.spare rows ho (by omega)
  have spe : spareL n rows = (List.range rows.length).filter fun i => decide (going n (lessR rows i) = going n rows) := by
    unfold spareL
    refine List.filter_congr fun i hi => ?_
    simp only [bounds_iff k (less_ok ho i) ho]
  rw [spe] at sp
  have sns := F.sns ((List.range rows.length).filter fun i => decide (going n (lessR rows i) = going n rows)) (by
    have := List.length_filter_le (fun i => decide (going n (lessR rows i) = going n rows)) (List.range rows.length)
    rw [List.length_range] at this
    omega)
  generalize hE : ((List.range rows.length).filter fun i => decide (going n (lessR rows i) = going n rows)).map (fun j => D.i (j : Nat)) = EV at g2 sp sns
  -- the words
  obtain ⟨env3, g3, y12, y13, y14, rfl⟩ := forV_inv (t := .nm 12) (fb := wordB c) (fun j env => ∃ y12 y13 y14, env = [.v (.z (ns.map .i)), .v (gr n rows), .v (.i n), .v (.t (rows.map row)), .v (.l ((going n rows).map mk)), .v (.i N), e6.fr, d7.fr, d8.fr, e9.fr, .v (.l EV), .v (mk b), y12, y13, y14, .no]) ([true, false].map wd) 0
    [.v (.z (ns.map .i)), .v (gr n rows), .v (.i n), .v (.t (rows.map row)), .v (.l ((going n rows).map mk)), .v (.i N), e6.fr, d7.fr, d8.fr, e9.fr, .v (.l EV), .v (mk b), .no, .no, .no, .no] ⟨.no, .no, .no, rfl⟩ (fun j d env hd hP => by
      obtain ⟨y12, y13, y14, rfl⟩ := hP
      rw [List.getElem?_map] at hd
      obtain ⟨w, hw, rfl⟩ := map_some' hd
      obtain ⟨d13, d14, hs⟩ := wordB_step k F ho hl hdg w (.v (.z (ns.map .i))) (.v (.l ((going n rows).map mk))) (.v (.i N)) e6.fr d7.fr d8.fr e9.fr (.v (.l EV)) y13 y14 .no
      exact ⟨_, _, rfl, .inl hs, _, _, _, rfl⟩)
  have z1 : 1 ≤ SZ := sz1 (by omega)
  have z2 : 2 ≤ SZ := sz1 (by omega)
  have z4 : 4 ≤ SZ := sz1 (by omega)
  have zz : 1 + (n - 1) ≤ SZ := sz1 (by rcases k with rfl | rfl <;> omega)
  have zb : b.length ≤ SZ := by omega
  have m9 := mulT2 k 9
  have m0 := mulT2 k 0
  have m3 : mulD (.t [.i 3]) (.i ((n : Int) - 1)) = some (.t ((List.replicate (n - 1) (3 : Int)).map .i)) := by
    rcases k with rfl | rfl
    · exact (mulT 3).1
    · exact (mulT 3).2
  have gg : gr n rows = .t [.i n, .t (rows.map row)] := rfl
  unfold ruleB at g1
  unfold evenB at g2
  unfold wordB at g3
  have q4 : mk ((9 : Int) :: List.replicate (n - 1) 3) = .t (.i 9 :: (List.replicate (n - 1) (3 : Int)).map .i) := rfl
  have qb : mk b = .t (b.map .i) := rfl
  have hn : 0 < (10000 : Int) := by decide
  simp only [List.map_cons, List.map_nil, q4, qb] at g1 g2 g3
  rw [gg] at h2 f1 sp g1 g2 g3
  have w1 : wd true = .s "fit" := rfl
  have w2 : wd false = .s "unfit" := rfl
  rw [w1, w2] at g3
  simp only [List.map_replicate] at m3 g1
  have hN' : ns[1]?.getD 0 % 10000 = N := hN
  have f2' : c "_law_cell" [.z (ns.map .i), .i 1] = some (.i (ns[1]?.getD 0)) := f2
  simp [S_law, h1, h2, f1, f2', hN', fr0, -keepL, -Cell.fr, frv, fro, frn, hsm, hsr, digs, z1, z2, z4, zz, zb, m9, m0, m3, g1, g2, g3, sp, sns, -mulD, -forV]
end
theorem law_eq (ns : List Int) : callD fn free 60 "law" [.z (ns.map .i)] = some (.b true) := by
  show callD fn free (59 + 1) "law" _ = _
  rw [sh_law]
  obtain ⟨xs, h1, h2, _⟩ := c_numbers 57 ns 0 8 (by omega)
  obtain ⟨n, rows, k, ho, hl, h3⟩ := c_lgrades 57 h2
  exact law_body k (fx k ns) ho hl h1 h3
end K42
namespace K42
open PySem PySem.Spec PyProof.Rows L2 PL
abbrev R : PySem.W.OpenRow := PySem.W.OpenLaw.row PySem.Challenge.rw_surelysound_k42_whole_lessons_of_fewest
abbrev hk : PySem.W.Hook := He.hookD 4 (faOf fn free) fn
def ob (s : PySem.W.SharedT) : He.AlD := He.obsDG 4 (faOf fn free) fn (HandSHeadRun.getT s)
theorem ob_eq (s : PySem.W.SharedT) : ob s = hk.obs s.abs := He.obsDG_eq (HandSHeadRun.getT_eq s)
def lawIx : Nat := thP.main.body.length - 1
def boundN : List Str := (thP.main.body.filterMap fun st => match st with
  | .FunctionDef n .. => some n
  | .ClassDef n .. => some n
  | _ => none).filter fun n => n != "law"
theorem run (w : World) : HandSHeadRun.RunEq R (PySem.W.view R.prog [lawIx]) hk ob 4000 boundN w := by
  intro os
  kernel_rfl
theorem allOk : fn.all okDef = true := by decide +kernel
def dLaw : He.DefD := (findD "law" fn).getD ⟨("", none), "", "", ⟨[], [], none, [], [], none, []⟩, [], ⟨.function, [], false, false, []⟩, [], []⟩
theorem dLaw_eq : findD "law" fn = some dLaw := by kernel_rfl
theorem dLaw_par : parsOf dLaw = [(("script" : Str))] := by kernel_rfl
end K42
open PySem PySem.W PySem.Calls PyProof.Rows
theorem PySem.Challenge.cw_surelysound_k42_whole_lessons_of_fewest_holds : PySem.Challenge.rw_surelysound_k42_whole_lessons_of_fewest.Holds := by
  w_on; o_law
  refine HandSHeadRun.head_any (r := OpenLaw.row PySem.Challenge.rw_surelysound_k42_whole_lessons_of_fewest) (q := view (OpenLaw.row PySem.Challenge.rw_surelysound_k42_whole_lessons_of_fewest).prog [K42.lawIx]) (H := K42.hk) (ob := K42.ob) (M := 4000) (loose := K42.boundN) (d := HandSHeadRun.topDef (OpenLaw.row PySem.Challenge.rw_surelysound_k42_whole_lessons_of_fewest).prog K42.lawIx) (kwd := []) K42.ob_eq
    (by kernel_rfl) (fun s => by kernel_rfl) K42.run (by kernel_rfl) (by kernel_rfl) (by kernel_rfl) (by rfl) (by first | assumption | decide +kernel) (by decide +kernel) ⟨rfl, rfl, rfl, rfl, rfl, by decide +kernel⟩ ?hw ?hc
  case hw => w_witness2
  case hc =>
    refine PL.walk_fin (l := PySem.Challenge.rw_surelysound_k42_whole_lessons_of_fewest) (n := 63) (k := 60) (x := "script") rfl (by decide) (by kernel_rfl) ⟨rfl, by decide, by decide⟩ ?F
    intro w mg fa h Y G hmg0
    obtain ⟨K, KX, c⟩ := Y
    have kn := PL.known_of KX G K42.allOk c
    have hd := (PL.findD_mem K42.dLaw_eq)
    obtain ⟨fd, F⟩ := kn.def_ _ hd.1
    have hmg : mg ("law" : PySem.Str) = some (.ref fa) := by
      have e : (HandSHeadRun.topDef (OpenLaw.row PySem.Challenge.rw_surelysound_k42_whole_lessons_of_fewest).prog K42.lawIx).name = ("law" : PySem.Str) := by kernel_rfl
      rw [← e]
      exact hmg0
    have hfa : fa = He.ga K K42.dLaw.name := by
      have e := kn.glo _ hd.1
      rw [hd.2, hmg] at e
      cases e
      rfl
    subst hfa
    refine ⟨K, fd, PL.spLaw K, KX, fun s u => ?_, fun H a ns hl hb hS => ⟨a, ns, rfl, hl, hb, hS, fun _ => rfl⟩, fun base KB GB => ?_⟩
    · have b := PL.bindsA_of (List.all_eq_true.mp K42.allOk _ hd.1) F s [u] (by rw [K42.dLaw_par]; rfl)
      rw [K42.dLaw_par] at b
      exact b
    · have o := PL.lawOk (P := (PySem.Challenge.rw_surelysound_k42_whole_lessons_of_fewest).prog) (w := w) (base := base) K42.allOk kn K42.dLaw_eq (by rw [K42.dLaw_par]; rfl) F (fun ns _ _ => K42.law_eq ns)
      rw [K42.dLaw_par] at o
      exact o
