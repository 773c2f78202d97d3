import PyProof.Rows.All
import Wide.All
import OpenK.AllK
import Wide.FinOn
import KE.KStateDown
import Lean
import HandS.ForMost
import HandS.Deep
import HandS.TupAny
import HandS.TupMul
import HandS.TupLe
import HandS.IsInst
import HandS.Flow
import HandS.Style
import HandS.Zip
import HandS.Wide
import HandS.Conv
import HandS.Gcd
import HandS.SortInts
import HandS.TupSets
import KE.KeyNested
import KE.KDictKeyed
import KE.KDictDisplayH
import KE.GoesEnum
import KE.GoesZip
import KE.GoesMore
import KE.DataMinMax
import KE.SortData
import PyProof.Claim2Refuses
import HandS.RepeatKit
import HandS.Rev
import HandS.SortKw
import HandS.Defaults
import HandS.HeadHook1
import HandS.HeadHook2
import HandS.Head0
import HandS.Head1
import HandS.Head2
import HandS.HeadEnd
import HandS.EndBits
import PySem.Challenge.RW_surelysound_k37_whole_places_or_a_full_d
import HandS.Head3
set_option Elab.async false
set_option linter.all false
set_option maxRecDepth 100000
set_option maxHeartbeats 0
/-! PL a: data as trees, what stands for them. -/
namespace PL
open PySem PySem.Spec PyProof.Rows L2

/-- Python data as a tree -/
inductive D where
  | n | b (x : Bool) | i (x : Int) | s (x : Str) | t (xs : List D) | l (xs : List D) | r (lo hi : Int)
  /-- a list that is only read: the script -/
  | z (xs : List D)
  /-- a dict: its keys, its values, in the order of insertion -/
  | d (ks vs : List D)

/-- a list may hold so many -/
def SZ : Nat := 16777216
theorem SZ_eq : sizeLine = SZ := sizeLine_eq

mutual
/-- the hash of a key of ints, None, tuples -/
def keyH : D → Int
  | .n => reduceHash 0xFCA86420
  | .i x => hashInt x
  | .t xs => reduceHash (Builtin.Tuple.tupleHashOf (keyHs xs))
  | _ => 0
def keyHs : List D → List Int
  | [] => []
  | x :: xs => keyH x :: keyHs xs
end
/-- ints, None, tuples of such, k deep -/
def kyD : Nat → D → Bool
  | _, .n => true
  | _, .i _ => true
  | k + 1, .t xs => xs.all (kyD k)
  | _, _ => false
def isTuD : D → Bool
  | .t _ => true
  | _ => false
/-- what may be a key here: a tuple -/
def tkD (d : D) : Bool := isTuD d && kyD 8 d
/-- at a: a dict, its entries' hashes, keys, values -/
def DxP (a : Addr) (ents : List (Int × V × V)) : Heap → Prop := fun h => (a == sysModules) = false ∧ ents.length ≤ SZ ∧ ∃ o es ep, h.get? a = some o ∧ o.ExactDict ∧ o.data = .dict es ep ∧
  Paired (fun (p : Int × V × V) (e : DictEntry) => e.hash = p.1 ∧ RelV p.2.1 e.key ∧ RelV p.2.2 e.val) ents es.toList
def DxO (a : Addr) (ents : List (Int × V × V)) : HO := .ext (DxP a ents)

mutual
/-- v stands for d; no list or tuple of it stands at an address of O -/
inductive Rep (K : PySem.W.Frag) (H : Hp) (O : Addr → Prop) : V → D → Prop
  | n : Rep K H O .non .n
  | b (x : Bool) : Rep K H O (.bl x) (.b x)
  | i (x : Int) : Rep K H O (.int x) (.i x)
  | s (x : Str) : Rep K H O (.str x) (.s x)
  | l {a : Addr} {xs : List V} {ds : List D} : H a = some (.lst xs) → ¬ O a → RepL K H O xs ds → Rep K H O (.ref a) (.l ds)
  | z {a : Addr} {xs : List V} {ds : List D} : Rd H a (.lst xs) → ¬ O a → RepL K H O xs ds → Rep K H O (.ref a) (.z ds)
  | zk {a : Addr} {xs : List V} {ds : List D} : (∀ G : Hp, SqL K G a xs) → RepL K H O xs ds → Rep K H O (.ref a) (.z ds)
  | t {a : Addr} {xs : List V} {ds : List D} : Rd H a (.tup xs) → ¬ O a → RepL K H O xs ds → Rep K H O (.ref a) (.t ds)
  | tk {a : Addr} {xs : List V} {ds : List D} : (∀ G : Hp, SqT K G a xs) → RepL K H O xs ds → Rep K H O (.ref a) (.t ds)
  | r {a : Addr} {lo hi : Int} : H a = some (.rng lo hi) → ¬ O a → Rep K H O (.ref a) (.r lo hi)
  | d {a : Addr} {ents : List (Int × V × V)} {ks vs : List D} : H a = some (DxO a ents) → ¬ O a → RepL K H O (ents.map fun e => e.2.1) ks → RepL K H O (ents.map fun e => e.2.2) vs → ents.map (fun e => e.1) = ks.map keyH → ks.all tkD = true → ks.Nodup → Rep K H O (.ref a) (.d ks vs)
inductive RepL (K : PySem.W.Frag) (H : Hp) (O : Addr → Prop) : List V → List D → Prop
  | nil : RepL K H O [] []
  | cons {v : V} {vs : List V} {d : D} {ds : List D} : Rep K H O v d → RepL K H O vs ds → RepL K H O (v :: vs) (d :: ds)
end

section
variable {K : PySem.W.Frag} {H H' : Hp} {O O' : Addr → Prop}

/-- what stays: every tracked object that is not in O -/
def Kp (O : Addr → Prop) (H H' : Hp) : Prop := ∀ a o, H a = some o → ¬ O a → H' a = some o
theorem Kp.of (h : Same H H') : Kp O H H' := fun a o e _ => h a o e
theorem Kp.refl : Kp O H H := fun _ _ e _ => e
theorem rd_kp (k : Kp O H H') {a : Addr} {u : HO} (h : Rd H a u) (n : ¬ O a) : Rd H' a u := by
  rcases h with h | ⟨o, h⟩
  · exact .inl (k _ _ h n)
  · exact .inr ⟨o, k _ _ h n⟩

mutual
theorem Rep.kp (k : Kp O H H') : ∀ {v : V} {d : D}, Rep K H O v d → Rep K H' O v d
  | _, _, .n => .n
  | _, _, .b x => .b x
  | _, _, .i x => .i x
  | _, _, .s x => .s x
  | _, _, .l h n r => .l (k _ _ h n) n (RepL.kp k r)
  | _, _, .z h n r => .z (rd_kp k h n) n (RepL.kp k r)
  | _, _, .zk h r => .zk h (RepL.kp k r)
  | _, _, .t h n r => .t (rd_kp k h n) n (RepL.kp k r)
  | _, _, .tk h r => .tk h (RepL.kp k r)
  | _, _, .r h n => .r (k _ _ h n) n
  | _, _, .d h n r r' e q u => .d (k _ _ h n) n (RepL.kp k r) (RepL.kp k r') e q u
theorem RepL.kp (k : Kp O H H') : ∀ {vs : List V} {ds : List D}, RepL K H O vs ds → RepL K H' O vs ds
  | _, _, .nil => .nil
  | _, _, .cons a r => .cons (Rep.kp k a) (RepL.kp k r)
end
theorem Rep.same (k : Same H H') {v : V} {d : D} (h : Rep K H O v d) : Rep K H' O v d := h.kp (Kp.of k)
theorem RepL.same (k : Same H H') {v : List V} {d : List D} (h : RepL K H O v d) : RepL K H' O v d := h.kp (Kp.of k)

mutual
/-- O may shrink; and grow by addresses at which nothing stood -/
theorem Rep.mono (m : ∀ a, O' a → O a ∨ H a = none) : ∀ {v : V} {d : D}, Rep K H O v d → Rep K H O' v d
  | _, _, .n => .n
  | _, _, .b x => .b x
  | _, _, .i x => .i x
  | _, _, .s x => .s x
  | _, _, .l h n r => .l h (fun z => by
      rcases m _ z with q | q
      · exact n q
      · rw [q] at h; cases h) (RepL.mono m r)
  | _, _, .z h n r => .z h (fun z => by
      rcases m _ z with q | q
      · exact n q
      · rcases h with h | ⟨o, h⟩ <;> (rw [q] at h; cases h)) (RepL.mono m r)
  | _, _, .zk h r => .zk h (RepL.mono m r)
  | _, _, .t h n r => .t h (fun z => by
      rcases m _ z with q | q
      · exact n q
      · rcases h with h | ⟨o, h⟩ <;> (rw [q] at h; cases h)) (RepL.mono m r)
  | _, _, .tk h r => .tk h (RepL.mono m r)
  | _, _, .r h n => .r h (fun z => by
      rcases m _ z with q | q
      · exact n q
      · rw [q] at h; cases h)
  | _, _, .d h n r r' e q u => .d h (fun z => by
      rcases m _ z with q | q
      · exact n q
      · rw [q] at h; cases h) (RepL.mono m r) (RepL.mono m r') e q u
theorem RepL.mono (m : ∀ a, O' a → O a ∨ H a = none) : ∀ {vs : List V} {ds : List D}, RepL K H O vs ds → RepL K H O' vs ds
  | _, _, .nil => .nil
  | _, _, .cons a r => .cons (Rep.mono m a) (RepL.mono m r)
end
theorem Rep.less (m : ∀ a, O' a → O a) {v : V} {d : D} (h : Rep K H O v d) : Rep K H O' v d := h.mono fun a z => .inl (m a z)
theorem RepL.less (m : ∀ a, O' a → O a) {v : List V} {d : List D} (h : RepL K H O v d) : RepL K H O' v d := h.mono fun a z => .inl (m a z)

theorem RepL.length : ∀ {vs : List V} {ds : List D}, RepL K H O vs ds → vs.length = ds.length
  | _, _, .nil => rfl
  | _, _, .cons _ r => by simp [RepL.length r]
theorem RepL.get : ∀ {vs : List V} {ds : List D} {i : Nat} {d : D}, RepL K H O vs ds → ds[i]? = some d → ∃ v, vs[i]? = some v ∧ Rep K H O v d
  | _, _, _, _, .nil, e => by simp at e
  | _, _, 0, _, .cons a _, e => by
    simp at e
    subst e
    exact ⟨_, rfl, a⟩
  | _, _, i + 1, _, .cons _ r, e => by
    obtain ⟨v, h1, h2⟩ := RepL.get (i := i) r (by simpa using e)
    exact ⟨v, by simpa using h1, h2⟩
theorem RepL.getV : ∀ {vs : List V} {ds : List D} {i : Nat} {v : V}, RepL K H O vs ds → vs[i]? = some v → ∃ d, ds[i]? = some d ∧ Rep K H O v d
  | _, _, _, _, .nil, e => by simp at e
  | _, _, 0, _, .cons a _, e => by
    simp at e
    subst e
    exact ⟨_, rfl, a⟩
  | _, _, i + 1, _, .cons _ r, e => by
    obtain ⟨v, h1, h2⟩ := RepL.getV (i := i) r (by simpa using e)
    exact ⟨v, by simpa using h1, h2⟩
theorem RepL.append : ∀ {vs ws : List V} {ds es : List D}, RepL K H O vs ds → RepL K H O ws es → RepL K H O (vs ++ ws) (ds ++ es)
  | _, _, _, _, .nil, s => s
  | _, _, _, _, .cons a r, s => .cons a (RepL.append r s)
theorem RepL.take : ∀ {vs : List V} {ds : List D} (n : Nat), RepL K H O vs ds → RepL K H O (vs.take n) (ds.take n)
  | _, _, 0, _ => .nil
  | _, _, _ + 1, .nil => .nil
  | _, _, n + 1, .cons a r => .cons a (RepL.take n r)
theorem RepL.drop : ∀ {vs : List V} {ds : List D} (n : Nat), RepL K H O vs ds → RepL K H O (vs.drop n) (ds.drop n)
  | _, _, 0, r => r
  | _, _, _ + 1, .nil => .nil
  | _, _, n + 1, .cons _ r => RepL.drop n r
theorem RepL.set {v : V} {d : D} (h : Rep K H O v d) : ∀ {vs : List V} {ds : List D} (n : Nat), RepL K H O vs ds → RepL K H O (vs.set n v) (ds.set n d)
  | _, _, _, .nil => .nil
  | _, _, 0, .cons _ r => .cons h r
  | _, _, n + 1, .cons a r => .cons a (RepL.set h n r)
theorem RepL.reverse {vs : List V} {ds : List D} (h : RepL K H O vs ds) : RepL K H O vs.reverse ds.reverse := by
  induction h using RepL.rec (motive_1 := fun _ _ _ => True) with
  | nil => exact .nil
  | cons a r _ ih => rw [List.reverse_cons, List.reverse_cons]; exact ih.append (.cons a .nil)
  | _ => trivial
theorem RepL.rep {vs : List V} {ds : List D} (h : RepL K H O vs ds) : ∀ k : Nat, RepL K H O (List.replicate k vs).flatten (List.replicate k ds).flatten
  | 0 => .nil
  | k + 1 => by
    rw [List.replicate_succ, List.replicate_succ, List.flatten_cons, List.flatten_cons]
    exact h.append (RepL.rep h k)
theorem RepL.ints : ∀ {vs : List V} {ns : List Int}, RepL K H O vs (ns.map D.i) → vs = ns.map V.int
  | _, [], .nil => rfl
  | _, _ :: _, .cons (.i _) r => by rw [List.map_cons, RepL.ints r]
theorem RepL.bls : ∀ {vs : List V} {ns : List Bool}, RepL K H O vs (ns.map D.b) → vs = ns.map V.bl
  | _, [], .nil => rfl
  | _, _ :: _, .cons (.b _) r => by rw [List.map_cons, RepL.bls r]
theorem RepL.of_ints : ∀ (ns : List Int), RepL K H O (ns.map V.int) (ns.map D.i)
  | [] => .nil
  | _ :: r => .cons (.i _) (RepL.of_ints r)
end


/-! ### equality -/
mutual
def decD : (a b : D) → Decidable (a = b)
  | .n, .n => .isTrue rfl
  | .b x, .b y => if h : x = y then .isTrue (by rw [h]) else .isFalse (fun e => h (by cases e; rfl))
  | .i x, .i y => if h : x = y then .isTrue (by rw [h]) else .isFalse (fun e => h (by cases e; rfl))
  | .s x, .s y => if h : x = y then .isTrue (by rw [h]) else .isFalse (fun e => h (by cases e; rfl))
  | .t x, .t y => match decDs x y with
    | .isTrue h => .isTrue (by rw [h])
    | .isFalse h => .isFalse (fun e => h (by cases e; rfl))
  | .l x, .l y => match decDs x y with
    | .isTrue h => .isTrue (by rw [h])
    | .isFalse h => .isFalse (fun e => h (by cases e; rfl))
  | .z x, .z y => match decDs x y with
    | .isTrue h => .isTrue (by rw [h])
    | .isFalse h => .isFalse (fun e => h (by cases e; rfl))
  | .d x x', .d y y' => match decDs x y with
    | .isTrue h => (match decDs x' y' with
      | .isTrue h' => .isTrue (by rw [h, h'])
      | .isFalse h' => .isFalse (fun e => h' (by cases e; rfl)))
    | .isFalse h => .isFalse (fun e => h (by cases e; rfl))
  | .d _ _, .n => .isFalse nofun | .d _ _, .b _ => .isFalse nofun | .d _ _, .i _ => .isFalse nofun | .d _ _, .s _ => .isFalse nofun | .d _ _, .t _ => .isFalse nofun | .d _ _, .l _ => .isFalse nofun | .d _ _, .z _ => .isFalse nofun | .d _ _, .r _ _ => .isFalse nofun
  | .n, .d _ _ => .isFalse nofun | .b _, .d _ _ => .isFalse nofun | .i _, .d _ _ => .isFalse nofun | .s _, .d _ _ => .isFalse nofun | .t _, .d _ _ => .isFalse nofun | .l _, .d _ _ => .isFalse nofun | .z _, .d _ _ => .isFalse nofun | .r _ _, .d _ _ => .isFalse nofun
  | .r x y, .r z w => if h : x = z ∧ y = w then .isTrue (by rw [h.1, h.2]) else .isFalse (fun e => h (by cases e; exact ⟨rfl, rfl⟩))
  | .n, .b _ => .isFalse nofun | .n, .i _ => .isFalse nofun | .n, .s _ => .isFalse nofun | .n, .t _ => .isFalse nofun | .n, .l _ => .isFalse nofun | .n, .r _ _ => .isFalse nofun | .n, .z _ => .isFalse nofun
  | .b _, .n => .isFalse nofun | .b _, .i _ => .isFalse nofun | .b _, .s _ => .isFalse nofun | .b _, .t _ => .isFalse nofun | .b _, .l _ => .isFalse nofun | .b _, .r _ _ => .isFalse nofun | .b _, .z _ => .isFalse nofun
  | .i _, .n => .isFalse nofun | .i _, .b _ => .isFalse nofun | .i _, .s _ => .isFalse nofun | .i _, .t _ => .isFalse nofun | .i _, .l _ => .isFalse nofun | .i _, .r _ _ => .isFalse nofun | .i _, .z _ => .isFalse nofun
  | .s _, .n => .isFalse nofun | .s _, .b _ => .isFalse nofun | .s _, .i _ => .isFalse nofun | .s _, .t _ => .isFalse nofun | .s _, .l _ => .isFalse nofun | .s _, .r _ _ => .isFalse nofun | .s _, .z _ => .isFalse nofun
  | .t _, .n => .isFalse nofun | .t _, .b _ => .isFalse nofun | .t _, .i _ => .isFalse nofun | .t _, .s _ => .isFalse nofun | .t _, .l _ => .isFalse nofun | .t _, .r _ _ => .isFalse nofun | .t _, .z _ => .isFalse nofun
  | .l _, .n => .isFalse nofun | .l _, .b _ => .isFalse nofun | .l _, .i _ => .isFalse nofun | .l _, .s _ => .isFalse nofun | .l _, .t _ => .isFalse nofun | .l _, .r _ _ => .isFalse nofun | .l _, .z _ => .isFalse nofun
  | .r _ _, .n => .isFalse nofun | .r _ _, .b _ => .isFalse nofun | .r _ _, .i _ => .isFalse nofun | .r _ _, .s _ => .isFalse nofun | .r _ _, .t _ => .isFalse nofun | .r _ _, .l _ => .isFalse nofun | .r _ _, .z _ => .isFalse nofun
  | .z _, .n => .isFalse nofun | .z _, .b _ => .isFalse nofun | .z _, .i _ => .isFalse nofun | .z _, .s _ => .isFalse nofun | .z _, .t _ => .isFalse nofun | .z _, .l _ => .isFalse nofun | .z _, .r _ _ => .isFalse nofun
def decDs : (a b : List D) → Decidable (a = b)
  | [], [] => .isTrue rfl
  | [], _ :: _ => .isFalse nofun
  | _ :: _, [] => .isFalse nofun
  | x :: xs, y :: ys => match decD x y with
    | .isTrue h => (match decDs xs ys with
      | .isTrue h' => .isTrue (by rw [h, h'])
      | .isFalse h' => .isFalse (fun e => h' (by cases e; rfl)))
    | .isFalse h => .isFalse (fun e => h (by cases e; rfl))
end
instance : DecidableEq D := decD

mutual
def toPy : D → PyData
  | .n => .none
  | .b x => .bool x
  | .i x => .int x
  | .s x => .str x
  | .t xs => .tuple (toPys xs)
  | .l xs => .list (toPys xs)
  | .r _ _ => .none
  | .z _ => .none
  | .d _ _ => .none
def toPys : List D → List PyData
  | [] => []
  | x :: xs => toPy x :: toPys xs
end
/-- no range within, at most k deep; what == may be asked of -/
def okD : Nat → D → Bool
  | _, .n => true
  | _, .b _ => true
  | _, .i _ => true
  | _, .s x => PyData.canLay0 (.str x)
  | 0, .t _ => false
  | 0, .l _ => false
  | k + 1, .t xs => xs.all (okD k)
  | k + 1, .l xs => xs.all (okD k)
  | _, .r _ _ => false
  | _, .z _ => false
  | _, .d _ _ => false
/-- the same, without bools -/
def nbD : Nat → D → Bool
  | _, .n => true
  | _, .b _ => false
  | _, .i _ => true
  | _, .s x => PyData.canLay0 (.str x)
  | 0, .t _ => false
  | 0, .l _ => false
  | k + 1, .t xs => xs.all (nbD k)
  | k + 1, .l xs => xs.all (nbD k)
  | _, .r _ _ => false
  | _, .z _ => false
  | _, .d _ _ => false
/-- Python's == -/
def eqD (a b : D) : Bool := PyData.eqv (toPy a) (toPy b)
section
variable {K : PySem.W.Frag} {H : Hp} {O : Addr → Prop}
theorem repL_dp_of {k : Nat} (ih : ∀ {v : V} {d : D}, Rep K H O v d → okD k d = true → Dp K H v (toPy d)) : ∀ {vs : List V} {ds : List D}, RepL K H O vs ds → (∀ x ∈ ds, okD k x = true) → DpAll K H vs (toPys ds)
  | _, _, .nil, _ => by rw [toPys]; exact .nil
  | _, _, .cons a r, q => by rw [toPys]; exact .cons (ih a (q _ List.mem_cons_self)) (repL_dp_of ih r fun x hx => q x (List.mem_cons_of_mem _ hx))
theorem rep_dp : ∀ (k : Nat) {v : V} {d : D}, Rep K H O v d → okD k d = true → Dp K H v (toPy d)
  | _, _, _, .n, _ => by rw [toPy]; exact .non
  | _, _, _, .b x, _ => by rw [toPy]; exact .bl x
  | _, _, _, .i x, _ => by rw [toPy]; exact .int x
  | _, _, _, .s x, _ => by rw [toPy]; exact .str x
  | 0, _, _, .l h n r, p => by rw [okD] at p; cases p
  | 0, _, _, .t h n r, p => by rw [okD] at p; cases p
  | 0, _, _, .tk h r, p => by rw [okD] at p; cases p
  | k + 1, _, _, .l (ds := ds) h n r, p => by
    rw [toPy]
    rw [okD] at p
    exact .lst (SqL.of h) (repL_dp_of (fun a b => rep_dp k a b) r (List.all_eq_true.mp p))
  | k + 1, _, _, .t (ds := ds) h n r, p => by
    rw [toPy]
    rw [okD] at p
    exact .tup (.inl h) (repL_dp_of (fun a b => rep_dp k a b) r (List.all_eq_true.mp p))
  | k + 1, _, _, .tk (ds := ds) h r, p => by
    rw [toPy]
    rw [okD] at p
    exact .tup (h _) (repL_dp_of (fun a b => rep_dp k a b) r (List.all_eq_true.mp p))
  | k, _, _, .r h n, p => by cases k <;> (rw [okD] at p; cases p)
  | k, _, _, .z h n r, p => by cases k <;> (rw [okD] at p; cases p)
  | k, _, _, .zk h r, p => by cases k <;> (rw [okD] at p; cases p)
  | k, _, _, .d h n r r' e q u, p => by cases k <;> (rw [okD] at p; cases p)
theorem repL_dp (k : Nat) {vs : List V} {ds : List D} (r : RepL K H O vs ds) (p : ds.all (okD k) = true) : DpAll K H vs (toPys ds) :=
  repL_dp_of (fun a b => rep_dp k a b) r (List.all_eq_true.mp p)
end
theorem lay_of_ok : ∀ (k : Nat) (d : D), okD k d = true → PyData.canLay0 (toPy d) = true ∧ (toPy d).depth ≤ k
  | _, .n, _ => by rw [toPy]; exact ⟨rfl, Nat.zero_le _⟩
  | _, .b _, _ => by rw [toPy]; exact ⟨rfl, Nat.zero_le _⟩
  | _, .i _, _ => by rw [toPy]; exact ⟨rfl, Nat.zero_le _⟩
  | k, .s x, h => by rw [toPy]; cases k <;> exact ⟨by rw [okD] at h; exact h, by rw [PyData.depth]; exact Nat.zero_le _⟩
  | 0, .t _, h => by rw [okD] at h; cases h
  | 0, .l _, h => by rw [okD] at h; cases h
  | k + 1, .t xs, h => by
    rw [okD] at h
    rw [toPy, PyData.canLay0, PyData.depth]
    have q := List.all_eq_true.mp h
    clear h
    have go : ∀ (xs : List D), (∀ x ∈ xs, okD k x = true) → PyData.canLayAll0 (toPys xs) = true ∧ PyData.depthAll (toPys xs) ≤ k := by
      intro xs
      induction xs with
      | nil => intro _; rw [toPys]; exact ⟨rfl, Nat.zero_le _⟩
      | cons x xs ih =>
        intro q
        obtain ⟨a, b⟩ := lay_of_ok k x (q _ List.mem_cons_self)
        obtain ⟨c, d⟩ := ih fun y hy => q y (List.mem_cons_of_mem _ hy)
        rw [toPys, PyData.canLayAll0, PyData.depthAll, a, c]
        exact ⟨rfl, by omega⟩
    obtain ⟨a, b⟩ := go xs q
    exact ⟨a, by omega⟩
  | k + 1, .l xs, h => by
    rw [okD] at h
    rw [toPy, PyData.canLay0, PyData.depth]
    have q := List.all_eq_true.mp h
    clear h
    have go : ∀ (xs : List D), (∀ x ∈ xs, okD k x = true) → PyData.canLayAll0 (toPys xs) = true ∧ PyData.depthAll (toPys xs) ≤ k := by
      intro xs
      induction xs with
      | nil => intro _; rw [toPys]; exact ⟨rfl, Nat.zero_le _⟩
      | cons x xs ih =>
        intro q
        obtain ⟨a, b⟩ := lay_of_ok k x (q _ List.mem_cons_self)
        obtain ⟨c, d⟩ := ih fun y hy => q y (List.mem_cons_of_mem _ hy)
        rw [toPys, PyData.canLayAll0, PyData.depthAll, a, c]
        exact ⟨rfl, by omega⟩
    obtain ⟨a, b⟩ := go xs q
    exact ⟨a, by omega⟩
  | k, .r _ _, h => by cases k <;> (rw [okD] at h; cases h)
  | k, .z _, h => by cases k <;> (rw [okD] at h; cases h)
  | k, .d _ _, h => by cases k <;> (rw [okD] at h; cases h)
theorem shaped_ok {k : Nat} {d : D} (h : okD k d = true) (hk : k ≤ 64) : SeqAt.shaped (toPy d) = true := by
  obtain ⟨a, b⟩ := lay_of_ok k d h
  show (PyData.canLay0 (toPy d) && decide ((toPy d).depth ≤ 64)) = true
  rw [a, Bool.true_and]
  exact decide_eq_true (by omega)
theorem shaped_okL {k : Nat} {ds : List D} (h : ds.all (okD k) = true) (hk : k + 1 ≤ 64) : SeqAt.shaped (.list (toPys ds)) = true := by
  have q : okD (k + 1) (.l ds) = true := by rw [okD]; exact h
  have z := shaped_ok q hk
  rw [toPy] at z
  exact z
theorem shaped_okT {k : Nat} {ds : List D} (h : ds.all (okD k) = true) (hk : k + 1 ≤ 64) : SeqAt.shaped (.tuple (toPys ds)) = true := by
  have q : okD (k + 1) (.t ds) = true := by rw [okD]; exact h
  have z := shaped_ok q hk
  rw [toPy] at z
  exact z
theorem toPys_eq : ∀ ds : List D, toPys ds = ds.map toPy
  | [] => by rw [toPys]; rfl
  | d :: ds => by rw [toPys, toPys_eq ds]; rfl
theorem ok_of_nb : ∀ (k : Nat) (d : D), nbD k d = true → okD k d = true
  | k, .n, _ => by cases k <;> rw [okD]
  | k, .b _, h => by cases k <;> (rw [nbD] at h; cases h)
  | k, .i _, _ => by cases k <;> rw [okD]
  | k, .s x, h => by cases k <;> (rw [nbD] at h; rw [okD]; exact h)
  | 0, .t _, h => by rw [nbD] at h; cases h
  | 0, .l _, h => by rw [nbD] at h; cases h
  | k + 1, .t xs, h => by
    rw [nbD] at h
    rw [okD]
    exact List.all_eq_true.mpr fun x hx => ok_of_nb k x (List.all_eq_true.mp h x hx)
  | k + 1, .l xs, h => by
    rw [nbD] at h
    rw [okD]
    exact List.all_eq_true.mpr fun x hx => ok_of_nb k x (List.all_eq_true.mp h x hx)
  | k, .r _ _, h => by cases k <;> (rw [nbD] at h; cases h)
  | k, .z _, h => by cases k <;> (rw [nbD] at h; cases h)
  | k, .d _ _, h => by cases k <;> (rw [nbD] at h; cases h)
/-- without bools == is equality -/
theorem eqD_nb : ∀ (k : Nat) (a b : D), nbD k a = true → nbD k b = true → eqD a b = decide (a = b) := by
  intro k
  induction k with
  | zero =>
    intro a b ha hb
    cases a <;> cases b <;> first
      | (rw [nbD] at ha; cases ha; done)
      | (rw [nbD] at hb; cases hb; done)
      | (simp [eqD, toPy, PyData.eqv]; done)
      | (simp only [eqD, toPy, PyData.eqv, D.i.injEq, D.s.injEq]; rw [Bool.eq_iff_iff]; simp)
  | succ k ih =>
    have go : ∀ (xs ys : List D), (∀ x ∈ xs, nbD k x = true) → (∀ y ∈ ys, nbD k y = true) → PyData.eqvAll (toPys xs) (toPys ys) = decide (xs = ys) := by
      intro xs
      induction xs with
      | nil =>
        intro ys _ _
        cases ys with
        | nil => simp [toPys, PyData.eqvAll]
        | cons y ys => simp [toPys, PyData.eqvAll]
      | cons x xs ihx =>
        intro ys hx hy
        cases ys with
        | nil => simp [toPys, PyData.eqvAll]
        | cons y ys =>
          have e1 := ih x y (hx _ List.mem_cons_self) (hy _ List.mem_cons_self)
          have e2 := ihx ys (fun z hz => hx z (List.mem_cons_of_mem _ hz)) (fun z hz => hy z (List.mem_cons_of_mem _ hz))
          rw [eqD] at e1
          rw [toPys, toPys, PyData.eqvAll, e1, e2]
          by_cases h1 : x = y <;> by_cases h2 : xs = ys <;> simp [h1, h2]
    intro a b ha hb
    cases a <;> cases b <;> first
      | (rw [nbD] at ha; cases ha; done)
      | (rw [nbD] at hb; cases hb; done)
      | (rename_i xs ys
         rw [nbD] at ha hb
         have e := go xs ys (List.all_eq_true.mp ha) (List.all_eq_true.mp hb)
         rw [eqD, toPy, toPy, PyData.eqv, e]
         by_cases h : xs = ys <;> simp [h])
      | (simp [eqD, toPy, PyData.eqv]; done)
      | (simp only [eqD, toPy, PyData.eqv, D.i.injEq, D.s.injEq]; rw [Bool.eq_iff_iff]; simp)
end PL
/-! PL b: cells, judgements on data. -/
namespace PL
open PySem PySem.Spec PyProof.Rows L2

/-! ### cells -/
/-- what is known of a slot: nothing, a datum, a list that the frame alone holds and may change -/
inductive Cell where
  | no | v (d : D) | o (d : D)
@[simp] def Cell.str : Cell → Option D
  | .v d => some d
  | _ => none
@[simp] def Cell.any : Cell → Option D
  | .v d => some d
  | .o d => some d
  | .no => none
@[simp] def getV : List Cell → Nat → Option D
  | [], _ => none
  | c :: _, 0 => c.str
  | _ :: r, n + 1 => getV r n
@[simp] def getB : List Cell → Nat → Option D
  | [], _ => none
  | c :: _, 0 => c.any
  | _ :: r, n + 1 => getB r n
theorem getV_some : ∀ {e : List Cell} {i : Nat} {d : D}, getV e i = some d → e[i]? = some (.v d)
  | [], _, _, h => by cases h
  | c :: _, 0, d, h => by
    have h : c.str = some d := h
    cases c with
    | v x => cases h; rfl
    | _ => cases h
  | _ :: r, n + 1, d, h => by
    have h : getV r n = some d := h
    rw [List.getElem?_cons_succ]
    exact getV_some h
theorem getB_some : ∀ {e : List Cell} {i : Nat} {d : D}, getB e i = some d → e[i]? = some (.v d) ∨ e[i]? = some (.o d)
  | [], _, _, h => by cases h
  | c :: _, 0, d, h => by
    have h : c.any = some d := h
    cases c with
    | v x => cases h; exact .inl rfl
    | o x => cases h; exact .inr rfl
    | no => cases h
  | _ :: r, n + 1, d, h => by
    have h : getB r n = some d := h
    rw [List.getElem?_cons_succ]
    exact getB_some h

/-- the list or dict at a -/
def OwnAt (K : PySem.W.Frag) (H : Hp) (O : Addr → Prop) (a : Addr) : D → Prop
  | .l ds => ∃ xs, H a = some (.lst xs) ∧ RepL K H O xs ds
  | .d ks vs => ∃ ents : List (Int × V × V), H a = some (DxO a ents) ∧ RepL K H O (ents.map fun e => e.2.1) ks ∧ RepL K H O (ents.map fun e => e.2.2) vs ∧ ents.map (fun e => e.1) = ks.map keyH ∧ ks.all tkD = true ∧ ks.Nodup
  | _ => False
section
variable {K : PySem.W.Frag} {H H' : Hp} {O O' : Addr → Prop} {a : Addr} {d : D}
theorem OwnAt.kp (h : OwnAt K H O a d) (k : Kp O H H') (n : H' a = H a) : OwnAt K H' O a d := by
  cases d <;> first
    | exact h
    | (obtain ⟨xs, e, r⟩ := h; exact ⟨xs, n.trans e, r.kp k⟩)
    | (obtain ⟨es, e, r, r', q⟩ := h; exact ⟨es, n.trans e, r.kp k, r'.kp k, q⟩)
theorem OwnAt.ne (h : OwnAt K H O a d) : H a ≠ none := by
  cases d <;> first
    | exact h.elim
    | (obtain ⟨xs, e, r⟩ := h; rw [e]; exact fun q => nomatch q)
    | (obtain ⟨es, e, r, r', q⟩ := h; rw [e]; exact fun q => nomatch q)
theorem OwnAt.same (h : OwnAt K H O a d) (k : Same H H') : OwnAt K H' O a d := h.kp (Kp.of k) (by
  have n := h.ne
  cases e : H a with
  | none => exact absurd e n
  | some o => exact k _ _ e)
theorem OwnAt.mono (h : OwnAt K H O a d) (m : ∀ a, O' a → O a ∨ H a = none) : OwnAt K H O' a d := by
  cases d <;> first
    | exact h
    | (obtain ⟨xs, e, r⟩ := h; exact ⟨xs, e, r.mono m⟩)
    | (obtain ⟨es, e, r, r', q⟩ := h; exact ⟨es, e, r.mono m, r'.mono m, q⟩)
theorem OwnAt.less (h : OwnAt K H O a d) (m : ∀ a, O' a → O a) : OwnAt K H O' a d := h.mono fun a z => .inl (m a z)
theorem OwnAt.rep (h : OwnAt K H O a d) (n : ¬ O a) : Rep K H O (.ref a) d := by
  cases d <;> first
    | exact h.elim
    | (obtain ⟨xs, e, r⟩ := h; exact .l e n r)
    | (obtain ⟨es, e, r, r', q1, q2, q3⟩ := h; exact .d e n r r' q1 q2 q3)
theorem OwnAt.mut (h : OwnAt K H O a d) : Mut (H a) := by
  cases d <;> first
    | exact h.elim
    | (obtain ⟨xs, e, r⟩ := h; rw [e]; exact True.intro)
    | (obtain ⟨es, e, r, r', q⟩ := h; rw [e]; exact True.intro)
end
def CellOk (K : PySem.W.Frag) (H : Hp) (O : Addr → Prop) (v : Option (Option V)) : Cell → Prop
  | .no => True
  | .v d => ∃ x, v = some (some x) ∧ Rep K H O x d
  | .o d => ∃ a, v = some (some (.ref a)) ∧ OwnAt K H O a d
def RelC (K : PySem.W.Frag) (H : Hp) (O : Addr → Prop) (σ : L2.St) (env : List Cell) : Prop := env.length ≤ σ.length ∧ ∀ (i : Nat) (c : Cell), env[i]? = some c → CellOk K H O (σ[i]?) c
/-- .. or a list or dict that the frame may change -/
def RepB (K : PySem.W.Frag) (H : Hp) (O : Addr → Prop) (v : V) (d : D) : Prop := Rep K H O v d ∨ ∃ a, v = .ref a ∧ OwnAt K H O a d
def OkO (H : Hp) (O : Addr → Prop) : Prop := ∀ a, O a → H a ≠ none
section
variable {K : PySem.W.Frag} {H H' : Hp} {O : Addr → Prop} {σ : L2.St} {env : List Cell}
theorem OkO.same (h : OkO H O) (k : Same H H') : OkO H' O := fun a z e => h a z (k.free e)
theorem RelC.same (h : RelC K H O σ env) (k : Same H H') : RelC K H' O σ env := ⟨h.1, fun i c e => by
  have q := h.2 i c e
  cases c with
  | no => trivial
  | v d => obtain ⟨x, e1, r⟩ := q; exact ⟨x, e1, r.same k⟩
  | o d => obtain ⟨a, e1, r⟩ := q; exact ⟨a, e1, r.same k⟩⟩
theorem RepB.same {v : V} {d : D} (h : RepB K H O v d) (k : Same H H') : RepB K H' O v d := by
  rcases h with h | ⟨a, e1, r⟩
  · exact .inl (h.same k)
  · exact .inr ⟨a, e1, r.same k⟩
theorem RepB.lst {v : V} {ds : List D} (h : RepB K H O v (.l ds)) : ∃ a xs, v = .ref a ∧ H a = some (.lst xs) ∧ RepL K H O xs ds := by
  rcases h with h | ⟨a, e1, xs, e3, r⟩
  · cases h with
    | l h n r => exact ⟨_, _, rfl, h, r⟩
  · exact ⟨a, xs, e1, e3, r⟩
theorem RepB.dct {v : V} {ks vs : List D} (h : RepB K H O v (.d ks vs)) : ∃ a, v = .ref a ∧ OwnAt K H O a (.d ks vs) := by
  rcases h with h | h
  · cases h with
    | d h n r r' q1 q2 q3 => exact ⟨_, rfl, _, h, r, r', q1, q2, q3⟩
  · exact h
theorem RepB.frz {v : V} {ds : List D} (h : RepB K H O v (.z ds)) : ∃ a xs, v = .ref a ∧ SqL K H a xs ∧ RepL K H O xs ds := by
  rcases h with h | ⟨a, e1, r⟩
  · cases h with
    | z h n r => exact ⟨_, _, rfl, .inl h, r⟩
    | zk h r => exact ⟨_, _, rfl, h _, r⟩
  · exact r.elim
theorem RepB.tup {v : V} {ds : List D} (h : RepB K H O v (.t ds)) : ∃ a xs, v = .ref a ∧ SqT K H a xs ∧ RepL K H O xs ds := by
  rcases h with h | ⟨a, e1, r⟩
  · cases h with
    | t h n r => exact ⟨_, _, rfl, .inl h, r⟩
    | tk h r => exact ⟨_, _, rfl, h _, r⟩
  · exact r.elim
theorem RepB.int {v : V} {x : Int} (h : RepB K H O v (.i x)) : v = .int x := by
  rcases h with h | ⟨a, e1, r⟩
  · cases h; rfl
  · exact r.elim
theorem RepB.bl {v : V} {x : Bool} (h : RepB K H O v (.b x)) : v = .bl x := by
  rcases h with h | ⟨a, e1, r⟩
  · cases h; rfl
  · exact r.elim
theorem RepB.str {v : V} {x : Str} (h : RepB K H O v (.s x)) : v = .str x := by
  rcases h with h | ⟨a, e1, r⟩
  · cases h; rfl
  · exact r.elim
theorem RepB.non {v : V} (h : RepB K H O v .n) : v = .non := by
  rcases h with h | ⟨a, e1, r⟩
  · cases h; rfl
  · exact r.elim
theorem RepB.rng {v : V} {lo hi : Int} (h : RepB K H O v (.r lo hi)) : ∃ a, v = .ref a ∧ H a = some (.rng lo hi) := by
  rcases h with h | ⟨a, e1, r⟩
  · cases h with
    | r h n => exact ⟨_, rfl, h⟩
  · exact r.elim
/-- an atom or a tuple is never owned -/
theorem RepB.rep_t {v : V} {ds : List D} (h : RepB K H O v (.t ds)) : Rep K H O v (.t ds) := by
  rcases h with h | ⟨a, e1, r⟩
  · exact h
  · exact r.elim
/-- an object just laid -/
theorem same_new {p : Addr} {o : HO} (h : H p = none) : Same H (upd H p o) := fun b x e => by
  rw [upd_ne (ne_of_none e h)]
  exact e
theorem Rep.newL {p : Addr} {xs : List V} {ds : List D} (ok : OkO H O) (h : H p = none) (r : RepL K H O xs ds) : Rep K (upd H p (.lst xs)) O (.ref p) (.l ds) :=
  .l upd_same (fun z => ok p z h) (r.same (same_new h))
theorem Rep.newT {p : Addr} {xs : List V} {ds : List D} (ok : OkO H O) (h : H p = none) (r : RepL K H O xs ds) : Rep K (upd H p (.tup xs)) O (.ref p) (.t ds) :=
  .t (.inl upd_same) (fun z => ok p z h) (r.same (same_new h))
theorem RepB.dp {k : Nat} {v : V} {d : D} (h : RepB K H O v d) (p : okD k d = true) : Dp K H v (toPy d) := by
  rcases h with h | ⟨a, e1, r⟩
  · exact rep_dp k h p
  · subst e1
    cases d <;> first
      | exact r.elim
      | skip
    · obtain ⟨xs, e3, r⟩ := r
      cases k with
      | zero => rw [okD] at p; cases p
      | succ k =>
        rw [okD] at p
        rw [toPy]
        exact .lst (SqL.of e3) (repL_dp k r p)
    · cases k <;> (rw [okD] at p; cases p)
end

/-! ### the canonical readings -/
section
variable {X : Cx}
def wE (X : Cx) (e : Expr) : TE := fun σ H Q => ∀ (pins : List (Addr × Obj)) (s : Shared), Inv X pins σ H s → wpAny (model X.prog X.w) X.A (eval e X.env) (EP X pins σ Q) X.xe s
def wT (X : Cx) (e : Expr) : TT := fun σ H Q => ∀ (pins : List (Addr × Obj)) (s : Shared), Inv X pins σ H s → wpAny (model X.prog X.w) X.A (isTrue e X.env (eval e X.env)) (TP X pins σ Q) X.xe s
def wW (X : Cx) (e : Expr) : TT := fun σ H Q => ∀ (whole : Sem Value) (pins : List (Addr × Obj)) (s : Shared), Inv X pins σ H s → wpAny (model X.prog X.w) X.A (isTrue e X.env whole) (TP X pins σ Q) X.xe s
def wA (X : Cx) (es : List Expr) : TA := fun σ H Q => ∀ (pos : Pos) (pins : List (Addr × Obj)) (s : Shared), Inv X pins σ H s → wpAny (model X.prog X.w) X.A (spliced (backTo pos (starEach es X.env))) (AP X pins σ Q) X.xe s
theorem wE_pe {e : Expr} : PE X e (wE X e) := ⟨fun pins s σ H Q I h => h pins s I⟩
theorem wT_pt {e : Expr} : PT X e (wT X e) := ⟨fun pins s σ H Q I h => h pins s I⟩
theorem wW_pw {e : Expr} : PW X e (wW X e) := ⟨fun wh pins s σ H Q I h => h wh pins s I⟩
theorem wA_pa {es : List Expr} : PA X es (wA X es) := ⟨fun pos pins s σ H Q I h => h pos pins s I⟩
theorem PEw {e : Expr} {t : TE} (h : PE X e t) {σ : L2.St} {H : Hp} {Q : VK} (q : t σ H Q) : wE X e σ H Q := fun pins s I => h.run pins s σ H Q I q
theorem PTw {e : Expr} {t : TT} (h : PT X e t) {σ : L2.St} {H : Hp} {Q : Bool → Hp → Prop} (q : t σ H Q) : wT X e σ H Q := fun pins s I => h.run pins s σ H Q I q
theorem PWw {e : Expr} {t : TT} (h : PW X e t) {σ : L2.St} {H : Hp} {Q : Bool → Hp → Prop} (q : t σ H Q) : wW X e σ H Q := fun wh pins s I => h.run wh pins s σ H Q I q
theorem PAw {es : List Expr} {t : TA} (h : PA X es t) {σ : L2.St} {H : Hp} {Q : List V → Hp → Prop} (q : t σ H Q) : wA X es σ H Q := fun pos pins s I => h.run pos pins s σ H Q I q
end

/-! ### judgements on data -/
abbrev EvF := List Cell → Option D
/-- whatever f gives, e gives -/
def DE (X : Cx) (e : Expr) (f : EvF) : Prop := ∀ (σ : L2.St) (H : Hp) (O : Addr → Prop) (env : List Cell) (d : D) (Q : VK), OkO H O → RelC X.K H O σ env → f env = some d →
  (∀ v H', Same H H' → Rep X.K H' O v d → Q v H') → wE X e σ H Q
def DB (X : Cx) (e : Expr) (f : EvF) : Prop := ∀ (σ : L2.St) (H : Hp) (O : Addr → Prop) (env : List Cell) (d : D) (Q : VK), OkO H O → RelC X.K H O σ env → f env = some d →
  (∀ v H', Same H H' → RepB X.K H' O v d → Q v H') → wE X e σ H Q
def DT (X : Cx) (e : Expr) (f : List Cell → Option Bool) : Prop := ∀ (σ : L2.St) (H : Hp) (O : Addr → Prop) (env : List Cell) (d : Bool) (Q : Bool → Hp → Prop), OkO H O → RelC X.K H O σ env → f env = some d →
  (∀ H', Same H H' → Q d H') → wT X e σ H Q
def DW (X : Cx) (e : Expr) (f : List Cell → Option Bool) : Prop := ∀ (σ : L2.St) (H : Hp) (O : Addr → Prop) (env : List Cell) (d : Bool) (Q : Bool → Hp → Prop), OkO H O → RelC X.K H O σ env → f env = some d →
  (∀ H', Same H H' → Q d H') → wW X e σ H Q
def DL (X : Cx) (es : List Expr) (f : List Cell → Option (List D)) : Prop := ∀ (σ : L2.St) (H : Hp) (O : Addr → Prop) (env : List Cell) (ds : List D) (Q : List V → Hp → Prop), OkO H O → RelC X.K H O σ env → f env = some ds →
  (∀ vs H', Same H H' → RepL X.K H' O vs ds → Q vs H') → wA X es σ H Q
section
variable {X : Cx} {e a b c : Expr} {f g h : EvF} {pos : Pos}
theorem DE.db (h : DE X e f) : DB X e f := fun σ H O env d Q ok R e c => h σ H O env d Q ok R e fun v H' s r => c v H' s (.inl r)

theorem de_name {i : Nat} {x : Str} (hN : X.N[i]? = some x) (hv : Vis X.env.scope x) (hd : (x == ("__debug__" : Str)) = false) (hcd : (x == ("__classdict__" : Str)) = false) : DE X (.Name x pos) (fun env => getV env i) :=
  fun σ H O env d Q ok R e c => PEw (pe_var hN hv hd hcd) (by
    obtain ⟨x, e1, r⟩ := R.2 i _ (getV_some e)
    exact ⟨x, e1, c _ _ (Same.refl _) r⟩)
theorem db_name {i : Nat} {x : Str} (hN : X.N[i]? = some x) (hv : Vis X.env.scope x) (hd : (x == ("__debug__" : Str)) = false) (hcd : (x == ("__classdict__" : Str)) = false) : DB X (.Name x pos) (fun env => getB env i) :=
  fun σ H O env d Q ok R e c => PEw (pe_var hN hv hd hcd) (by
    rcases getB_some e with e | e
    · obtain ⟨x, e1, r⟩ := R.2 i _ e
      exact ⟨x, e1, c _ _ (Same.refl _) (.inl r)⟩
    · obtain ⟨a, e1, r⟩ := R.2 i _ e
      exact ⟨_, e1, c _ _ (Same.refl _) (.inr ⟨a, rfl, r⟩)⟩)
theorem de_int {x : Int} {j} : DE X (.Constant (.int x) j pos) (fun _ => some (.i x)) := fun σ H O env d Q ok R e c => PEw pe_int (by cases e; exact c _ _ (Same.refl _) (.i x))
theorem de_bl {x : Bool} {j} : DE X (.Constant (.bool x) j pos) (fun _ => some (.b x)) := fun σ H O env d Q ok R e c => PEw pe_bl (by cases e; exact c _ _ (Same.refl _) (.b x))
theorem de_non {j} : DE X (.Constant .none j pos) (fun _ => some .n) := fun σ H O env d Q ok R e c => PEw pe_non (by cases e; exact c _ _ (Same.refl _) .n)
theorem de_str {x : Str} {j} : DE X (.Constant (.str x) j pos) (fun _ => some (.s x)) := fun σ H O env d Q ok R e c => PEw pe_str (by cases e; exact c _ _ (Same.refl _) (.s x))

/-! ### two-place operations -/
/-- an operation's answer on data: what the rule asks follows -/
def OpD (X : Cx) (r : R2) (F : D → D → Option D) : Prop := ∀ (H : Hp) (O : Addr → Prop) (x y : V) (p q d : D) (Q : VK), OkO H O → RepB X.K H O x p → RepB X.K H O y q → F p q = some d →
  (∀ v H', Same H H' → Rep X.K H' O v d → Q v H') → r x y H Q
/-- the same, over the operation itself (with the heap's facts at hand) -/
def OpF (X : Cx) (f : Value → Value → Sem Value) (F : D → D → Option D) : Prop := ∀ (pins : List (Addr × Obj)) (s : Shared) (σ : L2.St) (H : Hp) (O : Addr → Prop) (x y : V) (u w : Value) (p q d : D) (Q : VK), Inv X pins σ H s → OkO H O →
  RelV x u → RelV y w → RepB X.K H O x p → RepB X.K H O y q → F p q = some d → (∀ v H', Same H H' → Rep X.K H' O v d → Q v H') → wpAny (model X.prog X.w) X.A (f u w) (EP X pins σ Q) X.xe s
theorem OpF.of {f' : Value → Value → Sem Value} {r : R2} {F : D → D → Option D} (ho : OpR X f' r) (hd : OpD X r F) : OpF X f' F :=
  fun pins s σ H O x y u w p q d Q I ok rx ry rp rq e c => ho pins s σ H x y u w Q I rx ry (hd H O x y p q d Q ok rp rq e c)
/-- by cases on the data -/
theorem OpF.or {f' : Value → Value → Sem Value} {F G : D → D → Option D} (h1 : OpF X f' F) (h2 : OpF X f' G) : OpF X f' (fun p q => F p q <|> G p q) :=
  fun pins s σ H O x y u w p q d Q I ok rx ry rp rq e c => by
    cases z : F p q with
    | none =>
      have e : (F p q <|> G p q) = some d := e
      rw [z] at e
      exact h2 pins s σ H O x y u w p q d Q I ok rx ry rp rq e c
    | some d' =>
      have e : (F p q <|> G p q) = some d := e
      rw [z] at e
      cases e
      exact h1 pins s σ H O x y u w p q _ Q I ok rx ry rp rq z c
@[simp] def bind2 (F : D → D → Option D) (f g : EvF) : EvF := fun env => (f env).bind fun x => (g env).bind fun y => F x y
theorem bind2_some {F : D → D → Option D} {f g : EvF} {env : List Cell} {d : D} (h : bind2 F f g env = some d) : ∃ x y, f env = some x ∧ g env = some y ∧ F x y = some d := by
  unfold bind2 at h
  cases e1 : f env with
  | none => rw [e1] at h; cases h
  | some x =>
    rw [e1] at h
    have h : (g env).bind (fun y => F x y) = some d := h
    cases e2 : g env with
    | none => rw [e2] at h; cases h
    | some y =>
      rw [e2] at h
      exact ⟨x, y, rfl, rfl, h⟩
/-- the two sides evaluated, then the operation -/
theorem go2 {F : D → D → Option D} {fv : Value → Value → Sem Value} (ho : OpF X fv F) (ha : DB X a f) (hb : DB X b g) {σ : L2.St} {H : Hp} {O : Addr → Prop} {env : List Cell} {d : D} {Q : VK} (ok : OkO H O) (R : RelC X.K H O σ env)
    (e : bind2 F f g env = some d) (c : ∀ v H', Same H H' → Rep X.K H' O v d → Q v H') {pins : List (Addr × Obj)} {s : Shared} (I : Inv X pins σ H s) :
    wpAny (model X.prog X.w) X.A (eval a X.env) (fun v s₁ => wpAny (model X.prog X.w) X.A (eval b X.env) (fun u s₂ => wpAny (model X.prog X.w) X.A (fv v u) (EP X pins σ Q) X.xe s₂) X.xe s₁) X.xe s := by
  obtain ⟨p, q, e1, e2, e3⟩ := bind2_some e
  refine bin (R := fun x y H2 => ∃ H1, RepB X.K H1 O x p ∧ RepB X.K H2 O y q ∧ Same H H1 ∧ Same H1 H2 ∧ OkO H2 O) wE_pe wE_pe I (ha σ H O env p _ ok R e1 fun x H1 s1 r1 => hb σ H1 O env q _ (ok.same s1) (R.same s1) e2 fun y H2 s2 r2 => ⟨H1, r1, r2, s1, s2, (ok.same s1).same s2⟩) ?_
  intro v u s2 x y H2 I2 rx ry ⟨H1, r1, r2, k1, k2, ok2⟩
  exact ho pins s2 σ H2 O x y v u p q d Q I2 ok2 rx ry (r1.same k2) r2 e3 fun v' H' k r => c v' H' ((k1.trans k2).trans k) r
theorem de_bin {op : Operator} {F : D → D → Option D} (ho : OpF X (binaryOp op) F) (ha : DB X a f) (hb : DB X b g) : DE X (.BinOp a op b pos) (bind2 F f g) :=
  fun σ H O env d Q ok R e c pins s I => wpAny_BinOp (go2 ho ha hb ok R e c I)
theorem de_cmp {op : CmpOp} {F : D → D → Option D} (ho : OpF X (compareOp op) F) (ha : DB X a f) (hb : DB X b g) (hm : behindInMarks op b = false) : DE X (.Compare a [op] [b] pos) (bind2 F f g) :=
  fun σ H O env d Q ok R e c pins s I => wpAny_Compare1 (go2 ho ha hb ok R e c I) hm
end
end PL
/-! PL dc: dicts whose keys are tuples. -/
namespace PL
open PySem PySem.Spec PyProof.Rows L2

/-! ### keys -/
mutual
def toNK : D → NestedKey
  | .n => .none
  | .i x => .num x
  | .t xs => .tup (toNKs xs)
  | _ => .none
def toNKs : List D → List NestedKey
  | [] => []
  | x :: xs => toNK x :: toNKs xs
end
theorem ky_mem {k : Nat} {xs : List D} (h : kyD (k + 1) (.t xs) = true) : ∀ x ∈ xs, kyD k x = true := by
  rw [kyD, List.all_eq_true] at h
  exact h
theorem nk_depth : ∀ (k : Nat) (d : D), kyD k d = true → (toNK d).depth ≤ k
  | _, .n, _ => by rw [toNK]; exact Nat.zero_le _
  | _, .i _, _ => by rw [toNK]; exact Nat.zero_le _
  | k + 1, .t xs, h => by
    have q := ky_mem h
    clear h
    have go : ∀ xs : List D, (∀ x ∈ xs, kyD k x = true) → NestedKey.depthAll (toNKs xs) ≤ k := by
      intro xs
      induction xs with
      | nil => intro _; rw [toNKs]; exact Nat.zero_le _
      | cons x xs ih =>
        intro q
        have h1 := nk_depth k x (q _ List.mem_cons_self)
        have h2 := ih fun y hy => q y (List.mem_cons_of_mem _ hy)
        rw [toNKs, NestedKey.depthAll]
        omega
    have := go xs q
    rw [toNK, NestedKey.depth]
    omega
  | 0, .t _, h => by cases h
  | k, .b _, h => by cases k <;> cases h
  | k, .s _, h => by cases k <;> cases h
  | k, .l _, h => by cases k <;> cases h
  | k, .z _, h => by cases k <;> cases h
  | k, .r _ _, h => by cases k <;> cases h
  | k, .d _ _, h => by cases k <;> cases h
theorem nk_hash (w : World) : ∀ (k : Nat) (d : D), kyD k d = true → (toNK d).hash w = keyH d
  | _, .n, _ => by rw [toNK, keyH, NestedKey.hash]
  | _, .i _, _ => by rw [toNK, keyH, NestedKey.hash]
  | k + 1, .t xs, h => by
    have q := ky_mem h
    clear h
    have go : ∀ xs : List D, (∀ x ∈ xs, kyD k x = true) → NestedKey.hashes w (toNKs xs) = keyHs xs := by
      intro xs
      induction xs with
      | nil => intro _; rw [toNKs, NestedKey.hashes, keyHs]
      | cons x xs ih =>
        intro q
        rw [toNKs, NestedKey.hashes, keyHs, nk_hash w k x (q _ List.mem_cons_self), ih fun y hy => q y (List.mem_cons_of_mem _ hy)]
    rw [toNK, NestedKey.hash, keyH, go xs q]
  | 0, .t _, h => by cases h
  | k, .b _, h => by cases k <;> cases h
  | k, .s _, h => by cases k <;> cases h
  | k, .l _, h => by cases k <;> cases h
  | k, .z _, h => by cases k <;> cases h
  | k, .r _ _, h => by cases k <;> cases h
  | k, .d _ _, h => by cases k <;> cases h
theorem nk_inj : ∀ (k : Nat) (a b : D), kyD k a = true → kyD k b = true → toNK a = toNK b → a = b := by
  intro k
  induction k with
  | zero =>
    intro a b ha hb e
    cases a <;> cases b <;> first
      | (cases ha; done)
      | (cases hb; done)
      | rfl
      | (rw [toNK, toNK] at e; cases e; done)
      | (rw [toNK, toNK] at e; injection e with e; rw [e])
  | succ k ih =>
    have go : ∀ xs ys : List D, (∀ x ∈ xs, kyD k x = true) → (∀ y ∈ ys, kyD k y = true) → toNKs xs = toNKs ys → xs = ys := by
      intro xs
      induction xs with
      | nil =>
        intro ys _ _ e
        cases ys with
        | nil => rfl
        | cons y ys => rw [toNKs, toNKs] at e; cases e
      | cons x xs ihx =>
        intro ys hx hy e
        cases ys with
        | nil => rw [toNKs, toNKs] at e; cases e
        | cons y ys =>
          rw [toNKs, toNKs] at e
          injection e with e1 e2
          rw [ih x y (hx _ List.mem_cons_self) (hy _ List.mem_cons_self) e1, ihx ys (fun z hz => hx z (List.mem_cons_of_mem _ hz)) (fun z hz => hy z (List.mem_cons_of_mem _ hz)) e2]
    intro a b ha hb e
    cases a <;> cases b <;> first
      | (cases ha; done)
      | (cases hb; done)
      | rfl
      | (rw [toNK, toNK] at e; cases e; done)
      | (rename_i xs ys
         rw [toNK, toNK] at e
         injection e with e
         rw [go xs ys (ky_mem ha) (ky_mem hb) e])
      | (rw [toNK, toNK] at e; injection e with e; rw [e])
theorem tk_ky {d : D} (h : tkD d = true) : kyD 8 d = true := by
  unfold tkD at h
  rw [Bool.and_eq_true] at h
  exact h.2
theorem tk_inj {a b : D} (ha : tkD a = true) (hb : tkD b = true) (e : toNK a = toNK b) : a = b := nk_inj 8 a b (tk_ky ha) (tk_ky hb) e
theorem tk_tup {d : D} (h : tkD d = true) : ∃ xs, d = .t xs := by
  cases d <;> first
    | exact ⟨_, rfl⟩
    | cases h

section
variable {X : Cx} {pins : List (Addr × Obj)} {σ : L2.St} {H : Hp} {O : Addr → Prop} {s : Shared}
theorem rep_nks_of {k : Nat} (ih : ∀ {v : V} {d : D} {u : Value}, Rep X.K H O v d → kyD k d = true → RelV v u → NestedIs s.heap (toNK d) u) : ∀ {vs : List V} {ds : List D} {us : List Value}, RepL X.K H O vs ds → (∀ x ∈ ds, kyD k x = true) → Vals vs us → NestedAll s.heap (toNKs ds) us
  | _, _, _, .nil, _, .nil => by rw [toNKs]; exact .nil
  | _, _, _, .cons a r, q, .cons ra rr => by
    rw [toNKs]
    exact .cons (ih a (q _ List.mem_cons_self) ra) (rep_nks_of ih r (fun x hx => q x (List.mem_cons_of_mem _ hx)) rr)
theorem rep_nk (I : Inv X pins σ H s) : ∀ (k : Nat) {v : V} {d : D} {u : Value}, Rep X.K H O v d → kyD k d = true → RelV v u → NestedIs s.heap (toNK d) u
  | _, _, _, _, .n, _, r => by
    cases (show _ = Value.none from r)
    rw [toNK]
    exact .none
  | _, _, _, _, .i x, _, r => by
    obtain ⟨t, rfl⟩ := r
    rw [toNK]
    exact .int _ _
  | k + 1, _, _, _, .t (ds := ds) h n rl, q, r => by
    cases (show _ = Value.ref _ from r)
    obtain ⟨its, rv, ⟨o, ho, hc, m, hd⟩, _⟩ := I.tuple (.inl h)
    rw [toNK]
    exact .tup ho hc hd (by simpa using rep_nks_of (fun a b c => rep_nk I k a b c) rl (ky_mem q) rv)
  | k + 1, _, _, _, .tk (ds := ds) h rl, q, r => by
    cases (show _ = Value.ref _ from r)
    obtain ⟨its, rv, ⟨o, ho, hc, m, hd⟩, _⟩ := I.tuple (h _)
    rw [toNK]
    exact .tup ho hc hd (by simpa using rep_nks_of (fun a b c => rep_nk I k a b c) rl (ky_mem q) rv)
  | 0, _, _, _, .t _ _ _, q, _ => by cases q
  | 0, _, _, _, .tk _ _, q, _ => by cases q
  | k, _, _, _, .b _, q, _ => by cases k <;> cases q
  | k, _, _, _, .s _, q, _ => by cases k <;> cases q
  | k, _, _, _, .l _ _ _, q, _ => by cases k <;> cases q
  | k, _, _, _, .z _ _ _, q, _ => by cases k <;> cases q
  | k, _, _, _, .zk _ _, q, _ => by cases k <;> cases q
  | k, _, _, _, .r _ _, q, _ => by cases k <;> cases q
  | k, _, _, _, .d _ _ _ _ _ _ _, q, _ => by cases k <;> cases q
/-- a value that is a key -/
theorem rep_key (I : Inv X pins σ H s) {v : V} {d : D} {u : Value} (h : RepB X.K H O v d) (q : tkD d = true) (r : RelV v u) : ∃ b, v = .ref b ∧ u = .ref b ∧ Rep X.K H O v d ∧ (nestedKind X.prog X.w).is s.heap (toNK d) b := by
  obtain ⟨xs, rfl⟩ := tk_tup q
  have h' := h.rep_t
  obtain ⟨b, vs, rfl, _, _⟩ := h.tup
  cases (show u = Value.ref b from r)
  exact ⟨b, rfl, rfl, h', rep_nk I 8 h' (tk_ky q) rfl, nk_depth 8 _ (tk_ky q)⟩

/-! ### entries -/
abbrev EnX (P : Program) (w : World) : List (Int × V × V) → List (NestedKey × Addr × Value) → Prop := Paired fun p q => p.1 = q.1.hash w ∧ p.2.1 = .ref q.2.1 ∧ RelV p.2.2 q.2.2
theorem ents_xs (I : Inv X pins σ H s) : ∀ {ents : List (Int × V × V)} {es : List DictEntry} {ks : List D}, Paired (fun (p : Int × V × V) (e : DictEntry) => e.hash = p.1 ∧ RelV p.2.1 e.key ∧ RelV p.2.2 e.val) ents es →
    RepL X.K H O (ents.map fun e => e.2.1) ks → ents.map (fun e => e.1) = ks.map keyH → ks.all tkD = true →
    ∃ xs : List (NestedKey × Addr × Value), es = xs.map (entryOfKey (nestedKind X.prog X.w)) ∧ (∀ x ∈ xs, (nestedKind X.prog X.w).is s.heap x.1 x.2.1) ∧ xs.map (·.1) = ks.map toNK ∧ EnX X.prog X.w ents xs
  | [], _, ks, .nil, r, _, _ => by
    cases r
    exact ⟨[], rfl, (fun _ h => nomatch h), rfl, .nil⟩
  | p :: ents, _, ks, .cons (b := e) he t, r, h1, h2 => by
    rw [List.map_cons] at r
    cases r with
    | @cons _ _ k ks' rk rr =>
      rw [List.map_cons, List.map_cons] at h1
      injection h1 with h1 h1'
      rw [List.all_cons, Bool.and_eq_true] at h2
      obtain ⟨xs, e1, e2, e3, e4⟩ := ents_xs I t rr h1' h2.2
      obtain ⟨a1, a2, a3⟩ := he
      obtain ⟨b, b1, b2, b3, b4⟩ := rep_key I (.inl rk) h2.1 a2
      exact ⟨(toNK k, b, e.val) :: xs, by
        rw [List.map_cons, ← e1]
        congr 1
        unfold entryOfKey
        have : (nestedKind X.prog X.w).hash (toNK k) = keyH k := nk_hash X.w 8 k (tk_ky h2.1)
        rw [this, ← h1, ← a1, ← b2], by
        intro x hx
        rcases List.mem_cons.mp hx with hx | hx
        · rw [hx]; exact b4
        · exact e2 x hx, by rw [List.map_cons, List.map_cons, e3], .cons ⟨by rw [h1]; exact (nk_hash X.w 8 k (tk_ky h2.1)).symm, b1, a3⟩ e4⟩
end
end PL
namespace PL
open PySem PySem.Spec PyProof.Rows L2
@[simp] def dLook : List D → List D → D → Option D
  | k' :: ks, v :: vs, k => if k' = k then some v else dLook ks vs k
  | _, _, _ => none
@[simp] def dRep : List D → List D → D → D → List D
  | k' :: ks, v :: vs, k, x => (if k' = k then x else v) :: dRep ks vs k x
  | _, _, _, _ => []
def dPut (ks vs : List D) (k x : D) : D := if (dLook ks vs k).isSome = true then .d ks (dRep ks vs k x) else .d (ks ++ [k]) (vs ++ [x])
section
variable {P : Program} {w : World} {K : PySem.W.Frag} {H : Hp} {O : Addr → Prop}
theorem look_at {k : D} (hk : tkD k = true) : ∀ {ents : List (Int × V × V)} {xs : List (NestedKey × Addr × Value)} {ks vs : List D}, EnX P w ents xs → xs.map (·.1) = ks.map toNK → ks.all tkD = true → RepL K H O (ents.map fun e => e.2.2) vs →
    (dLook ks vs k = none → atKey xs (toNK k) = none) ∧ ∀ d, dLook ks vs k = some d → ∃ b u v, atKey xs (toNK k) = some (b, u) ∧ RelV v u ∧ Rep K H O v d
  | [], _, ks, vs, .nil, h1, h2, r => by
    cases r
    cases ks with
    | nil => exact ⟨fun _ => rfl, fun d e => nomatch e⟩
    | cons k' ks => cases h1
  | p :: ents, q :: xs, ks, vs, .cons he t, h1, h2, r => by
    rw [List.map_cons] at r
    cases r with
    | @cons _ _ v vs' rv rr =>
      cases ks with
      | nil => cases h1
      | cons k' ks =>
        rw [List.map_cons, List.map_cons] at h1
        injection h1 with h1 h1'
        rw [List.all_cons, Bool.and_eq_true] at h2
        obtain ⟨i1, i2⟩ := look_at hk t h1' h2.2 rr
        by_cases e : k' = k
        · subst e
          have ha : atKey (q :: xs) (toNK k') = some q.2 := by simp [atKey, h1]
          refine ⟨fun z => by simp at z, fun d z => ?_⟩
          simp only [dLook, if_pos] at z
          cases z
          exact ⟨q.2.1, q.2.2, p.2.2, ha, he.2.2, rv⟩
        · have hne : ¬ q.1 = toNK k := fun z => e (tk_inj h2.1 hk (h1.symm.trans z))
          have ha : atKey (q :: xs) (toNK k) = atKey xs (toNK k) := by simp [atKey, hne]
          rw [ha]
          simp only [dLook, if_neg e]
          exact ⟨i1, i2⟩
theorem put_old {k : D} (hk : tkD k = true) {v : V} {u : Value} {x : D} (rv : RelV v u) (rx : Rep K H O v x) : ∀ {ents : List (Int × V × V)} {xs : List (NestedKey × Addr × Value)} {ks vs : List D}, EnX P w ents xs → xs.map (·.1) = ks.map toNK → ks.all tkD = true → RepL K H O (ents.map fun e => e.2.2) vs →
    ∃ ents' : List (Int × V × V), EnX P w ents' (xs.map (putAt (toNK k) u)) ∧ ents'.map (fun e => e.1) = ents.map (fun e => e.1) ∧ ents'.map (fun e => e.2.1) = ents.map (fun e => e.2.1) ∧ RepL K H O (ents'.map fun e => e.2.2) (dRep ks vs k x)
  | [], _, ks, vs, .nil, h1, h2, r => by
    cases r
    refine ⟨[], .nil, rfl, rfl, ?_⟩
    cases ks <;> exact .nil
  | p :: ents, q :: xs, ks, vs, .cons he t, h1, h2, r => by
    rw [List.map_cons] at r
    cases r with
    | @cons _ _ y vs' ry rr =>
      cases ks with
      | nil => cases h1
      | cons k' ks =>
        rw [List.map_cons, List.map_cons] at h1
        injection h1 with h1 h1'
        rw [List.all_cons, Bool.and_eq_true] at h2
        obtain ⟨es, i1, i2, i3, i4⟩ := put_old hk rv rx t h1' h2.2 rr
        by_cases e : k' = k
        · subst e
          refine ⟨(p.1, p.2.1, v) :: es, ?_, by rw [List.map_cons, List.map_cons, i2], by rw [List.map_cons, List.map_cons, i3], ?_⟩
          · rw [List.map_cons, putAt, if_pos h1]
            exact .cons ⟨he.1, he.2.1, rv⟩ i1
          · rw [List.map_cons, dRep, if_pos rfl]
            exact .cons rx i4
        · have hne : ¬ q.1 = toNK k := fun z => e (tk_inj h2.1 hk (h1.symm.trans z))
          refine ⟨p :: es, ?_, by rw [List.map_cons, List.map_cons, i2], by rw [List.map_cons, List.map_cons, i3], ?_⟩
          · rw [List.map_cons, putAt, if_neg hne]
            exact .cons he i1
          · rw [List.map_cons, dRep, if_neg e]
            exact .cons ry i4
theorem nk_nodup : ∀ {ks : List D}, ks.all tkD = true → ks.Nodup → (ks.map toNK).Nodup
  | [], _, _ => List.nodup_nil
  | k :: ks, h, n => by
    rw [List.all_cons, Bool.and_eq_true] at h
    rw [List.nodup_cons] at n
    rw [List.map_cons, List.nodup_cons]
    refine ⟨fun z => ?_, nk_nodup h.2 n.2⟩
    obtain ⟨k', hk', e⟩ := List.mem_map.mp z
    exact n.1 (tk_inj (List.all_eq_true.mp h.2 _ hk') h.1 e ▸ hk')
theorem dLook_none {k : D} : ∀ {ks vs : List D}, ks.length = vs.length → dLook ks vs k = none → k ∉ ks
  | [], _, _, _ => by simp
  | k' :: ks, v :: vs, hl, h => by
    by_cases e : k' = k
    · simp [e] at h
    · simp only [dLook, if_neg e] at h
      intro z
      rcases List.mem_cons.mp z with z | z
      · exact e z.symm
      · exact dLook_none (by simpa using hl) h z
end
section
variable {X : Cx} {pins : List (Addr × Obj)} {σ : L2.St} {H : Hp} {O : Addr → Prop} {s : Shared} {a : Addr} {ks vs : List D}
theorem dx_at (I : Inv X pins σ H s) (h : OwnAt X.K H O a (.d ks vs)) : ∃ (ents : List (Int × V × V)) (xs : List (NestedKey × Addr × Value)), H a = some (DxO a ents) ∧ s.heap.DictOfH (nestedKind X.prog X.w) a xs ∧ (a == sysModules) = false ∧ ents.length ≤ SZ ∧
    xs.map (·.1) = ks.map toNK ∧ EnX X.prog X.w ents xs ∧ RepL X.K H O (ents.map fun e => e.2.1) ks ∧ RepL X.K H O (ents.map fun e => e.2.2) vs ∧ ents.map (fun e => e.1) = ks.map keyH ∧ ks.all tkD = true ∧ ks.Nodup := by
  obtain ⟨ents, e, r, r', q1, q2, q3⟩ := h
  have x : ObjOk X.prog X.w H s.heap a (.ext (DxP a ents)) := I.hok a _ e
  obtain ⟨⟨hs, hl, o, es, ep, ho, hx, hd, hp⟩, _, _⟩ := x
  obtain ⟨xs, e1, e2, e3, e4⟩ := ents_xs I hp r q1 q2
  exact ⟨ents, xs, e, ⟨o, es, ep, ho, hx, hd, e1, e2, by rw [e3]; exact nk_nodup q2 q3⟩, hs, hl, e3, e4, r, r', q1, q2, q3⟩
theorem nk_room (hu : X.A.units + 65 < cLine) : (nestedKind X.prog X.w).room X.A.in1 := by
  show X.A.in1.units + 8 < cLine
  rw [Around.in1_units]
  omega
variable {E : Value → Shared → Prop} {y : V} {k d : D} {u : Value}
/-- d[k], there -/
theorem dx_get {Q : Value → Shared → Prop} (hu : X.A.units + 65 < cLine) (I : Inv X pins σ H s) (h : OwnAt X.K H O a (.d ks vs)) (rk : RepB X.K H O y k) (tk : tkD k = true) (ry : RelV y u) (e : dLook ks vs k = some d)
    (c : ∀ v w' s', Inv X pins σ H s' → RelV v w' → Rep X.K H O v d → Q w' s') : wpAny (model X.prog X.w) X.A (getItem (.ref a) u) Q E s := by
  obtain ⟨ents, xs, g0, g1, g2, g3, g4, g5, g6, g7, g8, g9, g10⟩ := dx_at I h
  obtain ⟨b, rfl, rfl, _, hk⟩ := rep_key I rk tk ry
  obtain ⟨_, l⟩ := look_at tk g5 g4 g9 g7
  obtain ⟨b', u', v', l1, l2, l3⟩ := l d e
  exact wpAny_getItem_heap (nk_room hu) hk g1 l1 (c v' u' _ (I.tok _) l2 l3)
/-- k in d -/
theorem dx_in {Q : Value → Shared → Prop} (hu : X.A.units + 65 < cLine) (I : Inv X pins σ H s) (h : OwnAt X.K H O a (.d ks vs)) (rk : RepB X.K H O y k) (tk : tkD k = true) (ry : RelV y u)
    (c : ∀ s', Inv X pins σ H s' → Q (.bool (dLook ks vs k).isSome) s') : wpAny (model X.prog X.w) X.A (compareOp .In u (.ref a)) Q E s := by
  obtain ⟨ents, xs, g0, g1, g2, g3, g4, g5, g6, g7, g8, g9, g10⟩ := dx_at I h
  obtain ⟨b, rfl, rfl, _, hk⟩ := rep_key I rk tk ry
  obtain ⟨l1, l2⟩ := look_at tk g5 g4 g9 g7
  refine wpAny_in_heap (nk_room hu) hk g2 g1 ?_
  have q : (atKey xs (toNK k)).isSome = (dLook ks vs k).isSome := by
    cases e : dLook ks vs k with
    | none => rw [l1 e]; rfl
    | some d => obtain ⟨b', u', v', m, _⟩ := l2 d e; rw [m]; rfl
  rw [q]
  exact c _ (I.tok _)
theorem dx_notIn {Q : Value → Shared → Prop} (hu : X.A.units + 65 < cLine) (I : Inv X pins σ H s) (h : OwnAt X.K H O a (.d ks vs)) (rk : RepB X.K H O y k) (tk : tkD k = true) (ry : RelV y u)
    (c : ∀ s', Inv X pins σ H s' → Q (.bool (!(dLook ks vs k).isSome)) s') : wpAny (model X.prog X.w) X.A (compareOp .NotIn u (.ref a)) Q E s := by
  obtain ⟨ents, xs, g0, g1, g2, g3, g4, g5, g6, g7, g8, g9, g10⟩ := dx_at I h
  obtain ⟨b, rfl, rfl, _, hk⟩ := rep_key I rk tk ry
  obtain ⟨l1, l2⟩ := look_at tk g5 g4 g9 g7
  refine wpAny_notIn_heap (nk_room hu) hk g2 g1 ?_
  have q : (atKey xs (toNK k)).isSome = (dLook ks vs k).isSome := by
    cases e : dLook ks vs k with
    | none => rw [l1 e]; rfl
    | some d => obtain ⟨b', u', v', m, _⟩ := l2 d e; rw [m]; rfl
  rw [q]
  exact c _ (I.tok _)
/-- d.get(k) -/
theorem dx_get1 {Q : Value → Shared → Prop} (hu : X.A.units + 65 < cLine) (I : Inv X pins σ H s) (h : OwnAt X.K H O a (.d ks vs)) (rk : RepB X.K H O y k) (tk : tkD k = true) (ry : RelV y u)
    (c : ∀ v w' s', Inv X pins σ H s' → RelV v w' → Rep X.K H O v ((dLook ks vs k).getD .n) → Q w' s') : wpAny (model X.prog X.w) X.A (call (.builtin "dict.get") [.ref a, u]) Q E s := by
  obtain ⟨ents, xs, g0, g1, g2, g3, g4, g5, g6, g7, g8, g9, g10⟩ := dx_at I h
  obtain ⟨b, rfl, rfl, _, hk⟩ := rep_key I rk tk ry
  obtain ⟨l1, l2⟩ := look_at tk g5 g4 g9 g7
  refine get_keyed (nk_room hu) hk g2 ⟨xs, g1, rfl⟩ ?_
  rw [valueAt_pairsH]
  cases e : dLook ks vs k with
  | none => rw [l1 e]; exact c .non _ _ (I.tok _) rfl (by rw [e]; exact .n)
  | some d => obtain ⟨b', u', v', m1, m2, m3⟩ := l2 d e; rw [m1]; exact c v' _ _ (I.tok _) m2 (by rw [e]; exact m3)
/-- d.get(k, x) -/
theorem dx_get2 {z : V} {uz : Value} {dz : D} {Q : Value → Shared → Prop} (hu : X.A.units + 65 < cLine) (I : Inv X pins σ H s) (h : OwnAt X.K H O a (.d ks vs)) (rk : RepB X.K H O y k) (tk : tkD k = true) (ry : RelV y u) (rz : RelV z uz) (pz : Rep X.K H O z dz)
    (c : ∀ v w' s', Inv X pins σ H s' → RelV v w' → Rep X.K H O v ((dLook ks vs k).getD dz) → Q w' s') : wpAny (model X.prog X.w) X.A (call (.builtin "dict.get") [.ref a, u, uz]) Q E s := by
  obtain ⟨ents, xs, g0, g1, g2, g3, g4, g5, g6, g7, g8, g9, g10⟩ := dx_at I h
  obtain ⟨b, rfl, rfl, _, hk⟩ := rep_key I rk tk ry
  obtain ⟨l1, l2⟩ := look_at tk g5 g4 g9 g7
  refine getOr_keyed (nk_room hu) hk g2 ⟨xs, g1, rfl⟩ ?_
  rw [valueAt_pairsH]
  cases e : dLook ks vs k with
  | none => rw [l1 e]; exact c z _ _ (I.tok _) rz (by rw [e]; exact pz)
  | some d => obtain ⟨b', u', v', m1, m2, m3⟩ := l2 d e; rw [m1]; exact c v' _ _ (I.tok _) m2 (by rw [e]; exact m3)
theorem dx_ok {P : Program} {w : World} {H' : Hp} {h' : Heap} {ents : List (Int × V × V)} {xs : List (NestedKey × Addr × Value)} (dd : h'.DictOfH (nestedKind P w) a xs) (hs : (a == sysModules) = false) (hl : ents.length ≤ SZ) (en : EnX P w ents xs) : ObjOk P w H' h' a (DxO a ents) := by
  obtain ⟨o, es, ep, ho, hx, hd, e1, e2, e3⟩ := dd
  refine ⟨⟨hs, hl, o, es, ep, ho, hx, hd, ?_⟩, ⟨o, ho⟩, fun h1 h2 z k => ?_⟩
  · rw [e1]
    clear e1 e2 e3 ho hx hd hl
    induction en with
    | nil => exact .nil
    | cons he t ih => exact .cons ⟨he.1.symm, by rw [he.2.1]; rfl, he.2.2⟩ ih
  · obtain ⟨z1, z2, o, es, ep, ho, hz⟩ := z
    exact ⟨z1, z2, o, es, ep, k _ ho, hz⟩
/-- d[k] = x -/
theorem dx_set {z : V} {uz : Value} {x : D} {Q : Unit → Shared → Prop} (hu : X.A.units + 65 < cLine) (I : Inv X pins σ H s) (h : OwnAt X.K H O a (.d ks vs)) (rk : Rep X.K H O y k) (tk : tkD k = true) (ry : RelV y u) (rz : RelV z uz) (pz : Rep X.K H O z x) (hz : ks.length < SZ)
    (c : ∀ ents' s', Inv X pins σ (upd H a (DxO a ents')) s' → (∀ H' O', H' a = some (DxO a ents') → (∀ v d, Rep X.K H O v d → Rep X.K H' O' v d) → OwnAt X.K H' O' a (dPut ks vs k x)) → Q () s') : wpAny (model X.prog X.w) X.A (setItem (.ref a) u uz) Q E s := by
  have hmu := h.mut
  obtain ⟨ents, xs, g0, g1, g2, g3, g4, g5, g6, g7, g8, g9, g10⟩ := dx_at I h
  obtain ⟨b, rfl, rfl, rk', hk⟩ := rep_key I (.inl rk) tk ry
  obtain ⟨l1, l2⟩ := look_at tk g5 g4 g9 g7
  have hlx : xs.length = ks.length := by have := congrArg List.length g4; simpa using this
  have hlv : ks.length = vs.length := by have h1 := g6.length; have h2 := g7.length; rw [List.length_map] at h1 h2; omega
  have hle : ents.length = ks.length := by have h1 := g6.length; rw [List.length_map] at h1; exact h1
  refine wpAny_setItem_heap (hsz := by rw [hlx, SZ_eq]; omega) (nk_room hu) hk g1 fun h' dd hs => ?_
  have repL : ∀ {H' : Hp} {O' : Addr → Prop}, (∀ v d, Rep X.K H O v d → Rep X.K H' O' v d) → ∀ {vs : List V} {ds : List D}, RepL X.K H O vs ds → RepL X.K H' O' vs ds := by
    intro H' O' m vs ds r
    induction vs generalizing ds with
    | nil => cases r; exact .nil
    | cons v vs ih => cases r with | cons a r => exact .cons (m _ _ a) (ih r)
  have fin : ∀ (ents' : List (Int × V × V)), ents'.length ≤ SZ → EnX X.prog X.w ents' (storedH xs (toNK k) b uz) → ObjOk X.prog X.w (upd H a (DxO a ents')) h' a (DxO a ents') := fun ents' hl en => dx_ok dd g2 hl en
  have inv : ∀ (ents' : List (Int × V × V)), ObjOk X.prog X.w (upd H a (DxO a ents')) h' a (DxO a ents') → Inv X pins σ (upd H a (DxO a ents')) { s with heap := h', toks := s.toks + (nestedKind X.prog X.w).draws (toNK k) } := fun ents' ok =>
    I.write (x := a) (e := a) hmu (.inl rfl) (fun b q hb z => (hs.2 b hb).trans z) (by obtain ⟨o, _, _, ho, _⟩ := dd; exact ⟨o, ho⟩) ok
  cases e : dLook ks vs k with
  | some d =>
    obtain ⟨b', u', v', m1, m2, m3⟩ := l2 d e
    obtain ⟨es, i1, i2, i3, i4⟩ := put_old tk rz pz g5 g4 g9 g7
    have hle' : es.length = ents.length := by have := congrArg List.length i2; simpa using this
    have ok := fin es (by omega) (by rw [storedH_old m1]; exact i1)
    refine c es _ (inv es ok) fun H' O' e' m => ?_
    unfold dPut
    rw [e, if_pos (show (some d).isSome = true from rfl)]
    exact ⟨es, e', by rw [i3]; exact repL m g6, repL m i4, by rw [i2]; exact g8, g9, g10⟩
  | none =>
    have en : EnX X.prog X.w (ents ++ [(keyH k, .ref b, z)]) (storedH xs (toNK k) b uz) := by
      rw [storedH_new (l1 e)]
      exact Paired.snoc g5 ⟨(nk_hash X.w 8 k (tk_ky tk)).symm, rfl, rz⟩
    have ok := fin _ (by rw [List.length_append, List.length_singleton]; omega) en
    refine c _ _ (inv _ ok) fun H' O' e' m => ?_
    unfold dPut
    rw [e, if_neg (by simp)]
    refine ⟨_, e', ?_, ?_, ?_, ?_, ?_⟩
    · rw [List.map_append]; exact (repL m g6).append (.cons (m _ _ rk) .nil)
    · rw [List.map_append]; exact (repL m g7).append (.cons (m _ _ pz) .nil)
    · rw [List.map_append, List.map_append, g8]; rfl
    · rw [List.all_append, g9]; simp [tk]
    · rw [List.nodup_append]
      refine ⟨g10, by simp, fun p hp q hq => ?_⟩
      rw [List.mem_singleton.mp hq]
      exact fun z => dLook_none hlv e (z ▸ hp)
end
end PL
/-! PL c: operations on data. -/
namespace PL
open PySem PySem.Spec PyProof.Rows L2

/-! ### what they give -/
/-- by the natural number alone: the kernel is not to count down from big literals -/
def absLe (x : Int) (n : Nat) : Bool := Nat.ble x.natAbs n
theorem absLe_ok {x : Int} {n : Nat} (h : absLe x n = true) : -(n : Int) ≤ x ∧ x ≤ n := by
  have := Nat.le_of_ble_eq_true h
  omega
theorem absLe_of {x : Int} {n : Nat} (h : x.natAbs ≤ n) : absLe x n = true := Nat.ble_eq_true_of_le h
def smallI (x : Int) : Bool := absLe x 18446744073709551615
theorem smallI_ok {x : Int} (h : smallI x = true) : -(2 ^ 64) < x ∧ x < 2 ^ 64 := by
  have := absLe_ok h
  omega
@[simp] def addD : D → D → Option D
  | .i x, .i y => some (.i (x + y))
  | .l xs, .l ys => if xs.length + ys.length ≤ SZ then some (.l (xs ++ ys)) else none
  | .t xs, .t ys => if xs.length + ys.length ≤ SZ then some (.t (xs ++ ys)) else none
  | _, _ => none
@[simp] def subD : D → D → Option D
  | .i x, .i y => some (.i (x - y))
  | _, _ => none
@[simp] def mulD : D → D → Option D
  | .i x, .i y => if (smallI x || smallI y) = true then some (.i (x * y)) else none
  | .l xs, .i k => if 0 ≤ k ∧ absLe k 1000000 = true ∧ xs.length * k.toNat ≤ SZ then some (.l (List.replicate k.toNat xs).flatten) else none
  | .t xs, .i k => if 0 ≤ k ∧ absLe k 1000 = true ∧ xs.length ≤ 1000 then some (.t (List.replicate k.toNat xs).flatten) else none
  | _, _ => none
@[simp] def fdivD : D → D → Option D
  | .i x, .i y => if 0 < y ∧ absLe y (2 ^ 1000 - 1) = true then some (.i (x / y)) else none
  | _, _ => none
@[simp] def modD : D → D → Option D
  | .i x, .i y => if 0 < y then some (.i (x % y)) else none
  | _, _ => none
@[simp] def powD : D → D → Option D
  | .i x, .i y => if 0 ≤ y ∧ absLe y 1000000 = true ∧ smallI x = true then some (.i (x ^ y.toNat)) else none
  | _, _ => none
/-- how deep == looks here -/
def DP : Nat := 20
@[simp] def eqqD (a b : D) : Option D := if (okD DP a && okD DP b) = true then some (.b (eqD a b)) else none
@[simp] def neqD (a b : D) : Option D := if (okD DP a && okD DP b) = true then some (.b (!eqD a b)) else none
@[simp] def inD : D → D → Option D
  | a, .l xs => if (okD DP a && okD DP (.l xs)) = true then some (.b (xs.any fun x => eqD x a)) else none
  | a, .t xs => if (okD DP a && okD DP (.t xs)) = true then some (.b (xs.any fun x => eqD x a)) else none
  | a, .d ks vs => if tkD a = true then some (.b (dLook ks vs a).isSome) else none
  | _, _ => none
@[simp] def ninD : D → D → Option D
  | a, .l xs => if (okD DP a && okD DP (.l xs)) = true then some (.b (!xs.any fun x => eqD x a)) else none
  | a, .t xs => if (okD DP a && okD DP (.t xs)) = true then some (.b (!xs.any fun x => eqD x a)) else none
  | a, .d ks vs => if tkD a = true then some (.b (!(dLook ks vs a).isSome)) else none
  | _, _ => none
def isND : D → Bool
  | .n => true
  | _ => false
@[simp] def isD : D → D → Option D
  | a, .n => some (.b (isND a))
  | .b x, .b y => some (.b (decide (x = y)))
  | _, _ => none
@[simp] def isntD : D → D → Option D
  | a, .n => some (.b (!isND a))
  | .b x, .b y => some (.b (!decide (x = y)))
  | _, _ => none

theorem any_toPys (a : PyData) : ∀ xs : List D, (toPys xs).any (fun y => PyData.eqv y a) = xs.any fun x => PyData.eqv (toPy x) a
  | [] => by rw [toPys]; rfl
  | x :: xs => by rw [toPys, List.any_cons, List.any_cons, any_toPys a xs]

section
variable {X : Cx}
theorem RepB.isN {K : PySem.W.Frag} {H : Hp} {O : Addr → Prop} {v : V} {d : D} (h : RepB K H O v d) : decide (v = .non) = isND d := by
  rcases h with h | ⟨a, e1, r⟩
  · cases h <;> first | rfl | (apply decide_eq_false; exact nofun)
  · subst e1
    cases d <;> first
      | exact r.elim
      | rfl

theorem of_add : OpF X (binaryOp .Add) addD := by
  intro pins s σ H O x y u w p q d Q I ok rx ry rp rq e c
  cases p <;> cases q <;> first
    | (cases e; done)
    | skip
  · cases e
    obtain rfl := rp.int
    obtain rfl := rq.int
    exact op_add pins s σ H _ _ u w Q I rx ry ⟨_, _, rfl, rfl, c _ _ (Same.refl _) (.i _)⟩
  · rename_i xs ys
    have e : (if xs.length + ys.length ≤ SZ then some (D.t (xs ++ ys)) else none) = some d := e
    by_cases hz : xs.length + ys.length ≤ SZ
    · rw [if_pos hz] at e
      cases e
      obtain ⟨a, vs, rfl, ha, ra⟩ := rp.tup
      obtain ⟨b, ws, rfl, hb, rb⟩ := rq.tup
      have l1 := ra.length
      have l2 := rb.length
      have keep : ∀ z, Rep X.K H O (.ref z) (.t (xs ++ ys)) → Q (.ref z) H := fun z r => c _ _ (Same.refl _) r
      refine op_catA pins s σ H _ _ u w Q I rx ry ⟨a, b, vs, ws, rfl, rfl, ha, hb, by rw [SZ_eq]; omega, fun h => ?_, fun h1 h2 => ?_, fun h1 h2 p np => ?_⟩
      · subst h
        have : xs = [] := List.length_eq_zero_iff.mp l1.symm
        subst this
        exact keep _ rq.rep_t
      · subst h2
        have : ys = [] := List.length_eq_zero_iff.mp l2.symm
        subst this
        rw [List.append_nil] at keep
        exact keep _ rp.rep_t
      · exact c _ _ (same_new np) (Rep.newT ok np (ra.append rb))
    · rw [if_neg hz] at e; cases e
  · rename_i xs ys
    have e : (if xs.length + ys.length ≤ SZ then some (D.l (xs ++ ys)) else none) = some d := e
    by_cases hz : xs.length + ys.length ≤ SZ
    · rw [if_pos hz] at e
      cases e
      obtain ⟨a, vs, rfl, ha, ra⟩ := rp.lst
      obtain ⟨b, ws, rfl, hb, rb⟩ := rq.lst
      have l1 := ra.length
      have l2 := rb.length
      exact op_cat pins s σ H _ _ u w Q I rx ry ⟨a, b, vs, ws, rfl, rfl, ha, hb, by rw [SZ_eq]; omega, fun p np => c _ _ (same_new np) (Rep.newL ok np (ra.append rb))⟩
    · rw [if_neg hz] at e; cases e
theorem of_sub : OpF X (binaryOp .Sub) subD := by
  intro pins s σ H O x y u w p q d Q I ok rx ry rp rq e c
  cases p <;> cases q <;> first
    | (cases e; done)
    | skip
  cases e
  obtain rfl := rp.int
  obtain rfl := rq.int
  exact op_sub pins s σ H _ _ u w Q I rx ry ⟨_, _, rfl, rfl, c _ _ (Same.refl _) (.i _)⟩
theorem of_fdiv : OpF X (binaryOp .FloorDiv) fdivD := by
  intro pins s σ H O x y u w p q d Q I ok rx ry rp rq e c
  cases p <;> cases q <;> first
    | (cases e; done)
    | skip
  rename_i i j
  have e : (if 0 < j ∧ absLe j (2 ^ 1000 - 1) = true then some (D.i (i / j)) else none) = some d := e
  by_cases hj : 0 < j ∧ absLe j (2 ^ 1000 - 1) = true
  · rw [if_pos hj] at e
    cases e
    obtain rfl := rp.int
    obtain rfl := rq.int
    have hj2 := absLe_ok hj.2
    exact op_fdivW pins s σ H _ _ u w Q I rx ry ⟨_, _, rfl, rfl, wide_div (b := 1000) hj.1 (by omega) (by decide) (by decide), c _ _ (Same.refl _) (.i _)⟩
  · rw [if_neg hj] at e; cases e
theorem of_mod : OpF X (binaryOp .Mod) modD := by
  intro pins s σ H O x y u w p q d Q I ok rx ry rp rq e c
  cases p <;> cases q <;> first
    | (cases e; done)
    | skip
  rename_i i j
  have e : (if 0 < j then some (D.i (i % j)) else none) = some d := e
  by_cases hj : 0 < j
  · rw [if_pos hj] at e
    cases e
    obtain rfl := rp.int
    obtain rfl := rq.int
    exact op_mod pins s σ H _ _ u w Q I rx ry ⟨_, _, rfl, rfl, hj, c _ _ (Same.refl _) (.i _)⟩
  · rw [if_neg hj] at e; cases e
theorem of_pow : OpF X (binaryOp .Pow) powD := by
  intro pins s σ H O x y u w p q d Q I ok rx ry rp rq e c
  cases p <;> cases q <;> first
    | (cases e; done)
    | skip
  rename_i i j
  have e : (if 0 ≤ j ∧ absLe j 1000000 = true ∧ smallI i = true then some (D.i (i ^ j.toNat)) else none) = some d := e
  by_cases hj : 0 ≤ j ∧ absLe j 1000000 = true ∧ smallI i = true
  · rw [if_pos hj] at e
    cases e
    obtain rfl := rp.int
    obtain rfl := rq.int
    have hj2 := absLe_ok hj.2.1
    have hj3 := smallI_ok hj.2.2
    exact op_pow pins s σ H _ _ u w Q I rx ry ⟨_, _, rfl, rfl, ⟨hj.1, by omega, by omega⟩, c _ _ (Same.refl _) (.i _)⟩
  · rw [if_neg hj] at e; cases e
theorem of_eq (hu : X.A.units + 65 < cLine) : OpF X (compareOp .Eq) eqqD := by
  intro pins s σ H O x y u w p q d Q I ok rx ry rp rq e c
  unfold eqqD at e
  split at e
  · rename_i hk
    rw [Bool.and_eq_true] at hk
    cases e
    exact op_eqD (by omega) pins s σ H _ _ u w Q I rx ry ⟨_, _, rp.dp hk.1, rq.dp hk.2, shaped_ok hk.1 (by decide), shaped_ok hk.2 (by decide), c _ _ (Same.refl _) (.b _)⟩
  · cases e
theorem of_ne (hu : X.A.units + 65 < cLine) : OpF X (compareOp .NotEq) neqD := by
  intro pins s σ H O x y u w p q d Q I ok rx ry rp rq e c
  unfold neqD at e
  split at e
  · rename_i hk
    rw [Bool.and_eq_true] at hk
    cases e
    exact op_neD (by omega) pins s σ H _ _ u w Q I rx ry ⟨_, _, rp.dp hk.1, rq.dp hk.2, shaped_ok hk.1 (by decide), shaped_ok hk.2 (by decide), c _ _ (Same.refl _) (.b _)⟩
  · cases e
theorem of_in (hu : X.A.units + 65 < cLine) : OpF X (compareOp .In) inD := by
  intro pins s σ H O x y u w p q d Q I ok rx ry rp rq e c
  cases q <;> first
    | (cases e; done)
    | skip
  · rename_i xs
    have e : (if (okD DP p && okD DP (.t xs)) = true then some (D.b (xs.any fun x => eqD x p)) else none) = some d := e
    split at e
    · rename_i hk
      rw [Bool.and_eq_true] at hk
      cases e
      have hd := rp.dp hk.1
      have he := rq.dp hk.2
      have sd := shaped_ok hk.1 (by decide)
      have se := shaped_ok hk.2 (by decide)
      rw [toPy] at he se
      obtain ⟨as, r1⟩ := Dp.reads I _ x u hd rx
      obtain ⟨bs, r2⟩ := Dp.reads I _ y w he ry
      refine SeqAt.in_tuple_reads r2 r1 (SeqAt.canLay_of_shaped se) (SeqAt.canLay_of_shaped sd) (room_in_shaped sd hu) ⟨.bl _, H, I, rfl, ?_⟩
      rw [any_toPys]
      exact c _ _ (Same.refl _) (.b _)
    · cases e
  · rename_i xs
    have e : (if (okD DP p && okD DP (.l xs)) = true then some (D.b (xs.any fun x => eqD x p)) else none) = some d := e
    split at e
    · rename_i hk
      rw [Bool.and_eq_true] at hk
      cases e
      have hd := rp.dp hk.1
      have he := rq.dp hk.2
      have sd := shaped_ok hk.1 (by decide)
      have se := shaped_ok hk.2 (by decide)
      rw [toPy] at he se
      obtain ⟨as, r1⟩ := Dp.reads I _ x u hd rx
      obtain ⟨bs, r2⟩ := Dp.reads I _ y w he ry
      refine SeqAt.in_list_reads r2 r1 (SeqAt.canLay_of_shaped se) (SeqAt.canLay_of_shaped sd) (room_in_shaped sd hu) ⟨.bl _, H, I, rfl, ?_⟩
      rw [any_toPys]
      exact c _ _ (Same.refl _) (.b _)
    · cases e
  · rename_i ks vs
    have e : (if tkD p = true then some (D.b (dLook ks vs p).isSome) else none) = some d := e
    split at e
    · rename_i hk
      cases e
      obtain ⟨a, rfl, ow⟩ := rq.dct
      cases (show w = Value.ref a from ry)
      exact dx_in hu I ow rp hk rx fun s' I' => ⟨.bl _, H, I', rfl, c _ _ (Same.refl _) (.b _)⟩
    · cases e
theorem of_nin (hu : X.A.units + 65 < cLine) : OpF X (compareOp .NotIn) ninD := by
  intro pins s σ H O x y u w p q d Q I ok rx ry rp rq e c
  cases q <;> first
    | (cases e; done)
    | skip
  · rename_i xs
    have e : (if (okD DP p && okD DP (.t xs)) = true then some (D.b (!xs.any fun x => eqD x p)) else none) = some d := e
    split at e
    · rename_i hk
      rw [Bool.and_eq_true] at hk
      cases e
      have hd := rp.dp hk.1
      have he := rq.dp hk.2
      have sd := shaped_ok hk.1 (by decide)
      have se := shaped_ok hk.2 (by decide)
      rw [toPy] at he se
      obtain ⟨as, r1⟩ := Dp.reads I _ x u hd rx
      obtain ⟨bs, r2⟩ := Dp.reads I _ y w he ry
      refine SeqAt.notIn_tuple_reads r2 r1 (SeqAt.canLay_of_shaped se) (SeqAt.canLay_of_shaped sd) (room_in_shaped sd hu) ⟨.bl _, H, I, rfl, ?_⟩
      rw [any_toPys]
      exact c _ _ (Same.refl _) (.b _)
    · cases e
  · rename_i xs
    have e : (if (okD DP p && okD DP (.l xs)) = true then some (D.b (!xs.any fun x => eqD x p)) else none) = some d := e
    split at e
    · rename_i hk
      rw [Bool.and_eq_true] at hk
      cases e
      have hd := rp.dp hk.1
      have he := rq.dp hk.2
      have sd := shaped_ok hk.1 (by decide)
      have se := shaped_ok hk.2 (by decide)
      rw [toPy] at he se
      obtain ⟨as, r1⟩ := Dp.reads I _ x u hd rx
      obtain ⟨bs, r2⟩ := Dp.reads I _ y w he ry
      refine SeqAt.notIn_list_reads r2 r1 (SeqAt.canLay_of_shaped se) (SeqAt.canLay_of_shaped sd) (room_in_shaped sd hu) ⟨.bl _, H, I, rfl, ?_⟩
      rw [any_toPys]
      exact c _ _ (Same.refl _) (.b _)
    · cases e
  · rename_i ks vs
    have e : (if tkD p = true then some (D.b (!(dLook ks vs p).isSome)) else none) = some d := e
    split at e
    · rename_i hk
      cases e
      obtain ⟨a, rfl, ow⟩ := rq.dct
      cases (show w = Value.ref a from ry)
      exact dx_notIn hu I ow rp hk rx fun s' I' => ⟨.bl _, H, I', rfl, c _ _ (Same.refl _) (.b _)⟩
    · cases e
theorem of_is : OpF X (compareOp .Is) isD := by
  intro pins s σ H O x y u w p q d Q I ok rx ry rp rq e c
  have viaN : q = .n → d = .b (isND p) → wpAny (model X.prog X.w) X.A (compareOp .Is u w) (EP X pins σ Q) X.xe s := fun hq hd => by
    subst hq hd
    obtain rfl := rq.non
    refine op_isN pins s σ H _ _ u w Q I rx ry ⟨rfl, ?_⟩
    rw [rp.isN]
    exact c _ _ (Same.refl _) (.b _)
  cases p <;> cases q <;> first
    | (cases e; done)
    | exact viaN rfl (Option.some.inj e).symm
    | skip
  cases e
  obtain rfl := rp.bl
  obtain rfl := rq.bl
  exact op_isBl pins s σ H _ _ u w Q I rx ry ⟨_, _, rfl, rfl, c _ _ (Same.refl _) (.b _)⟩
theorem of_isnt : OpF X (compareOp .IsNot) isntD := by
  intro pins s σ H O x y u w p q d Q I ok rx ry rp rq e c
  have viaN : q = .n → d = .b (!isND p) → wpAny (model X.prog X.w) X.A (compareOp .IsNot u w) (EP X pins σ Q) X.xe s := fun hq hd => by
    subst hq hd
    obtain rfl := rq.non
    refine op_notN pins s σ H _ _ u w Q I rx ry ⟨rfl, ?_⟩
    rw [rp.isN]
    exact c _ _ (Same.refl _) (.b _)
  cases p <;> cases q <;> first
    | (cases e; done)
    | exact viaN rfl (Option.some.inj e).symm
    | skip
  cases e
  obtain rfl := rp.bl
  obtain rfl := rq.bl
  exact op_notBl pins s σ H _ _ u w Q I rx ry ⟨_, _, rfl, rfl, c _ _ (Same.refl _) (.b _)⟩
end
end PL
/-! PL d: products; tuples times ints of any size from 0 on. -/
namespace PL
open PySem PySem.Spec PyProof.Rows L2
theorem tuple_mulE (l : Addr) (items : Array Value) (n : Nat) (dd : Option Addr) (sl : Array (Option Value)) (x : Int) (u : Tok) (c0 : (decide (x < -(2 ^ 63)) || decide (x ≥ 2 ^ 63)) = false) (c1 : (items.isEmpty || x == 1) = true) :
    Meets (Builtin.«tuple.__mul__» ⟨[.ref l, .int x u], []⟩) (fun _ R s => s.heap.get? l = some { cls := .type "tuple", dict := dd, data := .seq items n, slots := sl } ∧
      R (.ok (.ret (Value.ref l))) s) :=
  .of_wp fun prog w A R s h => by
    obtain ⟨hp, g, d, tk, os⟩ := s
    obtain ⟨hl, h⟩ := h
    have f1 := AutoSeq1.idx_int
    wp_walk using wpAny_loadPart' hl
    refine wpAny_ite_false (decide_eq_false (by rw [c0]; exact Bool.false_ne_true)) ?_
    wp_walk using wpAny_loadPart' hl
    exact ⟨_, rfl, h⟩
theorem tuple_mulZ (l : Addr) (items : Array Value) (n : Nat) (dd : Option Addr) (sl : Array (Option Value)) (x : Int) (u : Tok) (c0 : (decide (x < -(2 ^ 63)) || decide (x ≥ 2 ^ 63)) = false) (c1 : (items.isEmpty || x == 1) = false) (c2 : (decide (x ≤ 0) || items.isEmpty) = true) :
    Meets (Builtin.«tuple.__mul__» ⟨[.ref l, .int x u], []⟩) (fun _ R s => s.heap.get? l = some { cls := .type "tuple", dict := dd, data := .seq items n, slots := sl } ∧
      R (.ok (.ret (Value.ref s.heap.objs.size))) { s with heap := s.heap.push { cls := Value.type "tuple", data := Data.seq #[] }, toks := s.toks }) :=
  .of_wp fun prog w A R s h => by
    obtain ⟨hp, g, d, tk, os⟩ := s
    obtain ⟨hl, h⟩ := h
    have f1 := AutoSeq1.idx_int
    wp_walk using wpAny_loadPart' hl
    refine wpAny_ite_false (decide_eq_false (by rw [c0]; exact Bool.false_ne_true)) ?_
    wp_walk using wpAny_loadPart' hl
    exact ⟨_, rfl, h⟩
/-- t * k -/
def rRepA (K : PySem.W.Frag) : R2 := fun x y H Q => ∃ l k xs, x = .ref l ∧ y = .int k ∧ SqT K H l xs ∧ 0 ≤ k ∧ k ≤ 1000 ∧ xs.length ≤ 1000 ∧
  ((xs = [] ∨ k = 1) → Q (.ref l) H) ∧ (¬ (xs = [] ∨ k = 1) → ∀ p, H p = none → Q (.ref p) (upd H p (.tup (List.replicate k.toNat xs).flatten)))
section
variable {X : Cx}
theorem op_repA : OpR X (binaryOp .Mult) (rRepA X.K) := by
  intro pins s σ H x y v u Q I rx ry h
  obtain ⟨l, k, xs, rfl, rfl, hT, h1, h2, hz, q1, q2⟩ := h
  by_cases hne : xs = [] ∨ k = 1
  · cases rx
    obtain ⟨t, rfl⟩ := ry
    obtain ⟨its, r, ⟨⟨cls, dd, data, sl⟩, ho, hc, n, hd⟩, hs⟩ := I.tuple hT
    simp only at hc hd
    subst hc hd
    have hle : its.length = xs.length := r.length.symm
    have c0 : (decide (k < -(2 ^ 63)) || decide (k ≥ 2 ^ 63)) = false := by
      rw [decide_eq_false (by omega), decide_eq_false (by omega)] <;> rfl
    have c1 : (its.toArray.isEmpty || k == 1) = true := by
      rcases hne with e | e
      · subst e
        rw [List.eq_nil_of_length_eq_zero hle]
        rfl
      · subst e
        simp
    exact wpAny_binaryOp_repeat_ref (T := "tuple") (U := "int") (by decide) ⟨_, ho, rfl⟩ (fun s' => typeIs_int s' k t) noFill_tuple_mul F.fills_int_mul F.slot_int_rmul repeat_tuple F.slot_int_index.lookup
      (call_meets F.slot_int_rmul (typeIs_int s k t) F.entry_int_rmul (F.args_int_rmul_2 _ _) (int_rmul_tuple k t l its.toArray n dd sl)
        ⟨ho, rfl, ⟨_, ho, rfl⟩, call_meets F.slot_tuple_mul ⟨_, ho, rfl⟩ F.entry_tuple_mul (F.args_tuple_mul_2 _ _) (tuple_mulE l its.toArray n dd sl k t c0 c1) ⟨ho, ⟨.ref l, H, I, rfl, q1 hne⟩⟩⟩)
  · by_cases hk : k = 0
    · subst hk
      cases rx
      obtain ⟨t, rfl⟩ := ry
      obtain ⟨its, r, ⟨⟨cls, dd, data, sl⟩, ho, hc, n, hd⟩, hs⟩ := I.tuple hT
      simp only at hc hd
      subst hc hd
      have hle : its.length = xs.length := r.length.symm
      have hn : its ≠ [] := fun e => hne (.inl (by
        rw [e] at hle
        exact List.eq_nil_of_length_eq_zero hle.symm))
      have hi : its.toArray.isEmpty = false := by
        cases its with
        | nil => exact absurd rfl hn
        | cons a b => rfl
      refine wpAny_binaryOp_repeat_ref (T := "tuple") (U := "int") (by decide) ⟨_, ho, rfl⟩ (fun s' => typeIs_int s' 0 t) noFill_tuple_mul F.fills_int_mul F.slot_int_rmul repeat_tuple F.slot_int_index.lookup
        (call_meets F.slot_int_rmul (typeIs_int s 0 t) F.entry_int_rmul (F.args_int_rmul_2 _ _) (int_rmul_tuple 0 t l its.toArray n dd sl)
          ⟨ho, rfl, ⟨_, ho, rfl⟩, call_meets F.slot_tuple_mul ⟨_, ho, rfl⟩ F.entry_tuple_mul (F.args_tuple_mul_2 _ _) (tuple_mulZ l its.toArray n dd sl 0 t (by decide) (by rw [hi]; rfl) (by rfl)) ⟨ho, ?_⟩⟩)
      refine ⟨.ref s.heap.objs.size, _, I.laid (t' := s.toks) (o := .tup []) (fun b ob q => Heap.get?_push_of_some _ q) (Nat.le_refl _) ?_, rfl, q2 hne _ (I.hok.fresh (Nat.le_refl _))⟩
      exact ⟨Nat.zero_le _, [], .nil, IsTup.new _ _⟩
    · exact op_repT pins s σ H _ _ v u Q I rx ry ⟨l, k, xs, rfl, rfl, hT, fun e => hne (.inl e), by
        have : k ≠ 1 := fun e => hne (.inr e)
        omega, h2, hz, q2 hne⟩
theorem of_mul : OpF X (binaryOp .Mult) mulD := by
  intro pins s σ H O x y u w p q d Q I ok rx ry rp rq e c
  cases p <;> cases q <;> first
    | (cases e; done)
    | skip
  · rename_i i j
    have e : (if (smallI i || smallI j) = true then some (D.i (i * j)) else none) = some d := e
    split at e
    · rename_i hk
      cases e
      obtain rfl := rp.int
      obtain rfl := rq.int
      rw [Bool.or_eq_true] at hk
      exact op_mul pins s σ H _ _ u w Q I rx ry ⟨_, _, rfl, rfl, hk.imp (fun z => smallI_ok z) (fun z => smallI_ok z), c _ _ (Same.refl _) (.i _)⟩
    · cases e
  · rename_i xs k
    have e : (if 0 ≤ k ∧ absLe k 1000 = true ∧ xs.length ≤ 1000 then some (D.t (List.replicate k.toNat xs).flatten) else none) = some d := e
    split at e
    · rename_i hk
      have hk2 := absLe_ok hk.2.1
      cases e
      obtain ⟨a, vs, rfl, ha, ra⟩ := rp.tup
      obtain rfl := rq.int
      have l1 := ra.length
      refine op_repA pins s σ H _ _ u w Q I rx ry ⟨a, k, vs, rfl, rfl, ha, hk.1, by omega, by omega, fun z => ?_, fun z p np => c _ _ (same_new np) (Rep.newT ok np (ra.rep k.toNat))⟩
      have e : (List.replicate k.toNat xs).flatten = xs := by
        rcases z with z | z
        · subst z
          have : xs = [] := List.length_eq_zero_iff.mp l1.symm
          subst this
          simp
        · subst z
          simp
      rw [e] at c
      exact c _ _ (Same.refl _) rp.rep_t
    · cases e
  · rename_i xs k
    have e : (if 0 ≤ k ∧ absLe k 1000000 = true ∧ xs.length * k.toNat ≤ SZ then some (D.l (List.replicate k.toNat xs).flatten) else none) = some d := e
    split at e
    · rename_i hk
      have hk2 := absLe_ok hk.2.1
      cases e
      obtain ⟨a, vs, rfl, ha, ra⟩ := rp.lst
      obtain rfl := rq.int
      have l1 := ra.length
      exact op_rep pins s σ H _ _ u w Q I rx ry ⟨a, k, vs, rfl, rfl, ha, by omega, by omega, by rw [l1, SZ_eq]; exact hk.2.2, fun p np => c _ _ (same_new np) (Rep.newL ok np (ra.rep k.toNat))⟩
    · cases e
end
end PL
/-! PL e: tests, and, or, conditional expressions, displays, subscripts, calls. -/
namespace PL
open PySem PySem.Spec PyProof.Rows L2

/-! ### truth -/
@[simp] def truthD : D → Option Bool
  | .n => some false
  | .b x => some x
  | .i x => some (x != 0)
  | .t xs => some (!xs.isEmpty)
  | .l xs => some (!xs.isEmpty)
  | _ => none
theorem isEmpty_len {α β : Type} {xs : List α} {ys : List β} (h : xs.length = ys.length) : xs.isEmpty = ys.isEmpty := by
  cases xs <;> cases ys <;> first | rfl | (simp at h)
section
variable {K : PySem.W.Frag} {H : Hp} {O : Addr → Prop}
theorem RepB.truth {v : V} {d : D} {b : Bool} (h : RepB K H O v d) (e : truthD d = some b) : TruV K v H b := by
  cases d with
  | n => obtain rfl := h.non; cases e; rfl
  | b x => obtain rfl := h.bl; cases e; rfl
  | i x => obtain rfl := h.int; cases e; rfl
  | t xs =>
    obtain ⟨a, vs, rfl, ha, r⟩ := h.tup
    cases e
    exact .inr (.inl ⟨vs, ha, by rw [isEmpty_len r.length]⟩)
  | l xs =>
    obtain ⟨a, vs, rfl, ha, r⟩ := h.lst
    cases e
    exact .inl ⟨vs, SqL.of ha, by rw [isEmpty_len r.length]⟩
  | _ => cases e
end

@[simp] def cmpI (f : Int → Int → Bool) : D → D → Option D
  | .i x, .i y => some (.b (f x y))
  | _, _ => none
abbrev fLt (i j : Int) : Bool := decide (i < j)
abbrev fLe (i j : Int) : Bool := decide (i ≤ j)
abbrev fGt (i j : Int) : Bool := decide (j < i)
abbrev fGe (i j : Int) : Bool := decide (j ≤ i)
section
variable {X : Cx} {e a b c : Expr} {f g h : EvF} {ft gt : List Cell → Option Bool} {pos : Pos} {rest : List Expr}
theorem of_cmpI {f' : Value → Value → Sem Value} {p : Int → Int → Bool} (ho : OpR X f' (rI0 fun i j => .bl (p i j))) : OpF X f' (cmpI p) := by
  intro pins s σ H O x y u w p q d Q I ok rx ry rp rq e c
  cases p <;> cases q <;> first
    | (cases e; done)
    | skip
  cases e
  obtain rfl := rp.int
  obtain rfl := rq.int
  exact ho pins s σ H _ _ u w Q I rx ry ⟨_, _, rfl, rfl, c _ _ (Same.refl _) (.b _)⟩

/-! ### tests -/
@[simp] def asB (f : EvF) : List Cell → Option Bool := fun env => (f env).bind fun d => match d with
  | .b x => some x
  | _ => none
@[simp] def asT (f : EvF) : List Cell → Option Bool := fun env => (f env).bind truthD
theorem bind_some' {α β : Type} {x : Option α} {f : α → Option β} {b : β} (h : x.bind f = some b) : ∃ a, x = some a ∧ f a = some b := by
  cases x with
  | none => cases h
  | some a => exact ⟨a, rfl, h⟩
theorem asB_some {f : EvF} {env : List Cell} {b : Bool} (h : asB f env = some b) : f env = some (.b b) := by
  obtain ⟨d, h1, h2⟩ := bind_some' h
  cases d with
  | b x => cases h2; exact h1
  | _ => cases h2
theorem dt_truth (ha : DB X a f) (he : ∀ whole, isTrue a X.env whole = (do let v ← whole; standAt a.pos; holding [v] (truthy v))) : DT X a (asT f) := by
  intro σ H O env d Q ok R e c
  obtain ⟨p, e1, e2⟩ := bind_some' e
  refine PTw (pt_truth wE_pe he) ?_
  exact ha σ H O env p _ ok R e1 fun v H' s r => ⟨d, r.truth e2, c H' s⟩
theorem dt_cmp {op : CmpOp} {F : D → D → Option D} (ho : OpF X (compareOp op) F) (ha : DB X a f) (hb : DB X b g) (hm : behindInMarks op b = false) : DT X (.Compare a [op] [b] pos) (asB (bind2 F f g)) := by
  intro σ H O env d Q ok R e c pins s I
  have e1 := asB_some e
  refine wpAny_isTrue_Compare1 (thn (go2 (Q := fun v H' => v = .bl d ∧ Q d H') ho ha hb ok R e1 (fun v H' s' r => ?_) I) fun v s1 h1 => thn h1 fun u s2 h2 => thn h2 fun z s3 h3 => ?_) hm
  · cases r
    exact ⟨rfl, c H' s'⟩
  · obtain ⟨v', H', I', r', rfl, q⟩ := h3
    cases r'
    exact wpAny_truthy_bool ⟨H', I', q⟩
theorem dt_not (ha : DT X a ft) : DT X (.UnaryOp .Not a pos) (fun env => (ft env).map (!·)) := by
  intro σ H O env d Q ok R e c
  cases z : ft env with
  | none =>
    have e : (ft env).map (!·) = some d := e
    rw [z] at e; cases e
  | some x =>
    have e : (ft env).map (!·) = some d := e
    rw [z] at e; cases e
    exact PTw (pt_not wT_pt) (ha σ H O env x _ ok R z fun H' s => c H' s)
@[simp] def andT (f g : List Cell → Option Bool) : List Cell → Option Bool := fun env => (f env).bind fun x => if x = true then g env else some false
@[simp] def orT (f g : List Cell → Option Bool) : List Cell → Option Bool := fun env => (f env).bind fun x => if x = true then some true else g env
theorem dw_and1 (ha : DT X a ft) : DW X (.BoolOp .And [a] pos) ft := fun σ H O env d Q ok R e c => PWw (pw_and1 wT_pt) (ha σ H O env d Q ok R e c)
theorem dw_or1 (ha : DT X a ft) : DW X (.BoolOp .Or [a] pos) ft := fun σ H O env d Q ok R e c => PWw (pw_or1 wT_pt) (ha σ H O env d Q ok R e c)
theorem dw_and (ha : DT X a ft) (hb : DW X (.BoolOp .And (b :: rest) pos) gt) : DW X (.BoolOp .And (a :: b :: rest) pos) (andT ft gt) := by
  intro σ H O env d Q ok R e c
  obtain ⟨x, e1, e2⟩ := bind_some' e
  refine PWw (pw_and wT_pt wW_pw) (ha σ H O env x _ ok R e1 fun H' s => ?_)
  cases x with
  | true => exact iteT (hb σ H' O env d Q (ok.same s) (R.same s) e2 fun H2 s2 => c H2 (s.trans s2))
  | false => cases e2; exact iteF (c H' s)
theorem dw_or (ha : DT X a ft) (hb : DW X (.BoolOp .Or (b :: rest) pos) gt) : DW X (.BoolOp .Or (a :: b :: rest) pos) (orT ft gt) := by
  intro σ H O env d Q ok R e c
  obtain ⟨x, e1, e2⟩ := bind_some' e
  refine PWw (pw_or wT_pt wW_pw) (ha σ H O env x _ ok R e1 fun H' s => ?_)
  cases x with
  | false => exact iteF (hb σ H' O env d Q (ok.same s) (R.same s) e2 fun H2 s2 => c H2 (s.trans s2))
  | true => cases e2; exact iteT (c H' s)
theorem DW.dt (h : DW X a ft) : DT X a ft := fun σ H O env d Q ok R e c => PTw wW_pw.pt (h σ H O env d Q ok R e c)

/-! ### and, or, not as values -/
@[simp] def andV (f g : EvF) : EvF := fun env => (asB f env).bind fun x => if x = true then g env else some (.b false)
@[simp] def orV (f g : EvF) : EvF := fun env => (asB f env).bind fun x => if x = true then some (.b true) else g env
theorem de_one {op} (ha : DE X a f) : DE X (.BoolOp op [a] pos) f := fun σ H O env d Q ok R e c => PEw (pe_one wE_pe) (ha σ H O env d Q ok R e c)
theorem de_and (ha : DE X a f) (hb : DE X (.BoolOp .And (b :: rest) pos) g) : DE X (.BoolOp .And (a :: b :: rest) pos) (andV f g) := by
  intro σ H O env d Q ok R e c
  obtain ⟨x, e1, e2⟩ := bind_some' e
  refine PEw (pe_and wE_pe wE_pe) (ha σ H O env _ _ ok R (asB_some e1) fun v H' s r => ?_)
  cases r
  refine ⟨x, rfl, ?_⟩
  cases x with
  | true => exact iteT (hb σ H' O env d Q (ok.same s) (R.same s) e2 fun v H2 s2 r => c v H2 (s.trans s2) r)
  | false => cases e2; exact iteF (c _ H' s (.b _))
theorem de_or (ha : DE X a f) (hb : DE X (.BoolOp .Or (b :: rest) pos) g) : DE X (.BoolOp .Or (a :: b :: rest) pos) (orV f g) := by
  intro σ H O env d Q ok R e c
  obtain ⟨x, e1, e2⟩ := bind_some' e
  refine PEw (pe_or wE_pe wE_pe) (ha σ H O env _ _ ok R (asB_some e1) fun v H' s r => ?_)
  cases r
  refine ⟨x, rfl, ?_⟩
  cases x with
  | false => exact iteF (hb σ H' O env d Q (ok.same s) (R.same s) e2 fun v H2 s2 r => c v H2 (s.trans s2) r)
  | true => cases e2; exact iteT (c _ H' s (.b _))
theorem de_not (ha : DE X a f) : DE X (.UnaryOp .Not a pos) (fun env => (asB f env).map fun x => .b (!x)) := by
  intro σ H O env d Q ok R e c
  have e : (asB f env).map (fun x => D.b (!x)) = some d := e
  cases z : asB f env with
  | none => rw [z] at e; cases e
  | some x =>
    rw [z] at e; cases e
    refine PEw (pe_not wE_pe) (ha σ H O env _ _ ok R (asB_some z) fun v H' s r => ?_)
    cases r
    exact ⟨x, rfl, c _ H' s (.b _)⟩
theorem de_neg (ha : DE X a f) : DE X (.UnaryOp .USub a pos) (fun env => (f env).bind fun d => match d with
    | .i x => some (.i (-x))
    | _ => none) := by
  intro σ H O env d Q ok R e c
  obtain ⟨p, e1, e2⟩ := bind_some' e
  refine PEw (pe_un un_neg wE_pe) (ha σ H O env p _ ok R e1 fun v H' s r => ?_)
  cases r with
  | i x => cases e2; exact ⟨x, rfl, c _ H' s (.i _)⟩
  | _ => cases e2
@[simp] def iteV (t : List Cell → Option Bool) (f g : EvF) : EvF := fun env => (t env).bind fun x => if x = true then f env else g env
theorem de_ite (hc : DT X c ft) (ha : DE X a f) (hb : DE X b g) : DE X (.IfExp c a b pos) (iteV ft f g) := by
  intro σ H O env d Q ok R e k
  obtain ⟨x, e1, e2⟩ := bind_some' e
  refine PEw (pe_ifExp wT_pt wE_pe wE_pe) (hc σ H O env x _ ok R e1 fun H' s => ?_)
  cases x with
  | true => exact iteT (ha σ H' O env d Q (ok.same s) (R.same s) e2 fun v H2 s2 r => k v H2 (s.trans s2) r)
  | false => exact iteF (hb σ H' O env d Q (ok.same s) (R.same s) e2 fun v H2 s2 r => k v H2 (s.trans s2) r)

/-! ### chains of two int comparisons -/
@[simp] def chainV (p q : Int → Int → Bool) (f g h : EvF) : EvF := fun env => (f env).bind fun x => (g env).bind fun y => match x, y with
  | .i i, .i j => if p i j = true then (h env).bind fun z => (match z with
    | .i k => some (.b (q j k))
    | _ => none) else some (.b false)
  | _, _ => none
theorem chain_go {p q : Int → Int → Bool} (ha : DB X a f) (hb : DB X b g) (hc : DB X c h) {σ : L2.St} {H : Hp} {O : Addr → Prop} {env : List Cell} {d : D} {Q : VK} (ok : OkO H O) (R : RelC X.K H O σ env)
    (e : chainV p q f g h env = some d) (k : ∀ v H', Same H H' → Rep X.K H' O v d → Q v H') :
    tChain (rI0 fun i j => .bl (p i j)) (rI0 fun i j => .bl (q i j)) (wE X a) (wE X b) (wE X c) σ H Q := by
  obtain ⟨x, e1, e'⟩ := bind_some' e
  clear e
  obtain ⟨y, e2, e⟩ := bind_some' e'
  clear e'
  refine ha σ H O env x _ ok R e1 fun v H1 s1 r1 => hb σ H1 O env y _ (ok.same s1) (R.same s1) e2 fun w H2 s2 r2 => ?_
  cases x <;> cases y <;> first
    | (cases e; done)
    | skip
  rename_i i j
  obtain rfl := r1.int
  obtain rfl := r2.int
  refine ⟨i, j, rfl, rfl, p i j, rfl, ?_⟩
  have e : (if p i j = true then (h env).bind (fun z => match z with | .i k => some (D.b (q j k)) | _ => none) else some (D.b false)) = some d := e
  cases z : p i j with
  | false =>
    rw [z] at e
    cases e
    exact iteF (k _ _ (s1.trans s2) (.b _))
  | true =>
    rw [z] at e
    obtain ⟨zz, e3, e4⟩ := bind_some' e
    refine iteT (hc σ H2 O env zz _ ((ok.same s1).same s2) ((R.same s1).same s2) e3 fun u H3 s3 r3 => ?_)
    cases zz <;> first
      | (cases e4; done)
      | skip
    rename_i m
    cases e4
    obtain rfl := r3.int
    exact ⟨j, m, rfl, rfl, k _ _ ((s1.trans s2).trans s3) (.b _)⟩
theorem de_chain {op op' : CmpOp} {p q : Int → Int → Bool} (ho : OpR X (compareOp op) (rI0 fun i j => .bl (p i j))) (ho' : OpR X (compareOp op') (rI0 fun i j => .bl (q i j))) (ha : DB X a f) (hb : DB X b g) (hc : DB X c h)
    (hm : lastMarks [op, op'] [b, c] = false) : DE X (.Compare a [op, op'] [b, c] pos) (chainV p q f g h) :=
  fun σ H O env d Q ok R e k => PEw (pe_chain ho ho' wE_pe wE_pe wE_pe hm) (chain_go ha hb hc ok R e k)
theorem dt_chain {op op' : CmpOp} {p q : Int → Int → Bool} (ho : OpR X (compareOp op) (rI0 fun i j => .bl (p i j))) (ho' : OpR X (compareOp op') (rI0 fun i j => .bl (q i j))) (ha : DB X a f) (hb : DB X b g) (hc : DB X c h)
    (hm : lastMarks [op, op'] [b, c] = false) : DT X (.Compare a [op, op'] [b, c] pos) (asB (chainV p q f g h)) := by
  intro σ H O env d Q ok R e k
  refine PTw (pt_chain ho ho' wE_pe wE_pe wE_pe hm) (chain_go ha hb hc ok R (asB_some e) fun v H' s r => ?_)
  cases r
  exact ⟨d, rfl, k H' s⟩

/-! ### argument lists, displays -/
@[simp] def consL (f : EvF) (g : List Cell → Option (List D)) : List Cell → Option (List D) := fun env => (f env).bind fun x => (g env).bind fun xs => some (x :: xs)
theorem dl_nil : DL X [] (fun _ => some []) := fun σ H O env ds Q ok R e c => PAw pa_nil (by cases e; exact c _ _ (Same.refl _) .nil)
theorem dl_cons {es : List Expr} {g : List Cell → Option (List D)} (ha : DE X e f) (hr : DL X es g) (hs : starEach (e :: es) X.env = (false, eval e X.env) :: starEach es X.env) : DL X (e :: es) (consL f g) := by
  intro σ H O env ds Q ok R z c
  obtain ⟨x, e1, z⟩ := bind_some' z
  obtain ⟨xs, e2, z⟩ := bind_some' z
  cases z
  refine PAw (pa_cons wE_pe wA_pa hs) (ha σ H O env x _ ok R e1 fun v H1 s1 r1 => hr σ H1 O env xs _ (ok.same s1) (R.same s1) e2 fun vs H2 s2 r2 => c _ _ (s1.trans s2) (.cons (r1.same s2) r2))
inductive RepBs (K : PySem.W.Frag) (H : Hp) (O : Addr → Prop) : List V → List D → Prop
  | nil : RepBs K H O [] []
  | cons {v : V} {vs : List V} {d : D} {ds : List D} : RepB K H O v d → RepBs K H O vs ds → RepBs K H O (v :: vs) (d :: ds)
/-- the same, the arguments borrowed -/
def DM (X : Cx) (es : List Expr) (f : List Cell → Option (List D)) : Prop := ∀ (σ : L2.St) (H : Hp) (O : Addr → Prop) (env : List Cell) (ds : List D) (Q : List V → Hp → Prop), OkO H O → RelC X.K H O σ env → f env = some ds →
  (∀ vs H', Same H H' → RepBs X.K H' O vs ds → Q vs H') → wA X es σ H Q
theorem dm_nil : DM X [] (fun _ => some []) := fun σ H O env ds Q ok R e c => PAw pa_nil (by cases e; exact c _ _ (Same.refl _) .nil)
theorem dm_cons {es : List Expr} {g : List Cell → Option (List D)} (ha : DB X e f) (hr : DM X es g) (hs : starEach (e :: es) X.env = (false, eval e X.env) :: starEach es X.env) : DM X (e :: es) (consL f g) := by
  intro σ H O env ds Q ok R z c
  obtain ⟨x, e1, z⟩ := bind_some' z
  obtain ⟨xs, e2, z⟩ := bind_some' z
  cases z
  refine PAw (pa_cons wE_pe wA_pa hs) (ha σ H O env x _ ok R e1 fun v H1 s1 r1 => hr σ H1 O env xs _ (ok.same s1) (R.same s1) e2 fun vs H2 s2 r2 => c _ _ (s1.trans s2) (.cons (r1.same s2) r2))
theorem de_tup {es : List Expr} {k : Nat} {g : List Cell → Option (List D)} (h : DL X es g) : DE X (.Tuple es k pos) (fun env => (g env).bind fun xs => if xs.length ≤ SZ then some (.t xs) else none) := by
  intro σ H O env d Q ok R e c
  obtain ⟨xs, e1, e2⟩ := bind_some' e
  split at e2
  · rename_i hz
    cases e2
    refine PEw (pe_tup wA_pa) (h σ H O env xs _ ok R e1 fun vs H1 s1 r1 => ⟨by rw [r1.length, SZ_eq]; exact hz, fun p np => c _ _ (s1.trans (same_new np)) (Rep.newT (ok.same s1) np r1)⟩)
  · cases e2
/-- a fresh list: what DE says, and that the list is new -/
def DFl (X : Cx) (e : Expr) (f : EvF) : Prop := ∀ (σ : L2.St) (H : Hp) (O : Addr → Prop) (env : List Cell) (d : D) (Q : VK), OkO H O → RelC X.K H O σ env → f env = some d →
  (∀ a xs ds H', Same H H' → H a = none → d = .l ds → H' a = some (.lst xs) → RepL X.K H' (fun b => O b ∨ b = a) xs ds → Q (.ref a) H') → wE X e σ H Q
/-- a fresh list or dict -/
def DF (X : Cx) (e : Expr) (f : EvF) : Prop := ∀ (σ : L2.St) (H : Hp) (O : Addr → Prop) (env : List Cell) (d : D) (Q : VK), OkO H O → RelC X.K H O σ env → f env = some d →
  (∀ a H', Same H H' → H a = none → OwnAt X.K H' (fun b => O b ∨ b = a) a d → Q (.ref a) H') → wE X e σ H Q
theorem DFl.df (h : DFl X e f) : DF X e f := fun σ H O env d Q ok R z c => h σ H O env d Q ok R z fun a xs ds H' s na ed ha r => by
  subst ed
  exact c a H' s na ⟨xs, ha, r⟩
theorem DF.de (h : DF X e f) : DE X e f := fun σ H O env d Q ok R z c => h σ H O env d Q ok R z fun a H' s na r =>
  c _ _ s ((r.less fun b q => .inl q).rep fun q => ok a q na)
theorem newF {K : PySem.W.Frag} {H1 : Hp} {O : Addr → Prop} {p : Addr} {xs : List V} {ds : List D} (np : H1 p = none) (r : RepL K H1 O xs ds) : RepL K (upd H1 p (.lst xs)) (fun b => O b ∨ b = p) xs ds :=
  (r.mono (O' := fun b => O b ∨ b = p) fun a z => z.elim .inl fun e => .inr (by rw [e]; exact np)).same (same_new np)
end
end PL
/-! PL f: lists made, subscripts, slices, calls of built-ins, of the program's defs. -/
namespace PL
open PySem PySem.Spec PyProof.Rows L2

/-! ### what built-ins give -/
@[simp] def intsD : List D → Option (List Int)
  | [] => some []
  | .i x :: r => (intsD r).map (x :: ·)
  | _ :: _ => none
@[simp] def blsD : List D → Option (List Bool)
  | [] => some []
  | .b x :: r => (blsD r).map (x :: ·)
  | _ :: _ => none
theorem intsD_some : ∀ {ds : List D} {ns : List Int}, intsD ds = some ns → ds = ns.map D.i
  | [], ns, h => by cases h; rfl
  | .i x :: r, ns, h => by
    have h : (intsD r).map (x :: ·) = some ns := h
    cases z : intsD r with
    | none => rw [z] at h; cases h
    | some ms => rw [z] at h; cases h; rw [List.map_cons, intsD_some z]
  | .n :: _, _, h => by cases h
  | .b _ :: _, _, h => by cases h
  | .s _ :: _, _, h => by cases h
  | .t _ :: _, _, h => by cases h
  | .l _ :: _, _, h => by cases h
  | .r _ _ :: _, _, h => by cases h
  | .z _ :: _, _, h => by cases h
theorem blsD_some : ∀ {ds : List D} {ns : List Bool}, blsD ds = some ns → ds = ns.map D.b
  | [], ns, h => by cases h; rfl
  | .b x :: r, ns, h => by
    have h : (blsD r).map (x :: ·) = some ns := h
    cases z : blsD r with
    | none => rw [z] at h; cases h
    | some ms => rw [z] at h; cases h; rw [List.map_cons, blsD_some z]
  | .n :: _, _, h => by cases h
  | .i _ :: _, _, h => by cases h
  | .s _ :: _, _, h => by cases h
  | .t _ :: _, _, h => by cases h
  | .l _ :: _, _, h => by cases h
  | .r _ _ :: _, _, h => by cases h
  | .z _ :: _, _, h => by cases h
@[simp] def ixD : D → D → Option D
  | .l xs, .i k => atI xs k
  | .t xs, .i k => atI xs k
  | .z xs, .i k => atI xs k
  | .d ks vs, k => if tkD k = true then dLook ks vs k else none
  | _, _ => none
@[simp] def lenD : List D → Option D
  | [.l xs] => some (.i xs.length)
  | [.t xs] => some (.i xs.length)
  | [.z xs] => some (.i xs.length)
  | _ => none
@[simp] def intD : List D → Option D
  | [.i x] => some (.i x)
  | [.b x] => some (.i (if x then 1 else 0))
  | _ => none
@[simp] def absD : List D → Option D
  | [.i x] => some (.i (if x < 0 then -x else x))
  | _ => none
/-- the least, the greatest of ints -/
def minL : Int → List Int → Int
  | m, [] => m
  | m, x :: r => minL (if x < m then x else m) r
def maxL : Int → List Int → Int
  | m, [] => m
  | m, x :: r => maxL (if m < x then x else m) r
@[simp] def maxD : List D → Option D
  | [.i x, .i y] => some (.i (if y > x then y else x))
  | [.l xs] => (intsD xs).bind fun ns => match ns with
    | [] => none
    | m :: r => some (.i (maxL m r))
  | _ => none
@[simp] def minD : List D → Option D
  | [.i x, .i y] => some (.i (if y < x then y else x))
  | [.l xs] => (intsD xs).bind fun ns => match ns with
    | [] => none
    | m :: r => some (.i (minL m r))
  | _ => none
@[simp] def sumD : List D → Option D
  | [.l xs] => (intsD xs).map fun ns => .i ns.sum
  | _ => none
@[simp] def anyD : List D → Option D
  | [.l xs] => (blsD xs).map fun bs => .b (bs.any id)
  | _ => none
@[simp] def allD : List D → Option D
  | [.l xs] => (blsD xs).map fun bs => .b (bs.all id)
  | _ => none
@[simp] def tupleD : List D → Option D
  | [.l xs] => some (.t xs)
  | [.t xs] => some (.t xs)
  | _ => none
@[simp] def listD : List D → Option D
  | [.l xs] => some (.l xs)
  | [.t xs] => some (.l xs)
  | _ => none
theorem minL_le : ∀ (r : List Int) (m : Int), minL m r ≤ m ∧ (∀ y ∈ r, minL m r ≤ y) ∧ (minL m r = m ∨ minL m r ∈ r)
  | [], m => ⟨Int.le_refl _, fun _ h => (nomatch h), .inl rfl⟩
  | x :: r, m => by
    obtain ⟨h1, h2, h3⟩ := minL_le r (if x < m then x else m)
    unfold minL
    by_cases h : x < m
    · rw [if_pos h] at h1 h2 h3 ⊢
      refine ⟨by omega, fun y hy => ?_, ?_⟩
      · rcases List.mem_cons.mp hy with e | e
        · omega
        · exact h2 y e
      · rcases h3 with e | e
        · exact .inr (by rw [e]; exact List.mem_cons_self)
        · exact .inr (List.mem_cons_of_mem _ e)
    · rw [if_neg h] at h1 h2 h3 ⊢
      refine ⟨h1, fun y hy => ?_, ?_⟩
      · rcases List.mem_cons.mp hy with e | e
        · omega
        · exact h2 y e
      · rcases h3 with e | e
        · exact .inl e
        · exact .inr (List.mem_cons_of_mem _ e)
theorem maxL_ge : ∀ (r : List Int) (m : Int), m ≤ maxL m r ∧ (∀ y ∈ r, y ≤ maxL m r) ∧ (maxL m r = m ∨ maxL m r ∈ r)
  | [], m => ⟨Int.le_refl _, fun _ h => (nomatch h), .inl rfl⟩
  | x :: r, m => by
    obtain ⟨h1, h2, h3⟩ := maxL_ge r (if m < x then x else m)
    unfold maxL
    by_cases h : m < x
    · rw [if_pos h] at h1 h2 h3 ⊢
      refine ⟨by omega, fun y hy => ?_, ?_⟩
      · rcases List.mem_cons.mp hy with e | e
        · omega
        · exact h2 y e
      · rcases h3 with e | e
        · exact .inr (by rw [e]; exact List.mem_cons_self)
        · exact .inr (List.mem_cons_of_mem _ e)
    · rw [if_neg h] at h1 h2 h3 ⊢
      refine ⟨h1, fun y hy => ?_, ?_⟩
      · rcases List.mem_cons.mp hy with e | e
        · omega
        · exact h2 y e
      · rcases h3 with e | e
        · exact .inl e
        · exact .inr (List.mem_cons_of_mem _ e)

section
variable {X : Cx} {e a b c : Expr} {f g h : EvF} {pos : Pos} {es : List Expr} {fs : List Cell → Option (List D)}

/-! ### [..] -/
theorem df_lst (h : DL X es fs) : DF X (.List es pos) (fun env => (fs env).bind fun xs => if xs.length ≤ SZ then some (.l xs) else none) := DFl.df <| by
  intro σ H O env d Q ok R e c
  obtain ⟨xs, e1, e2⟩ := bind_some' e
  split at e2
  · rename_i hz
    cases e2
    refine PEw (pe_lst wA_pa) (h σ H O env xs _ ok R e1 fun vs H1 s1 r1 => ⟨by rw [r1.length, SZ_eq]; exact hz, fun p np => c p vs xs _ (s1.trans (same_new np)) (s1.free np) rfl upd_same (newF np r1)⟩)
  · cases e2

/-! ### a[i] -/
theorem atI_rep {K : PySem.W.Frag} {H : Hp} {O : Addr → Prop} {vs : List V} {ds : List D} {k : Int} {d : D} (r : RepL K H O vs ds) (e : atI ds k = some d) : ∃ v, atI vs k = some v ∧ Rep K H O v d := by
  unfold atI at e ⊢
  rw [r.length]
  cases z : ixN ds.length k with
  | none => rw [z] at e; cases e
  | some j =>
    rw [z] at e
    exact r.get e
/-- a[k], a list, a tuple, a text or a dict with tuple keys -/
def rIxX (X : Cx) : R2 := fun x y H Q => ∃ (O : Addr → Prop) (a : Addr) (ks vs : List D) (k d : D), x = .ref a ∧ OwnAt X.K H O a (.d ks vs) ∧ RepB X.K H O y k ∧ tkD k = true ∧ dLook ks vs k = some d ∧ ∀ v, Rep X.K H O v d → Q v H
theorem ix_dx (hu : X.A.units + 65 < cLine) : IxR X (rIxX X) := by
  intro value slice pins s σ H x y v u Q I rx ry h hs
  obtain ⟨O, a, ks, vs, k, d, rfl, ow, rk, tk, e, q⟩ := h
  cases (show v = Value.ref a from rx)
  have hT : s.TypeIs (.ref a) "dict" := by
    obtain ⟨_, xs, _, g1, _⟩ := dx_at I ow
    exact g1.typeIs
  exact tail_any hT PySem.slot_dict_getitem.lookup (dx_get hu I ow rk tk ry e fun v' w' s' I' r' p' => ⟨v', H, I', r', q v' p'⟩) hs
theorem de_ix (hu : X.A.units + 65 < cLine) (ha : DB X a f) (hb : DB X b g) (hs : PlainIx b) : DE X (.Subscript a b pos) (bind2 ixD f g) := by
  intro σ H O env d Q ok R e c
  obtain ⟨p, q, e1, e2, e3⟩ := bind2_some e
  refine PEw (pe_ix (ix_seq.or (ix_dx hu)) wE_pe wE_pe hs) (ha σ H O env p _ ok R e1 fun v H1 s1 r1 => hb σ H1 O env q _ (ok.same s1) (R.same s1) e2 fun w H2 s2 r2 => ?_)
  by_cases hp : ∃ ks vs, p = .d ks vs
  · obtain ⟨ks, vs, rfl⟩ := hp
    have e3 : (if tkD q = true then dLook ks vs q else none) = some d := e3
    split at e3
    · rename_i tk
      obtain ⟨l, rfl, ow⟩ := (r1.same s2).dct
      exact .inr ⟨O, l, ks, vs, q, d, rfl, ow, r2, tk, e3, fun v r => c v _ (s1.trans s2) r⟩
    · cases e3
  · refine .inl ?_
    cases p <;> cases q <;> first
      | (cases e3; done)
      | (exact absurd ⟨_, _, rfl⟩ hp)
      | skip
    · obtain rfl := r2.int
      obtain ⟨l, xs, rfl, h1, h2⟩ := (r1.same s2).tup
      obtain ⟨v, h3, h4⟩ := atI_rep h2 e3
      exact .inr (.inl ⟨l, xs, _, v, rfl, rfl, h1, h3, c v _ (s1.trans s2) h4⟩)
    · obtain rfl := r2.int
      obtain ⟨l, xs, rfl, h1, h2⟩ := (r1.same s2).lst
      obtain ⟨v, h3, h4⟩ := atI_rep h2 e3
      exact .inl ⟨l, xs, _, v, rfl, rfl, SqL.of h1, h3, c v _ (s1.trans s2) h4⟩
    · obtain rfl := r2.int
      obtain ⟨l, xs, rfl, h1, h2⟩ := (r1.same s2).frz
      obtain ⟨v, h3, h4⟩ := atI_rep h2 e3
      exact .inl ⟨l, xs, _, v, rfl, rfl, h1, h3, c v _ (s1.trans s2) h4⟩

/-! ### a[lo:hi] -/
def cutD (xs : List D) (lo hi : Option Int) : List D := (xs.drop (HT.sIx xs.length 0 lo)).take (HT.sIx xs.length xs.length hi - HT.sIx xs.length 0 lo)
/-- a slice's part -/
def DP' (X : Cx) (e : Option Expr) (f : List Cell → Option (Option Int)) : Prop := ∀ (σ : L2.St) (H : Hp) (O : Addr → Prop) (env : List Cell) (d : Option Int) (Q : Option Int → Hp → Prop), OkO H O → RelC X.K H O σ env → f env = some d →
  (∀ H', Same H H' → Q d H') → ∀ pins s, Inv X pins σ H s → wpAny (model X.prog X.w) X.A (evalPart e X.env) (fun u s' => ∃ o H', Inv X pins σ H' s' ∧ IsPart u o ∧ Q o H') X.xe s
def wO (X : Cx) (e : Option Expr) : TO := fun σ H Q => ∀ pins s, Inv X pins σ H s → wpAny (model X.prog X.w) X.A (evalPart e X.env) (fun u s' => ∃ o H', Inv X pins σ H' s' ∧ IsPart u o ∧ Q o H') X.xe s
theorem wO_po {e : Option Expr} : PO X e (wO X e) := ⟨fun pins s σ H Q I h => h pins s I⟩
theorem dp_none : DP' X none (fun _ => some none) := fun σ H O env d Q ok R e c pins s I => po_none.run pins s σ H Q I (by cases e; exact c _ (Same.refl _))
@[simp] def partV (f : EvF) : List Cell → Option (Option Int) := fun env => (f env).bind fun d => match d with
  | .i x => some (some x)
  | _ => none
theorem dp_some (ha : DE X a f) : DP' X (some a) (partV f) := by
  intro σ H O env d Q ok R e c pins s I
  obtain ⟨p, e1, e2⟩ := bind_some' e
  cases p <;> first
    | (cases e2; done)
    | skip
  rename_i k
  cases e2
  refine (po_some wE_pe).run pins s σ H Q I (ha σ H O env _ _ ok R e1 fun v H1 s1 r1 => ?_)
  cases r1
  exact ⟨k, rfl, c _ s1⟩
@[simp] def sliceV (f : EvF) (l u : List Cell → Option (Option Int)) : EvF := fun env => (f env).bind fun x => (l env).bind fun lo => (u env).bind fun hi => match x with
  | .l xs => some (.l (cutD xs lo hi))
  | .t xs => some (.t (cutD xs lo hi))
  | _ => none
theorem cut_whole {xs : List D} {lo hi : Option Int} (h : HT.sIx xs.length 0 lo = 0 ∧ HT.sIx xs.length xs.length hi = xs.length) : cutD xs lo hi = xs := by
  unfold cutD
  rw [h.1, h.2]
  simp
theorem de_slice {lo hi : Option Expr} {l u : List Cell → Option (Option Int)} {p2 : Pos} (ha : DB X a f) (hl : DP' X lo l) (hu : DP' X hi u) : DE X (.Subscript a (.Slice lo hi none p2) pos) (sliceV f l u) := by
  intro σ H O env d Q ok R e c
  obtain ⟨x, e1, e'⟩ := bind_some' e
  clear e
  obtain ⟨lo', e2, e⟩ := bind_some' e'
  clear e'
  obtain ⟨hi', e3, e'⟩ := bind_some' e
  clear e
  refine PEw (pe_slice (sl_list.or sl_tupA) wE_pe wO_po wO_po) (ha σ H O env x _ ok R e1 fun v H1 s1 r1 => ?_)
  refine hl σ H1 O env lo' _ (ok.same s1) (R.same s1) e2 fun H2 s2 => hu σ H2 O env hi' _ ((ok.same s1).same s2) ((R.same s1).same s2) e3 fun H3 s3 => ?_
  have r := (r1.same s2).same s3
  have ss := (s1.trans s2).trans s3
  have ok3 := ok.same ss
  cases x <;> first
    | (cases e'; done)
    | skip
  · cases e'
    obtain ⟨q, vs, rfl, h1, h2⟩ := r.tup
    refine .inr ⟨q, vs, rfl, h1, fun hw => ?_, fun _ p np => ?_⟩
    · rw [h2.length] at hw
      rw [cut_whole hw] at c
      exact c _ _ ss r.rep_t
    · refine c _ _ (ss.trans (same_new np)) (Rep.newT ok3 np ?_)
      unfold cutV cutD
      rw [h2.length]
      exact (h2.drop _).take _
  · cases e'
    obtain ⟨q, vs, rfl, h1, h2⟩ := r.lst
    refine .inl ⟨q, vs, rfl, SqL.of h1, fun p np => ?_⟩
    refine c _ _ (ss.trans (same_new np)) (Rep.newL ok3 np ?_)
    unfold cutV cutD
    rw [h2.length]
    exact (h2.drop _).take _

/-! ### calls of built-ins -/
/-- a call of a built-in, on data -/
def CallF (X : Cx) (fv : Value) (F : List D → Option D) : Prop := ∀ (pins : List (Addr × Obj)) (s : Shared) (σ : L2.St) (H : Hp) (O : Addr → Prop) (xs : List V) (us : List Value) (ds : List D) (d : D) (Q : VK), Inv X pins σ H s → OkO H O → Vals xs us → RepBs X.K H O xs ds →
  F ds = some d → (∀ v H', Same H H' → Rep X.K H' O v d → Q v H') → wpAny (model X.prog X.w) X.A (call fv us) (EP X pins σ Q) X.xe s
def rCan (X : Cx) (fv : Value) : List V → Hp → VK → Prop := fun xs H Q => ∀ (pins : List (Addr × Obj)) (s : Shared) (σ : L2.St) (us : List Value), Inv X pins σ H s → Vals xs us → wpAny (model X.prog X.w) X.A (call fv us) (EP X pins σ Q) X.xe s
theorem can_ok {fv : Value} : CallR X fv (rCan X fv) := fun pins s σ H xs us Q I r h => h pins s σ us I r
@[simp] def callV (F : List D → Option D) (fs : List Cell → Option (List D)) : EvF := fun env => (fs env).bind F
theorem de_callB {x : Str} {p : Pos} {id : String} {F : List D → Option D} (hc : CallF X (.builtin id) F) (hg : Gl X x) (hm : X.mg x = none) (hv : bootBuiltins x = some (.builtin id)) (ha : DM X (e :: es) fs) (hn : x ≠ "__name__") (hdb : (x == ("__debug__" : Str)) = false)
    (he : starEach (e :: es) X.env = (false, eval e X.env) :: starEach es X.env) (hpl : (backTo pos (starEach es X.env)).any (·.1) = false) : DE X (.Call (.Name x p) (e :: es) [] pos) (callV F fs) := by
  intro σ H O env d Q ok R z c
  obtain ⟨ds, e1, e2⟩ := bind_some' z
  exact PEw (pe_callB can_ok hg hm hv wA_pa hn hdb he hpl) (ha σ H O env ds _ ok R e1 fun vs H1 s1 r1 => fun pins s σ us I r => hc pins s σ H1 O vs us ds d Q I (ok.same s1) r r1 e2 fun v H' k q => c v H' (s1.trans k) q)
theorem de_callTy {x : Str} {p : Pos} {T : String} {F : List D → Option D} (hc : CallF X (.type T) F) (hg : Gl X x) (hm : X.mg x = none) (hv : bootBuiltins x = some (.type T)) (ha : DM X (e :: es) fs) (hn : x ≠ "__name__") (hdb : (x == ("__debug__" : Str)) = false)
    (he : starEach (e :: es) X.env = (false, eval e X.env) :: starEach es X.env) (hpl : (backTo pos (starEach es X.env)).any (·.1) = false) : DE X (.Call (.Name x p) (e :: es) [] pos) (callV F fs) := by
  intro σ H O env d Q ok R z c
  obtain ⟨ds, e1, e2⟩ := bind_some' z
  exact PEw (pe_callTy can_ok hg hm hv wA_pa hn hdb he hpl) (ha σ H O env ds _ ok R e1 fun vs H1 s1 r1 => fun pins s σ us I r => hc pins s σ H1 O vs us ds d Q I (ok.same s1) r r1 e2 fun v H' k q => c v H' (s1.trans k) q)
/-- from a rule of the layer -/
theorem CallF.of {fv : Value} {r : List V → Hp → VK → Prop} {F : List D → Option D} (hc : CallR X fv r) (hd : ∀ (H : Hp) (O : Addr → Prop) (xs : List V) (ds : List D) (d : D) (Q : VK), OkO H O → RepBs X.K H O xs ds → F ds = some d → (∀ v H', Same H H' → Rep X.K H' O v d → Q v H') → r xs H Q) : CallF X fv F :=
  fun pins s σ H O xs us ds d Q I ok rv rb e c => hc pins s σ H xs us Q I rv (hd H O xs ds d Q ok rb e c)
theorem repB1 {K : PySem.W.Frag} {H : Hp} {O : Addr → Prop} {xs : List V} {d : D} (h : RepBs K H O xs [d]) : ∃ v, xs = [v] ∧ RepB K H O v d := by
  cases h with
  | cons a r => cases r; exact ⟨_, rfl, a⟩
theorem repB2 {K : PySem.W.Frag} {H : Hp} {O : Addr → Prop} {xs : List V} {d d' : D} (h : RepBs K H O xs [d, d']) : ∃ v w, xs = [v, w] ∧ RepB K H O v d ∧ RepB K H O w d' := by
  cases h with
  | cons a r =>
    obtain ⟨w, e, q⟩ := repB1 r
    subst e
    exact ⟨_, w, rfl, a, q⟩
theorem cf_len : CallF X (.builtin "len") lenD := .of call_len_seq fun H O xs ds d Q ok rb e c => by
  unfold lenD at e
  split at e <;> first
    | (cases e; done)
    | skip
  all_goals
    obtain ⟨v, rfl, r⟩ := repB1 rb
    cases e
  · obtain ⟨a, vs, rfl, h1, h2⟩ := r.lst
    exact ⟨a, vs, rfl, .inl (SqL.of h1), by rw [h2.length]; exact c _ _ (Same.refl _) (.i _)⟩
  · obtain ⟨a, vs, rfl, h1, h2⟩ := r.tup
    exact ⟨a, vs, rfl, .inr h1, by rw [h2.length]; exact c _ _ (Same.refl _) (.i _)⟩
  · obtain ⟨a, vs, rfl, h1, h2⟩ := r.frz
    exact ⟨a, vs, rfl, .inl h1, by rw [h2.length]; exact c _ _ (Same.refl _) (.i _)⟩
theorem cf_int : CallF X (.type "int") intD := .of call_int1 fun H O xs ds d Q ok rb e c => by
  unfold intD at e
  split at e <;> first
    | (cases e; done)
    | skip
  all_goals
    obtain ⟨v, rfl, r⟩ := repB1 rb
    cases e
  · obtain rfl := r.int
    exact .inl ⟨_, rfl, c _ _ (Same.refl _) (.i _)⟩
  · obtain rfl := r.bl
    exact .inr ⟨_, rfl, c _ _ (Same.refl _) (.i _)⟩
theorem cf_abs : CallF X (.builtin "abs") absD := .of call_abs fun H O xs ds d Q ok rb e c => by
  unfold absD at e
  split at e <;> first
    | (cases e; done)
    | skip
  obtain ⟨v, rfl, r⟩ := repB1 rb
  cases e
  obtain rfl := r.int
  exact ⟨_, rfl, c _ _ (Same.refl _) (.i _)⟩
theorem lst_ints {K : PySem.W.Frag} {H : Hp} {O : Addr → Prop} {v : V} {xs : List D} {ns : List Int} (r : RepB K H O v (.l xs)) (e : intsD xs = some ns) : ∃ a, v = .ref a ∧ SqL K H a (ns.map V.int) := by
  obtain ⟨a, vs, rfl, h1, h2⟩ := r.lst
  have e2 := intsD_some e
  subst e2
  rw [h2.ints] at h1
  exact ⟨a, rfl, SqL.of h1⟩
theorem lst_bls {K : PySem.W.Frag} {H : Hp} {O : Addr → Prop} {v : V} {xs : List D} {ns : List Bool} (r : RepB K H O v (.l xs)) (e : blsD xs = some ns) : ∃ a, v = .ref a ∧ SqL K H a (ns.map V.bl) := by
  obtain ⟨a, vs, rfl, h1, h2⟩ := r.lst
  have e2 := blsD_some e
  subst e2
  rw [h2.bls] at h1
  exact ⟨a, rfl, SqL.of h1⟩
theorem cf_max (hc : X.calm = true) : CallF X (.builtin "max") maxD := .of ((call_max2 hc).or (cr_max hc)) fun H O xs ds d Q ok rb e c => by
  unfold maxD at e
  split at e <;> first
    | (cases e; done)
    | skip
  · obtain ⟨v, w, rfl, r1, r2⟩ := repB2 rb
    cases e
    obtain rfl := r1.int
    obtain rfl := r2.int
    exact .inl ⟨_, _, rfl, c _ _ (Same.refl _) (.i _)⟩
  · obtain ⟨v, rfl, r⟩ := repB1 rb
    obtain ⟨ns, e1, e2⟩ := bind_some' e
    obtain ⟨a, rfl, h⟩ := lst_ints r e1
    cases ns with
    | nil => cases e2
    | cons m t =>
      cases e2
      obtain ⟨g1, g2, g3⟩ := maxL_ge t m
      refine .inr ⟨a, m :: t, rfl, h, by simp, fun z hz hmax => ?_⟩
      have e : z = maxL m t := by
        have b1 : z ≤ maxL m t := by
          rcases List.mem_cons.mp hz with q | q
          · omega
          · exact g2 z q
        have b2 : maxL m t ≤ z := hmax _ (by
          rcases g3 with q | q
          · rw [q]; exact List.mem_cons_self
          · exact List.mem_cons_of_mem _ q)
        omega
      rw [e]
      exact c _ _ (Same.refl _) (.i _)
theorem cf_min (hc : X.calm = true) : CallF X (.builtin "min") minD := .of ((call_min2 hc).or (cr_min hc)) fun H O xs ds d Q ok rb e c => by
  unfold minD at e
  split at e <;> first
    | (cases e; done)
    | skip
  · obtain ⟨v, w, rfl, r1, r2⟩ := repB2 rb
    cases e
    obtain rfl := r1.int
    obtain rfl := r2.int
    exact .inl ⟨_, _, rfl, c _ _ (Same.refl _) (.i _)⟩
  · obtain ⟨v, rfl, r⟩ := repB1 rb
    obtain ⟨ns, e1, e2⟩ := bind_some' e
    obtain ⟨a, rfl, h⟩ := lst_ints r e1
    cases ns with
    | nil => cases e2
    | cons m t =>
      cases e2
      obtain ⟨g1, g2, g3⟩ := minL_le t m
      refine .inr ⟨a, m :: t, rfl, h, by simp, fun z hz hmin => ?_⟩
      have e : z = minL m t := by
        have b1 : minL m t ≤ z := by
          rcases List.mem_cons.mp hz with q | q
          · omega
          · exact g2 z q
        have b2 : z ≤ minL m t := hmin _ (by
          rcases g3 with q | q
          · rw [q]; exact List.mem_cons_self
          · exact List.mem_cons_of_mem _ q)
        omega
      rw [e]
      exact c _ _ (Same.refl _) (.i _)
theorem map_some' {α β : Type} {x : Option α} {f : α → β} {b : β} (h : x.map f = some b) : ∃ a, x = some a ∧ f a = b := by
  cases x with
  | none => cases h
  | some a => cases h; exact ⟨a, rfl, rfl⟩
theorem cf_sum (hc : X.calm = true) : CallF X (.builtin "sum") sumD := .of (cr_sum hc) fun H O xs ds d Q ok rb e c => by
  unfold sumD at e
  split at e <;> first
    | (cases e; done)
    | skip
  obtain ⟨v, rfl, r⟩ := repB1 rb
  obtain ⟨ns, e1, e2⟩ := map_some' e
  obtain ⟨a, rfl, h⟩ := lst_ints r e1
  subst e2
  exact ⟨a, ns, rfl, h, c _ _ (Same.refl _) (.i _)⟩
theorem cf_any (hc : X.calm = true) : CallF X (.builtin "any") anyD := .of (cr_any hc) fun H O xs ds d Q ok rb e c => by
  unfold anyD at e
  split at e <;> first
    | (cases e; done)
    | skip
  obtain ⟨v, rfl, r⟩ := repB1 rb
  obtain ⟨ns, e1, e2⟩ := map_some' e
  obtain ⟨a, rfl, h⟩ := lst_bls r e1
  subst e2
  exact ⟨a, ns, rfl, h, c _ _ (Same.refl _) (.b _)⟩
theorem cf_all (hc : X.calm = true) : CallF X (.builtin "all") allD := .of (cr_all hc) fun H O xs ds d Q ok rb e c => by
  unfold allD at e
  split at e <;> first
    | (cases e; done)
    | skip
  obtain ⟨v, rfl, r⟩ := repB1 rb
  obtain ⟨ns, e1, e2⟩ := map_some' e
  obtain ⟨a, rfl, h⟩ := lst_bls r e1
  subst e2
  exact ⟨a, ns, rfl, h, c _ _ (Same.refl _) (.b _)⟩
theorem cf_tuple : CallF X (.type "tuple") tupleD := .of call_tuple_of fun H O xs ds d Q ok rb e c => by
  unfold tupleD at e
  split at e <;> first
    | (cases e; done)
    | skip
  all_goals
    obtain ⟨v, rfl, r⟩ := repB1 rb
    cases e
  · obtain ⟨a, vs, rfl, h1, h2⟩ := r.lst
    exact ⟨a, vs, rfl, .inl ⟨SqL.of h1, fun p np => c _ _ (same_new np) (Rep.newT ok np h2)⟩⟩
  · obtain ⟨a, vs, rfl, h1, h2⟩ := r.tup
    refine ⟨a, vs, rfl, .inr ⟨h1, ?_⟩⟩
    exact c _ _ (Same.refl _) r.rep_t

/-! ### list(x), fresh -/
def CallN (X : Cx) (fv : Value) (F : List D → Option D) : Prop := ∀ (pins : List (Addr × Obj)) (s : Shared) (σ : L2.St) (H : Hp) (O : Addr → Prop) (xs : List V) (us : List Value) (ds : List D) (d : D) (Q : VK), Inv X pins σ H s → OkO H O → Vals xs us → RepBs X.K H O xs ds →
  F ds = some d → (∀ a vs es H', Same H H' → H a = none → d = .l es → H' a = some (.lst vs) → RepL X.K H' (fun b => O b ∨ b = a) vs es → Q (.ref a) H') → wpAny (model X.prog X.w) X.A (call fv us) (EP X pins σ Q) X.xe s
theorem df_callTy {x : Str} {p : Pos} {T : String} {F : List D → Option D} (hc : CallN X (.type T) F) (hg : Gl X x) (hm : X.mg x = none) (hv : bootBuiltins x = some (.type T)) (ha : DM X (e :: es) fs) (hn : x ≠ "__name__") (hdb : (x == ("__debug__" : Str)) = false)
    (he : starEach (e :: es) X.env = (false, eval e X.env) :: starEach es X.env) (hpl : (backTo pos (starEach es X.env)).any (·.1) = false) : DF X (.Call (.Name x p) (e :: es) [] pos) (callV F fs) := DFl.df <| by
  intro σ H O env d Q ok R z c
  obtain ⟨ds, e1, e2⟩ := bind_some' z
  exact PEw (pe_callTy can_ok hg hm hv wA_pa hn hdb he hpl) (ha σ H O env ds _ ok R e1 fun vs H1 s1 r1 => fun pins s σ us I r => hc pins s σ H1 O vs us ds d Q I (ok.same s1) r r1 e2 fun a xs es H' k na ed ha q => c a xs es H' (s1.trans k) (s1.free na) ed ha q)
theorem df_callB {x : Str} {p : Pos} {id : String} {F : List D → Option D} (hc : CallN X (.builtin id) F) (hg : Gl X x) (hm : X.mg x = none) (hv : bootBuiltins x = some (.builtin id)) (ha : DM X (e :: es) fs) (hn : x ≠ "__name__") (hdb : (x == ("__debug__" : Str)) = false)
    (he : starEach (e :: es) X.env = (false, eval e X.env) :: starEach es X.env) (hpl : (backTo pos (starEach es X.env)).any (·.1) = false) : DF X (.Call (.Name x p) (e :: es) [] pos) (callV F fs) := DFl.df <| by
  intro σ H O env d Q ok R z c
  obtain ⟨ds, e1, e2⟩ := bind_some' z
  exact PEw (pe_callB can_ok hg hm hv wA_pa hn hdb he hpl) (ha σ H O env ds _ ok R e1 fun vs H1 s1 r1 => fun pins s σ us I r => hc pins s σ H1 O vs us ds d Q I (ok.same s1) r r1 e2 fun a xs es H' k na ed ha q => c a xs es H' (s1.trans k) (s1.free na) ed ha q)
theorem cn_list : CallN X (.type "list") listD := by
  intro pins s σ H O xs us ds d Q I ok rv rb e c
  unfold listD at e
  split at e <;> first
    | (cases e; done)
    | skip
  all_goals
    obtain ⟨v, rfl, r⟩ := repB1 rb
    cases e
  · obtain ⟨a, vs, rfl, h1, h2⟩ := r.lst
    exact call_list_of pins s σ H _ us Q I rv ⟨a, vs, rfl, .inl (SqL.of h1), fun p np => c p vs _ _ (same_new np) np rfl upd_same (newF np h2)⟩
  · obtain ⟨a, vs, rfl, h1, h2⟩ := r.tup
    exact call_list_of pins s σ H _ us Q I rv ⟨a, vs, rfl, .inr h1, fun p np => c p vs _ _ (same_new np) np rfl upd_same (newF np h2)⟩

/-! ### a call of a def -/
/-- what a def promises: on data, whatever F gives -/
def spD (K : PySem.W.Frag) (n : Nat) (F : List D → Option D) : Sp := fun vs H Q _ => vs.length = n ∧ ∃ (ds : List D) (d : D) (O : Addr → Prop), OkO H O ∧ RepL K H O vs ds ∧ F ds = some d ∧ ∀ v H', Same H H' → Rep K H' O v d → Q v H'
theorem de_call {x : Str} {p : Pos} {k : Nat} {fa : Addr} {fd : FuncData} {ps : List Str} {F : List D → Option D} {n : Nat} (G : FnOk X.prog X.w X.K X.mg X.base CX0 k fa fd ps (spD X.K n F)) (hr : Room k X.A) (hg : Gl X x) (hm : X.mg x = some (.ref fa)) (hk : PySem.W.keepIn X.K (.ref fa) = true)
    (hb : Binds X.K fd ps []) (ha : DL X (e :: es) fs) (hn : (e :: es).length = n) (hdb : (x == ("__debug__" : Str)) = false) (hl : ∀ env ds, fs env = some ds → ds.length = n)
    (he : starEach (e :: es) X.env = (false, eval e X.env) :: starEach es X.env) (hpl : (backTo pos (starEach es X.env)).any (·.1) = false) : DE X (.Call (.Name x p) (e :: es) [] pos) (callV F fs) := by
  intro σ H O env d Q ok R z c
  obtain ⟨ds, e1, e2⟩ := bind_some' z
  refine PEw (pe_call G hr hg hm hk hb .nil pass0 wA_pa hdb he hpl) (ha σ H O env ds _ ok R e1 fun vs H1 s1 r1 => ?_)
  show spD X.K n F (vs ++ []) H1 Q E0
  rw [List.append_nil]
  exact ⟨by rw [r1.length]; exact hl env ds e1, ds, d, O, ok.same s1, r1, e2, fun v H' k q => c v H' (s1.trans k) q⟩
end
end PL
/-! PL de: {}, {k: v}, d.get(k), d.get(k, x); constants of the module; << >> &. -/
namespace PL
open PySem PySem.Spec PyProof.Rows L2
section
variable {X : Cx} {e a b c : Expr} {f g h : EvF} {pos : Pos}
theorem dx_empty {P : Program} {w : World} {H : Hp} (h : Heap) (hb : sysModules < h.objs.size) : ObjOk P w H (h.push { cls := .type "dict", data := .dict #[] }) h.objs.size (DxO h.objs.size []) :=
  dx_ok (Heap.DictOfH.new h) (beq_eq_false_iff_ne.mpr (Ne.symm (Nat.ne_of_lt hb))) (Nat.zero_le _) .nil
theorem own_empty {K : PySem.W.Frag} {H : Hp} {O : Addr → Prop} {p : Addr} (h : H p = some (DxO p [])) : OwnAt K H O p (.d [] []) := ⟨[], h, .nil, .nil, rfl, rfl, List.nodup_nil⟩
/-- {} -/
theorem df_dict0 : DF X (.Dict [] [] pos) (fun _ => some (.d [] [])) := by
  intro σ H O env d Q ok R z c
  cases z
  intro pins s I
  refine wpAny_Dict_empty ⟨.ref s.heap.objs.size, _, I.laid (a := s.heap.objs.size) (o := DxO s.heap.objs.size []) (t' := s.toks) (fun _ _ q => Heap.get?_push_of_some _ q) (Nat.le_refl _) (dx_empty s.heap I.big), rfl, ?_⟩
  have np := I.hok.fresh (Nat.le_refl s.heap.objs.size)
  exact c _ _ (same_new np) np (own_empty upd_same)
/-- {k: v} -/
theorem df_dict1 (hu : X.A.units + 65 < cLine) (ha : DE X a f) (hb : DE X b g) : DF X (.Dict [some a] [b] pos) (fun env => (f env).bind fun k => (g env).bind fun v => if tkD k = true then some (.d [k] [v]) else none) := by
  intro σ H O env d Q ok R z c
  obtain ⟨k, e1, z1⟩ := bind_some' z
  clear z
  obtain ⟨v, e2, z2⟩ := bind_some' z1
  clear z1
  split at z2 <;> first
    | (cases z2; done)
    | skip
  rename_i tk
  cases z2
  intro pins s I
  have np := I.hok.fresh (Nat.le_refl s.heap.objs.size)
  have hr : (nestedKind X.prog X.w).room X.A := by show X.A.units + 8 < cLine; omega
  have hsh : (evalEachOpt [some a] X.env).zip ((evalEach [b] X.env).map fun v => do let x ← v; standAt pos; pure x) = [(eval a X.env, do let x ← eval b X.env; standAt pos; pure x)].map fun p => (some p.1, p.2) := rfl
  rw [arm_eval_Dict, hsh, dictDisplay_pairs _ (List.cons_ne_nil _ _) (by simp)]
  refine wpAny_bind (wpAny_standAt (wpAny_bind (wpAny_subDictH (knd := nestedKind X.prog X.w) hr (by simp) ?_)))
  have I1 := I.laid (a := s.heap.objs.size) (o := DxO s.heap.objs.size []) (h' := s.heap.push { cls := .type "dict", data := .dict #[] }) (t' := s.toks) (fun _ _ q => Heap.get?_push_of_some _ q) (Nat.le_refl _) (dx_empty s.heap I.big)
  generalize hD : s.heap.objs.size = D at *
  have s0 : Same H (upd H D (DxO D [])) := same_new np
  have ok1 : OkO (upd H D (DxO D [])) (fun b => O b ∨ b = D) := fun x q => q.elim (fun q => (ok.same s0) x q) fun q => by rw [q, upd_same]; exact fun z => nomatch z
  have R1 : RelC X.K (upd H D (DxO D [])) (fun b => O b ∨ b = D) σ env := ⟨R.1, fun i cc ec => by
    have q := R.2 i cc ec
    have m : ∀ x, (O x ∨ x = D) → O x ∨ H x = none := fun x z => z.elim .inl fun z => .inr (by rw [z]; exact np)
    cases cc with
    | no => trivial
    | v d => obtain ⟨x, e1, r⟩ := q; exact ⟨x, e1, (r.mono m).same s0⟩
    | o d => obtain ⟨x, e1, r⟩ := q; exact ⟨x, e1, (r.mono m).same s0⟩⟩
  refine evalPairs_cons ?_
  refine thn (ha σ _ _ env k (fun x H1 => Rep X.K H1 (fun b => O b ∨ b = D) x k ∧ Same (upd H D (DxO D [])) H1) ok1 R1 e1 (fun x H1 s1 r1 => ⟨r1, s1⟩) pins _ I1) fun u s1 ⟨x, H1, I2, rx, r1, k1⟩ => ?_
  refine wpAny_bind (thn (hb σ H1 _ env v (fun y H2 => Rep X.K H2 (fun b => O b ∨ b = D) y v ∧ Same H1 H2) (ok1.same k1) (R1.same k1) e2 (fun y H2 s2 r2 => ⟨r2, s2⟩) pins s1 I2) fun w s2 ⟨y, H2, I3, ry, r2, k2⟩ => ?_)
  refine wpAny_bind (wpAny_standAt (wpAny_pure (evalPairs_nil ?_)))
  have hD2 : H2 D = some (DxO D []) := k2 _ _ (k1 _ _ upd_same)
  obtain ⟨bk, rfl, rfl, r1', hk⟩ := rep_key I3 (.inl (r1.same k2)) tk rx
  obtain ⟨ents, xs, g0, g1, g2, g3, g4, g5, g6, g7, g8, g9, g10⟩ := dx_at I3 (own_empty (O := O) hD2)
  have hx : xs = [] := by simpa using g4
  subst hx
  refine ⟨[(toNK k, bk, w)], ⟨rfl, rfl, hk, trivial⟩, g1, fun h' tk' dd hs => wpAny_pure ?_⟩
  have en : EnX X.prog X.w [(keyH k, .ref bk, y)] (storedAllH [] [(toNK k, bk, w)]) := .cons ⟨(nk_hash X.w 8 k (tk_ky tk)).symm, rfl, ry⟩ .nil
  have okD : ObjOk X.prog X.w (upd H2 D (DxO D [(keyH k, .ref bk, y)])) h' D (DxO D [(keyH k, .ref bk, y)]) := dx_ok dd g2 (by show 1 ≤ SZ; decide) en
  have mu : Mut (H2 D) := by rw [hD2]; exact True.intro
  have J : Inv X pins σ (upd H2 D (DxO D [(keyH k, .ref bk, y)])) { s2 with heap := h', toks := tk' } := I3.write (x := D) (e := D) mu (.inl rfl) (fun b q hb z => (hs.2 b hb).trans z) (by obtain ⟨o, _, _, ho, _⟩ := dd; exact ⟨o, ho⟩) okD
  have sA : Same H (upd H2 D (DxO D [(keyH k, .ref bk, y)])) := fun x o q => by
    have hx : x ≠ D := fun z => by rw [z, np] at q; cases q
    rw [upd_ne hx]
    exact k2 _ _ (k1 _ _ (s0 _ _ q))
  have kp : Kp (fun b => O b ∨ b = D) H2 (upd H2 D (DxO D [(keyH k, .ref bk, y)])) := fun x o q n => by
    rw [upd_ne fun z => n (.inr z)]
    exact q
  refine ⟨.ref D, _, J, rfl, c D _ sA np ⟨[(keyH k, .ref bk, y)], upd_same, .cons ((r1.same k2).kp kp) .nil, .cons (r2.kp kp) .nil, rfl, by simp [tk], by simp⟩⟩
/-- d.get(k) -/
@[simp] def getV1 : D → D → Option D
  | .d ks vs, k => if tkD k = true then some ((dLook ks vs k).getD .n) else none
  | _, _ => none
@[simp] def getV2 : D → D → D → Option D
  | .d ks vs, k, x => if tkD k = true then some ((dLook ks vs k).getD x) else none
  | _, _, _ => none
theorem own_type {pins : List (Addr × Obj)} {σ : L2.St} {H : Hp} {O : Addr → Prop} {s : Shared} {a : Addr} {ks vs : List D} (I : Inv X pins σ H s) (h : OwnAt X.K H O a (.d ks vs)) :
    s.TypeIs (.ref a) "dict" ∧ ∀ b, Value.ref a = .ref b → ∃ ob, s.heap.get? b = some ob ∧ ob.dict = none := by
  obtain ⟨_, xs, _, g1, _⟩ := dx_at I h
  refine ⟨g1.typeIs, fun b z => ?_⟩
  cases z
  obtain ⟨o, _, _, ho, hx, _⟩ := g1
  exact ⟨o, ho, hx.2.1⟩
theorem de_get1 {apos cpos : Pos} (hu : X.A.units + 65 < cLine) (ha : DB X a f) (hb : DB X b g) (m : M1 X a "get" apos b cpos) : DE X (.Call (.Attribute a "get" apos) [b] [] cpos) (bind2 getV1 f g) := by
  intro σ H O env d Q ok R z c pins s I
  obtain ⟨p, q, e1, e2, e3⟩ := bind2_some z
  cases p <;> first
    | (cases e3; done)
    | skip
  rename_i ks vs
  have e3 : (if tkD q = true then some ((dLook ks vs q).getD .n) else none) = some d := e3
  split at e3 <;> first
    | (cases e3; done)
    | skip
  rename_i tk
  cases e3
  refine wpAny_Call_method m.base m.few m.line PySem.F.plainAttrs_dict PySem.F.slot_dict_get PySem.F.type_dict_get (thn (ha σ H O env _ (fun x H1 => RepB X.K H1 O x (.d ks vs) ∧ Same H H1) ok R e1 (fun x H1 s1 r1 => ⟨r1, s1⟩) pins s I) fun u s1 ⟨x, H1, I1, rx, r1, k1⟩ => ?_)
  obtain ⟨l, rfl, ow⟩ := r1.dct
  cases (show u = Value.ref l from rx)
  obtain ⟨t1, t2⟩ := own_type I1 ow
  refine ⟨t1, t2, ?_⟩
  rw [m.trees]
  refine Calls.callWith_builtin rfl (Calls.evalArgs_plain (Calls.spliced_cons (thn (hb σ H1 O env q (fun y H2 => RepB X.K H2 O y q ∧ Same H1 H2) (ok.same k1) (R.same k1) e2 (fun y H2 s2 r2 => ⟨r2, s2⟩) pins s1 I1) fun iv s2 ⟨y, H2, I2, ry, r2, k2⟩ => Calls.spliced_nil ?_)))
  exact dx_get1 hu I2 (ow.same k2) r2 tk ry fun v w' s' I' rw' rv => ⟨v, H2, I', rw', c v H2 (k1.trans k2) rv⟩
theorem de_get2 {apos cpos : Pos} (hu : X.A.units + 65 < cLine) (ha : DB X a f) (hb : DB X b g) (hc : DE X e h) (m : M2 X a "get" apos b e cpos) : DE X (.Call (.Attribute a "get" apos) [b, e] [] cpos) (fun env => (f env).bind fun p => (g env).bind fun q => (h env).bind fun x => getV2 p q x) := by
  intro σ H O env d Q ok R z c pins s I
  obtain ⟨p, e1, z1⟩ := bind_some' z
  clear z
  obtain ⟨q, e2, z2⟩ := bind_some' z1
  clear z1
  obtain ⟨r, e4, e3⟩ := bind_some' z2
  clear z2
  cases p <;> first
    | (cases e3; done)
    | skip
  rename_i ks vs
  have e3 : (if tkD q = true then some ((dLook ks vs q).getD r) else none) = some d := e3
  split at e3 <;> first
    | (cases e3; done)
    | skip
  rename_i tk
  cases e3
  refine wpAny_Call_method m.base m.few m.line PySem.F.plainAttrs_dict PySem.F.slot_dict_get PySem.F.type_dict_get (thn (ha σ H O env _ (fun x H1 => RepB X.K H1 O x (.d ks vs) ∧ Same H H1) ok R e1 (fun x H1 s1 r1 => ⟨r1, s1⟩) pins s I) fun u s1 ⟨x, H1, I1, rx, r1, k1⟩ => ?_)
  obtain ⟨l, rfl, ow⟩ := r1.dct
  cases (show u = Value.ref l from rx)
  obtain ⟨t1, t2⟩ := own_type I1 ow
  refine ⟨t1, t2, ?_⟩
  rw [m.trees]
  refine Calls.callWith_builtin rfl (Calls.evalArgs_plain (Calls.spliced_cons (thn (hb σ H1 O env q (fun y H2 => RepB X.K H2 O y q ∧ Same H1 H2) (ok.same k1) (R.same k1) e2 (fun y H2 s2 r2 => ⟨r2, s2⟩) pins s1 I1) fun iv s2 ⟨y, H2, I2, ry, r2, k2⟩ =>
    Calls.spliced_cons (thn (hc σ H2 O env r (fun y H3 => Rep X.K H3 O y r ∧ Same H2 H3) ((ok.same k1).same k2) ((R.same k1).same k2) e4 (fun y H3 s3 r3 => ⟨r3, s3⟩) pins s2 I2) fun fv s3 ⟨z, H3, I3, rz, r3, k3⟩ => Calls.spliced_nil ?_))))
  exact dx_get2 hu I3 ((ow.same k2).same k3) (r2.same k3) tk ry rz r3 fun v w' s' I' rw' rv => ⟨v, H3, I', rw', c v H3 ((k1.trans k2).trans k3) rv⟩
/-- a constant of the module -/
theorem de_con {x : Str} {d : D} {v : V} {u : Value} (hg : Gl X x) (hm : X.mg x = some u) (r : RelV v u) (hd : (x == ("__debug__" : Str)) = false) (hr : ∀ H O, Rep X.K H O v d) : DE X (.Name x pos) (fun _ => some d) :=
  fun σ H O env d' Q ok R z c => PEw (pe_glob hg hm r hd) (by cases z; exact c _ _ (Same.refl _) (hr _ _))
/-! ### << >> & -/
@[simp] def shlD : D → D → Option D
  | .i x, .i y => if 0 ≤ y ∧ absLe y 1000000 = true ∧ smallI x = true then some (.i (x * 2 ^ y.toNat)) else none
  | _, _ => none
@[simp] def shrD : D → D → Option D
  | .i x, .i y => if 0 ≤ y then some (.i (x / 2 ^ y.toNat)) else none
  | _, _ => none
@[simp] def bitD : D → D → Option D
  | .i x, .i y => some (.i (Builtin.bitAnd x y))
  | _, _ => none
theorem of_shl : OpF X (binaryOp .LShift) shlD := by
  intro pins s σ H O x y u w p q d Q I ok rx ry rp rq e c
  cases p <;> cases q <;> first
    | (cases e; done)
    | skip
  rename_i i j
  have e : (if 0 ≤ j ∧ absLe j 1000000 = true ∧ smallI i = true then some (D.i (i * 2 ^ j.toNat)) else none) = some d := e
  by_cases hj : 0 ≤ j ∧ absLe j 1000000 = true ∧ smallI i = true
  · rw [if_pos hj] at e
    cases e
    obtain rfl := rp.int
    obtain rfl := rq.int
    have hj2 := absLe_ok hj.2.1
    have hj3 := smallI_ok hj.2.2
    exact op_shl pins s σ H _ _ u w Q I rx ry ⟨_, _, rfl, rfl, ⟨hj.1, by omega, by omega⟩, c _ _ (Same.refl _) (.i _)⟩
  · rw [if_neg hj] at e; cases e
theorem of_shr : OpF X (binaryOp .RShift) shrD := by
  intro pins s σ H O x y u w p q d Q I ok rx ry rp rq e c
  cases p <;> cases q <;> first
    | (cases e; done)
    | skip
  rename_i i j
  have e : (if 0 ≤ j then some (D.i (i / 2 ^ j.toNat)) else none) = some d := e
  by_cases hj : 0 ≤ j
  · rw [if_pos hj] at e
    cases e
    obtain rfl := rp.int
    obtain rfl := rq.int
    exact op_shr pins s σ H _ _ u w Q I rx ry ⟨_, _, rfl, rfl, hj, c _ _ (Same.refl _) (.i _)⟩
  · rw [if_neg hj] at e; cases e
theorem of_bit : OpF X (binaryOp .BitAnd) bitD := by
  intro pins s σ H O x y u w p q d Q I ok rx ry rp rq e c
  cases p <;> cases q <;> first
    | (cases e; done)
    | skip
  cases e
  obtain rfl := rp.int
  obtain rfl := rq.int
  exact op_and pins s σ H _ _ u w Q I rx ry ⟨_, _, rfl, rfl, c _ _ (Same.refl _) (.i _)⟩
/-! ### calls, some arguments lent -/
def atomD : D → Bool
  | .n => true
  | .b _ => true
  | .i _ => true
  | .s _ => true
  | _ => false
@[simp] def atomO (d : D) : Option D := if atomD d = true then some d else none
/-- the arguments given, or lent for an atom -/
def callN (F : List D → Option D) (as : Bool → List Cell → Option (List D)) : EvF := fun env => match as true env with
  | some ds => F ds
  | none => (as false env).bind fun ds => (F ds).bind atomO
theorem RepBs.less' {K : PySem.W.Frag} {H : Hp} {O : Addr → Prop} : ∀ {vs : List V} {ds : List D}, RepBs K H O vs ds → RepL K H (fun a => O a ∧ ¬ V.ref a ∈ vs) vs ds := by
  have go : ∀ {ws vs : List V} {ds : List D}, RepBs K H O vs ds → (∀ v ∈ vs, v ∈ ws) → RepL K H (fun a => O a ∧ ¬ V.ref a ∈ ws) vs ds := by
    intro ws vs ds r
    induction r with
    | nil => intro _; exact .nil
    | @cons v vs d ds a r ih =>
      intro m
      refine .cons ?_ (ih fun v hv => m v (List.mem_cons_of_mem _ hv))
      rcases a with a | ⟨b, rfl, ow⟩
      · exact a.less fun x z => z.1
      · exact (ow.less fun x z => z.1).rep fun z => z.2 (m _ List.mem_cons_self)
  intro vs ds r
  exact go r fun v hv => hv
theorem Rep.atom {K : PySem.W.Frag} {H : Hp} {O O' : Addr → Prop} {v : V} {d : D} (h : Rep K H O v d) (a : atomD d = true) : Rep K H O' v d := by
  cases h <;> first
    | (cases a; done)
    | exact .n
    | exact .b _
    | exact .i _
    | exact .s _
theorem de_callN {es : List Expr} {as : Bool → List Cell → Option (List D)} {x : Str} {p : Pos} {k : Nat} {fa : Addr} {fd : FuncData} {ps : List Str} {F : List D → Option D} {n : Nat} (G : FnOk X.prog X.w X.K X.mg X.base CX0 k fa fd ps (spD X.K n F)) (hr : Room k X.A) (hg : Gl X x) (hm : X.mg x = some (.ref fa)) (hk : PySem.W.keepIn X.K (.ref fa) = true)
    (b : Binds X.K fd ps []) (ha : DL X (e :: es) (as true)) (hb : DM X (e :: es) (as false)) (hn : es.length + 1 = n) (hd : (x == ("__debug__" : Str)) = false) (hl : ∀ env ds, as true env = some ds → ds.length = n) (hl2 : ∀ env ds, as false env = some ds → ds.length = n)
    (hs : starEach (e :: es) X.env = (false, eval e X.env) :: starEach es X.env) (hp : (backTo pos (starEach es X.env)).any (·.1) = false) : DE X (.Call (.Name x p) (e :: es) [] pos) (callN F as) := by
  intro σ H O env d Q ok R z c
  unfold callN at z
  split at z
  · rename_i ds e1
    exact de_call G hr hg hm hk b ha hn hd hl hs hp σ H O env d Q ok R (by unfold callV; rw [e1]; exact z) c
  · obtain ⟨ds, e1, z1⟩ := bind_some' z
    obtain ⟨d', e2, z2⟩ := bind_some' z1
    have z2 : (if atomD d' = true then some d' else none) = some d := z2
    split at z2 <;> first
      | (cases z2; done)
      | skip
    rename_i hat
    cases z2
    refine PEw (pe_call G hr hg hm hk b .nil pass0 wA_pa hd hs hp) (hb σ H O env ds _ ok R e1 fun vs H1 s1 r1 => ?_)
    have rl := r1.less'
    show spD X.K n F (vs ++ []) H1 Q E0
    rw [List.append_nil]
    exact ⟨by rw [rl.length]; exact hl2 env ds e1, ds, d, _, fun a z => (ok.same s1) a z.1, rl, e2, fun v H' k q => c v H' (s1.trans k) (q.atom hat)⟩
end
end PL
/-! PL g: isinstance; targets; what is walked; comprehensions. -/
namespace PL
open PySem PySem.Spec PyProof.Rows L2

/-! ### isinstance -/
inductive Ty5 where
  | int | str | bool | tuple | list
def Ty5.name : Ty5 → String
  | .int => "int" | .str => "str" | .bool => "bool" | .tuple => "tuple" | .list => "list"
@[simp] def kindD : D → Option String
  | .n => some "NoneType"
  | .b _ => some "bool"
  | .i _ => some "int"
  | .s _ => some "str"
  | .t _ => some "tuple"
  | .l _ => some "list"
  | _ => none
@[simp] def isTy : D → Ty5 → Option Bool
  | .n, _ => some false
  | .b _, .int => some true
  | .b _, .bool => some true
  | .b _, _ => some false
  | .i _, .int => some true
  | .i _, _ => some false
  | .s _, .str => some true
  | .s _, _ => some false
  | .t _, .tuple => some true
  | .t _, _ => some false
  | .l _, .list => some true
  | .l _, _ => some false
  | _, _ => none
@[simp] def isTys (d : D) : List Ty5 → Option Bool
  | [] => (kindD d).map fun _ => false
  | t :: r => (isTy d t).bind fun x => (isTys d r).map fun y => x || y
theorem kit_tab : ∀ t : Ty5, kitB "NoneType" t.name = some false ∧ kitB "bool" t.name = some (match t with | .int => true | .bool => true | _ => false) ∧ kitB "int" t.name = some (match t with | .int => true | _ => false) ∧
    kitB "str" t.name = some (match t with | .str => true | _ => false) ∧ kitB "tuple" t.name = some (match t with | .tuple => true | _ => false) ∧ kitB "list" t.name = some (match t with | .list => true | _ => false)
  | .int => by decide +kernel
  | .str => by decide +kernel
  | .bool => by decide +kernel
  | .tuple => by decide +kernel
  | .list => by decide +kernel
theorem isTy_kit {d : D} {t : Ty5} {b : Bool} (h : isTy d t = some b) : ∃ k, kindD d = some k ∧ kitB k t.name = some b := by
  obtain ⟨h1, h2, h3, h4, h5, h6⟩ := kit_tab t
  cases d <;> cases t <;> first
    | (cases h; done)
    | (cases h; exact ⟨_, rfl, h1⟩)
    | (cases h; exact ⟨_, rfl, h2⟩)
    | (cases h; exact ⟨_, rfl, h3⟩)
    | (cases h; exact ⟨_, rfl, h4⟩)
    | (cases h; exact ⟨_, rfl, h5⟩)
    | (cases h; exact ⟨_, rfl, h6⟩)
theorem isTys_kit {K : PySem.W.Frag} {d : D} {k : String} (hk : kindD d = some k) : ∀ {ts : List Ty5} {b : Bool}, isTys d ts = some b → PySem.W.kitAny K (.type k) (ts.map fun t => Value.type t.name) = some b
  | [], b, h => by
    unfold isTys at h
    rw [hk] at h
    cases h
    exact kitAny_nil
  | t :: r, b, h => by
    unfold isTys at h
    obtain ⟨x, h1, h2⟩ := bind_some' h
    obtain ⟨y, h3, h4⟩ := map_some' h2
    subst h4
    obtain ⟨k', e1, e2⟩ := isTy_kit h1
    rw [hk] at e1
    cases e1
    have ih := isTys_kit (K := K) hk h3
    cases x with
    | true => exact kitAny_cons (b := true) (kit_ty e2) (fun z => nomatch z) (fun _ => by simp)
    | false => exact kitAny_cons (b := false) (kit_ty e2) (fun _ => by simpa using ih) (fun z => nomatch z)
theorem RepB.ty {K : PySem.W.Frag} {H : Hp} {O : Addr → Prop} {v : V} {d : D} {k : String} (h : RepB K H O v d) (e : kindD d = some k) : TyX K H v (.type k) := by
  cases d with
  | n => obtain rfl := h.non; cases e; exact .base .non
  | b x => obtain rfl := h.bl; cases e; exact .base (.bl _)
  | i x => obtain rfl := h.int; cases e; exact .base (.int _)
  | s x => obtain rfl := h.str; cases e; exact .base (.str _)
  | t xs =>
    obtain ⟨a, vs, rfl, ha, r⟩ := h.tup
    cases e
    rcases ha with (ha | ⟨o, ha⟩) | ⟨o, its, n, e1, e2, _⟩
    · exact .base (.tup ha)
    · exact .fTuple ha
    · exact .kTuple e1 e2
  | l xs =>
    obtain ⟨a, vs, rfl, ha, r⟩ := h.lst
    cases e
    exact .base (.lst ha)
  | _ => cases e
section
variable {X : Cx} {e a b c : Expr} {f g h : EvF} {pos : Pos} {es : List Expr} {fs : List Cell → Option (List D)}
@[simp] def instV (ts : List Ty5) (f : EvF) : EvF := fun env => (f env).bind fun d => (isTys d ts).map .b
theorem pe_tyname {x : Str} {T : Ty5} {p : Pos} (hg : Gl X x) (hm : X.mg x = none) (hv : bootBuiltins x = some (.type T.name)) (hn : x ≠ "__name__") (hd : (x == ("__debug__" : Str)) = false) : PE X (.Name x p) (tC (.ty T.name)) := pe_bltn hg hm hv rfl hn hd
/-- isinstance(a, T) -/
theorem de_inst1 {x y : Str} {T : Ty5} {p p2 : Pos} (hg : Gl X x) (hm : X.mg x = none) (hx : bootBuiltins x = some (.builtin "isinstance")) (hn : x ≠ "__name__") (hdb : (x == ("__debug__" : Str)) = false)
    (hg2 : Gl X y) (hm2 : X.mg y = none) (hy : bootBuiltins y = some (.type T.name)) (hn2 : y ≠ "__name__") (hdb2 : (y == ("__debug__" : Str)) = false) (ha : DB X a f)
    (he : starEach [a, .Name y p2] X.env = (false, eval a X.env) :: starEach [.Name y p2] X.env) : DE X (.Call (.Name x p) [a, .Name y p2] [] pos) (instV [T] f) := by
  intro σ H O env d Q ok R z c
  obtain ⟨q, e1, e2⟩ := bind_some' z
  obtain ⟨b, e3, e4⟩ := map_some' e2
  subst e4
  refine PEw (pe_callB call_isi hg hm hx (pa_cons wE_pe (pa_cons (pe_tyname hg2 hm2 hy hn2 hdb2) pa_nil) he) hn hdb he rfl) (ha σ H O env q _ ok R e1 fun v H1 s1 r1 => ?_)
  have e3' : ((isTy q T).bind fun x => ((kindD q).map fun _ => false).map fun y => x || y) = some b := e3
  obtain ⟨x', g1, g2⟩ := bind_some' e3'
  obtain ⟨y', g3, g4⟩ := map_some' g2
  obtain ⟨kd, g5, g6⟩ := map_some' g3
  subst g6 g4
  obtain ⟨k, k1, k2⟩ := isTy_kit g1
  rw [Bool.or_false] at c
  exact ⟨v, _, _, _, x', rfl, .ty _, r1.ty k1, kit_ty k2, c _ _ s1 (.b _)⟩
/-- isinstance(a, (T, U)) -/
theorem de_inst2 {x y z : Str} {T U : Ty5} {p p2 p3 p4 : Pos} {k : Nat} (hg : Gl X x) (hm : X.mg x = none) (hx : bootBuiltins x = some (.builtin "isinstance")) (hn : x ≠ "__name__") (hdb : (x == ("__debug__" : Str)) = false)
    (hg2 : Gl X y) (hm2 : X.mg y = none) (hy : bootBuiltins y = some (.type T.name)) (hn2 : y ≠ "__name__") (hdb2 : (y == ("__debug__" : Str)) = false)
    (hg3 : Gl X z) (hm3 : X.mg z = none) (hz : bootBuiltins z = some (.type U.name)) (hn3 : z ≠ "__name__") (hdb3 : (z == ("__debug__" : Str)) = false) (ha : DB X a f)
    (he : starEach [a, .Tuple [.Name y p2, .Name z p3] k p4] X.env = (false, eval a X.env) :: starEach [.Tuple [.Name y p2, .Name z p3] k p4] X.env) : DE X (.Call (.Name x p) [a, .Tuple [.Name y p2, .Name z p3] k p4] [] pos) (instV [T, U] f) := by
  intro σ H O env d Q ok R w c
  obtain ⟨q, e1, e2⟩ := bind_some' w
  obtain ⟨b, e3, e4⟩ := map_some' e2
  subst e4
  refine PEw (pe_callB call_isiT hg hm hx (pa_cons wE_pe (pa_cons (pe_tup (pa_cons (pe_tyname hg2 hm2 hy hn2 hdb2) (pa_cons (pe_tyname hg3 hm3 hz hn3 hdb3) pa_nil))) pa_nil) he) hn hdb he rfl) (ha σ H O env q _ ok R e1 fun v H1 s1 r1 => ?_)
  have hk : ∃ k, kindD q = some k := by
    have e3' := e3
    unfold isTys at e3'
    obtain ⟨x', g1, g2⟩ := bind_some' e3'
    obtain ⟨k, g3, _⟩ := isTy_kit g1
    exact ⟨k, g3⟩
  obtain ⟨kd, hk⟩ := hk
  refine ⟨by show 2 ≤ sizeLine; decide, fun t nt => ?_⟩
  have r2 := r1.same (same_new (o := .tup [.ty T.name, .ty U.name]) nt)
  exact ⟨v, t, _, _, _, b, rfl, upd_same, .cons (.ty _) (.cons (.ty _) .nil), r2.ty hk, isTys_kit hk e3, c _ _ (s1.trans (same_new nt)) (.b _)⟩
end

/-! ### targets -/
inductive Tg where
  | nm (i : Nat)
  | tp (ts : List Tg)
mutual
@[simp] def Tg.slots : Tg → List Nat
  | .nm i => [i]
  | .tp ts => Tg.slotsL ts
@[simp] def Tg.slotsL : List Tg → List Nat
  | [] => []
  | t :: r => t.slots ++ Tg.slotsL r
end
mutual
def bindT : Tg → D → List Cell → Option (List Cell)
  | .nm i, d, env => some (env.set i (.v d))
  | .tp ts, .t ds, env => bindTs ts ds env
  | .tp _, _, _ => none
def bindTs : List Tg → List D → List Cell → Option (List Cell)
  | [], [], env => some env
  | t :: ts, d :: ds, env => (bindT t d env).bind (bindTs ts ds)
  | _, _, _ => none
end
@[simp] theorem bindT_nm (i : Nat) (d : D) (env : List Cell) : bindT (.nm i) d env = some (env.set i (.v d)) := by rw [bindT]
@[simp] theorem bindT_tp (ts : List Tg) (ds : List D) (env : List Cell) : bindT (.tp ts) (.t ds) env = bindTs ts ds env := by rw [bindT]
@[simp] theorem bindTs_nil (env : List Cell) : bindTs [] [] env = some env := by rw [bindTs]
@[simp] theorem bindTs_cons (t : Tg) (ts : List Tg) (d : D) (ds : List D) (env : List Cell) : bindTs (t :: ts) (d :: ds) env = (bindT t d env).bind (bindTs ts ds) := by rw [bindTs]
/-- what σ' has of σ: all but these slots -/
def Off (vs : List Nat) (σ σ' : L2.St) : Prop := σ'.length = σ.length ∧ ∀ j, j ∉ vs → σ'[j]? = σ[j]?
theorem Off.refl {vs : List Nat} {σ : L2.St} : Off vs σ σ := ⟨rfl, fun _ _ => rfl⟩
theorem Off.trans {vs : List Nat} {σ σ1 σ2 : L2.St} (a : Off vs σ σ1) (b : Off vs σ1 σ2) : Off vs σ σ2 := ⟨b.1.trans a.1, fun j h => (b.2 j h).trans (a.2 j h)⟩
theorem Off.mono {vs ws : List Nat} {σ σ1 : L2.St} (a : Off vs σ σ1) (h : ∀ i ∈ vs, i ∈ ws) : Off ws σ σ1 := ⟨a.1, fun j q => a.2 j fun z => q (h j z)⟩
theorem Off.set {i : Nat} {σ : L2.St} {v : Option V} : Off [i] σ (σ.set i v) := ⟨List.length_set .., fun j h => List.getElem?_set_ne (by
  intro e
  exact h (by rw [e]; exact List.mem_cons_self))⟩
theorem wipe_get (σ : L2.St) : ∀ (vs : List Nat) (j : Nat), (wipe σ vs)[j]? = if j ∈ vs then (if j < σ.length then some none else none) else σ[j]?
  | [], j => by simp [wipe]
  | v :: vs, j => by
    unfold wipe
    by_cases h : v = j
    · subst h
      rw [if_pos List.mem_cons_self]
      by_cases hl : v < σ.length
      · rw [List.getElem?_set_self (by rw [wipe_length]; exact hl), if_pos hl]
      · rw [List.getElem?_eq_none (by rw [List.length_set, wipe_length]; omega), if_neg hl]
    · rw [List.getElem?_set_ne h, wipe_get σ vs j]
      by_cases hj : j ∈ vs
      · rw [if_pos hj, if_pos (List.mem_cons_of_mem _ hj)]
      · rw [if_neg hj, if_neg (by
          intro z
          rcases List.mem_cons.mp z with e | e
          · exact h e.symm
          · exact hj e)]
theorem wipe_off {σ σ' : L2.St} {vs : List Nat} (h : Off vs (wipe σ vs) σ') : wipe σ' vs = wipe σ vs := by
  refine List.ext_getElem? fun j => ?_
  have hl : σ'.length = σ.length := by rw [h.1, wipe_length]
  rw [wipe_get σ' vs j]
  by_cases hj : j ∈ vs
  · rw [if_pos hj, wipe_get σ vs j, if_pos hj, hl]
  · rw [if_neg hj, h.2 j hj]
@[simp] def wipeC (env : List Cell) : List Nat → List Cell
  | [] => env
  | v :: vs => (wipeC env vs).set v .no
theorem wipeC_length (env : List Cell) : ∀ vs, (wipeC env vs).length = env.length
  | [] => rfl
  | v :: vs => by unfold wipeC; rw [List.length_set, wipeC_length env vs]
section
variable {K : PySem.W.Frag} {H H' : Hp} {O : Addr → Prop} {σ : L2.St} {env : List Cell}
theorem RelC.set {i : Nat} {v : V} {d : D} (h : RelC K H O σ env) (r : Rep K H O v d) : RelC K H O (σ.set i (some v)) (env.set i (.v d)) := ⟨by rw [List.length_set, List.length_set]; exact h.1, fun j c e => by
  have hl := h.1
  by_cases hj : i = j
  · subst hj
    rw [List.getElem?_set] at e
    rw [if_pos rfl] at e
    split at e
    · rename_i hi
      cases e
      exact ⟨v, by rw [List.getElem?_set_self (by omega)], r⟩
    · cases e
  · rw [List.getElem?_set_ne hj] at e
    rw [List.getElem?_set_ne hj]
    exact h.2 j c e⟩
theorem RelC.wipe (h : RelC K H O σ env) : ∀ vs : List Nat, RelC K H O (wipe σ vs) (wipeC env vs)
  | [] => h
  | v :: vs => ⟨by rw [wipeC_length, wipe_length]; exact h.1, fun j c e => by
    unfold wipeC at e
    unfold L2.wipe
    by_cases hj : v = j
    · subst hj
      rw [List.getElem?_set] at e
      rw [if_pos rfl] at e
      split at e
      · cases e; trivial
      · cases e
    · rw [List.getElem?_set_ne hj] at e
      rw [List.getElem?_set_ne hj]
      exact (RelC.wipe h vs).2 j c e⟩
end
section
variable {X : Cx}
def wG (X : Cx) (tg : Expr) : TG := fun v σ H Q => ∀ (pins : List (Addr × Obj)) (s : Shared) (u : Value), Inv X pins σ H s → RelV v u → wpAny (model X.prog X.w) X.A (assign tg X.env u) (fun _ s' => ∃ σ' H', Inv X pins σ' H' s' ∧ Q σ' H') X.xe s
def wGs (X : Cx) (ts : List Expr) : TGs := fun vs σ H Q => ∀ (pins : List (Addr × Obj)) (s : Shared) (us : List Value), Inv X pins σ H s → Vals vs us → wpAny (model X.prog X.w) X.A (assignInOrder ((assignEach ts X.env).map (·.2)) us) (fun _ s' => ∃ σ' H', Inv X pins σ' H' s' ∧ Q σ' H') X.xe s
theorem wG_pg {tg : Expr} : PG X tg (wG X tg) := ⟨fun pins s σ H v u Q I r h => h pins s u I r⟩
theorem wGs_pgs {ts : List Expr} : PGs X ts (wGs X ts) := ⟨fun pins s σ H vs us Q I r h => h pins s us I r⟩
theorem PGw {tg : Expr} {g : TG} (h : PG X tg g) {v : V} {σ : L2.St} {H : Hp} {Q : L2.St → Hp → Prop} (q : g v σ H Q) : wG X tg v σ H Q := fun pins s u I r => h.run pins s σ H v u Q I r q
theorem PGsw {ts : List Expr} {g : TGs} (h : PGs X ts g) {vs : List V} {σ : L2.St} {H : Hp} {Q : L2.St → Hp → Prop} (q : g vs σ H Q) : wGs X ts vs σ H Q := fun pins s us I r => h.run pins s σ H vs us Q I r q
/-- a target takes a datum -/
def DG (X : Cx) (tg : Expr) (t : Tg) : Prop := ∀ (v : V) (d : D) (σ : L2.St) (H : Hp) (O : Addr → Prop) (env env' : List Cell) (Q : L2.St → Hp → Prop), RelC X.K H O σ env → Rep X.K H O v d → bindT t d env = some env' →
  (∀ σ', RelC X.K H O σ' env' → Off t.slots σ σ' → Q σ' H) → wG X tg v σ H Q
def DGs (X : Cx) (ts : List Expr) (tt : List Tg) : Prop := ∀ (vs : List V) (ds : List D) (σ : L2.St) (H : Hp) (O : Addr → Prop) (env env' : List Cell) (Q : L2.St → Hp → Prop), RelC X.K H O σ env → RepL X.K H O vs ds → bindTs tt ds env = some env' →
  (∀ σ', RelC X.K H O σ' env' → Off (Tg.slotsL tt) σ σ' → Q σ' H) → wGs X ts vs σ H Q
theorem dg_name {i : Nat} {x : Str} {pos : Pos} (hN : X.N.Nodup) (hi : X.N[i]? = some x) (hx : Loc X.env.scope x) (hf : X.fn x = true ∨ X.env.scope.names.lookup x = some .local) : DG X (.Name x pos) (.nm i) := by
  intro v d σ H O env env' Q R r e c
  refine PGw (pg_name hN hi hx hf) ?_
  rw [bindT] at e
  cases e
  exact c _ (R.set r) (by rw [Tg.slots]; exact Off.set)
theorem dgs_nil : DGs X [] [] := fun vs ds σ H O env env' Q R r e c => PGsw pgs_nil (by
  cases r with
  | nil => rw [bindTs] at e; cases e; exact ⟨rfl, c _ R Off.refl⟩
  | cons a r => rw [bindTs] at e <;> first | (cases e; done) | (intros; simp_all))
theorem dgs_cons {e : Expr} {es : List Expr} {t : Tg} {ts : List Tg} (h1 : DG X e t) (h2 : DGs X es ts) (hs : (assignEach (e :: es) X.env).map (·.2) = assign e X.env :: (assignEach es X.env).map (·.2)) : DGs X (e :: es) (t :: ts) := by
  intro vs ds σ H O env env' Q R r z c
  refine PGsw (pgs_cons wG_pg wGs_pgs hs) ?_
  cases r with
  | nil => rw [bindTs] at z <;> first | (cases z; done) | (intros; simp_all)
  | cons a r =>
    rw [bindTs] at z
    obtain ⟨env1, z1, z2⟩ := bind_some' z
    refine ⟨_, _, rfl, h1 _ _ σ H O env env1 _ R a z1 fun σ1 R1 o1 => h2 _ _ σ1 H O env1 env' _ R1 r z2 fun σ2 R2 o2 => c σ2 R2 ?_⟩
    rw [Tg.slotsL]
    exact (o1.mono fun i hi => List.mem_append_left _ hi).trans (o2.mono fun i hi => List.mem_append_right _ hi)
theorem bindTs_length : ∀ {ts : List Tg} {ds : List D} {env env' : List Cell}, bindTs ts ds env = some env' → ds.length = ts.length
  | [], [], _, _, _ => rfl
  | [], _ :: _, _, _, h => by rw [bindTs] at h <;> first | (cases h; done) | (intros; simp_all)
  | _ :: _, [], _, _, h => by rw [bindTs] at h <;> first | (cases h; done) | (intros; simp_all)
  | t :: ts, d :: ds, _, _, h => by
    rw [bindTs] at h
    obtain ⟨e1, _, h2⟩ := bind_some' h
    rw [List.length_cons, List.length_cons, bindTs_length h2]
theorem dg_tup {es : List Expr} {ts : List Tg} {k : Nat} {pos : Pos} (hc : X.calm = true) (h : DGs X es ts) (hn : (assignEach es X.env).length = ts.length) (hst : (assignEach es X.env).findIdx? (·.1) = none) : DG X (.Tuple es k pos) (.tp ts) := by
  intro v d σ H O env env' Q R r e c
  refine PGw (pg_tup hc (wGs_pgs (ts := es)) hn hst) ?_
  cases d <;> first
    | (rw [bindT] at e <;> first | (cases e; done) | (intros; simp_all; done))
    | skip
  rename_i ds
  rw [bindT] at e
  obtain ⟨a, vs, rfl, h1, h2⟩ := (RepB.tup (.inl r) : ∃ a xs, v = .ref a ∧ SqT X.K H a xs ∧ RepL X.K H O xs ds)
  exact ⟨a, vs, rfl, h1, by rw [h2.length, bindTs_length e], h vs ds σ H O env env' Q R h2 e fun σ' R' o => c σ' R' (by rw [Tg.slots]; exact o)⟩
end
end PL
/-! PL h: what is walked: lists and tuples alone, in enumerate, in zip. -/
namespace PL
open PySem PySem.Spec PyProof.Rows L2

/-! ### lists and tuples alike (kd: a tuple) -/
def SqA (K : PySem.W.Frag) (H : Hp) (kd : Bool) (a : Addr) (xs : List V) : Prop := (kd = false ∧ SqL K H a xs) ∨ (kd = true ∧ SqT K H a xs)
def ItA (h : Heap) (kd : Bool) (it a : Addr) (i : Nat) : Prop := (kd = false ∧ h.IsListIter it a i) ∨ (kd = true ∧ h.IsTupleIter it a i)
theorem ItA.obj {h : Heap} {kd : Bool} {it a : Addr} {i : Nat} (x : ItA h kd it a i) : ∃ o, h.get? it = some o ∧ ∀ v, o.data ≠ .cell v := by
  rcases x with ⟨_, o, e, _, d⟩ | ⟨_, o, e, _, d⟩ <;> exact ⟨o, e, fun v z => by rw [d] at z; cases z⟩
theorem ItA.keep {h h' : Heap} {kd : Bool} {it a : Addr} {i : Nat} (x : ItA h kd it a i) (k : ∀ o, h.get? it = some o → h'.get? it = some o) : ItA h' kd it a i := by
  rcases x with ⟨e, x⟩ | ⟨e, x⟩
  · exact .inl ⟨e, x.at fun o q => k o q⟩
  · exact .inr ⟨e, x.at fun o q => k o q⟩
section
variable {X : Cx} {pins : List (Addr × Obj)} {σ : L2.St} {H : Hp} {s : Shared}
theorem SqA.inj {kd : Bool} {a : Addr} {xs ys : List V} (I : Inv X pins σ H s) (h : SqA X.K H kd a xs) (h' : SqA X.K H kd a ys) : xs = ys := by
  rcases h with ⟨e, h⟩ | ⟨e, h⟩ <;> rcases h' with ⟨e', h'⟩ | ⟨e', h'⟩
  · exact I.list_inj h h'
  · rw [e] at e'; cases e'
  · rw [e] at e'; cases e'
  · exact I.tuple_inj h h'
/-- its iterator draws the items -/
theorem SqA.draws {prog : Program} {w : World} {A : Around} {kd : Bool} {a it : Addr} {xs : List V} {i : Nat} (I : Inv X pins σ H s) (h : SqA X.K H kd a xs) (st : ItA s.heap kd it a i) (hne : a ≠ it) (hh : A.handled = none) :
    ∃ (its : List Value) (St : Nat → Heap → Prop), Vals xs its ∧ Draws prog w A it [it, a] its.toArray.size (fun i v => its.toArray[i]? = some v) St ∧ St i s.heap ∧ ∀ j h, St j h → ItA h kd it a j := by
  rcases h with ⟨e, h⟩ | ⟨e, h⟩
  · obtain ⟨its, rv, p, _⟩ := I.list h
    have st' : s.heap.IsListIter it a i := by
      rcases st with ⟨_, x⟩ | ⟨e', x⟩
      · exact x
      · rw [e] at e'; cases e'
    exact ⟨its, _, rv, Draws.list hh it a hne its.toArray, ⟨st', p.isList⟩, fun j h x => .inl ⟨e, x.1⟩⟩
  · obtain ⟨its, rv, p, _⟩ := I.tuple h
    have st' : s.heap.IsTupleIter it a i := by
      rcases st with ⟨e', x⟩ | ⟨_, x⟩
      · rw [e] at e'; cases e'
      · exact x
    exact ⟨its, _, rv, Draws.tuple hh it a hne its.toArray, ⟨st', p⟩, fun j h x => .inr ⟨e, x.1⟩⟩
def itObj (kd : Bool) (a : Addr) : Obj := { cls := .type (if kd = true then "tuple_iterator" else "list_iterator"), data := .fields #[.ref a, .int 0 0] }
/-- iter of it -/
theorem SqA.begins {kd : Bool} {a : Addr} {xs : List V} (I : Inv X pins σ H s) (h : SqA X.K H kd a xs) : ∃ P : Heap → Prop, Begins (.ref a) (itObj kd a) P ∧ P s.heap ∧ a < s.heap.objs.size := by
  rcases h with ⟨e, h⟩ | ⟨e, h⟩
  · obtain ⟨its, rv, p, _⟩ := I.list h
    subst e
    exact ⟨_, begins_list a its.toArray, p.isList, p.lt⟩
  · obtain ⟨its, rv, p, _⟩ := I.tuple h
    subst e
    exact ⟨_, begins_tuple a its.toArray, p, by obtain ⟨o, e, _⟩ := p; exact Heap.lt_size e⟩
theorem itObj.at {h : Heap} {kd : Bool} {it a : Addr} (e : h.get? it = some (itObj kd a)) : ItA h kd it a 0 := by
  cases kd
  · exact .inl ⟨rfl, _, e, rfl, rfl⟩
  · exact .inr ⟨rfl, _, e, rfl, rfl⟩
end

/-! ### enumerate -/
theorem vals_at {xs : List V} {its : List Value} {i : Nat} {u : Value} (r : Vals xs its) (h : its.toArray[i]? = some u) : ∃ x, xs[i]? = some x ∧ RelV x u := by
  have h : its[i]? = some u := by simpa using h
  have hl : i < xs.length := by
    rw [r.length]
    exact (List.getElem?_eq_some_iff.mp h).1
  obtain ⟨u', h1, h2⟩ := r.get (List.getElem?_eq_getElem hl)
  rw [h] at h1
  cases h1
  exact ⟨_, List.getElem?_eq_getElem hl, h2⟩
def IteA (K : PySem.W.Frag) (kd : Bool) (a : Addr) : It :=
  ⟨fun i H => ∃ (xs : List V) (x : V), SqA K H kd a xs ∧ xs[i]? = some x, fun i H v H' => ∃ T x, v = .ref T ∧ H T = none ∧ H' = upd H T (.tup [.int (i : Nat), x]) ∧ ∀ xs, SqA K H kd a xs → xs[i]? = some x, fun i H => ∃ xs : List V, SqA K H kd a xs ∧ xs.length = i⟩
theorem turn_enumA {P : Program} {w : World} {K : PySem.W.Frag} {elts : List Expr} {kk : Nat} {tpos : Pos} (kd : Bool) (a e it : Addr) (hei : e ≠ it) (hai : a ≠ it) (hae : e ≠ a) :
    Turn P w K (.Tuple elts kk tpos) (IteA K kd a) [e, it] e (fun i h => (∃ old, IsEnum h e it ((i : Nat) : Int) old) ∧ ItA h kd it a i) where
  mem := by simp
  obj := fun i h st b hb => by
    obtain ⟨⟨old, he⟩, hit⟩ := st
    have e' : b = e ∨ b = it := by simpa using hb
    rcases e' with z | z
    · rw [z]; exact ⟨_, he, fun v q => nomatch q⟩
    · rw [z]; exact hit.obj
  keep := fun i h h' st k => let ⟨⟨old, he⟩, hi⟩ := st; ⟨⟨old, k e (by simp) _ he⟩, hi.keep fun o q => k it (by simp) o q⟩
  item := by
    intro X hP hw hK hc i pins s σ H E I hf st hg
    subst hP hw hK
    obtain ⟨⟨old, he⟩, hit⟩ := st
    obtain ⟨xs, x, hq, hx⟩ := hg
    obtain ⟨its, St, rv, D, st, back⟩ := hq.draws (prog := X.prog) (w := X.w) (A := X.A.in1) I hit hai (I.ok.hd hc)
    have hlt : i < its.toArray.size := by
      rw [List.size_toArray, ← rv.length]
      exact (List.getElem?_eq_some_iff.mp hx).1
    have hel : e < s.heap.objs.size := Heap.lt_size he
    have hil : it < s.heap.objs.size := by obtain ⟨_, q, _⟩ := hit.obj; exact Heap.lt_size q
    refine wpAny_pyNext_enum_itemC D he st hlt hei (by simp [hei, hae]) fun u h' tk hu ho hit' hT hsz hk => ?_
    obtain ⟨x', hx', ru⟩ := vals_at rv hu
    rw [hx] at hx'
    cases hx'
    refine ⟨_, rfl, wpAny_letOwnedTupleGo_enum (s := { s with heap := h', toks := tk + 1 }) ho fun h'' he' sb => ?_⟩
    have hT2 : h''.get? s.heap.objs.size = some { cls := .type "tuple", data := .seq #[.int i tk, u] } := (sb.2 _ (Nat.ne_of_gt hel)).trans hT
    have new : ObjOk X.prog X.w (upd H s.heap.objs.size (.tup [.int (i : Nat), x])) h'' s.heap.objs.size (.tup [.int (i : Nat), x]) :=
      ⟨by show 2 ≤ sizeLine; decide, [.int i tk, u], .cons ⟨_, rfl⟩ (.cons ru .nil), ⟨_, hT2, rfl, _, rfl⟩⟩
    have I1 : Inv X pins σ (upd H s.heap.objs.size (.tup [.int (i : Nat), x])) { s with heap := h'', toks := tk + 1 } :=
      I.turnedNew (ch := [e, it]) (fun b ob hb q => (sb.2 b (fun z => hb (by simp [z]))).trans (hk b ob (fun z => hb (by simp [z])) (fun z => hb (by simp [z])) q)) hf (Nat.le_refl _) new
    refine ⟨.ref s.heap.objs.size, _, I1, rfl, ⟨_, x, rfl, I.hok.fresh (Nat.le_refl _), rfl, fun ys hy => by rw [SqA.inj I hy hq]; exact hx⟩, ⟨⟨u, ?_⟩, (back _ _ hit').keep fun o q => (sb.2 it (Ne.symm hei)).trans q⟩, fun b hb => ?_⟩
    · have e1 : ((i + 1 : Nat) : Int) = (i : Int) + 1 := by omega
      rw [e1]; exact he'
    · have hb' : b < s.heap.objs.size := by
        have e' : b = e ∨ b = it := by simpa using hb
        rcases e' with z | z
        · rw [z]; exact hel
        · rw [z]; exact hil
      rw [upd_ne (Nat.ne_of_lt hb')]
      exact (hf b hb).1
  done := by
    intro X hP hw hK hc i pins s σ H E I hf st hg
    subst hP hw hK
    obtain ⟨⟨old, he⟩, hit⟩ := st
    obtain ⟨xs, hq, hx⟩ := hg
    obtain ⟨its, St, rv, D, st, back⟩ := hq.draws (prog := X.prog) (w := X.w) (A := X.A.in1) I hit hai (I.ok.hd hc)
    obtain ⟨f0, f1, f2, f3, f4, f5⟩ := hf it (by simp)
    have e1 : i = its.toArray.size := by rw [List.size_toArray, ← rv.length]; exact hx.symm
    rw [e1] at st
    exact wpAny_pyNext_enum_endD D he st fun h' eb => ⟨rfl, I.turned (t' := s.toks) (fun b o hb q => eb b o hb q) f0 f1 f3 f4 f5⟩
  self := fun A i s Q E st h => let ⟨⟨_, he⟩, _⟩ := st; wpAny_pyIter_enum he h

set_option maxHeartbeats 1000000 in
theorem meets_enum1 {v : Value} {o : Obj} {H : Heap → Prop} (B : Begins v o H) :
    Meets (Builtin.«enumerate.__new__» ⟨[.type "enumerate", v], []⟩) (fun _ R s => H s.heap ∧
      R (.ok (.ret (.ref (s.heap.push o).objs.size))) { s with heap := (s.heap.push o).push { cls := .type "enumerate", data := .fields #[.none, .bool false, .ref s.heap.objs.size, rawInt 0, .none, .none] } }) :=
  .of_wp fun prog w A R s h => by
    obtain ⟨hp, g, d, tk, os⟩ := s; obtain ⟨h1, h⟩ := h
    have hsub := sub_enumerate
    have q1 : ∀ {A' : Around} {E : Value → Shared → Prop} {Q : Value → Shared → Prop}, Q (.ref hp.objs.size) ⟨hp.push o, g, d, tk, os⟩ → wpAny (model prog w) A' (pyIter v) Q E ⟨hp, g, d, tk, os⟩ :=
      fun q => B.iter prog w _ _ ⟨hp, g, d, tk, os⟩ _ h1 q
    wp_walk using q1
    refine wpAny_stack_any fun st => wpAny_pure ?_
    split
    · rename_i c _ _ _ _ _
      cases (c == Value.type "enumerate")
      · wp_walk using q1
        exact ⟨_, rfl, h⟩
      · wp_walk using q1
        exact ⟨_, rfl, h⟩
    · wp_walk using q1
      exact ⟨_, rfl, h⟩
theorem call_enum1 {prog : Program} {w : World} {A : Around} {E : Value → Shared → Prop} {s : Shared} {v : Value} {o : Obj} {H : Heap → Prop} {Q : Value → Shared → Prop} (B : Begins v o H) (h1 : H s.heap)
    (h : ∀ h', IsEnum h' (s.heap.objs.size + 1) s.heap.objs.size 0 .none → h'.get? s.heap.objs.size = some o → (∀ b o, s.heap.get? b = some o → h'.get? b = some o) → Q (.ref (s.heap.objs.size + 1)) { s with heap := h' }) :
    wpAny (model prog w) A (call (.type "enumerate") [v]) Q E s := by
  refine callType_new F.called_enumerate (by decide) (F.typeCall_enumerate_1 _) (F.newCall_enumerate_1 _) (fun obj => F.args_object_init_2 obj _) F.entry_enumerate_new
    (meets_enum1 B) ⟨h1, ?_⟩
  have hz : (s.heap.push o).objs.size = s.heap.objs.size + 1 := Heap.size_push ..
  show _ ∧ _
  rw [hz]
  have he : IsEnum ((s.heap.push o).push { cls := .type "enumerate", data := .fields #[.none, .bool false, .ref s.heap.objs.size, rawInt 0, .none, .none] }) (s.heap.objs.size + 1) s.heap.objs.size 0 .none := by
    have := Heap.get?_push_size (s.heap.push o) (o := { cls := .type "enumerate", data := .fields #[.none, .bool false, .ref s.heap.objs.size, rawInt 0, .none, .none] }) rfl
    rw [hz] at this; exact this
  exact ⟨⟨_, he, rfl⟩, h _ he (Heap.get?_push_of_some _ (Heap.get?_push_size _ B.free)) fun b o x => Heap.get?_push_of_some _ (Heap.get?_push_of_some _ x)⟩
def iEnumA (K : PySem.W.Frag) (ta : TA) : TI := fun σ H R => ta σ H fun vs H1 => ∃ kd a xs, vs = [.ref a] ∧ SqA K H1 kd a xs ∧ R (IteA K kd a) H1
theorem pi_enumA {X : Cx} {e : Expr} {ta : TA} {p pos tpos : Pos} {elts : List Expr} {kk : Nat} (hg : Gl X "enumerate") (hm : X.mg "enumerate" = none) (ha : PA X [e] ta) (hs : starEach [e] X.env = [(false, eval e X.env)]) :
    PI X (.Tuple elts kk tpos) (.Call (.Name "enumerate" p) [e] [] pos) (iEnumA X.K ta) := by
  refine ⟨fun pins s σ H R I h => ?_⟩
  refine Call_ (ld_blt I hg hm boot_enumerate (PyProof.Rows.callWith_type1 (thn (ha.run pos pins s σ H _ I h) fun us s1 ⟨vs, H1, I1, r1, q1⟩ => ?_) hs rfl))
  obtain ⟨kd, a, xs, ex, hq, q⟩ := q1
  subst ex
  cases r1 with
  | cons r rr =>
    cases rr
    cases r
    obtain ⟨P, B, p1, lt⟩ := hq.begins I1
    refine call_enum1 B p1 fun h' he hit hk => wpAny_pyIter_enum he ?_
    have I2 : Inv X pins σ H1 { s1 with heap := h' } := I1.kept (t' := s1.toks) hk
    refine ⟨s1.heap.objs.size + 1, [s1.heap.objs.size + 1, s1.heap.objs.size], _, _, H1, rfl, I2, turn_enumA kd a (s1.heap.objs.size + 1) s1.heap.objs.size (Nat.succ_ne_self _) (Nat.ne_of_lt lt) (Nat.ne_of_gt (Nat.lt_succ_of_lt lt)), ⟨⟨.none, he⟩, itObj.at hit⟩, fun b hb => ?_, q⟩
    have e' : b = s1.heap.objs.size + 1 ∨ b = s1.heap.objs.size := by simpa using hb
    have hle : s1.heap.objs.size ≤ b := by
      rcases e' with z | z
      · rw [z]; exact Nat.le_add_right _ _
      · rw [z]; exact Nat.le_refl _
    exact I1.fpOk hle (I1.hok.fresh hle)

/-! ### zip -/
def ItzA (K : PySem.W.Frag) (kd : Bool) (a : Addr) (kd' : Bool) (b : Addr) : It :=
  ⟨fun i H => ∃ (xs ys : List V) (x y : V), SqA K H kd a xs ∧ SqA K H kd' b ys ∧ xs[i]? = some x ∧ ys[i]? = some y,
    fun i H v H' => ∃ T x y, v = .ref T ∧ H T = none ∧ H' = upd H T (.tup [x, y]) ∧ (∀ xs, SqA K H kd a xs → xs[i]? = some x) ∧ ∀ ys, SqA K H kd' b ys → ys[i]? = some y,
    fun i H => ∃ xs ys : List V, SqA K H kd a xs ∧ SqA K H kd' b ys ∧ i = min xs.length ys.length⟩
theorem turn_zipAA {P : Program} {w : World} {K : PySem.W.Frag} {elts : List Expr} {kk : Nat} {tpos : Pos} {kd kd' : Bool} {a b z TI TO i1 i2 : Addr} (S : ZipSep2 z TI TO i1 i2 [i1, a] [i2, b]) (n1 : a ≠ i1) (n2 : b ≠ i2) :
    Turn P w K (.Tuple elts kk tpos) (ItzA K kd a kd' b) [z, TI, TO, i1, i2] z (fun i h => IsZip h z TI TO .none ∧ IsTupOf2 h TI (.ref i1) (.ref i2) ∧ (∃ x y, IsTupOf2 h TO x y) ∧ ItA h kd i1 a i ∧ ItA h kd' i2 b i) where
  mem := by simp
  obj := fun i h st c hc => by
    obtain ⟨hz, hTI, ⟨x, y, hTO⟩, h1, h2⟩ := st
    have e' : c = z ∨ c = TI ∨ c = TO ∨ c = i1 ∨ c = i2 := by simpa using hc
    rcases e' with q | q | q | q | q
    · rw [q]; exact ⟨_, hz, fun v q => nomatch q⟩
    · rw [q]; exact ⟨_, hTI, fun v q => nomatch q⟩
    · rw [q]; exact ⟨_, hTO, fun v q => nomatch q⟩
    · rw [q]; exact h1.obj
    · rw [q]; exact h2.obj
  keep := fun i h h' st k => by
    obtain ⟨hz, hTI, ⟨x, y, hTO⟩, h1, h2⟩ := st
    exact ⟨k z (by simp) _ hz, k TI (by simp) _ hTI, ⟨x, y, k TO (by simp) _ hTO⟩, h1.keep fun o q => k i1 (by simp) o q, h2.keep fun o q => k i2 (by simp) o q⟩
  item := by
    intro X hP hw hK hc i pins s σ H E I hf st hg
    subst hP hw hK
    obtain ⟨hz, hTI, ⟨x0, y0, hTO⟩, h1, h2⟩ := st
    obtain ⟨xs, ys, x, y, hqx, hqy, hx, hy⟩ := hg
    obtain ⟨its, St, rv, D, st, back⟩ := hqx.draws (prog := X.prog) (w := X.w) (A := X.A.in1) I h1 n1 (I.ok.hd hc)
    obtain ⟨its2, St2, rv2, D2, st2, back2⟩ := hqy.draws (prog := X.prog) (w := X.w) (A := X.A.in1) I h2 n2 (I.ok.hd hc)
    have hlt : i < its.toArray.size := by
      rw [List.size_toArray, ← rv.length]
      exact (List.getElem?_eq_some_iff.mp hx).1
    have hlt2 : i < its2.toArray.size := by
      rw [List.size_toArray, ← rv2.length]
      exact (List.getElem?_eq_some_iff.mp hy).1
    have hzl : z < s.heap.objs.size := Heap.lt_size hz
    refine wpAny_pyNext_zipD2_item S D D2 hz hTI hTO st st2 hlt hlt2 fun u u2 h' tk hu hu2 z' TO' h1' h2' hT hsz hk => ?_
    obtain ⟨x', hx', ru⟩ := vals_at rv hu
    rw [hx] at hx'
    cases hx'
    obtain ⟨y', hy', ru2⟩ := vals_at rv2 hu2
    rw [hy] at hy'
    cases hy'
    refine ⟨_, rfl, wpAny_letOwnedTupleGo_zip (s := { s with heap := h', toks := tk }) z' fun h'' z'' sb => ?_⟩
    have hT2 : h''.get? s.heap.objs.size = some { cls := .type "tuple", data := .seq #[u, u2] } := (sb.2 _ (Nat.ne_of_gt hzl)).trans hT
    have new : ObjOk X.prog X.w (upd H s.heap.objs.size (.tup [x, y])) h'' s.heap.objs.size (.tup [x, y]) :=
      ⟨by show 2 ≤ sizeLine; decide, [u, u2], .cons ru (.cons ru2 .nil), ⟨_, hT2, rfl, _, rfl⟩⟩
    have I1 : Inv X pins σ (upd H s.heap.objs.size (.tup [x, y])) { s with heap := h'', toks := tk } :=
      I.turnedNew (ch := [z, TI, TO, i1, i2]) (fun c o hb q => (sb.2 c (fun q' => hb (by simp [q']))).trans (hk c o (fun q' => hb (by simp [q'])) (fun q' => hb (by simp [q'])) (fun q' => hb (by simp [q'])) (fun q' => hb (by simp [q'])) q)) hf (Nat.le_refl _) new
    refine ⟨.ref s.heap.objs.size, _, I1, rfl, ⟨_, x, y, rfl, I.hok.fresh (Nat.le_refl _), rfl, fun l hl => by rw [SqA.inj I hl hqx]; exact hx, fun l hl => by rw [SqA.inj I hl hqy]; exact hy⟩, ⟨z'', ?_, ⟨u, u2, ?_⟩, ?_, ?_⟩, fun c hcm => ?_⟩
    · exact (sb.2 _ S.TIz).trans (hk _ _ S.TIz S.TITO S.TIi1 S.TIi2 hTI)
    · exact (sb.2 _ S.TOz).trans TO'
    · exact (back _ _ h1').keep fun o q => (sb.2 _ (Ne.symm S.zi1)).trans q
    · exact (back2 _ _ h2').keep fun o q => (sb.2 _ (Ne.symm S.zi2)).trans q
    · have hlt : c < s.heap.objs.size := by
        have e' : c = z ∨ c = TI ∨ c = TO ∨ c = i1 ∨ c = i2 := by simpa using hcm
        rcases e' with q | q | q | q | q
        · rw [q]; exact hzl
        · rw [q]; exact Heap.lt_size hTI
        · rw [q]; exact Heap.lt_size hTO
        · rw [q]; obtain ⟨_, e1, _⟩ := h1.obj; exact Heap.lt_size e1
        · rw [q]; obtain ⟨_, e2, _⟩ := h2.obj; exact Heap.lt_size e2
      rw [upd_ne (Nat.ne_of_lt hlt)]
      exact (hf c hcm).1
  done := by
    intro X hP hw hK hc i pins s σ H E I hf st hg
    subst hP hw hK
    obtain ⟨hz, hTI, ⟨x0, y0, hTO⟩, h1, h2⟩ := st
    obtain ⟨xs, ys, hqx, hqy, hend⟩ := hg
    obtain ⟨its, St, rv, D, st, back⟩ := hqx.draws (prog := X.prog) (w := X.w) (A := X.A.in1) I h1 n1 (I.ok.hd hc)
    obtain ⟨its2, St2, rv2, D2, st2, back2⟩ := hqy.draws (prog := X.prog) (w := X.w) (A := X.A.in1) I h2 n2 (I.ok.hd hc)
    have l1 := rv.length
    have l2 := rv2.length
    refine wpAny_pyNext_zipD2_end S D D2 hz hTI hTO st st2 (by rw [List.size_toArray]; omega) (by rw [List.size_toArray]; omega) (by rw [List.size_toArray, List.size_toArray]; omega) fun h' tk hk => ⟨rfl, I.turnedL (ch := [z, TI, TO, i1, i2]) (fun c o hb q =>
      hk c o (fun q' => hb (by simp [q'])) (fun q' => hb (by simp [q'])) (fun q' => hb (by simp [q'])) (fun q' => hb (by simp [q'])) q) hf⟩
  self := fun A i s Q E st h => wpAny_pyIter_zip st.1 h
def iZipAA (K : PySem.W.Frag) (ta : TA) : TI := fun σ H R => ta σ H fun vs H1 => ∃ kd a xs kd' b ys, vs = [.ref a, .ref b] ∧ SqA K H1 kd a xs ∧ SqA K H1 kd' b ys ∧ R (ItzA K kd a kd' b) H1
theorem pi_zipAA {X : Cx} {e e2 : Expr} {ta : TA} {p pos tpos : Pos} {elts : List Expr} {kk : Nat} (hg : Gl X "zip") (hm : X.mg "zip" = none) (ha : PA X [e, e2] ta)
    (hs : starEach [e, e2] X.env = (false, eval e X.env) :: starEach [e2] X.env) (hpl : (backTo pos (starEach [e2] X.env)).any (·.1) = false) :
    PI X (.Tuple elts kk tpos) (.Call (.Name "zip" p) [e, e2] [] pos) (iZipAA X.K ta) := by
  refine ⟨fun pins s σ H R I h => ?_⟩
  refine Call_ (ld_blt I hg hm PyProof.Rows.boot_zip (PyProof.Rows.callWith_type1 (thn (ha.run pos pins s σ H _ I h) fun us s1 ⟨vs, H1, I1, r1, q1⟩ => ?_) hs hpl))
  obtain ⟨kd, a, xs, kd', b, ys, ex, hqx, hqy, q⟩ := q1
  subst ex
  cases r1 with
  | cons r rr =>
    cases rr with
    | cons r' rr =>
      cases rr
      cases r
      cases r'
      obtain ⟨P1, B1, p1, la⟩ := hqx.begins I1
      obtain ⟨P2, B2, p2, lb⟩ := hqy.begins I1
      refine zip_begins2 B1 B2 p1 p2 fun h' hz hTI hTO h1 h2 hsz hk => wpAny_pyIter_zip hz ?_
      have I2 : Inv X pins σ H1 { s1 with heap := h' } := I1.kept (t' := s1.toks) hk
      refine ⟨s1.heap.objs.size + 4, [s1.heap.objs.size + 4, s1.heap.objs.size + 2, s1.heap.objs.size + 3, s1.heap.objs.size, s1.heap.objs.size + 1], _, _, H1, rfl, I2,
        turn_zipAA (kd := kd) (kd' := kd') (a := a) (b := b) (zip_sep2 (fp1 := [a]) (fp2 := [b]) (fun c hc => by rw [List.mem_singleton.mp hc]; exact la) (fun c hc => by rw [List.mem_singleton.mp hc]; exact lb)) (Nat.ne_of_lt la) (Nat.ne_of_lt (Nat.lt_succ_of_lt lb)),
        ⟨hz, hTI, ⟨_, _, hTO⟩, itObj.at h1, itObj.at h2⟩, fun c hcm => ?_, q⟩
      have e' : c = s1.heap.objs.size + 4 ∨ c = s1.heap.objs.size + 2 ∨ c = s1.heap.objs.size + 3 ∨ c = s1.heap.objs.size ∨ c = s1.heap.objs.size + 1 := by simpa using hcm
      have hle : s1.heap.objs.size ≤ c := by
        rcases e' with z | z | z | z | z
        · rw [z]; exact Nat.le_add_right _ _
        · rw [z]; exact Nat.le_add_right _ _
        · rw [z]; exact Nat.le_add_right _ _
        · rw [z]; exact Nat.le_refl _
        · rw [z]; exact Nat.le_add_right _ _
      exact I1.fpOk hle (I1.hok.fresh hle)
end PL
/-! PL i: what for and comprehensions walk, on data. -/
namespace PL
open PySem PySem.Spec PyProof.Rows L2

/-! ### strict or borrowed -/
def RepX (b : Bool) (K : PySem.W.Frag) (H : Hp) (O : Addr → Prop) (v : V) (d : D) : Prop := if b = true then Rep K H O v d else RepB K H O v d
/-- what must not change while it is walked -/
def Eo (b : Bool) (O : Addr → Prop) : Addr → Prop := fun a => b = true ∧ O a
def DX (b : Bool) (X : Cx) (e : Expr) (f : EvF) : Prop := ∀ (σ : L2.St) (H : Hp) (O : Addr → Prop) (env : List Cell) (d : D) (Q : VK), OkO H O → RelC X.K H O σ env → f env = some d →
  (∀ v H', Same H H' → RepX b X.K H' O v d → Q v H') → wE X e σ H Q
inductive RepXs (b : Bool) (K : PySem.W.Frag) (H : Hp) (O : Addr → Prop) : List V → List D → Prop
  | nil : RepXs b K H O [] []
  | cons {v : V} {vs : List V} {d : D} {ds : List D} : RepX b K H O v d → RepXs b K H O vs ds → RepXs b K H O (v :: vs) (d :: ds)
def DXs (b : Bool) (X : Cx) (es : List Expr) (f : List Cell → Option (List D)) : Prop := ∀ (σ : L2.St) (H : Hp) (O : Addr → Prop) (env : List Cell) (ds : List D) (Q : List V → Hp → Prop), OkO H O → RelC X.K H O σ env → f env = some ds →
  (∀ vs H', Same H H' → RepXs b X.K H' O vs ds → Q vs H') → wA X es σ H Q
section
variable {X : Cx} {e : Expr} {f : EvF} {b : Bool}
theorem DE.dx (h : DE X e f) : DX true X e f := fun σ H O env d Q ok R e c => h σ H O env d Q ok R e fun v H' s r => c v H' s (by rw [RepX, if_pos rfl]; exact r)
theorem DB.dx (h : DB X e f) : DX false X e f := fun σ H O env d Q ok R e c => h σ H O env d Q ok R e fun v H' s r => c v H' s (by rw [RepX, if_neg Bool.false_ne_true]; exact r)
theorem RepX.same {K : PySem.W.Frag} {H H' : Hp} {O : Addr → Prop} {v : V} {d : D} (h : RepX b K H O v d) (k : Same H H') : RepX b K H' O v d := by
  unfold RepX at h ⊢
  split at h
  · rename_i q; rw [if_pos q]; exact h.same k
  · rename_i q; rw [if_neg q]; exact h.same k
theorem dxs_nil : DXs b X [] (fun _ => some []) := fun σ H O env ds Q ok R e c => PAw pa_nil (by cases e; exact c _ _ (Same.refl _) .nil)
theorem dxs_cons {es : List Expr} {g : List Cell → Option (List D)} (ha : DX b X e f) (hr : DXs b X es g) (hs : starEach (e :: es) X.env = (false, eval e X.env) :: starEach es X.env) : DXs b X (e :: es) (consL f g) := by
  intro σ H O env ds Q ok R z c
  obtain ⟨x, e1, z⟩ := bind_some' z
  obtain ⟨xs, e2, z⟩ := bind_some' z
  cases z
  refine PAw (pa_cons wE_pe wA_pa hs) (ha σ H O env x _ ok R e1 fun v H1 s1 r1 => hr σ H1 O env xs _ (ok.same s1) (R.same s1) e2 fun vs H2 s2 r2 => c _ _ (s1.trans s2) (.cons (r1.same s2) r2))
end

/-! ### what an iterator yields -/
def wI (X : Cx) (tg iter : Expr) : TI := fun σ H R => ∀ (pins : List (Addr × Obj)) (s : Shared), Inv X pins σ H s →
  wpAny (model X.prog X.w) X.A (eval iter X.env) (fun v s1 => wpAny (model X.prog X.w) X.A (pyIter v) (PIE X pins σ tg R) X.xe s1) X.xe s
theorem wI_pi {X : Cx} {tg iter : Expr} : PI X tg iter (wI X tg iter) := ⟨fun pins s σ H R I h => h pins s I⟩
theorem PIw {X : Cx} {tg iter : Expr} {t : TI} (h : PI X tg iter t) {σ : L2.St} {H : Hp} {R : It → Hp → Prop} (q : t σ H R) : wI X tg iter σ H R := fun pins s I => h.run pins s σ H R I q
structure ItOk (K : PySem.W.Frag) (J : It) (E W : Addr → Prop) (ds : List D) (H1 : Hp) : Prop where
  go : ∀ i H2, Kp E H1 H2 → i < ds.length → J.go i H2
  stop : ∀ H2, Kp E H1 H2 → J.stop ds.length H2
  yld : ∀ i H2 x H3 d, Kp E H1 H2 → J.yld i H2 x H3 → ds[i]? = some d → Same H2 H3 ∧ ∀ O2 : Addr → Prop, (∀ a, O2 a → W a ∨ H1 a = none) → OkO H2 O2 → Rep K H3 O2 x d
def DI (b : Bool) (X : Cx) (tg iter : Expr) (fs : List Cell → Option (List D)) : Prop := ∀ (σ : L2.St) (H : Hp) (O : Addr → Prop) (env : List Cell) (ds : List D) (R : It → Hp → Prop), OkO H O → RelC X.K H O σ env → fs env = some ds →
  (∀ J H1, Same H H1 → ItOk X.K J (Eo b O) O ds H1 → R J H1) → wI X tg iter σ H R
/-- the steps from H1 to H2, and what O2 leaves out -/
theorem Rep.go {K : PySem.W.Frag} {H1 H2 : Hp} {E W O2 : Addr → Prop} {v : V} {d : D} (h : Rep K H1 W v d) (k : Kp E H1 H2) (ew : ∀ a, E a → W a) (m : ∀ a, O2 a → W a ∨ H1 a = none) : Rep K H2 O2 v d := by
  have h1 : Rep K H1 (fun a => W a ∨ O2 a) v d := h.mono fun a z => by
    rcases z with z | z
    · exact .inl z
    · exact m a z
  have h2 : Rep K H2 (fun a => W a ∨ O2 a) v d := h1.kp fun a o e n => k a o e fun z => n (.inl (ew a z))
  exact h2.less fun a z => .inr z
theorem Kp.trans {E : Addr → Prop} {H1 H2 H3 : Hp} (a : Kp E H1 H2) (b : Same H2 H3) : Kp E H1 H3 := fun x o e n => b x o (a x o e n)
theorem eo_sub {b : Bool} {O : Addr → Prop} : ∀ a, Eo b O a → O a := fun _ h => h.2

@[simp] def seqD : D → Option (List D)
  | .l xs => some xs
  | .t xs => some xs
  | .z xs => some xs
  | _ => none
theorem SqA.kp_l {K : PySem.W.Frag} {H H' : Hp} {E : Addr → Prop} {a : Addr} {xs : List V} (h : H a = some (.lst xs)) (n : ¬ E a) (k : Kp E H H') : SqA K H' false a xs := .inl ⟨rfl, SqL.of (k _ _ h n)⟩
/-- a list or tuple, and that it stays -/
theorem RepX.seq {b : Bool} {K : PySem.W.Frag} {H : Hp} {O : Addr → Prop} {v : V} {d : D} {ds : List D} (h : RepX b K H O v d) (e : seqD d = some ds) :
    ∃ kd a xs, v = .ref a ∧ (∀ H2, Kp (Eo b O) H H2 → SqA K H2 kd a xs) ∧ RepL K H O xs ds := by
  have hB : RepB K H O v d := by
    unfold RepX at h
    split at h
    · exact .inl h
    · exact h
  have rep : ∀ {v : V} {d : D}, Rep K H O v d → seqD d = some ds → ∃ kd a xs, v = .ref a ∧ (∀ H2, Kp (Eo b O) H H2 → SqA K H2 kd a xs) ∧ RepL K H O xs ds := by
    intro v d h e
    cases h with
    | l ha n r => cases e; exact ⟨false, _, _, rfl, fun H2 k => .inl ⟨rfl, SqL.of (k _ _ ha fun z => n z.2)⟩, r⟩
    | z ha n r => cases e; exact ⟨false, _, _, rfl, fun H2 k => .inl ⟨rfl, .inl (rd_kp k ha fun z => n z.2)⟩, r⟩
    | zk ha r => cases e; exact ⟨false, _, _, rfl, fun H2 k => .inl ⟨rfl, ha H2⟩, r⟩
    | t ha n r => cases e; exact ⟨true, _, _, rfl, fun H2 k => .inr ⟨rfl, .inl (rd_kp k ha fun z => n z.2)⟩, r⟩
    | tk ha r => cases e; exact ⟨true, _, _, rfl, fun H2 k => .inr ⟨rfl, ha H2⟩, r⟩
    | _ => cases e
  cases b with
  | true =>
    rw [RepX, if_pos rfl] at h
    exact rep h e
  | false =>
    rw [RepX, if_neg Bool.false_ne_true] at h
    rcases h with h | ⟨a, e1, r0⟩
    · exact rep h e
    · cases d <;> first
        | exact r0.elim
        | (cases e; done)
        | skip
      obtain ⟨xs, e3, r⟩ := r0
      cases e
      exact ⟨false, a, xs, e1, fun H2 k => .inl ⟨rfl, SqL.of (k _ _ e3 fun z => Bool.false_ne_true z.1)⟩, r⟩
def ItS (K : PySem.W.Frag) (kd : Bool) (a : Addr) : It := if kd = true then Itt K a else Itl K a
theorem itS_ok {K : PySem.W.Frag} {E W : Addr → Prop} {kd : Bool} {a : Addr} {xs : List V} {ds : List D} {H1 : Hp} (ew : ∀ a, E a → W a) (st : ∀ H2, Kp E H1 H2 → SqA K H2 kd a xs) (r : RepL K H1 W xs ds) : ItOk K (ItS K kd a) E W ds H1 := by
  have hl := r.length
  have q0 := st H1 Kp.refl
  cases kd with
  | false =>
    have st' : ∀ H2, Kp E H1 H2 → SqL K H2 a xs := fun H2 k => by
      rcases st H2 k with ⟨_, q⟩ | ⟨e, _⟩
      · exact q
      · cases e
    refine ⟨fun i H2 k hi => ?_, fun H2 k => ?_, fun i H2 x H3 d k y e => ?_⟩
    · show ∃ (xs : List V) (x : V), SqL K H2 a xs ∧ xs[i]? = some x
      exact ⟨xs, xs[i], st' H2 k, List.getElem?_eq_getElem (by omega)⟩
    · show ∃ xs : List V, SqL K H2 a xs ∧ xs.length ≤ ds.length
      exact ⟨xs, st' H2 k, by omega⟩
    · obtain ⟨e1, y⟩ := y
      subst e1
      obtain ⟨v, h1, h2⟩ := r.get e
      have h3 := y xs (st' H3 k)
      rw [h1] at h3
      cases h3
      exact ⟨Same.refl _, fun O2 m _ => h2.go k ew m⟩
  | true =>
    have st' : ∀ H2, Kp E H1 H2 → SqT K H2 a xs := fun H2 k => by
      rcases st H2 k with ⟨e, _⟩ | ⟨_, q⟩
      · cases e
      · exact q
    refine ⟨fun i H2 k hi => ?_, fun H2 k => ?_, fun i H2 x H3 d k y e => ?_⟩
    · show ∃ (xs : List V) (x : V), SqT K H2 a xs ∧ xs[i]? = some x
      exact ⟨xs, xs[i], st' H2 k, List.getElem?_eq_getElem (by omega)⟩
    · show ∃ xs : List V, SqT K H2 a xs ∧ xs.length ≤ ds.length
      exact ⟨xs, st' H2 k, by omega⟩
    · obtain ⟨e1, y⟩ := y
      subst e1
      obtain ⟨v, h1, h2⟩ := r.get e
      have h3 := y xs (st' H3 k)
      rw [h1] at h3
      cases h3
      exact ⟨Same.refl _, fun O2 m _ => h2.go k ew m⟩
theorem pieS {X : Cx} {tg : Expr} {pins : List (Addr × Obj)} {σ : L2.St} {H : Hp} {s : Shared} {R : It → Hp → Prop} {kd : Bool} {a : Addr} {xs : List V} (I : Inv X pins σ H s) (hq : SqA X.K H kd a xs) (q : R (ItS X.K kd a) H) :
    wpAny (model X.prog X.w) X.A (pyIter (.ref a)) (PIE X pins σ tg R) X.xe s := by
  have fin : ∀ b ∈ [s.heap.objs.size], FpOk X pins H b := fun b hb => by
    have e : b = s.heap.objs.size := by simpa using hb
    subst e
    exact I.fpOk (Nat.le_refl _) (I.hok.fresh (Nat.le_refl _))
  rcases hq with ⟨e, hq⟩ | ⟨e, hq⟩
  · subst e
    obtain ⟨its, rv, p, hz⟩ := I.list hq
    refine wpAny_pyIter_list p.isList ?_
    exact ⟨s.heap.objs.size, [s.heap.objs.size], _, _, H, rfl, I.kept (t' := s.toks) fun b o e => Heap.get?_push_of_some _ e, turn_list a _, ⟨_, Heap.get?_push_size _ rfl, rfl, rfl⟩, fin, q⟩
  · subst e
    obtain ⟨its, rv, p, hz⟩ := I.tuple hq
    refine wpAny_pyIter_tuple (show s.heap.IsTuple a its.toArray from p) ?_
    exact ⟨s.heap.objs.size, [s.heap.objs.size], _, _, H, rfl, I.kept (t' := s.toks) fun b o e => Heap.get?_push_of_some _ e, turn_tuple a _, ⟨_, Heap.get?_push_size _ rfl, rfl, rfl⟩, fin, q⟩

/-! ### ranges -/
def rngD (lo : Int) (n : Nat) : List D := (List.range n).map fun i => .i (lo + (i : Nat))
theorem rngD_length (lo : Int) (n : Nat) : (rngD lo n).length = n := by unfold rngD; simp
theorem rngD_get {lo : Int} {n i : Nat} {d : D} (h : (rngD lo n)[i]? = some d) : d = .i (lo + (i : Nat)) ∧ i < n := by
  unfold rngD at h
  rw [List.getElem?_map] at h
  obtain ⟨a, h1, h2⟩ := map_some' h
  obtain ⟨h3, h4⟩ := List.getElem?_eq_some_iff.mp h1
  rw [List.length_range] at h3
  rw [List.getElem_range] at h4
  subst h4 h2
  exact ⟨rfl, h3⟩
theorem itr_ok {K : PySem.W.Frag} {E W : Addr → Prop} {lo : Int} {n : Nat} {H1 : Hp} : ItOk K (Itr lo n) E W (rngD lo n) H1 := by
  refine ⟨fun i H2 k hi => ?_, fun H2 k => ?_, fun i H2 x H3 d k y e => ?_⟩
  · rw [rngD_length] at hi; exact hi
  · rw [rngD_length]; exact Nat.le_refl _
  · obtain ⟨e1, y⟩ := y
    subst e1 y
    obtain ⟨e2, _⟩ := rngD_get e
    subst e2
    exact ⟨Same.refl _, fun O2 m _ => .i _⟩
def dwnD (lo : Int) (n : Nat) : List D := (List.range n).map fun i => .i (lo - (i : Nat))
theorem dwn_ok {K : PySem.W.Frag} {E W : Addr → Prop} {lo : Int} {n : Nat} {H1 : Hp} : ItOk K (Itc lo (-1) n) E W (dwnD lo n) H1 := by
  have hl : (dwnD lo n).length = n := by unfold dwnD; simp
  refine ⟨fun i H2 k hi => ?_, fun H2 k => ?_, fun i H2 x H3 d k y e => ?_⟩
  · rw [hl] at hi; exact hi
  · rw [hl]; exact Nat.le_refl _
  · obtain ⟨e1, y⟩ := y
    subst e1 y
    have e2 : d = .i (lo - (i : Nat)) := by
      unfold dwnD at e
      rw [List.getElem?_map] at e
      obtain ⟨a, h1, h2⟩ := map_some' e
      obtain ⟨h3, h4⟩ := List.getElem?_eq_some_iff.mp h1
      rw [List.getElem_range] at h4
      subst h4 h2
      rfl
    have e3 : lo + (i : Nat) * (-1) = lo - (i : Nat) := by omega
    subst e2
    rw [e3]
    exact ⟨Same.refl _, fun O2 m _ => .i _⟩
def smI (i : Int) : Bool := absLe i 4611686018427387903
theorem smI_ok {i : Int} (h : smI i = true) : -(2 ^ 62) ≤ i ∧ i < 2 ^ 62 := by
  have := absLe_ok h
  omega
@[simp] def rng1 : D → Option (List D)
  | .i j => if smI j = true then some (rngD 0 j.toNat) else none
  | _ => none
@[simp] def rng2 : D → D → Option (List D)
  | .i i, .i j => if (smI i && smI j) = true then some (rngD i (j - i).toNat) else none
  | _, _ => none
@[simp] def rng3 : D → D → D → Option (List D)
  | .i i, .i j, .i c => if (smI i && smI j && decide (c = -1)) = true then some (dwnD i (i - j).toNat) else none
  | _, _, _ => none
/-- walked: a list, a tuple, a range object -/
@[simp] def walkD : D → Option (List D)
  | .r lo hi => if (smI lo && smI hi) = true then some (rngD lo (hi - lo).toNat) else none
  | d => seqD d
@[simp] def enumD : Nat → List D → List D
  | _, [] => []
  | n, d :: r => .t [.i n, d] :: enumD (n + 1) r
@[simp] def zipD : List D → List D → List D
  | a :: r, b :: q => .t [a, b] :: zipD r q
  | _, _ => []
theorem enumD_length : ∀ (r : List D) (n : Nat), (enumD n r).length = r.length
  | [], _ => rfl
  | _ :: r, n => by rw [enumD, List.length_cons, List.length_cons, enumD_length r]
theorem enumD_get : ∀ {r : List D} {n i : Nat} {d : D}, (enumD n r)[i]? = some d → ∃ x, r[i]? = some x ∧ d = .t [.i ((n + i : Nat) : Int), x]
  | [], _, _, _, h => by cases h
  | a :: r, n, 0, d, h => by
    rw [enumD, List.getElem?_cons_zero] at h
    cases h
    exact ⟨a, rfl, rfl⟩
  | a :: r, n, i + 1, d, h => by
    rw [enumD, List.getElem?_cons_succ] at h
    obtain ⟨x, h1, h2⟩ := enumD_get h
    refine ⟨x, by rw [List.getElem?_cons_succ]; exact h1, ?_⟩
    rw [h2, show n + 1 + i = n + (i + 1) by omega]
theorem zipD_length : ∀ (r q : List D), (zipD r q).length = min r.length q.length
  | [], _ => by simp [zipD]
  | _ :: _, [] => by simp [zipD]
  | _ :: r, _ :: q => by rw [zipD, List.length_cons, List.length_cons, List.length_cons, zipD_length r q]; omega
theorem zipD_get : ∀ {r q : List D} {i : Nat} {d : D}, (zipD r q)[i]? = some d → ∃ x y, r[i]? = some x ∧ q[i]? = some y ∧ d = .t [x, y]
  | [], _, _, _, h => by simp [zipD] at h
  | _ :: _, [], _, _, h => by simp [zipD] at h
  | a :: r, b :: q, 0, d, h => by
    rw [zipD, List.getElem?_cons_zero] at h
    cases h
    exact ⟨a, b, rfl, rfl, rfl⟩
  | a :: r, b :: q, i + 1, d, h => by
    rw [zipD, List.getElem?_cons_succ] at h
    obtain ⟨x, y, h1, h2, h3⟩ := zipD_get h
    exact ⟨x, y, h1, h2, h3⟩
section
variable {X : Cx} {tg e e2 : Expr} {f : EvF} {fs : List Cell → Option (List D)} {b : Bool} {p pos : Pos} {es : List Expr}
theorem di_of (h : DX b X e f) : DI b X tg e (fun env => (f env).bind walkD) := by
  intro σ H O env ds R ok Rc z c
  obtain ⟨d, e1, e2⟩ := bind_some' z
  intro pins s I
  refine thn (h σ H O env d (fun v H1 => Same H H1 ∧ RepX b X.K H1 O v d) ok Rc e1 (fun v H1 k r => ⟨k, r⟩) pins s I) fun u s1 ⟨v, H1, I1, rv, k, r⟩ => ?_
  cases hd : seqD d with
  | some xs =>
    have e3 : xs = ds := by
      cases d <;> first
        | (cases hd; done)
        | (cases hd; cases e2; rfl)
    subst e3
    obtain ⟨kd, a, vs, rfl, st, rl⟩ := r.seq hd
    cases rv
    exact pieS I1 (st H1 Kp.refl) (c _ _ k (itS_ok eo_sub st rl))
  | none =>
    cases d <;> first
      | (cases e2; done)
      | (cases hd; done)
      | skip
    rename_i lo hi _
    have e2 : (if (smI lo && smI hi) = true then some (rngD lo (hi - lo).toNat) else none) = some ds := e2
    split at e2
    · rename_i hg
      cases e2
      rw [Bool.and_eq_true] at hg
      obtain ⟨g1, g2⟩ := smI_ok hg.1
      obtain ⟨g3, g4⟩ := smI_ok hg.2
      have hB : RepB X.K H1 O v (.r lo hi) := by
        unfold RepX at r
        split at r
        · exact .inl r
        · exact r
      obtain ⟨a, rfl, ha⟩ := hB.rng
      cases rv
      obtain ⟨t, u, w, e0⟩ := I1.hok _ _ ha
      refine wpAny_pyIter_range (r := a) (a := lo) (b := hi) (c := 1) (t := t) (u := u) (v := w) e0 (small_one g1 g2 g3 g4) ?_
      refine pi_one (tk := s1.toks) I1 _ (turn_range _ lo (hi - lo).toNat) ?_ (c _ _ k itr_ok)
      have e1 : lo + ((0 : Nat) : Int) * 1 = lo := by simp
      have e2 : (((hi - lo).toNat : Nat) : Int) - ((0 : Nat) : Int) = Builtin.Range.rangeSize lo hi 1 := by rw [rangeSize_one]; split <;> omega
      show IsRangeIter _ _ (lo + ((0 : Nat) : Int) * 1) ((((hi - lo).toNat : Nat) : Int) - ((0 : Nat) : Int)) 1
      rw [e1, e2]
      exact Heap.get?_push_size _ rfl
    · cases e2
theorem starE1 (h : starEach [e] X.env = (false, eval e X.env) :: starEach [] X.env) : starEach [e] X.env = [(false, eval e X.env)] := by rw [h]; rfl
theorem di_range1 (hg : Gl X "range") (hm : X.mg "range" = none) (ha : DB X e f) (hs : starEach [e] X.env = [(false, eval e X.env)]) : DI b X tg (.Call (.Name "range" p) [e] [] pos) (fun env => (f env).bind rng1) := by
  intro σ H O env ds R ok Rc z c
  obtain ⟨x, e1, e2⟩ := bind_some' z
  refine PIw (pi_range1 hg hm (pa_cons wE_pe pa_nil (by rw [hs]; rfl)) hs) (ha σ H O env x _ ok Rc e1 fun v H1 k r => ?_)
  unfold rng1 at e2
  split at e2
  · split at e2
    · rename_i j hj
      cases e2
      obtain ⟨g1, g2⟩ := smI_ok hj
      obtain rfl := r.int
      exact ⟨j, rfl, g1, g2, c _ _ k itr_ok⟩
    · cases e2
  · cases e2
theorem di_range2 {a a2 : Expr} {g : EvF} (hg : Gl X "range") (hm : X.mg "range" = none) (ha : DB X a f) (hb : DB X a2 g) (hs : starEach [a, a2] X.env = (false, eval a X.env) :: starEach [a2] X.env) (hs2 : starEach [a2] X.env = [(false, eval a2 X.env)]) :
    DI b X tg (.Call (.Name "range" p) [a, a2] [] pos) (fun env => (f env).bind fun x => (g env).bind fun y => rng2 x y) := by
  intro σ H O env ds R ok Rc z c
  obtain ⟨x, e1, z⟩ := bind_some' z
  obtain ⟨y, e2, e3⟩ := bind_some' z
  refine PIw (pi_range2 hg hm (pa_cons wE_pe (pa_cons wE_pe pa_nil (by rw [hs2]; rfl)) hs) (by rw [hs, hs2]) hs2) (ha σ H O env x _ ok Rc e1 fun v H1 k1 r1 => hb σ H1 O env y _ (ok.same k1) (Rc.same k1) e2 fun w H2 k2 r2 => ?_)
  unfold rng2 at e3
  split at e3
  · split at e3
    · rename_i i j hj
      cases e3
      rw [Bool.and_eq_true] at hj
      obtain ⟨g1, g2⟩ := smI_ok hj.1
      obtain ⟨g3, g4⟩ := smI_ok hj.2
      obtain rfl := r1.int
      obtain rfl := r2.int
      exact ⟨i, j, rfl, ⟨g1, g2, g3, g4⟩, c _ _ (k1.trans k2) itr_ok⟩
    · cases e3
  · cases e3
theorem di_range3 {a a2 a3 : Expr} {g h : EvF} (hg : Gl X "range") (hm : X.mg "range" = none) (ha : DB X a f) (hb : DB X a2 g) (hc : DB X a3 h) (hs : starEach [a, a2, a3] X.env = (false, eval a X.env) :: starEach [a2, a3] X.env)
    (hs2 : starEach [a2, a3] X.env = (false, eval a2 X.env) :: starEach [a3] X.env) (hs3 : starEach [a3] X.env = [(false, eval a3 X.env)]) (hpl : (backTo pos (starEach [a2, a3] X.env)).any (·.1) = false) :
    DI b X tg (.Call (.Name "range" p) [a, a2, a3] [] pos) (fun env => (f env).bind fun x => (g env).bind fun y => (h env).bind fun z => rng3 x y z) := by
  intro σ H O env ds R ok Rc z c
  obtain ⟨x, e1, z⟩ := bind_some' z
  obtain ⟨y, e2, z⟩ := bind_some' z
  obtain ⟨u, e3, e4⟩ := bind_some' z
  refine PIw (pi_range3 hg hm (pa_cons wE_pe (pa_cons wE_pe (pa_cons wE_pe pa_nil (by rw [hs3]; rfl)) hs2) hs) hs hpl)
    (ha σ H O env x _ ok Rc e1 fun v H1 k1 r1 => hb σ H1 O env y _ (ok.same k1) (Rc.same k1) e2 fun w H2 k2 r2 => hc σ H2 O env u _ ((ok.same k1).same k2) ((Rc.same k1).same k2) e3 fun w3 H3 k3 r3 => ?_)
  unfold rng3 at e4
  split at e4
  · split at e4
    · rename_i i jj c' hj
      cases e4
      rw [Bool.and_eq_true, Bool.and_eq_true, decide_eq_true_eq] at hj
      obtain ⟨⟨h1, h2⟩, h3⟩ := hj
      subst h3
      obtain ⟨g1, g2⟩ := smI_ok h1
      obtain ⟨g3, g4⟩ := smI_ok h2
      obtain rfl := r1.int
      obtain rfl := r2.int
      obtain rfl := r3.int
      exact ⟨_, _, -1, _, rfl, RgC.neg g1 g2 g3 g4, c _ _ ((k1.trans k2).trans k3) dwn_ok⟩
    · cases e4
  · cases e4
/-- enumerate(list or tuple), to several names -/
theorem di_enum {elts : List Expr} {kk : Nat} {tpos : Pos} (hg : Gl X "enumerate") (hm : X.mg "enumerate" = none) (ha : DX b X e f) (hs : starEach [e] X.env = [(false, eval e X.env)]) :
    DI b X (.Tuple elts kk tpos) (.Call (.Name "enumerate" p) [e] [] pos) (fun env => (f env).bind fun d => (seqD d).map (enumD 0)) := by
  intro σ H O env ds R ok Rc z c
  obtain ⟨x, e1, e2⟩ := bind_some' z
  obtain ⟨xs, e3, e4⟩ := map_some' e2
  clear e2
  have e2 := e3
  subst e4
  refine PIw (pi_enumA hg hm (pa_cons wE_pe pa_nil (by rw [hs]; rfl)) hs) (ha σ H O env x _ ok Rc e1 fun v H1 k r => ?_)
  obtain ⟨kd, a, vs, rfl, st, rl⟩ := r.seq e2
  refine ⟨kd, a, vs, rfl, st H1 Kp.refl, c _ _ k ⟨fun i H2 k2 hi => ?_, fun H2 k2 => ?_, fun i H2 x H3 d k2 y e => ?_⟩⟩
  · rw [enumD_length, ← rl.length] at hi
    exact ⟨vs, vs[i], st H2 k2, List.getElem?_eq_getElem hi⟩
  · rw [enumD_length]
    exact ⟨vs, st H2 k2, rl.length⟩
  · obtain ⟨T, x', e4, hT, e5, hx⟩ := y
    subst e4 e5
    obtain ⟨d', h1, h2⟩ := enumD_get e
    subst h2
    obtain ⟨v, h3, h4⟩ := rl.get h1
    have h5 := hx vs (st H2 k2)
    rw [h3] at h5
    cases h5
    refine ⟨same_new hT, fun O2 m ok2 => Rep.newT ok2 hT (.cons ?_ (.cons (h4.go k2 eo_sub m) .nil))⟩
    rw [Nat.zero_add]
    exact .i _
/-- zip of two, to several names -/
theorem di_zip {elts : List Expr} {kk : Nat} {tpos : Pos} {g : EvF} (hg : Gl X "zip") (hm : X.mg "zip" = none) (ha : DX b X e f) (hb : DX b X e2 g) (hs : starEach [e, e2] X.env = (false, eval e X.env) :: starEach [e2] X.env)
    (hs2 : starEach [e2] X.env = [(false, eval e2 X.env)]) (hpl : (backTo pos (starEach [e2] X.env)).any (·.1) = false) :
    DI b X (.Tuple elts kk tpos) (.Call (.Name "zip" p) [e, e2] [] pos) (fun env => (f env).bind fun d => (g env).bind fun d' => (seqD d).bind fun xs => (seqD d').map fun ys => zipD xs ys) := by
  intro σ H O env ds R ok Rc z c
  obtain ⟨x, e1, z⟩ := bind_some' z
  obtain ⟨y, e2', z⟩ := bind_some' z
  obtain ⟨xs, e3, z⟩ := bind_some' z
  obtain ⟨ys, e4, e5⟩ := map_some' z
  subst e5
  refine PIw (pi_zipAA hg hm (pa_cons wE_pe (pa_cons wE_pe pa_nil (by rw [hs2]; rfl)) hs) hs hpl) (ha σ H O env x _ ok Rc e1 fun v H1 k1 r1 => hb σ H1 O env y _ (ok.same k1) (Rc.same k1) e2' fun w H2 k2 r2 => ?_)
  obtain ⟨kd, a, vs, rfl, st, rl⟩ := (r1.same k2).seq e3
  obtain ⟨kd', a', ws, rfl, st', rl'⟩ := r2.seq e4
  refine ⟨kd, a, vs, kd', a', ws, rfl, st H2 Kp.refl, st' H2 Kp.refl, c _ _ (k1.trans k2) ⟨fun i H3 k3 hi => ?_, fun H3 k3 => ?_, fun i H3 x H4 d k3 y e => ?_⟩⟩
  · rw [zipD_length, ← rl.length, ← rl'.length] at hi
    exact ⟨vs, ws, vs[i], ws[i], st H3 k3, st' H3 k3, List.getElem?_eq_getElem (by omega), List.getElem?_eq_getElem (by omega)⟩
  · rw [zipD_length]
    exact ⟨vs, ws, st H3 k3, st' H3 k3, by rw [rl.length, rl'.length]⟩
  · obtain ⟨T, x', y', q1, hT, q2, hx, hy⟩ := y
    subst q1 q2
    obtain ⟨d1, d2, h1, h1', h2⟩ := zipD_get e
    subst h2
    obtain ⟨v, h3, h4⟩ := rl.get h1
    obtain ⟨w, h3', h4'⟩ := rl'.get h1'
    have h5 := hx vs (st H3 k3)
    rw [h3] at h5
    cases h5
    have h6 := hy ws (st' H3 k3)
    rw [h3'] at h6
    cases h6
    exact ⟨same_new hT, fun O2 m ok2 => Rep.newT ok2 hT (.cons (h4.go k3 eo_sub m) (.cons (h4'.go k3 eo_sub m) .nil))⟩

/-! ### a range object as a value -/
theorem de_rngv1 (hg : Gl X "range") (hm : X.mg "range" = none) (ha : DB X e f) (hs : starEach [e] X.env = (false, eval e X.env) :: starEach [] X.env) (hpl : (backTo pos (starEach [] X.env)).any (·.1) = false) :
    DE X (.Call (.Name "range" p) [e] [] pos) (fun env => (f env).bind fun d => match d with
      | .i j => some (.r 0 j)
      | _ => none) := by
  intro σ H O env d Q ok R z c
  obtain ⟨x, e1, e2⟩ := bind_some' z
  refine PEw (pe_callTy can_ok hg hm boot_range (pa_cons wE_pe pa_nil hs) (by decide) (by decide) hs hpl) (ha σ H O env x _ ok R e1 fun v H1 k r => ?_)
  cases x <;> first
    | (cases e2; done)
    | skip
  rename_i j
  cases e2
  obtain rfl := r.int
  intro pins s σ' us I rv
  cases rv with
  | cons rr rv =>
    cases rv
    obtain ⟨t, rfl⟩ := rr
    refine call_range_1 ⟨.ref s.heap.objs.size, upd H1 s.heap.objs.size (.rng 0 j), I.laid (fun b o e => Heap.get?_push_of_some _ e) (Nat.le_refl _) ?_, rfl, c _ _ (k.trans (same_new (I.hok.fresh (Nat.le_refl _)))) (.r upd_same fun z => (ok.same k) _ z (I.hok.fresh (Nat.le_refl _)))⟩
    exact ⟨_, _, _, Heap.get?_push_size _ rfl⟩
end
end PL
/-! PL j: list comprehensions on data. -/
namespace PL
open PySem PySem.Spec PyProof.Rows L2

/-- a block of the comprehension, whichever -/
def Blk (X : Cx) (scope : Scope) (Y : Cx) : Prop := ∃ (s : Shared) (H : Hp) (C : Addr) (cl : List (Str × Addr)) (fp : List Addr), Y = X.blk s H scope (compEnvC scope cl C X.env) fp
def bE (X : Cx) (scope : Scope) (e : Expr) : TE := fun σ H Q => ∀ Y, Blk X scope Y → wE Y e σ H Q
def bG (X : Cx) (scope : Scope) (tg : Expr) : TG := fun v σ H Q => ∀ Y, Blk X scope Y → wG Y tg v σ H Q
def bI (X : Cx) (scope : Scope) (tg iter : Expr) : TI := fun σ H R => ∀ Y, Blk X scope Y → wI Y tg iter σ H R
def wTs (X : Cx) (ifs : List Expr) : TT := fun σ H Q => ∀ (pins : List (Addr × Obj)) (s : Shared), Inv X pins σ H s →
  wpAny (model X.prog X.w) X.A (forIn ifs true fun c r => if r = true then do let ok ← isTrue c X.env (eval c X.env); pure (ForInStep.yield ok) else pure (ForInStep.yield r)) (TP X pins σ Q) X.xe s
def bTs (X : Cx) (scope : Scope) (ifs : List Expr) : TT := fun σ H Q => ∀ Y, Blk X scope Y → wTs Y ifs σ H Q
theorem wTs_pts {X : Cx} {ifs : List Expr} : PTs X ifs (wTs X ifs) := ⟨fun pins s σ H Q I h => h pins s I⟩
theorem PTsw {X : Cx} {ifs : List Expr} {t : TT} (h : PTs X ifs t) {σ : L2.St} {H : Hp} {Q : Bool → Hp → Prop} (q : t σ H Q) : wTs X ifs σ H Q := fun pins s I => h.run pins s σ H Q I q
theorem bE_pe {X : Cx} {scope : Scope} {e : Expr} (s : Shared) (H : Hp) (C : Addr) (cl : List (Str × Addr)) (fp : List Addr) : PE (X.blk s H scope (compEnvC scope cl C X.env) fp) e (bE X scope e) := ⟨fun pins s' σ H' Q I h => h _ ⟨s, H, C, cl, fp, rfl⟩ pins s' I⟩
theorem bG_pg {X : Cx} {scope : Scope} {e : Expr} (s : Shared) (H : Hp) (C : Addr) (cl : List (Str × Addr)) (fp : List Addr) : PG (X.blk s H scope (compEnvC scope cl C X.env) fp) e (bG X scope e) := ⟨fun pins s' σ H' v u Q I r h => h _ ⟨s, H, C, cl, fp, rfl⟩ pins s' u I r⟩
theorem bI_pi {X : Cx} {scope : Scope} {tg e : Expr} (s : Shared) (H : Hp) (C : Addr) (cl : List (Str × Addr)) (fp : List Addr) : PI (X.blk s H scope (compEnvC scope cl C X.env) fp) tg e (bI X scope tg e) := ⟨fun pins s' σ H' R I h => h _ ⟨s, H, C, cl, fp, rfl⟩ pins s' I⟩
theorem bTs_pts {X : Cx} {scope : Scope} {ifs : List Expr} (s : Shared) (H : Hp) (C : Addr) (cl : List (Str × Addr)) (fp : List Addr) : PTs (X.blk s H scope (compEnvC scope cl C X.env) fp) ifs (bTs X scope ifs) := ⟨fun pins s' σ H' Q I h => h _ ⟨s, H, C, cl, fp, rfl⟩ pins s' I⟩

/-- a clause's tests -/
def DTs (X : Cx) (ifs : List Expr) (f : List Cell → Option Bool) : Prop := ∀ (σ : L2.St) (H : Hp) (O : Addr → Prop) (env : List Cell) (d : Bool) (Q : Bool → Hp → Prop), OkO H O → RelC X.K H O σ env → f env = some d →
  (∀ H', Same H H' → Q d H') → wTs X ifs σ H Q
theorem dts_nil {X : Cx} : DTs X [] (fun _ => some true) := fun σ H O env d Q ok R e c => PTsw pts_nil (by cases e; exact c _ (Same.refl _))
theorem dts_one {X : Cx} {c : Expr} {f : List Cell → Option Bool} (h : DT X c f) : DTs X [c] f := fun σ H O env d Q ok R e k => PTsw (pts_one wT_pt) (h σ H O env d Q ok R e k)

@[simp] def compD (t : Tg) (ft : List Cell → Option Bool) (f : EvF) (env : List Cell) : List D → Option (List D)
  | [] => some []
  | d :: ds => (bindT t d env).bind fun env1 => (ft env1).bind fun c => if c = true then (f env1).bind fun y => (compD t ft f env ds).bind fun ys => some (y :: ys) else compD t ft f env ds
theorem RelC.mono {K : PySem.W.Frag} {H : Hp} {O O' : Addr → Prop} {σ : L2.St} {env : List Cell} (h : RelC K H O σ env) (m : ∀ a, O' a → O a ∨ H a = none) : RelC K H O' σ env := ⟨h.1, fun i c e => by
  have q := h.2 i c e
  cases c with
  | no => trivial
  | v d => obtain ⟨x, e1, r⟩ := q; exact ⟨x, e1, r.mono m⟩
  | o d => obtain ⟨a, e1, r⟩ := q; exact ⟨a, e1, r.mono m⟩⟩
theorem Kp.same {E : Addr → Prop} {H H' : Hp} (h : Same H H') : Kp E H H' := fun a o e _ => h a o e
theorem same_at {H1 H2 : Hp} {D : Addr} {o : HO} (s : Same H1 H2) (n : H1 D = none) : Same H1 (upd H2 D o) := fun a x e => by
  rw [upd_ne (ne_of_none e n)]
  exact s a x e
section
variable {X : Cx} {tg iter elt : Expr} {ifs : List Expr} {scope : Scope} {own : List (Str × Nat)} {pos : Pos} {fs : List Cell → Option (List D)} {t : Tg} {ft : List Cell → Option Bool} {f : EvF} {b : Bool}
@[simp] def lcV (fs : List Cell → Option (List D)) (t : Tg) (ft : List Cell → Option Bool) (f : EvF) (vs : List Nat) : EvF := fun env => (fs env).bind fun ds => (compD t ft f (wipeC env vs) ds).bind fun ys => if ys.length ≤ SZ then some (.l ys) else none
/-- the list's address -/
def atD (O : Addr → Prop) (D : Addr) : Addr → Prop := fun b => O b ∨ b = D
theorem tlc_go (hi : DI b X tg iter fs) (hg : ∀ Y, Blk X scope Y → DG Y tg t) (ht : ∀ Y, Blk X scope Y → DTs Y ifs ft) (he : ∀ Y, Blk X scope Y → DE Y elt f) {vs : List Nat} (hsub : ∀ i ∈ t.slots, i ∈ vs)
    {σ : L2.St} {H : Hp} {O : Addr → Prop} {env : List Cell} {d : D} {Q : VK} (ok : OkO H O) (R : RelC X.K H O σ env) (z : lcV fs t ft f vs env = some d)
    (c : ∀ a xs ds H', Same H H' → H a = none → d = .l ds → H' a = some (.lst xs) → RepL X.K H' (fun b => O b ∨ b = a) xs ds → Q (.ref a) H') :
    tLc (wI X tg iter) (bG X scope tg) (bTs X scope ifs) (bE X scope elt) vs σ H Q := by
  obtain ⟨ds, e1, z⟩ := bind_some' z
  obtain ⟨ys, e2, z⟩ := bind_some' z
  split at z <;> first
    | (cases z; done)
    | skip
  rename_i hz
  cases z
  refine hi σ H O env ds _ ok R e1 fun J H1 k it => fun D hD => ?_
  have ok1 := ok.same k
  have RW : RelC X.K H1 (atD O D) (wipe σ vs) (wipeC env vs) := ((R.same k).wipe vs).mono fun a z => z.elim .inl fun e => .inr (by rw [e]; exact hD)
  refine ⟨fun i m H2 => m = ds.length - i ∧ i ≤ ds.length ∧ Same H1 H2 ∧ ∃ acc dacc rest, H2 D = some (.lst acc) ∧ RepL X.K H2 (atD O D) acc dacc ∧ compD t ft f (wipeC env vs) (ds.drop i) = some rest ∧ dacc ++ rest = ys,
    ⟨ds.length, rfl, Nat.zero_le _, same_new hD, [], [], ys, upd_same, .nil, by rw [List.drop_zero]; exact e2, rfl⟩, ?_⟩
  rintro i m H2 ⟨rfl, hi, s2, acc, dacc, rest, hacc, racc, e3, e4⟩
  have ok2 : OkO H2 (atD O D) := fun a z => z.elim (fun q => (ok1.same s2) a q) fun e => by rw [e, hacc]; exact fun q => nomatch q
  by_cases hlt : i < ds.length
  · refine .inr ⟨it.go i H2 (Kp.same s2) hlt, fun H' => Same H1 H' ∧ ∃ acc dacc rest, H' D = some (.lst acc) ∧ RepL X.K H' (atD O D) acc dacc ∧ compD t ft f (wipeC env vs) (ds.drop (i + 1)) = some rest ∧ dacc ++ rest = ys,
      fun H' q => ⟨ds.length - (i + 1), by omega, rfl, hlt, q⟩, fun x H3 y => ?_⟩
    have ei : ds[i]? = some ds[i] := List.getElem?_eq_getElem hlt
    obtain ⟨s3, rx⟩ := it.yld i H2 x H3 _ (Kp.same s2) y ei
    have rx := rx (atD O D) (fun a z => z.elim .inl fun e => .inr (by rw [e]; exact hD)) ok2
    rw [List.drop_eq_getElem_cons hlt, compD] at e3
    obtain ⟨env1, e5, e3⟩ := bind_some' e3
    obtain ⟨tb, e6, e3⟩ := bind_some' e3
    rintro Y ⟨s', H', C, cl, fp, rfl⟩
    refine hg _ ⟨s', H', C, cl, fp, rfl⟩ x _ (wipe σ vs) H3 (atD O D) _ env1 _ (RW.same (s2.trans s3)) rx e5 fun σ' R' off => ⟨wipe_off (off.mono hsub), ?_⟩
    rintro Y ⟨s', H', C, cl, fp, rfl⟩
    refine ht _ ⟨s', H', C, cl, fp, rfl⟩ σ' H3 (atD O D) env1 tb _ (ok2.same s3) R' e6 fun H4 s4 => ?_
    cases tb with
    | false =>
      have e3 : compD t ft f (wipeC env vs) (List.drop (i + 1) ds) = some rest := e3
      refine iteF ⟨(s2.trans s3).trans s4, acc, dacc, rest, ?_, (racc.same (s3.trans s4)), e3, e4⟩
      exact (s3.trans s4) _ _ hacc
    | true =>
      have e3 : ((f env1).bind fun y => (compD t ft f (wipeC env vs) (List.drop (i + 1) ds)).bind fun ys => some (y :: ys)) = some rest := e3
      obtain ⟨dy, e7, e3⟩ := bind_some' e3
      obtain ⟨rest', e8, e3⟩ := bind_some' e3
      cases e3
      refine iteT ?_
      rintro Y ⟨s', H', C, cl, fp, rfl⟩
      refine he _ ⟨s', H', C, cl, fp, rfl⟩ σ' H4 (atD O D) env1 dy _ (ok2.same (s3.trans s4)) (R'.same s4) e7 fun y H5 s5 ry => ?_
      have sA := (s3.trans s4).trans s5
      have hacc5 := sA _ _ hacc
      have la := racc.length
      refine ⟨acc, hacc5, ?_, same_at (s2.trans sA) hD, acc ++ [y], dacc ++ [dy], rest', upd_same, ?_, e8, by rw [List.append_assoc]; exact e4⟩
      · have hl : (dacc ++ dy :: rest').length ≤ SZ := by rw [e4]; exact hz
        rw [List.length_append, List.length_cons] at hl
        rw [SZ_eq, la]
        omega
      · have rr := (racc.same sA).append (.cons ry .nil)
        exact rr.kp fun a o e n => by
          rw [upd_ne (fun z => n (.inr z))]
          exact e
  · have e : i = ds.length := by omega
    subst e
    rw [List.drop_length, compD] at e3
    cases e3
    rw [List.append_nil] at e4
    subst e4
    exact .inl ⟨it.stop H2 (Kp.same s2), c D acc dacc H2 (k.trans s2) (k.free hD) rfl hacc racc⟩
theorem df_lc (hc : X.calm = true) (hN : X.N.Nodup) (hb : blkC X.N X.env.scope scope own = true) (hs : ∀ x, foldedSetIterable iter X.env x = pure x) (hi : DI b X tg iter fs) (hg : ∀ Y, Blk X scope Y → DG Y tg t) (ht : ∀ Y, Blk X scope Y → DTs Y ifs ft) (he : ∀ Y, Blk X scope Y → DE Y elt f)
    (hsub : ∀ i ∈ t.slots, i ∈ own.map (·.2)) : DF X (.ListComp elt [⟨tg, iter, ifs, 0⟩] scope pos) (lcV fs t ft f (own.map (·.2))) := DFl.df <|
  fun σ H O env d Q ok R z c => PEw (pe_lc hc hN wI_pi (blkOk_by hb) bG_pg bTs_pts bE_pe hs) (tlc_go hi hg ht he hsub ok R z c)

/-! ### two clauses -/
@[simp] def compD2 (t : Tg) (ft : List Cell → Option Bool) (fs1 : List Cell → Option (List D)) (t1 : Tg) (ft1 : List Cell → Option Bool) (f : EvF) (vs1 : List Nat) (env : List Cell) : List D → Option (List D)
  | [] => some []
  | d :: ds => (bindT t d env).bind fun env1 => (ft env1).bind fun c => if c = true then (fs1 env1).bind fun ds1 => (compD t1 ft1 f (wipeC env1 vs1) ds1).bind fun ys1 => (compD2 t ft fs1 t1 ft1 f vs1 env ds).bind fun ys => some (ys1 ++ ys) else compD2 t ft fs1 t1 ft1 f vs1 env ds
@[simp] def lcV2 (fs : List Cell → Option (List D)) (t : Tg) (ft : List Cell → Option Bool) (fs1 : List Cell → Option (List D)) (t1 : Tg) (ft1 : List Cell → Option Bool) (f : EvF) (vs : List Nat) : EvF := fun env => (fs env).bind fun ds => (compD2 t ft fs1 t1 ft1 f t1.slots (wipeC env vs) ds).bind fun ys => if ys.length ≤ SZ then some (.l ys) else none
variable {tg1 iter1 : Expr} {ifs1 : List Expr} {fs1 : List Cell → Option (List D)} {t1 : Tg} {ft1 : List Cell → Option Bool}
mutual
theorem bindT_own : ∀ (t : Tg) {d : D} {env env1 : List Cell}, bindT t d env = some env1 → ∀ (i : Nat) (x : D), env1[i]? = some (.o x) → env[i]? = some (.o x) ∧ i ∉ t.slots
  | .nm j, d, env, env1, h, i, x, e => by
    rw [bindT] at h
    cases h
    rw [Tg.slots]
    by_cases hj : j = i
    · subst hj
      rw [List.getElem?_set, if_pos rfl] at e
      split at e <;> cases e
    · rw [List.getElem?_set_ne hj] at e
      exact ⟨e, fun z => hj (List.mem_singleton.mp z).symm⟩
  | .tp ts, d, env, env1, h, i, x, e => by
    cases d <;> first
      | (rw [bindT] at h <;> first | (cases h; done) | (intros; simp_all; done))
      | skip
    rw [bindT] at h
    rw [Tg.slots]
    exact bindTs_own ts h i x e
theorem bindTs_own : ∀ (ts : List Tg) {ds : List D} {env env1 : List Cell}, bindTs ts ds env = some env1 → ∀ (i : Nat) (x : D), env1[i]? = some (.o x) → env[i]? = some (.o x) ∧ i ∉ Tg.slotsL ts
  | [], [], env, env1, h, i, x, e => by
    rw [bindTs] at h
    cases h
    rw [Tg.slotsL]
    exact ⟨e, fun z => nomatch z⟩
  | [], _ :: _, _, _, h, _, _, _ => by rw [bindTs] at h <;> first | (cases h; done) | (intros; simp_all)
  | _ :: _, [], _, _, h, _, _, _ => by rw [bindTs] at h <;> first | (cases h; done) | (intros; simp_all)
  | t :: ts, d :: ds, env, env1, h, i, x, e => by
    rw [bindTs] at h
    obtain ⟨env2, h1, h2⟩ := bind_some' h
    obtain ⟨g1, g2⟩ := bindTs_own ts h2 i x e
    obtain ⟨g3, g4⟩ := bindT_own t h1 i x g1
    rw [Tg.slotsL]
    exact ⟨g3, fun z => (List.mem_append.mp z).elim g4 g2⟩
end
theorem wipeC_own {env : List Cell} : ∀ {vs : List Nat} {i : Nat} {x : D}, (wipeC env vs)[i]? = some (.o x) → env[i]? = some (.o x) ∧ i ∉ vs
  | [], _, _, h => ⟨h, fun z => nomatch z⟩
  | v :: vs, i, x, h => by
    unfold wipeC at h
    by_cases hv : v = i
    · subst hv
      rw [List.getElem?_set, if_pos rfl] at h
      split at h <;> cases h
    · rw [List.getElem?_set_ne hv] at h
      obtain ⟨h1, h2⟩ := wipeC_own h
      exact ⟨h1, fun z => (List.mem_cons.mp z).elim (fun q => hv q.symm) h2⟩
theorem kp_at {E : Addr → Prop} {H H' : Hp} {D : Addr} {o : HO} (h : Kp E H H') (e : E D) : Kp E H (upd H' D o) := fun a x q n => by
  rw [upd_ne (fun z => n (by rw [z]; exact e))]
  exact h a x q n
theorem tlc2_go (hi : DI b X tg iter fs) (hg : ∀ Y, Blk X scope Y → DG Y tg t) (ht : ∀ Y, Blk X scope Y → DTs Y ifs ft) (hi1 : ∀ Y, Blk X scope Y → DI true Y tg1 iter1 fs1) (hg1 : ∀ Y, Blk X scope Y → DG Y tg1 t1) (ht1 : ∀ Y, Blk X scope Y → DTs Y ifs1 ft1)
    (he : ∀ Y, Blk X scope Y → DE Y elt f) {vs : List Nat} (hsub : ∀ i ∈ t.slots, i ∈ vs)
    {σ : L2.St} {H : Hp} {O : Addr → Prop} {env : List Cell} {d : D} {Q : VK} (ok : OkO H O) (R : RelC X.K H O σ env) (z : lcV2 fs t ft fs1 t1 ft1 f vs env = some d)
    (c : ∀ a xs ds H', Same H H' → H a = none → d = .l ds → H' a = some (.lst xs) → RepL X.K H' (fun b => O b ∨ b = a) xs ds → Q (.ref a) H') :
    tLc2 (wI X tg iter) (bG X scope tg) (bTs X scope ifs) (bI X scope tg1 iter1) (bG X scope tg1) (bTs X scope ifs1) (bE X scope elt) vs t1.slots σ H Q := by
  obtain ⟨ds, e1, z⟩ := bind_some' z
  obtain ⟨ys, e2, z⟩ := bind_some' z
  split at z <;> first
    | (cases z; done)
    | skip
  rename_i hz
  cases z
  refine hi σ H O env ds _ ok R e1 fun J H1 k it => fun D hD => ?_
  have ok1 := ok.same k
  have RW : RelC X.K H1 (atD O D) (wipe σ vs) (wipeC env vs) := ((R.same k).wipe vs).mono fun a z => z.elim .inl fun e => .inr (by rw [e]; exact hD)
  refine ⟨fun i m H2 => m = ds.length - i ∧ i ≤ ds.length ∧ Same H1 H2 ∧ ∃ acc dacc rest, H2 D = some (.lst acc) ∧ RepL X.K H2 (atD O D) acc dacc ∧ compD2 t ft fs1 t1 ft1 f t1.slots (wipeC env vs) (ds.drop i) = some rest ∧ dacc ++ rest = ys,
    ⟨ds.length, rfl, Nat.zero_le _, same_new hD, [], [], ys, upd_same, .nil, by rw [List.drop_zero]; exact e2, rfl⟩, ?_⟩
  rintro i m H2 ⟨rfl, hi, s2, acc, dacc, rest, hacc, racc, e3, e4⟩
  have ok2 : OkO H2 (atD O D) := fun a z => z.elim (fun q => (ok1.same s2) a q) fun e => by rw [e, hacc]; exact fun q => nomatch q
  by_cases hlt : i < ds.length
  · refine .inr ⟨it.go i H2 (Kp.same s2) hlt, fun H' => Same H1 H' ∧ ∃ acc dacc rest, H' D = some (.lst acc) ∧ RepL X.K H' (atD O D) acc dacc ∧ compD2 t ft fs1 t1 ft1 f t1.slots (wipeC env vs) (ds.drop (i + 1)) = some rest ∧ dacc ++ rest = ys,
      fun H' q => ⟨ds.length - (i + 1), by omega, rfl, hlt, q⟩, fun x H3 y => ?_⟩
    have ei : ds[i]? = some ds[i] := List.getElem?_eq_getElem hlt
    obtain ⟨s3, rx⟩ := it.yld i H2 x H3 _ (Kp.same s2) y ei
    have rx := rx (atD O D) (fun a z => z.elim .inl fun e => .inr (by rw [e]; exact hD)) ok2
    rw [List.drop_eq_getElem_cons hlt, compD2] at e3
    obtain ⟨env1, e5, e3⟩ := bind_some' e3
    obtain ⟨tb, e6, e3⟩ := bind_some' e3
    rintro Y ⟨s', H', C, cl, fp, rfl⟩
    refine hg _ ⟨s', H', C, cl, fp, rfl⟩ x _ (wipe σ vs) H3 (atD O D) _ env1 _ (RW.same (s2.trans s3)) rx e5 fun σ' R' off => ⟨wipe_off (off.mono hsub), ?_⟩
    rintro Y ⟨s', H', C, cl, fp, rfl⟩
    refine ht _ ⟨s', H', C, cl, fp, rfl⟩ σ' H3 (atD O D) env1 tb _ (ok2.same s3) R' e6 fun H4 s4 => ?_
    cases tb with
    | false =>
      have e3 : compD2 t ft fs1 t1 ft1 f t1.slots (wipeC env vs) (List.drop (i + 1) ds) = some rest := e3
      refine iteF ⟨(s2.trans s3).trans s4, acc, dacc, rest, ?_, (racc.same (s3.trans s4)), e3, e4⟩
      exact (s3.trans s4) _ _ hacc
    | true =>
      have e3 : ((fs1 env1).bind fun ds1 => (compD t1 ft1 f (wipeC env1 t1.slots) ds1).bind fun ys1 => (compD2 t ft fs1 t1 ft1 f t1.slots (wipeC env vs) (List.drop (i + 1) ds)).bind fun ys => some (ys1 ++ ys)) = some rest := e3
      obtain ⟨ds1, e7, e3⟩ := bind_some' e3
      obtain ⟨ys1, e8, e3⟩ := bind_some' e3
      obtain ⟨rest', e9, e3⟩ := bind_some' e3
      cases e3
      refine iteT ?_
      rintro Y ⟨s', H', C, cl, fp, rfl⟩
      refine hi1 _ ⟨s', H', C, cl, fp, rfl⟩ σ' H4 (atD O D) env1 ds1 _ (ok2.same (s3.trans s4)) (R'.same s4) e7 fun J1 H5 k5 it1 => ?_
      have sA := (s3.trans s4).trans k5
      have hacc5 := sA _ _ hacc
      have ok5 := ok2.same sA
      have R5 := R'.same (s4.trans k5)
      have RW5 : RelC X.K H5 (atD O D) (wipe σ' t1.slots) (wipeC env1 t1.slots) := R5.wipe t1.slots
      -- the second clause's turns
      refine ⟨fun j m H6 => m = ds1.length - j ∧ j ≤ ds1.length ∧ Kp (Eo true (atD O D)) H5 H6 ∧ ∃ acc dacc rs, H6 D = some (.lst acc) ∧ RepL X.K H6 (atD O D) acc dacc ∧ compD t1 ft1 f (wipeC env1 t1.slots) (ds1.drop j) = some rs ∧ dacc ++ (rs ++ rest') = ys ∧ Same H1 H6 ∧ RelC X.K H6 (atD O D) (wipe σ' t1.slots) (wipeC env1 t1.slots),
        ⟨ds1.length, rfl, Nat.zero_le _, Kp.refl, acc, dacc, ys1, hacc5, racc.same sA, by rw [List.drop_zero]; exact e8, e4, s2.trans sA, RW5⟩, ?_⟩
      rintro j m H6 ⟨rfl, hj, k6, acc, dacc, rs, hacc, racc, g3, g4, s6, R6⟩
      have ok6 : OkO H6 (atD O D) := fun a z => z.elim (fun q => (ok1.same s6) a q) fun e => by rw [e, hacc]; exact fun q => nomatch q
      by_cases hlt1 : j < ds1.length
      · refine .inr ⟨it1.go j H6 k6 hlt1, fun H' => Kp (Eo true (atD O D)) H5 H' ∧ ∃ acc dacc rs, H' D = some (.lst acc) ∧ RepL X.K H' (atD O D) acc dacc ∧ compD t1 ft1 f (wipeC env1 t1.slots) (ds1.drop (j + 1)) = some rs ∧ dacc ++ (rs ++ rest') = ys ∧ Same H1 H' ∧ RelC X.K H' (atD O D) (wipe σ' t1.slots) (wipeC env1 t1.slots),
          fun H' q => ⟨ds1.length - (j + 1), by omega, rfl, hlt1, q⟩, fun x1 H7 y1 => ?_⟩
        have ej : ds1[j]? = some ds1[j] := List.getElem?_eq_getElem hlt1
        obtain ⟨s7, rx1⟩ := it1.yld j H6 x1 H7 _ k6 y1 ej
        have rx1 := rx1 (atD O D) (fun a z => .inl z) ok6
        rw [List.drop_eq_getElem_cons hlt1, compD] at g3
        obtain ⟨env2, g5, g3⟩ := bind_some' g3
        obtain ⟨tb1, g6, g3⟩ := bind_some' g3
        rintro Y ⟨s', H', C, cl, fp, rfl⟩
        refine hg1 _ ⟨s', H', C, cl, fp, rfl⟩ x1 _ (wipe σ' t1.slots) H7 (atD O D) _ env2 _ (R6.same s7) rx1 g5 fun σ2 R2 off1 => ⟨wipe_off off1, ?_⟩
        rintro Y ⟨s', H', C, cl, fp, rfl⟩
        refine ht1 _ ⟨s', H', C, cl, fp, rfl⟩ σ2 H7 (atD O D) env2 tb1 _ (ok6.same s7) R2 g6 fun H8 s8 => ?_
        cases tb1 with
        | false =>
          have g3 : compD t1 ft1 f (wipeC env1 t1.slots) (List.drop (j + 1) ds1) = some rs := g3
          refine iteF ⟨k6.trans (s7.trans s8), acc, dacc, rs, ?_, (racc.same (s7.trans s8)), g3, g4, s6.trans (s7.trans s8), R6.same (s7.trans s8)⟩
          exact (s7.trans s8) _ _ hacc
        | true =>
          have g3 : ((f env2).bind fun y => (compD t1 ft1 f (wipeC env1 t1.slots) (List.drop (j + 1) ds1)).bind fun ys => some (y :: ys)) = some rs := g3
          obtain ⟨dy, g7, g3⟩ := bind_some' g3
          obtain ⟨rs', g8, g3⟩ := bind_some' g3
          cases g3
          refine iteT ?_
          rintro Y ⟨s', H', C, cl, fp, rfl⟩
          refine he _ ⟨s', H', C, cl, fp, rfl⟩ σ2 H8 (atD O D) env2 dy _ (ok6.same (s7.trans s8)) (R2.same s8) g7 fun y H9 s9 ry => ?_
          have sB := (s7.trans s8).trans s9
          have hacc9 := sB _ _ hacc
          have la := racc.length
          have kD : ∀ {o : HO}, Kp (atD O D) H9 (upd H9 D o) := fun {o} => kp_at Kp.refl (.inr rfl)
          refine ⟨acc, hacc9, ?_, kp_at (k6.trans sB) ⟨rfl, .inr rfl⟩, acc ++ [y], dacc ++ [dy], rs', upd_same, ((racc.same sB).append (.cons ry .nil)).kp kD, g8, by rw [List.append_assoc]; exact g4, same_at (s6.trans sB) hD, ?_⟩
          · have hl : (dacc ++ (dy :: rs' ++ rest')).length ≤ SZ := by rw [g4]; exact hz
            rw [List.length_append, List.length_append, List.length_cons] at hl
            rw [SZ_eq, la]
            omega
          · refine ⟨(R6.same sB).1, fun i c e => ?_⟩
            have q := (R6.same sB).2 i c e
            cases c with
            | no => trivial
            | v d => obtain ⟨x, e1, r⟩ := q; exact ⟨x, e1, r.kp kD⟩
            | o d =>
              obtain ⟨a, e1, r⟩ := q
              have na : a ≠ D := fun z => ?_
              · exact ⟨a, e1, r.kp kD (upd_ne na)⟩
              · subst z
                -- the slot held it before the new list was laid
                obtain ⟨p1, p2⟩ := wipeC_own e
                obtain ⟨p3, p4⟩ := bindT_own t e5 i d p1
                obtain ⟨a', e1', r'⟩ := ((R.same k).wipe vs).2 i (.o d) p3
                have q : (wipe σ' t1.slots)[i]? = (wipe σ vs)[i]? := (wipe_out p2).trans (off.2 i p4)
                rw [q, e1'] at e1
                cases e1
                exact r'.ne hD
      · have e : j = ds1.length := by omega
        subst e
        rw [List.drop_length, compD] at g3
        cases g3
        exact .inl ⟨it1.stop H6 k6, s6, acc, dacc, rest', hacc, racc, e9, g4⟩
  · have e : i = ds.length := by omega
    subst e
    rw [List.drop_length, compD2] at e3
    cases e3
    rw [List.append_nil] at e4
    subst e4
    exact .inl ⟨it.stop H2 (Kp.same s2), c D acc dacc H2 (k.trans s2) (k.free hD) rfl hacc racc⟩
theorem df_lc2 (hc : X.calm = true) (hN : X.N.Nodup) (hb : blkC X.N X.env.scope scope own = true) (hs : ∀ x, foldedSetIterable iter X.env x = pure x) (hs1 : ∀ env x, foldedSetIterable iter1 env x = pure x) (hi : DI b X tg iter fs) (hg : ∀ Y, Blk X scope Y → DG Y tg t) (ht : ∀ Y, Blk X scope Y → DTs Y ifs ft)
    (hi1 : ∀ Y, Blk X scope Y → DI true Y tg1 iter1 fs1) (hg1 : ∀ Y, Blk X scope Y → DG Y tg1 t1) (ht1 : ∀ Y, Blk X scope Y → DTs Y ifs1 ft1) (he : ∀ Y, Blk X scope Y → DE Y elt f)
    (hsub : ∀ i ∈ t.slots, i ∈ own.map (·.2)) (hsub1 : ∀ i ∈ t1.slots, i ∈ own.map (·.2)) : DF X (.ListComp elt [⟨tg, iter, ifs, 0⟩, ⟨tg1, iter1, ifs1, 0⟩] scope pos) (lcV2 fs t ft fs1 t1 ft1 f (own.map (·.2))) := DFl.df <|
  fun σ H O env d Q ok R z c => PEw (pe_lc2 hc hN wI_pi (blkOk_by hb) hsub1 bG_pg bTs_pts bI_pi bG_pg bTs_pts bE_pe hs hs1) (tlc2_go hi hg ht hi1 hg1 ht1 he hsub ok R z c)
end
end PL
/-! PL k: statements on data. -/
namespace PL
open PySem PySem.Spec PyProof.Rows L2

/-! ### the frame's state -/
/-- the list at a is held by slot i alone -/
def Own (σ : L2.St) (env : List Cell) (i : Nat) (a : Addr) : Prop := (∃ d, env[i]? = some (.o d)) ∧ σ[i]? = some (some (.ref a))
def Ow (O : Addr → Prop) (σ : L2.St) (env : List Cell) : Addr → Prop := fun a => O a ∨ ∃ i, Own σ env i a
/-- H0, M0: the heap at a start, what might be changed then -/
structure RelM (K : PySem.W.Frag) (H0 : Hp) (M0 : Addr → Prop) (H : Hp) (O : Addr → Prop) (σ : L2.St) (env : List Cell) : Prop where
  rel : RelC K H (Ow O σ env) σ env
  ok : OkO H O
  nO : ∀ i a, Own σ env i a → ¬ O a
  inj : ∀ i j a, Own σ env i a → Own σ env j a → i = j
  kp : Kp M0 H0 H
  new : ∀ i a, Own σ env i a → M0 a ∨ H0 a = none
section
variable {K : PySem.W.Frag} {H0 H H' : Hp} {M0 O : Addr → Prop} {σ σ' : L2.St} {env env' : List Cell}
theorem RelC.ownAt (h : RelC K H O σ env) {i : Nat} {a : Addr} (o : Own σ env i a) : ∃ d, env[i]? = some (.o d) ∧ OwnAt K H O a d := by
  obtain ⟨⟨d, e1⟩, e2⟩ := o
  obtain ⟨a', g1, r⟩ := h.2 i _ e1
  rw [e2] at g1
  cases g1
  exact ⟨d, e1, r⟩
theorem RelM.okW (h : RelM K H0 M0 H O σ env) : OkO H (Ow O σ env) := fun a z => by
  rcases z with z | ⟨i, z⟩
  · exact h.ok a z
  · obtain ⟨d, _, r⟩ := h.rel.ownAt z
    exact r.ne
theorem RelM.same (h : RelM K H0 M0 H O σ env) (k : Same H H') : RelM K H0 M0 H' O σ env :=
  ⟨h.rel.same k, h.ok.same k, h.nO, h.inj, h.kp.trans k, h.new⟩
/-- a target took a datum -/
theorem RelM.bind {t : Tg} {d : D} (h : RelM K H0 M0 H O σ env) (e : bindT t d env = some env') (r : RelC K H (Ow O σ env) σ' env') (off : Off t.slots σ σ') : RelM K H0 M0 H O σ' env' := by
  have own : ∀ i a, Own σ' env' i a → Own σ env i a := fun i a ⟨⟨x, e1⟩, e2⟩ => by
    obtain ⟨g1, g2⟩ := bindT_own t e i x e1
    exact ⟨⟨x, g1⟩, by rw [← off.2 i g2]; exact e2⟩
  refine ⟨r.mono fun a z => ?_, h.ok, fun i a o => h.nO i a (own i a o), fun i j a o p => h.inj i j a (own i a o) (own j a p), h.kp, fun i a o => h.new i a (own i a o)⟩
  rcases z with z | ⟨i, z⟩
  · exact .inl (.inl z)
  · exact .inl (.inr ⟨i, own i a z⟩)
/-- some lists are given up -/
@[simp] def frC (keep : Nat → Bool) : Nat → List Cell → List Cell
  | _, [] => []
  | n, .o d :: r => (if keep n = true then .o d else .v d) :: frC keep (n + 1) r
  | n, .v d :: r => .v d :: frC keep (n + 1) r
  | n, .no :: r => .no :: frC keep (n + 1) r
theorem frC_length (keep : Nat → Bool) : ∀ (env : List Cell) (n : Nat), (frC keep n env).length = env.length
  | [], _ => rfl
  | .o d :: r, n => by rw [frC, List.length_cons, List.length_cons, frC_length keep r]
  | .v d :: r, n => by rw [frC, List.length_cons, List.length_cons, frC_length keep r]
  | .no :: r, n => by rw [frC, List.length_cons, List.length_cons, frC_length keep r]
theorem frC_get (keep : Nat → Bool) : ∀ {env : List Cell} {n i : Nat} {c : Cell}, (frC keep n env)[i]? = some c →
    (env[i]? = some c ∧ ∀ d, c = .o d → keep (n + i) = true) ∨ ∃ d, c = .v d ∧ env[i]? = some (.o d) ∧ keep (n + i) = false
  | [], _, _, _, h => by rw [frC] at h; cases h
  | x :: r, n, i + 1, c, h => by
    have h' : (frC keep (n + 1) r)[i]? = some c := by
      cases x <;> (rw [frC, List.getElem?_cons_succ] at h; exact h)
    rcases frC_get keep h' with ⟨a, b⟩ | ⟨d, a, b, q⟩
    · exact .inl ⟨by rw [List.getElem?_cons_succ]; exact a, fun d e => by rw [show n + (i + 1) = n + 1 + i by omega]; exact b d e⟩
    · exact .inr ⟨d, a, by rw [List.getElem?_cons_succ]; exact b, by rw [show n + (i + 1) = n + 1 + i by omega]; exact q⟩
  | .o d :: r, n, 0, c, h => by
    rw [frC, List.getElem?_cons_zero] at h
    cases z : keep n with
    | true =>
      rw [z, if_pos rfl] at h
      cases h
      exact .inl ⟨rfl, fun _ _ => by first | exact z | rfl⟩
    | false =>
      rw [z, if_neg Bool.false_ne_true] at h
      cases h
      exact .inr ⟨d, rfl, rfl, by first | exact z | rfl⟩
  | .v d :: r, n, 0, c, h => by
    rw [frC, List.getElem?_cons_zero] at h
    cases h
    exact .inl ⟨rfl, fun _ e => nomatch e⟩
  | .no :: r, n, 0, c, h => by
    rw [frC, List.getElem?_cons_zero] at h
    cases h
    exact .inl ⟨rfl, fun _ e => nomatch e⟩
theorem RelM.free (keep : Nat → Bool) (h : RelM K H0 M0 H O σ env) : RelM K H0 M0 H O σ (frC keep 0 env) := by
  have own : ∀ i a, Own σ (frC keep 0 env) i a → Own σ env i a ∧ keep i = true := fun i a ⟨⟨x, e1⟩, e2⟩ => by
    rcases frC_get keep e1 with ⟨a, b⟩ | ⟨d, a, b⟩
    · exact ⟨⟨⟨x, a⟩, e2⟩, by have := b x rfl; rw [Nat.zero_add] at this; exact this⟩
    · cases a
  have sub : ∀ a, Ow O σ (frC keep 0 env) a → Ow O σ env a := fun a z => by
    rcases z with z | ⟨i, z⟩
    · exact .inl z
    · exact .inr ⟨i, (own i a z).1⟩
  refine ⟨⟨by rw [frC_length]; exact h.rel.1, fun i c e => ?_⟩, h.ok, fun i a o => h.nO i a (own i a o).1, fun i j a o p => h.inj i j a (own i a o).1 (own j a p).1, h.kp, fun i a o => h.new i a (own i a o).1⟩
  rcases frC_get keep e with ⟨g1, g2⟩ | ⟨d, g1, g2, g3⟩
  · exact (h.rel.mono fun a z => .inl (sub a z)).2 i c g1
  · subst g1
    rw [Nat.zero_add] at g3
    obtain ⟨a, e1, r⟩ := h.rel.2 i _ g2
    refine ⟨.ref a, e1, (r.less sub).rep fun z => ?_⟩
    have oi : Own σ env i a := ⟨⟨_, g2⟩, e1⟩
    rcases z with z | ⟨j, z⟩
    · exact h.nO i a oi z
    · have e4 := h.inj i j a oi (own j a z).1
      subst e4
      rw [(own i a z).2] at g3
      cases g3
/-- a fresh list is stored -/
theorem RelM.fresh {i : Nat} {a : Addr} {d : D} (h : RelM K H0 M0 H O σ env) (k : Same H H') (na : H a = none) (r : OwnAt K H' (fun b => Ow O σ env b ∨ b = a) a d) :
    RelM K H0 M0 H' O (σ.set i (some (.ref a))) (env.set i (.o d)) := by
  have hl := h.rel.1
  have own : ∀ j b, Own (σ.set i (some (.ref a))) (env.set i (.o d)) j b → (j = i ∧ b = a) ∨ (j ≠ i ∧ Own σ env j b) := fun j b ⟨⟨x, e1⟩, e2⟩ => by
    by_cases hj : i = j
    · subst hj
      rw [List.getElem?_set, if_pos rfl] at e2
      split at e2
      · cases e2; exact .inl ⟨rfl, rfl⟩
      · cases e2
    · rw [List.getElem?_set_ne hj] at e1 e2
      exact .inr ⟨fun z => hj z.symm, ⟨x, e1⟩, e2⟩
  have old : ∀ j b, Own σ env j b → b ≠ a := fun j b o z => by
    obtain ⟨_, _, r⟩ := h.rel.ownAt o
    exact r.ne (by rw [z]; exact na)
  have sub : ∀ b, Ow O (σ.set i (some (.ref a))) (env.set i (.o d)) b → Ow O σ env b ∨ b = a := fun b z => by
    rcases z with z | ⟨j, z⟩
    · exact .inl (.inl z)
    · rcases own j b z with ⟨_, e⟩ | ⟨_, o⟩
      · exact .inr e
      · exact .inl (.inr ⟨j, o⟩)
  refine ⟨⟨by rw [List.length_set, List.length_set]; exact hl, fun j c e => ?_⟩, h.ok.same k, fun j b o => ?_, fun j l b o p => ?_, h.kp.trans k, fun j b o => ?_⟩
  · by_cases hj : i = j
    · subst hj
      rw [List.getElem?_set, if_pos rfl] at e
      split at e
      · rename_i hi
        cases e
        exact ⟨a, by rw [List.getElem?_set_self (by omega)], r.less sub⟩
      · cases e
    · rw [List.getElem?_set_ne hj] at e
      rw [List.getElem?_set_ne hj]
      have q := (((h.rel.mono (O' := fun b => Ow O σ env b ∨ b = a) fun b z => z.elim .inl fun e => .inr (by rw [e]; exact na)).same k).mono fun b z => .inl (sub b z)).2 j c e
      exact q
  · rcases own j b o with ⟨_, e⟩ | ⟨_, o⟩
    · subst e
      exact fun z => h.ok b z na
    · exact h.nO j b o
  · rcases own j b o with ⟨e1, e⟩ | ⟨e1, o⟩ <;> rcases own l b p with ⟨e2, e'⟩ | ⟨e2, o'⟩
    · rw [e1, e2]
    · exact absurd e (old l b o')
    · exact absurd e' (old j b o)
    · exact h.inj j l b o o'
  · rcases own j b o with ⟨_, e⟩ | ⟨_, o⟩
    · subst e
      by_cases hm : M0 b
      · exact .inl hm
      · refine .inr ?_
        cases q : H0 b with
        | none => rfl
        | some u =>
          have z := h.kp b u q hm
          rw [na] at z
          cases z
    · exact h.new j b o
/-- an owned list is rewritten -/
theorem RelM.writeO {i : Nat} {a : Addr} {ob : HO} {d : D} (h : RelM K H0 M0 H O σ env) (o : Own σ env i a) (r : ∀ H', Kp (Ow O σ env) H H' → H' a = some ob → OwnAt K H' (Ow O σ env) a d) :
    RelM K H0 M0 (upd H a ob) O σ (env.set i (.o d)) := by
  obtain ⟨⟨d0, g1⟩, g2⟩ := id o
  have hi := (List.getElem?_eq_some_iff.mp g1).1
  have own : ∀ j b, Own σ (env.set i (.o d)) j b → Own σ env j b := fun j b ⟨⟨x, e1⟩, e2⟩ => by
    by_cases hj : i = j
    · subst hj
      exact ⟨⟨d0, g1⟩, e2⟩
    · rw [List.getElem?_set_ne hj] at e1
      exact ⟨⟨x, e1⟩, e2⟩
  have sub : ∀ b, Ow O σ (env.set i (.o d)) b → Ow O σ env b := fun b z => by
    rcases z with z | ⟨j, z⟩
    · exact .inl z
    · exact .inr ⟨j, own j b z⟩
  have hk : Kp (Ow O σ env) H (upd H a ob) := fun b u e n => by
    rw [upd_ne fun z => n (.inr ⟨i, by rw [z]; exact o⟩)]
    exact e
  refine ⟨⟨by rw [List.length_set]; exact h.rel.1, fun j c e => ?_⟩, fun b z => ?_, fun j b q => h.nO j b (own j b q), fun j l b p q => h.inj j l b (own j b p) (own l b q), fun b u e n => ?_, fun j b q => h.new j b (own j b q)⟩
  · by_cases hj : i = j
    · subst hj
      rw [List.getElem?_set_self hi] at e
      cases e
      exact ⟨a, g2, (r _ hk upd_same).less sub⟩
    · rw [List.getElem?_set_ne hj] at e
      have q := h.rel.2 j c e
      cases c with
      | no => trivial
      | v d => obtain ⟨x, e1, rx⟩ := q; exact ⟨x, e1, (rx.kp hk).less sub⟩
      | o d' =>
        obtain ⟨b, e1, rx⟩ := q
        exact ⟨b, e1, (rx.kp hk (upd_ne fun z => hj (h.inj i j a o (by rw [← z]; exact ⟨⟨d', e⟩, e1⟩)))).less sub⟩
  · unfold upd
    split
    · exact fun q => nomatch q
    · exact h.ok b z
  · have q := h.kp b u e n
    rw [upd_ne fun z => ?_]
    · exact q
    · subst z
      rcases h.new i b o with w | w
      · exact n w
      · rw [w] at e; cases e
theorem RelM.write {i : Nat} {a : Addr} {xs : List V} {ds : List D} (h : RelM K H0 M0 H O σ env) (o : Own σ env i a) (r : RepL K H (Ow O σ env) xs ds) :
    RelM K H0 M0 (upd H a (.lst xs)) O σ (env.set i (.o (.l ds))) := h.writeO o fun H' k e => ⟨xs, e, r.kp k⟩
def OwnM (σ : L2.St) (env : List Cell) : Addr → Prop := fun a => ∃ i, Own σ env i a
/-- from a second start -/
theorem RelM.trans (h : RelM K H0 M0 H O σ env) (g : RelM K H (OwnM σ env) H' O σ' env') : RelM K H0 M0 H' O σ' env' := by
  refine ⟨g.rel, g.ok, g.nO, g.inj, fun a o e n => g.kp a o (h.kp a o e n) fun ⟨i, z⟩ => ?_, fun i a o => ?_⟩
  · rcases h.new i a z with w | w
    · exact n w
    · rw [w] at e; cases e
  · rcases g.new i a o with ⟨j, z⟩ | z
    · exact h.new j a z
    · by_cases hm : M0 a
      · exact .inl hm
      · refine .inr ?_
        cases q : H0 a with
        | none => rfl
        | some u =>
          have w := h.kp a u q hm
          rw [z] at w
          cases w
theorem RelM.again (h : RelM K H0 M0 H O σ env) : RelM K H (OwnM σ env) H O σ env := ⟨h.rel, h.ok, h.nO, h.inj, Kp.refl, fun i a o => .inl ⟨i, o⟩⟩
theorem RelM.kpTrans (h : RelM K H0 M0 H O σ env) (g : Kp (OwnM σ env) H H') : Kp M0 H0 H' := fun a o e n => g a o (h.kp a o e n) fun ⟨i, z⟩ => by
  rcases h.new i a z with w | w
  · exact n w
  · rw [w] at e; cases e
end

/-! ### judgements -/
inductive Fl where
  | nx (e : List Cell) | rt (d : D) | bk (e : List Cell) | ct (e : List Cell)
def EndOk (K : PySem.W.Frag) (H0 : Hp) (M0 O : Addr → Prop) (D : Ends) : Fl → Prop
  | .nx e => ∀ σ H, RelM K H0 M0 H O σ e → D.nx σ H
  | .bk e => ∀ σ H, RelM K H0 M0 H O σ e → D.bk σ H
  | .ct e => ∀ σ H, RelM K H0 M0 H O σ e → D.ct σ H
  | .rt d => ∀ v H, Kp M0 H0 H → OkO H O → Rep K H O v d → D.rt v H
abbrev StF := List Cell → Option Fl
def wS (X : Cx) (st : Stmt) : TS := fun D σ H => ∀ (pins : List (Addr × Obj)) (s : Shared), Inv X pins σ H s → wpAny (model X.prog X.w) X.A (exec st X.env) (SP X pins D) X.xe s
def wSs (X : Cx) (st : List Stmt) : TS := fun D σ H => ∀ (pins : List (Addr × Obj)) (s : Shared), Inv X pins σ H s → wpAny (model X.prog X.w) X.A (execs st X.env) (SP X pins D) X.xe s
theorem wS_ps {X : Cx} {st : Stmt} : PS X st (wS X st) := ⟨fun pins s σ H D I h => h pins s I⟩
theorem wSs_pss {X : Cx} {st : List Stmt} : PSs X st (wSs X st) := ⟨fun pins s σ H D I h => h pins s I⟩
theorem PSw {X : Cx} {st : Stmt} {t : TS} (h : PS X st t) {D : Ends} {σ : L2.St} {H : Hp} (q : t D σ H) : wS X st D σ H := fun pins s I => h.run pins s σ H D I q
theorem PSsw {X : Cx} {st : List Stmt} {t : TS} (h : PSs X st t) {D : Ends} {σ : L2.St} {H : Hp} (q : t D σ H) : wSs X st D σ H := fun pins s I => h.run pins s σ H D I q
def DS (X : Cx) (st : Stmt) (f : StF) : Prop := ∀ (H0 : Hp) (M0 : Addr → Prop) (H : Hp) (O : Addr → Prop) (σ : L2.St) (env : List Cell) (fl : Fl) (D : Ends), RelM X.K H0 M0 H O σ env → f env = some fl → EndOk X.K H0 M0 O D fl → wS X st D σ H
def DSs (X : Cx) (sts : List Stmt) (f : StF) : Prop := ∀ (H0 : Hp) (M0 : Addr → Prop) (H : Hp) (O : Addr → Prop) (σ : L2.St) (env : List Cell) (fl : Fl) (D : Ends), RelM X.K H0 M0 H O σ env → f env = some fl → EndOk X.K H0 M0 O D fl → wSs X sts D σ H
section
variable {X : Cx} {st : Stmt} {sts rest body body2 : List Stmt} {f g : StF} {e c : Expr} {pos : Pos} {ef : EvF} {ft : List Cell → Option Bool} {t : Tg} {tg iter : Expr}
@[simp] def seqF (f g : StF) : StF := fun env => (f env).bind fun fl => match fl with
  | .nx e => g e
  | fl => some fl
theorem dss_nil : DSs X [] (fun env => some (.nx env)) := fun H0 M0 H O σ env fl D R e k => PSsw pss_nil (by cases e; exact k σ H R)
theorem dss_cons (h1 : DS X st f) (h2 : DSs X rest g) : DSs X (st :: rest) (seqF f g) := by
  intro H0 M0 H O σ env fl D R e k
  obtain ⟨fl1, e1, e2⟩ := bind_some' e
  refine PSsw (pss_cons wS_ps wSs_pss) (h1 H0 M0 H O σ env fl1 _ R e1 ?_)
  cases fl1 with
  | nx env1 => exact fun σ1 H1 R1 => h2 H0 M0 H1 O σ1 env1 fl D R1 e2 k
  | rt d => cases e2; exact k
  | bk env1 => cases e2; exact k
  | ct env1 => cases e2; exact k
theorem ds_free (keep : Nat → Bool) (h : DS X st f) : DS X st (fun env => f (frC keep 0 env)) := fun H0 M0 H O σ env fl D R e k => h H0 M0 H O σ _ fl D (R.free keep) e k
theorem ds_pass : DS X (.Pass pos) (fun env => some (.nx env)) := fun H0 M0 H O σ env fl D R e k => PSw ps_pass (by cases e; exact k σ H R)
theorem ds_break : DS X (.Break pos) (fun env => some (.bk env)) := fun H0 M0 H O σ env fl D R e k => PSw ps_break (by cases e; exact k σ H R)
theorem ds_cont : DS X (.Continue pos) (fun env => some (.ct env)) := fun H0 M0 H O σ env fl D R e k => PSw ps_continue (by cases e; exact k σ H R)
theorem ds_never : DS X st (fun _ => none) := fun H0 M0 H O σ env fl D R e k => nomatch e
theorem ds_retN : DS X (.Return none pos) (fun _ => some (.rt .n)) := fun H0 M0 H O σ env fl D R e k => PSw ps_retN (by cases e; exact k _ H R.kp R.ok .n)
@[simp] def retF (f : EvF) : StF := fun env => (f (frC (fun _ => false) 0 env)).map .rt
theorem ow_none {K : PySem.W.Frag} {O : Addr → Prop} {σ : L2.St} {env : List Cell} : ∀ a, O a → Ow O σ (frC (fun _ => false) 0 env) a := fun a z => .inl z
theorem ds_ret (h : DE X e ef) : DS X (.Return (some e) pos) (retF ef) := by
  intro H0 M0 H O σ env fl D R z k
  obtain ⟨d, e1, e2⟩ := map_some' z
  subst e2
  have R' := R.free fun _ => false
  refine PSw (ps_ret wE_pe) (h σ H _ _ d _ R'.okW R'.rel e1 fun v H1 s r => ?_)
  exact k v H1 (R.kp.trans s) (R.ok.same s) (r.less fun a z => .inl z)
@[simp] def ifF (ft : List Cell → Option Bool) (f g : StF) : StF := fun env => (ft env).bind fun x => if x = true then f env else g env
theorem ds_if (ht : DT X c ft) (ha : DSs X body f) (hb : DSs X body2 g) : DS X (.If c body body2 pos) (ifF ft f g) := by
  intro H0 M0 H O σ env fl D R z k
  obtain ⟨x, e1, e2⟩ := bind_some' z
  refine PSw (ps_if wT_pt wSs_pss wSs_pss) (ht σ H _ env x _ R.okW R.rel e1 fun H1 s => ?_)
  cases x with
  | true => exact iteT (ha H0 M0 H1 O σ env fl D (R.same s) e2 k)
  | false => exact iteF (hb H0 M0 H1 O σ env fl D (R.same s) e2 k)
/-- target = value -/
@[simp] def asgF (t : Tg) (f : EvF) : StF := fun env => (f env).bind fun d => (bindT t d env).map .nx
theorem ds_asg (he : DE X e ef) (hg : DG X tg t) (hs : swapsWithSole [tg] e pos.line X.env = pure false) (hw : swappedStores [tg] e X.env = pure none) (h1 : (assignEach [tg] X.env).map (·.2) = [assign tg X.env]) : DS X (.Assign [tg] e pos) (asgF t ef) := by
  intro H0 M0 H O σ env fl D R z k
  obtain ⟨d, e1, z⟩ := bind_some' z
  obtain ⟨env', e2, z⟩ := map_some' z
  subst z
  refine PSw (ps_asg wE_pe wG_pg hs hw h1) (he σ H _ env d _ R.okW R.rel e1 fun v H1 s r => ?_)
  exact hg v d σ H1 _ env env' _ (R.same s).rel r e2 fun σ' R' off => k σ' H1 ((R.same s).bind e2 R' off)
/-- name = a new list, which the frame may change -/
@[simp] def ownF (i : Nat) (f : EvF) : StF := fun env => (f env).map fun d => .nx (env.set i (.o d))
theorem ds_own {i : Nat} {x : Str} {pos' : Pos} (hN : X.N.Nodup) (hi : X.N[i]? = some x) (hx : Loc X.env.scope x) (hf : X.fn x = true ∨ X.env.scope.names.lookup x = some .local) (he : DF X e ef) (hs : swapsWith e (some (.Name x pos')) pos.line X.env = pure false) : DS X (.Assign [.Name x pos'] e pos) (ownF i ef) := by
  intro H0 M0 H O σ env fl D R z k
  obtain ⟨d, e1, z⟩ := map_some' z
  subst z
  refine PSw (ps_set hN hi hx wE_pe hs hf) (he σ H _ env d _ R.okW R.rel e1 fun a H1 s na r => k _ H1 (R.fresh s na r))
/-- x.append(e) -/
@[simp] def getO : List Cell → Nat → Option (List D)
  | .o (.l ds) :: _, 0 => some ds
  | _ :: r, n + 1 => getO r n
  | _, _ => none
theorem getO_some : ∀ {env : List Cell} {i : Nat} {ds : List D}, getO env i = some ds → env[i]? = some (.o (.l ds))
  | [], _, _, h => by cases h
  | c :: r, n + 1, ds, h => by
    have h : getO r n = some ds := by
      cases c with
      | o d => cases d <;> exact h
      | _ => exact h
    rw [List.getElem?_cons_succ]
    exact getO_some h
  | .no :: r, 0, ds, h => by cases h
  | .v _ :: r, 0, ds, h => by cases h
  | .o d :: r, 0, ds, h => by
    cases d <;> first
      | (cases h; done)
      | (cases h; rfl)
theorem RelM.getO {K : PySem.W.Frag} {H0 H : Hp} {M0 O : Addr → Prop} {σ : L2.St} {env : List Cell} {i : Nat} {ds : List D} (R : RelM K H0 M0 H O σ env) (h : getO env i = some ds) : ∃ a xs, Own σ env i a ∧ σ[i]? = some (some (.ref a)) ∧ H a = some (.lst xs) ∧ RepL K H (Ow O σ env) xs ds := by
  have e := getO_some h
  obtain ⟨a, e1, xs, e3, r⟩ := R.rel.2 i _ e
  exact ⟨a, xs, ⟨⟨_, e⟩, e1⟩, e1, e3, r⟩
@[simp] def appF (i : Nat) (f : EvF) : StF := fun env => (getO env i).bind fun ds => (f env).bind fun y => if ds.length < SZ then some (.nx (env.set i (.o (.l (ds ++ [y]))))) else none
theorem ds_append {i : Nat} {x : Str} {p1 apos cpos : Pos} (hi : X.N[i]? = some x) (hv : Vis X.env.scope x) (hd : (x == ("__debug__" : Str)) = false) (hcd : (x == ("__classdict__" : Str)) = false) (he : DE X e ef)
    (hline : (apos.endLine == cpos.line) = true) (hs : starEach [e] X.env = (false, eval e X.env) :: starEach [] X.env)
    (hbase : attributeBase (.Name x p1) "append" X.env (eval (.Name x p1) X.env) = eval (.Name x p1) X.env) :
    DS X (.Expr (.Call (.Attribute (.Name x p1) "append" apos) [e] [] cpos) pos) (appF i ef) := by
  intro H0 M0 H O σ env fl D R z k
  obtain ⟨ds, e1, z⟩ := bind_some' z
  obtain ⟨y, e2, z⟩ := bind_some' z
  split at z <;> first
    | (cases z; done)
    | skip
  rename_i hz
  cases z
  obtain ⟨a, xs, ow, g1, g2, g3⟩ := R.getO e1
  have hfew : ((backTo cpos (starEach (e :: []) X.env)).all (fun x => !x.1) && (backToKw cpos (keywordEach [] X.env)).all (fun x => x.1.isSome)
      && decide ((e :: []).length + ([] : List Keyword).length + (if ([] : List Keyword).isEmpty then 0 else 1) < 30)) = true := by rw [hs]; rfl
  refine PSw (ps_expr (pe_bm F.plainAttrs_list F.slot_list_append F.type_list_append mt_append (pe_var hi hv hd hcd) (pa_cons wE_pe pa_nil hs) hbase hfew hline hs rfl) rfl) ?_
  refine ⟨.ref a, g1, .inl ⟨rfl, xs, SqL.of g2⟩, ?_⟩
  refine he σ H _ env y _ R.okW R.rel e2 fun v H1 s r => ?_
  have g4 := s _ _ g2
  refine ⟨a, xs, v, rfl, rfl, g4, by rw [g3.length, SZ_eq]; exact hz, ?_⟩
  exact k _ _ ((R.same s).write ow ((g3.same s).append (.cons r .nil)))
/-- x[k] = e -/
def setD (x k y : D) : Option D := match x, k with
  | .l ds, .i k => (ixN ds.length k).map fun j => .l (ds.set j y)
  | .d ks vs, k => if tkD k = true ∧ ks.length < SZ then some (dPut ks vs k y) else none
  | _, _ => none
@[simp] def getW : List Cell → Nat → Option D
  | [], _ => none
  | .o d :: _, 0 => some d
  | .v _ :: _, 0 => none
  | .no :: _, 0 => none
  | _ :: r, n + 1 => getW r n
theorem getW_some : ∀ {env : List Cell} {i : Nat} {d : D}, getW env i = some d → env[i]? = some (.o d)
  | [], _, _, h => by cases h
  | c :: r, n + 1, ds, h => by
    have h : getW r n = some ds := by cases c <;> exact h
    rw [List.getElem?_cons_succ]
    exact getW_some h
  | .no :: r, 0, ds, h => by cases h
  | .v _ :: r, 0, ds, h => by cases h
  | .o d :: r, 0, ds, h => by cases h; rfl
@[simp] def setF (i : Nat) (fk f : EvF) : StF := fun env => (f env).bind fun y => (getW env i).bind fun x => (fk env).bind fun k => (setD x k y).map fun x' => .nx (env.set i (.o x'))
/-- a[k] = v, a dict with tuple keys -/
def rSetX (X : Cx) : TSet := fun o i v H Q => ∃ (O : Addr → Prop) (a : Addr) (ks vs : List D) (k x : D), o = .ref a ∧ OwnAt X.K H O a (.d ks vs) ∧ Rep X.K H O i k ∧ tkD k = true ∧ Rep X.K H O v x ∧ ks.length < SZ ∧
  ∀ ents', (∀ H' O', H' a = some (DxO a ents') → (∀ v d, Rep X.K H O v d → Rep X.K H' O' v d) → OwnAt X.K H' O' a (dPut ks vs k x)) → Q (upd H a (DxO a ents'))
theorem set_dx (hu : X.A.units + 65 < cLine) : PSet X (rSetX X) := by
  intro pins s σ H o i v ov iv u Q I ro ri rv h
  obtain ⟨O, a, ks, vs, k, x, rfl, ow, rk, tk, rx, hz, q⟩ := h
  cases (show ov = Value.ref a from ro)
  exact dx_set hu I ow rk tk ri rv rx hz fun es s' I' m => ⟨_, I', q es m⟩
theorem PSet.or {t t' : TSet} (h : PSet X t) (h' : PSet X t') : PSet X (fun o i v H Q => t o i v H Q ∨ t' o i v H Q) := by
  intro pins s σ H o i v ov iv u Q I ro ri rv q
  rcases q with q | q
  · exact h pins s σ H o i v ov iv u Q I ro ri rv q
  · exact h' pins s σ H o i v ov iv u Q I ro ri rv q
theorem ds_setIx (hu : X.A.units + 65 < cLine) {i : Nat} {x : Str} {p1 p2 : Pos} {ek : Expr} {fk : EvF} (hi : X.N[i]? = some x) (hv : Vis X.env.scope x) (hd : (x == ("__debug__" : Str)) = false) (hcd : (x == ("__classdict__" : Str)) = false) (hk : DE X ek fk) (he : DE X e ef)
    (ha : ∀ v, assign (.Subscript (.Name x p1) ek p2) X.env v = (do
      let ov ← holding [v] (eval (.Name x p1) X.env)
      let iv ← holding [v, ov] (eval ek X.env)
      standAt p2
      holding [v, ov, iv] (setItem ov iv v)
      release [v, ov, iv] []))
    (hs : swapsWithSole [.Subscript (.Name x p1) ek p2] e pos.line X.env = pure false) (hw : swappedStores [.Subscript (.Name x p1) ek p2] e X.env = pure none) (h1 : (assignEach [.Subscript (.Name x p1) ek p2] X.env).map (·.2) = [assign (.Subscript (.Name x p1) ek p2) X.env]) :
    DS X (.Assign [.Subscript (.Name x p1) ek p2] e pos) (setF i fk ef) := by
  intro H0 M0 H O σ env fl D R z k
  obtain ⟨y, e1, z1⟩ := bind_some' z
  clear z
  obtain ⟨d, e2, z2⟩ := bind_some' z1
  clear z1
  obtain ⟨q, e3, z3⟩ := bind_some' z2
  clear z2
  obtain ⟨d', e4, z4⟩ := map_some' z3
  clear z3
  subst z4
  have g0 := getW_some e2
  refine PSw (ps_asg wE_pe (pg_sub (pe_var hi hv hd hcd) wE_pe (PSet.or set_list (set_dx hu)) ha) hs hw h1) (he σ H _ env y _ R.okW R.rel e1 fun v H1 s r => ?_)
  obtain ⟨a, g1, g2⟩ := (R.same s).rel.2 i _ g0
  have ow : Own σ env i a := ⟨⟨_, g0⟩, g1⟩
  refine ⟨.ref a, g1, hk σ H1 _ env _ _ (R.same s).okW (R.same s).rel e3 fun u H2 s2 r2 => ?_⟩
  have g3 := g2.same s2
  cases d <;> first
    | exact g2.elim
    | skip
  · rename_i ds
    cases q <;> first
      | (cases e4; done)
      | skip
    rename_i kk
    obtain ⟨j, e5, e6⟩ := map_some' e4
    subst e6
    cases r2
    obtain ⟨xs, g4, g5⟩ := g3
    exact .inl ⟨a, xs, kk, j, rfl, rfl, g4, by rw [g5.length]; exact e5, k _ _ (((R.same s).same s2).write ow (g5.set (r.same s2) j))⟩
  · rename_i ks vs
    have e4 : (if tkD q = true ∧ ks.length < SZ then some (dPut ks vs q y) else none) = some d' := e4
    split at e4
    · rename_i hc
      cases e4
      exact .inr ⟨_, a, ks, vs, q, y, rfl, g3, r2, hc.1, r.same s2, hc.2, fun es m => k _ _ (((R.same s).same s2).writeO ow fun H' kp e => m H' _ e fun v d r => r.kp kp)⟩
    · cases e4
/-- name += int, name -= int -/
@[simp] def augF (i : Nat) (op : Int → Int → Int) (f : EvF) : StF := fun env => (getV env i).bind fun x => (f env).bind fun y => match x, y with
  | .i a, .i b => some (.nx (env.set i (.v (.i (op a b)))))
  | _, _ => none
theorem ds_aug {i : Nat} {x : Str} {pos' : Pos} {op : Operator} {p : Int → Int → Int} (hN : X.N.Nodup) (hi : X.N[i]? = some x) (hx : Loc X.env.scope x) (hf : X.fn x = true ∨ X.env.scope.names.lookup x = some .local) (ho : PIp X op (ipI p)) (he : DE X e ef) :
    DS X (.AugAssign (.Name x pos') op e pos) (augF i p ef) := by
  intro H0 M0 H O σ env fl D R z k
  obtain ⟨a, e1, z1⟩ := bind_some' z
  clear z
  obtain ⟨b, e2, z⟩ := bind_some' z1
  clear z1
  cases a <;> cases b <;> first
    | (cases z; done)
    | skip
  rename_i a b
  cases z
  obtain ⟨u, g1, g2⟩ := R.rel.2 i _ (getV_some e1)
  cases g2
  refine PSw (ps_aug hN hi hx wE_pe ho hf) ⟨.int a, g1, he σ H _ env _ _ R.okW R.rel e2 fun v H1 s r => ?_⟩
  cases r
  refine ⟨a, b, rfl, rfl, k _ H1 ?_⟩
  have e3 : bindT (.nm i) (.i (p a b)) env = some (env.set i (.v (.i (p a b)))) := by rw [bindT]
  exact (R.same s).bind e3 ((R.same s).rel.set (.i _)) (by rw [Tg.slots]; exact Off.set)
/-- an expression whose value is dropped -/
theorem ds_expr (he : DE X e ef) (hs : swapsWith e none pos.line X.env = pure false) : DS X (.Expr e pos) (fun env => (ef env).map fun _ => .nx env) := by
  intro H0 M0 H O σ env fl D R z k
  obtain ⟨d, e1, z⟩ := map_some' z
  subst z
  exact PSw (ps_expr wE_pe hs) (he σ H _ env d _ R.okW R.rel e1 fun v H1 s r => k σ H1 (R.same s))

/-! ### loops -/
@[simp] def forV (t : Tg) (fb : StF) : List D → StF
  | [], env => some (.nx env)
  | d :: ds, env => (bindT t d env).bind fun env1 => (fb env1).bind fun fl => match fl with
    | .nx e => forV t fb ds e
    | .ct e => forV t fb ds e
    | .bk e => some (.nx e)
    | .rt d => some (.rt d)
@[simp] def forF (fs : List Cell → Option (List D)) (t : Tg) (fb : StF) : StF := fun env => (fs env).bind fun ds => forV t fb ds env
theorem ds_for {fs : List Cell → Option (List D)} (hp : PassesOwn (model X.prog X.w) X.A X.env X.xe) (hc : X.calm = true) (hi : DI true X tg iter fs) (hg : DG X tg t) (hb : DSs X body f) (hs : ∀ x, foldedSetIterable iter X.env x = pure x) :
    DS X (.For tg iter body [] pos) (forF fs t f) := by
  intro H0 M0 H O σ env fl D R z k
  obtain ⟨ds, e1, z⟩ := bind_some' z
  refine PSw (ps_for hp hc wI_pi wG_pg wSs_pss hs) (hi σ H _ env ds _ R.okW R.rel e1 fun J H1 s it => ?_)
  have R1 := R.same s
  have kE : ∀ {H' : Hp}, Kp (OwnM σ env) H1 H' → Kp (Eo true (Ow O σ env)) H1 H' := fun h a o e n => h a o e fun q => n ⟨rfl, .inr q⟩
  refine ⟨fun i m σ' H' => m = ds.length - i ∧ i ≤ ds.length ∧ ∃ env', RelM X.K H1 (OwnM σ env) H' O σ' env' ∧ forV t f (ds.drop i) env' = some fl, ⟨ds.length, rfl, Nat.zero_le _, env, R1.again, by rw [List.drop_zero]; exact z⟩, ?_⟩
  rintro i m σ' H' ⟨rfl, hi, env', R', z'⟩
  by_cases hlt : i < ds.length
  · refine .inr ⟨it.go i H' (kE R'.kp) hlt, fun σ2 H2 => ∃ env', RelM X.K H1 (OwnM σ env) H2 O σ2 env' ∧ forV t f (ds.drop (i + 1)) env' = some fl, fun σ2 H2 q => ⟨ds.length - (i + 1), by omega, rfl, hlt, q⟩, fun x H3 y => ?_⟩
    have ei : ds[i]? = some ds[i] := List.getElem?_eq_getElem hlt
    obtain ⟨s3, rx⟩ := it.yld i H' x H3 _ (kE R'.kp) y ei
    have rx := rx (Ow O σ' env') (fun a z => by
      rcases z with z | ⟨j, z⟩
      · exact .inl (.inl z)
      · rcases R'.new j a z with q | q
        · exact .inl (.inr q)
        · exact .inr q) R'.okW
    rw [List.drop_eq_getElem_cons hlt, forV] at z'
    obtain ⟨env1, e2, z'⟩ := bind_some' z'
    obtain ⟨fl1, e3, z'⟩ := bind_some' z'
    have R3 := R'.same s3
    refine hg x _ σ' H3 _ env' env1 _ R3.rel rx e2 fun σ2 R2 off => ?_
    have R4 := R3.bind e2 R2 off
    refine hb H1 (OwnM σ env) H3 O σ2 env1 fl1 _ R4 e3 ?_
    cases fl1 with
    | nx e => exact fun σ5 H5 R5 => ⟨e, R5, z'⟩
    | ct e => exact fun σ5 H5 R5 => ⟨e, R5, z'⟩
    | bk e =>
      cases z'
      exact fun σ5 H5 R5 => k σ5 H5 (R1.trans R5)
    | rt d =>
      cases z'
      exact fun v H5 k5 ok5 r5 => k v H5 (R1.kpTrans k5) ok5 r5
  · have e : i = ds.length := by omega
    subst e
    rw [List.drop_length, forV] at z'
    cases z'
    exact .inl ⟨it.stop H' (kE R'.kp), k σ' H' (R1.trans R')⟩
def whileV (ft : List Cell → Option Bool) (fb : StF) : Nat → StF
  | 0, _ => none
  | n + 1, env => (ft env).bind fun c => if c = true then (fb env).bind fun fl => (match fl with
    | .nx e => whileV ft fb n e
    | .ct e => whileV ft fb n e
    | .bk e => some (.nx e)
    | .rt d => some (.rt d)) else some (.nx env)
theorem ds_while (n : Nat) (hp : PassesOwn (model X.prog X.w) X.A X.env X.xe) (ht : DT X c ft) (hb : DSs X body f) : DS X (.While c body [] pos) (whileV ft f n) := by
  intro H0 M0 H O σ env fl D R z k
  refine PSw (ps_while hp wT_pt wSs_pss) ⟨fun m σ' H' => ∃ env', RelM X.K H0 M0 H' O σ' env' ∧ whileV ft f m env' = some fl, ⟨n, env, R, z⟩, ?_⟩
  rintro m σ' H' ⟨env', R', z'⟩
  cases m with
  | zero => rw [whileV] at z'; cases z'
  | succ m =>
    rw [whileV] at z'
    obtain ⟨b, e1, z'⟩ := bind_some' z'
    refine ht σ' H' _ env' b _ R'.okW R'.rel e1 fun H1 s => ?_
    cases b with
    | false =>
      cases z'
      exact iteF (k σ' H1 (R'.same s))
    | true =>
      have z' : ((f env').bind fun fl => match fl with | .nx e => whileV ft f m e | .ct e => whileV ft f m e | .bk e => some (.nx e) | .rt d => some (.rt d)) = some fl := z'
      obtain ⟨fl1, e2, z'⟩ := bind_some' z'
      refine iteT ⟨fun σ2 H2 => ∃ env', RelM X.K H0 M0 H2 O σ2 env' ∧ whileV ft f m env' = some fl, fun σ2 H2 q => ⟨m, Nat.lt_succ_self _, q⟩, ?_⟩
      refine hb H0 M0 H1 O σ' env' fl1 _ (R'.same s) e2 ?_
      cases fl1 with
      | nx e => exact fun σ5 H5 R5 => ⟨e, R5, z'⟩
      | ct e => exact fun σ5 H5 R5 => ⟨e, R5, z'⟩
      | bk e => cases z'; exact k
      | rt d => cases z'; exact k
end
end PL
/-! PL cl: a < b of ints and of tuples, nested. -/
namespace PL
open PySem PySem.Spec PyProof.Rows L2

/-- x < y, of ints or tuples; of tuples every two parts that stand at one place are compared as the first unequal ones would be -/
def ltD : Nat → D → D → Option Bool
  | _, .i a, .i b => some (decide (a < b))
  | n + 1, .t xs, .t ys => if ((List.range (min xs.length ys.length)).all fun j => okD 8 (xs.getD j .n) && okD 8 (ys.getD j .n) && (eqD (xs.getD j .n) (ys.getD j .n) || (ltD n (xs.getD j .n) (ys.getD j .n)).isSome)) = true then
      some (Ob.lexAt (fun j => eqD (xs.getD j .n) (ys.getD j .n)) (fun j => (ltD n (xs.getD j .n) (ys.getD j .n)).getD false) (decide (xs.length < ys.length)) 0 (min xs.length ys.length)) else none
  | _, _, _ => none
def ltE (x y : D) : Option D := (ltD 5 x y).map .b
@[simp] theorem ltE_i (x y : Int) : ltE (.i x) (.i y) = some (.b (decide (x < y))) := by
  unfold ltE ltD
  rfl
section
variable {X : Cx} {pins : List (Addr × Obj)} {σ : L2.St} {H : Hp} {s : Shared} {O : Addr → Prop}
theorem lt_run (I : Inv X pins σ H s) : ∀ (n : Nat) (A : Around) (p q : D) (x y : V) (u w : Value) (b : Bool), A.units + n + 12 < cLine → RepB X.K H O x p → RepB X.K H O y q → RelV x u → RelV y w → ltD n p q = some b → Ob.RcOp .Lt A s u w b := by
  intro n
  induction n with
  | zero =>
    intro A p q x y u w b hu rp rq rx ry e
    unfold ltD at e
    split at e
    · cases e
      obtain rfl := rp.int
      obtain rfl := rq.int
      obtain ⟨t, rfl⟩ := rx
      obtain ⟨t', rfl⟩ := ry
      exact Ob.RcOp.lt_int _ _ _ _
    · rename_i m xs ys hm
      exfalso
      revert hm
      simp
    · cases e
  | succ n ih =>
    intro A p q x y u w b hu rp rq rx ry e
    unfold ltD at e
    split at e
    · cases e
      obtain rfl := rp.int
      obtain rfl := rq.int
      obtain ⟨t, rfl⟩ := rx
      obtain ⟨t', rfl⟩ := ry
      exact Ob.RcOp.lt_int _ _ _ _
    · rename_i m xs ys hm
      have hm' : m = n := by omega
      subst hm'
      split at e
      · rename_i hall
        cases e
        obtain ⟨a, vs, rfl, h1, r1⟩ := rp.tup
        obtain ⟨a', ws, rfl, h2, r2⟩ := rq.tup
        cases rx
        cases ry
        obtain ⟨its, v1, p1, _⟩ := I.tuple h1
        obtain ⟨its2, v2, p2, _⟩ := I.tuple h2
        have e1 : its.toArray.size = xs.length := by rw [List.size_toArray, ← v1.length, r1.length]
        have e2 : its2.toArray.size = ys.length := by rw [List.size_toArray, ← v2.length, r2.length]
        have at_ : ∀ {its : List Value} {vs : List V} {xs : List D}, Vals vs its → RepL X.K H O vs xs → ∀ j (h : j < its.toArray.size), ∃ v, RelV v its.toArray[j] ∧ Rep X.K H O v (xs.getD j .n) := by
          intro its vs xs v1 r1 j h
          have hj : j < xs.length := by rw [← r1.length, v1.length]; simpa using h
          obtain ⟨v, k1, k2⟩ := r1.get (List.getElem?_eq_getElem hj)
          obtain ⟨z, k3, k4⟩ := v1.get k1
          refine ⟨v, ?_, ?_⟩
          · have : its.toArray[j] = z := by
              have k5 := List.getElem?_eq_some_iff.mp k3
              simpa using k5.2
            rw [this]
            exact k4
          · rw [List.getD_eq_getElem?_getD, List.getElem?_eq_getElem hj]
            exact k2
        have all : ∀ j, j < xs.length → j < ys.length → (okD 8 (xs.getD j .n) = true ∧ okD 8 (ys.getD j .n) = true) ∧ (eqD (xs.getD j .n) (ys.getD j .n) = true ∨ (ltD m (xs.getD j .n) (ys.getD j .n)).isSome = true) := fun j h1 h2 => by
          have z := List.all_eq_true.mp hall j (List.mem_range.mpr (by omega))
          rw [Bool.and_eq_true, Bool.and_eq_true, Bool.or_eq_true] at z
          exact z
        have R := Ob.RcOp.tuples_lt (A := A) (s := s) (e := fun j => eqD (xs.getD j .n) (ys.getD j .n)) (r := fun j => (ltD m (xs.getD j .n) (ys.getD j .n)).getD false) p1 p2 (by omega) (fun j k1 k2 => ?_) (fun j k1 k2 ne => ?_)
        · rw [e1, e2] at R
          exact R
        · obtain ⟨v, a1, a2⟩ := at_ v1 r1 j k1
          obtain ⟨z, b1, b2⟩ := at_ v2 r2 j k2
          obtain ⟨⟨c1, c2⟩, _⟩ := all j (by omega) (by omega)
          obtain ⟨as, d1⟩ := Dp.reads I _ _ _ (rep_dp 8 a2 c1) a1
          obtain ⟨bs, d2⟩ := Dp.reads I _ _ _ (rep_dp 8 b2 c2) b1
          obtain ⟨l1, l2⟩ := lay_of_ok _ _ c1
          obtain ⟨l3, l4⟩ := lay_of_ok _ _ c2
          refine SeqAt.eqAt_reads _ _ A.in1 s _ _ as bs d1 d2 l1 l3 ?_
          show A.units + 1 + _ < cLine
          have := Nat.min_le_left (toPy (xs.getD j .n)).depth (toPy (ys.getD j .n)).depth
          omega
        · obtain ⟨v, a1, a2⟩ := at_ v1 r1 j k1
          obtain ⟨z, b1, b2⟩ := at_ v2 r2 j k2
          obtain ⟨_, c3⟩ := all j (by omega) (by omega)
          rcases c3 with c3 | c3
          · rw [c3] at ne; cases ne
          · obtain ⟨bb, c4⟩ := Option.isSome_iff_exists.mp c3
            show Ob.RcOp .Lt A.in1 s _ _ ((ltD m (xs.getD j .n) (ys.getD j .n)).getD false)
            rw [c4]
            refine ih A.in1 _ _ _ _ _ _ _ ?_ (.inl a2) (.inl b2) a1 b1 c4
            show A.units + 1 + _ + _ < cLine
            omega
      · cases e
    · cases e
theorem of_lt (hu : X.A.units + 65 < cLine) : OpF X (compareOp .Lt) ltE := by
  intro pins s σ H O x y u w p q d Q I ok rx ry rp rq e c
  obtain ⟨b, e1, e2⟩ := map_some' e
  subst e2
  have R := lt_run I 5 X.A p q x y u w b (by omega) rp rq rx ry e1
  exact (R X.prog X.w X.xe (EP X pins σ Q) ⟨.bl _, H, I, rfl, c _ _ (Same.refl _) (.b _)⟩ : wpAny (model X.prog X.w) X.A (compareOp .Lt u w) (EP X pins σ Q) X.xe s)
end
end PL
/-! PL l: the evaluator of expressions, and that the model keeps to it. -/
namespace PL
open PySem PySem.Spec PyProof.Rows L2

/-! ### what is known of a place in the text -/
structure Ga where
  N : List Str
  sc : Scope
  fnx : Str → Bool
  fns : List (Str × Nat)
  free : List Str
  call : Str → List D → Option D
  con : List (Str × D)
def idxS (x : Str) : List Str → Nat → Option Nat
  | [], _ => none
  | y :: r, n => if x = y then some n else idxS x r (n + 1)
theorem idxS_some {x : Str} : ∀ {l : List Str} {n i : Nat}, idxS x l n = some i → n ≤ i ∧ l[i - n]? = some x
  | [], _, _, h => by cases h
  | y :: r, n, i, h => by
    unfold idxS at h
    split at h
    · rename_i e
      cases h
      subst e
      exact ⟨Nat.le_refl _, by rw [Nat.sub_self, List.getElem?_cons_zero]⟩
    · obtain ⟨h1, h2⟩ := idxS_some h
      refine ⟨by omega, ?_⟩
      rw [show i - n = (i - (n + 1)) + 1 by omega, List.getElem?_cons_succ]
      exact h2
def Ga.slot (Γ : Ga) (x : Str) : Option Nat := idxS x Γ.N 0
def Ga.vis (Γ : Ga) (x : Str) : Bool := (match Γ.sc.names.lookup x with
  | some .local => true
  | some .cell => true
  | some .free => true
  | _ => false) && !(x == ("__debug__" : Str)) && !(x == ("__classdict__" : Str))
def Ga.loc (Γ : Ga) (x : Str) : Bool := match Γ.sc.names.lookup x with
  | some .local => true
  | some .cell => Γ.fnx x
  | _ => false
def Ga.gl (Γ : Ga) (x : Str) : Bool := (match Γ.sc.names.lookup x with
  | some .globalImplicit => true
  | _ => false) && !(x == ("__debug__" : Str)) && !(x == ("__name__" : Str))
def Ga.blk (Γ : Ga) (scope : Scope) : Ga := { Γ with sc := relS scope Γ.sc, fnx := fun x => scope.names.lookup x == some .cell }
/-- what a module's name stands for that is imported from the library; the mark by which the list of free names tells it -/
def modOf (x : Str) : Option (Str × Value) :=
  if x = "gcd" then some ("im:gcd", .builtin "math.gcd") else if x = "lcm" then some ("im:lcm", .builtin "math.lcm") else if x = "combinations" then some ("im:combinations", .type "itertools.combinations") else none
structure GOk (Γ : Ga) (X : Cx) : Prop where
  N : X.N = Γ.N
  nd : X.N.Nodup
  sc : X.env.scope = Γ.sc
  fn : ∀ x, Γ.fnx x = true → X.fn x = true
  calm : X.calm = true
  un : X.A.units + 65 < cLine
  free : ∀ x, Γ.free.contains x = true → X.mg x = none
  mods : ∀ x m v, modOf x = some (m, v) → Γ.free.contains m = true → X.mg x = some v
  fns : ∀ x n, Γ.fns.lookup x = some n → ∃ k fa fd ps, FnOk X.prog X.w X.K X.mg X.base CX0 k fa fd ps (spD X.K n (Γ.call x)) ∧ Room k X.A ∧ X.mg x = some (.ref fa) ∧ PySem.W.keepIn X.K (.ref fa) = true ∧ Binds X.K fd ps []
  con : ∀ x d, Γ.con.lookup x = some d → ∃ v u, X.mg x = some u ∧ RelV v u ∧ ∀ H O, Rep X.K H O v d
section
variable {Γ : Ga} {X : Cx} {x : Str} {i : Nat}
theorem GOk.slot (g : GOk Γ X) (h : Γ.slot x = some i) : X.N[i]? = some x := by
  have q := (idxS_some h).2
  rw [g.N]
  exact q
theorem GOk.vis (g : GOk Γ X) (h : Γ.vis x = true) : Vis X.env.scope x ∧ (x == ("__debug__" : Str)) = false ∧ (x == ("__classdict__" : Str)) = false := by
  unfold Ga.vis at h
  rw [Bool.and_eq_true, Bool.and_eq_true, Bool.not_eq_true', Bool.not_eq_true'] at h
  obtain ⟨⟨h1, h2⟩, h3⟩ := h
  refine ⟨?_, h2, h3⟩
  unfold Vis
  rw [g.sc]
  split at h1 <;> first
    | (rename_i e; rw [e]; exact .inl rfl)
    | (rename_i e; rw [e]; exact .inr (.inl rfl))
    | (rename_i e; rw [e]; exact .inr (.inr rfl))
    | cases h1
theorem GOk.loc (g : GOk Γ X) (h : Γ.loc x = true) : L2.Loc X.env.scope x ∧ (X.fn x = true ∨ X.env.scope.names.lookup x = some .local) := by
  unfold Ga.loc at h
  unfold L2.Loc
  rw [g.sc]
  split at h
  · rename_i e; rw [e]; exact ⟨.inl rfl, .inr rfl⟩
  · rename_i e; rw [e]; exact ⟨.inr rfl, .inl (g.fn x h)⟩
  · cases h
theorem GOk.gl (g : GOk Γ X) (h : Γ.gl x = true) : Gl X x ∧ (x == ("__debug__" : Str)) = false ∧ x ≠ "__name__" := by
  unfold Ga.gl at h
  rw [Bool.and_eq_true, Bool.and_eq_true, Bool.not_eq_true', Bool.not_eq_true'] at h
  obtain ⟨⟨h1, h2⟩, h3⟩ := h
  refine ⟨?_, h2, fun e => ?_⟩
  · unfold Gl Env.kindOf
    rw [g.sc]
    split at h1
    · rename_i e; exact e
    · cases h1
  · rw [e, beq_self_eq_true] at h3
    cases h3
theorem GOk.blk {scope : Scope} {Y : Cx} (g : GOk Γ X) (h : Blk X scope Y) : GOk (Γ.blk scope) Y := by
  obtain ⟨s, H, C, cl, fp, rfl⟩ := h
  refine ⟨g.N, g.nd, ?_, fun x e => e, g.calm, g.un, g.free, g.mods, g.fns, g.con⟩
  show relS scope X.env.scope = relS scope Γ.sc
  rw [g.sc]
end

/-! ### what an expression gives -/
structure Ev where
  e : EvF
  b : EvF
  f : EvF
  t : List Cell → Option Bool
def noE : EvF := fun _ => none
def noT : List Cell → Option Bool := fun _ => none
def Ev.bad : Ev := ⟨noE, noE, noE, noT⟩
structure EvOk (X : Cx) (x : Expr) (r : Ev) : Prop where
  e : DE X x r.e
  b : DB X x r.b
  f : DF X x r.f
  t : DT X x r.t
section
variable {X : Cx} {x : Expr} {f : EvF}
theorem de_no : DE X x noE := fun _ _ _ _ _ _ _ _ h => nomatch h
theorem db_no : DB X x noE := fun _ _ _ _ _ _ _ _ h => nomatch h
theorem df_no : DF X x noE := fun _ _ _ _ _ _ _ _ h => nomatch h
theorem dt_no : DT X x noT := fun _ _ _ _ _ _ _ _ h => nomatch h
theorem bad_ok : EvOk X x .bad := ⟨de_no, db_no, df_no, dt_no⟩
/-- tests that ask the value alone -/
def plainT : Expr → Bool
  | .UnaryOp .Not _ _ => false
  | .BoolOp .. => false
  | .IfExp .. => false
  | .Compare .. => false
  | _ => true
theorem plainT_ok {x : Expr} (h : plainT x = true) {env : Env} : ∀ whole, isTrue x env whole = (do let v ← whole; standAt x.pos; holding [v] (truthy v)) := by
  intro whole
  cases x with
  | UnaryOp op a pos => cases op <;> first | (cases h; done) | rfl
  | BoolOp => cases h
  | IfExp => cases h
  | Compare => cases h
  | _ => rfl
/-- of a strict reading; borrowed; of a fresh list -/
def Ev.ofE (x : Expr) (f : EvF) : Ev := ⟨f, f, noE, if plainT x = true then asT f else noT⟩
def Ev.ofB (x : Expr) (f g : EvF) : Ev := ⟨f, g, noE, if plainT x = true then asT g else noT⟩
def Ev.ofF (x : Expr) (f : EvF) : Ev := ⟨f, f, f, if plainT x = true then asT f else noT⟩
theorem ofT_ok (h : DB X x f) : DT X x (if plainT x = true then asT f else noT) := by
  split
  · rename_i q
    exact dt_truth h (plainT_ok q)
  · exact dt_no
theorem ofE_ok (h : DE X x f) : EvOk X x (.ofE x f) := ⟨h, h.db, df_no, ofT_ok h.db⟩
theorem ofB_ok {g : EvF} (h : DE X x f) (h' : DB X x g) : EvOk X x (.ofB x f g) := ⟨h, h', df_no, ofT_ok h'⟩
theorem ofF_ok (h : DF X x f) : EvOk X x (.ofF x f) := ⟨h.de, h.de.db, h, ofT_ok h.de.db⟩
theorem if_ok {c : Bool} {r : Ev} (h : c = true → EvOk X x r) : EvOk X x (if c = true then r else .bad) := by
  split
  · rename_i q; exact h q
  · exact bad_ok
end
abbrev Rc := Ga → Expr → Ev
def Snd (rec : Rc) : Prop := ∀ Γ X x, GOk Γ X → EvOk X x (rec Γ x)

/-! ### stars -/
def noStar : Expr → Bool
  | .Starred .. => false
  | _ => true
theorem star_cons {e : Expr} {es : List Expr} {env : Env} (h : noStar e = true) : starEach (e :: es) env = (false, eval e env) :: starEach es env := by
  cases e <;> first | (cases h; done) | rfl
theorem star_any {pos : Pos} {env : Env} : ∀ {es : List Expr}, es.all noStar = true → (backTo pos (starEach es env)).any (·.1) = false
  | [], _ => rfl
  | e :: es, h => by
    rw [List.all_cons, Bool.and_eq_true] at h
    rw [star_cons h.1]
    unfold backTo
    rw [List.map_cons, List.any_cons]
    have ih := star_any (pos := pos) (env := env) h.2
    unfold backTo at ih
    rw [ih]
    rfl
def argsE (ev : Expr → Ev) : List Expr → List Cell → Option (List D)
  | [] => fun _ => some []
  | e :: es => consL (ev e).e (argsE ev es)
def argsB (ev : Expr → Ev) : List Expr → List Cell → Option (List D)
  | [] => fun _ => some []
  | e :: es => consL (ev e).b (argsB ev es)
/-- the arguments given (true), or names among them lent -/
def evM (m : Bool) (r : Ev) : EvF := if m = true then r.e else r.b
def argsM (ev : Expr → Ev) (m : Bool) : List Expr → List Cell → Option (List D)
  | [] => fun _ => some []
  | .Name x p :: es => consL (evM m (ev (.Name x p))) (argsM ev m es)
  | e :: es => consL (ev e).e (argsM ev m es)
section
variable {X : Cx} {ev : Expr → Ev}
theorem argsM_t (h : ∀ x, EvOk X x (ev x)) : ∀ {es : List Expr}, es.all noStar = true → DL X es (argsM ev true es)
  | [], _ => dl_nil
  | e :: es, q => by
    rw [List.all_cons, Bool.and_eq_true] at q
    cases e <;> exact dl_cons (h _).e (argsM_t h q.2) (star_cons q.1)
theorem argsM_f (h : ∀ x, EvOk X x (ev x)) : ∀ {es : List Expr}, es.all noStar = true → DM X es (argsM ev false es)
  | [], _ => dm_nil
  | e :: es, q => by
    rw [List.all_cons, Bool.and_eq_true] at q
    cases e <;> first
      | exact dm_cons (h _).b (argsM_f h q.2) (star_cons q.1)
      | exact dm_cons (h _).e.db (argsM_f h q.2) (star_cons q.1)
theorem argsM_len {m : Bool} {env : List Cell} : ∀ {es : List Expr} {ds : List D}, argsM ev m es env = some ds → ds.length = es.length
  | [], ds, h => by cases h; rfl
  | e :: es, ds, h => by
    have go : ∀ {f : EvF}, consL f (argsM ev m es) env = some ds → ds.length = (e :: es).length := by
      intro f h
      obtain ⟨x, h1, h⟩ := bind_some' h
      obtain ⟨xs, h2, h⟩ := bind_some' h
      cases h
      rw [List.length_cons, List.length_cons, argsM_len h2]
    cases e <;> exact go h
theorem argsE_ok (h : ∀ x, EvOk X x (ev x)) : ∀ {es : List Expr}, es.all noStar = true → DL X es (argsE ev es)
  | [], _ => dl_nil
  | e :: es, q => by
    rw [List.all_cons, Bool.and_eq_true] at q
    exact dl_cons (h e).e (argsE_ok h q.2) (star_cons q.1)
theorem argsB_ok (h : ∀ x, EvOk X x (ev x)) : ∀ {es : List Expr}, es.all noStar = true → DM X es (argsB ev es)
  | [], _ => dm_nil
  | e :: es, q => by
    rw [List.all_cons, Bool.and_eq_true] at q
    exact dm_cons (h e).b (argsB_ok h q.2) (star_cons q.1)
theorem argsE_len {env : List Cell} : ∀ {es : List Expr} {ds : List D}, argsE ev es env = some ds → ds.length = es.length
  | [], ds, h => by cases h; rfl
  | e :: es, ds, h => by
    obtain ⟨x, h1, h⟩ := bind_some' h
    obtain ⟨xs, h2, h⟩ := bind_some' h
    cases h
    rw [List.length_cons, List.length_cons, argsE_len h2]
end

/-! ### operators -/
def opD : Operator → Option (D → D → Option D)
  | .Add => some addD
  | .Sub => some subD
  | .Mult => some mulD
  | .FloorDiv => some fdivD
  | .Mod => some modD
  | .Pow => some powD
  | .LShift => some shlD
  | .RShift => some shrD
  | .BitAnd => some bitD
  | _ => none
def cmpD : CmpOp → D → D → Option D
  | .Eq => eqqD
  | .NotEq => neqD
  | .In => inD
  | .NotIn => ninD
  | .Is => isD
  | .IsNot => isntD
  | .Lt => ltE
  | .LtE => cmpI fLe
  | .Gt => cmpI fGt
  | .GtE => cmpI fGe
def cmpB : CmpOp → Option (Int → Int → Bool)
  | .Lt => some fLt
  | .LtE => some fLe
  | .Gt => some fGt
  | .GtE => some fGe
  | _ => none
section
variable {X : Cx}
theorem opD_ok : ∀ {op : Operator} {F : D → D → Option D}, opD op = some F → OpF X (binaryOp op) F
  | .Add, _, rfl => of_add
  | .Sub, _, rfl => of_sub
  | .Mult, _, rfl => of_mul
  | .FloorDiv, _, rfl => of_fdiv
  | .Mod, _, rfl => of_mod
  | .Pow, _, rfl => of_pow
  | .LShift, _, rfl => of_shl
  | .RShift, _, rfl => of_shr
  | .BitAnd, _, rfl => of_bit
theorem cmpD_ok (hu : X.A.units + 65 < cLine) : ∀ op : CmpOp, OpF X (compareOp op) (cmpD op)
  | .Eq => of_eq hu
  | .NotEq => of_ne hu
  | .In => of_in hu
  | .NotIn => of_nin hu
  | .Is => of_is
  | .IsNot => of_isnt
  | .Lt => of_lt hu
  | .LtE => of_cmpI op_le
  | .Gt => of_cmpI op_gt
  | .GtE => of_cmpI op_ge
theorem cmpB_ok : ∀ {op : CmpOp} {p : Int → Int → Bool}, cmpB op = some p → OpR X (compareOp op) (rI0 fun i j => .bl (p i j))
  | .Lt, _, rfl => op_lt
  | .LtE, _, rfl => op_le
  | .Gt, _, rfl => op_gt
  | .GtE, _, rfl => op_ge
end
end PL
/-! PL w: a[::-1]. -/
namespace PL
open PySem PySem.Spec PyProof.Rows L2
section
variable {prog : Program} {w : World} {A : Around} {E : Value → Shared → Prop} {s : Shared}
theorem sliceApplied_rev {sl : Addr} {vs : Value} {n : Nat} {Q : Int × Int × Nat → Shared → Prop} (hs : s.heap.IsSliceOf sl .none .none vs) (ps : IsPart vs (some (-1)))
    (h : Q ((n : Int) - 1, -1, n) s) : wpAny (model prog w) A (Builtin.Slice.sliceApplied (.ref sl) (pure (n : Int))) Q E s := by
  obtain ⟨os, hos, hcs, hds⟩ := id hs
  unfold Builtin.Slice.sliceApplied Builtin.Slice.sliceFields
  refine wpAny_bind (wpAny_bind (wpAny_field hos hds (x := .none) rfl (wpAny_bind (wpAny_field hos hds (x := .none) rfl (wpAny_bind (wpAny_field hos hds (x := vs) rfl (wpAny_pure ?_)))))))
  refine wpAny_bind (HT.slicePart_ ps ?_)
  show wpAny _ _ (if ((-1 : Int) == 0) = true then _ else _) _ _ s
  rw [if_neg (by decide)]
  refine wpAny_bind (HT.slicePart_ .none (wpAny_bind (HT.slicePart_ .none (wpAny_bind (wpAny_pure ?_)))))
  have e1 : Builtin.Slice.sliceAdjust none none (-1) (n : Int) = ((n : Int) - 1, -1) := by
    unfold Builtin.Slice.sliceAdjust
    simp
  show wpAny _ _ (match Builtin.Slice.sliceAdjust none none (-1) (n : Int) with | (lo, hi) => pure (lo, (-1 : Int), Builtin.Slice.slicePlaces lo hi (-1))) _ _ s
  rw [e1]
  have e2 : Builtin.Slice.slicePlaces ((n : Int) - 1) (-1) (-1) = n := by
    unfold Builtin.Slice.slicePlaces
    simp
    try omega
  show wpAny _ _ (pure ((n : Int) - 1, (-1 : Int), Builtin.Slice.slicePlaces ((n : Int) - 1) (-1) (-1))) _ _ s
  rw [e2]
  exact wpAny_pure h
theorem fm_congr {α β : Type} {f g : α → Option β} : ∀ {l : List α}, (∀ m ∈ l, f m = g m) → l.filterMap f = l.filterMap g
  | [], _ => rfl
  | m :: l, h => by rw [List.filterMap_cons, List.filterMap_cons, h m List.mem_cons_self, fm_congr fun x hx => h x (List.mem_cons_of_mem _ hx)]
theorem pick_rev (xs : Array Value) : ((List.range xs.size).filterMap fun (m : Nat) => xs[(((xs.size : Int) - 1) + (m : Int) * (-1)).toNat]?).toArray = xs.toList.reverse.toArray := by
  have e : (List.range xs.size).filterMap (fun (m : Nat) => xs[(((xs.size : Int) - 1) + (m : Int) * (-1)).toNat]?) = ((List.range xs.size).map fun k => xs.size - 1 - k).filterMap (xs[·]?) := by
    rw [List.filterMap_map]
    refine fm_congr fun m hm => ?_
    have hm := List.mem_range.mp hm
    have : (((xs.size : Int) - 1) + (m : Int) * (-1)).toNat = xs.size - 1 - m := by omega
    show xs[(((xs.size : Int) - 1) + (m : Int) * (-1)).toNat]? = xs[xs.size - 1 - m]?
    rw [this]
  rw [e, PySem.W.krv_range, List.filterMap_reverse, PySem.W.krv_all]
theorem getItem_tuple_rev {t sl : Addr} {items : Array Value} {vs : Value} {Q : Value → Shared → Prop} (ht : IsTup s.heap t items) (hs : s.heap.IsSliceOf sl .none .none vs) (ps : IsPart vs (some (-1)))
    (h : Q (.ref s.heap.objs.size) { s with heap := s.heap.push { cls := .type "tuple", data := .seq items.toList.reverse.toArray } }) (hsz : items.size ≤ sizeLine) : wpAny (model prog w) A (getItem (.ref t) (.ref sl)) Q E s := by
  have hrev : sizeOk (.seq items.toList.reverse.toArray) := by
    show items.toList.reverse.toArray.size ≤ sizeLine
    rw [List.size_toArray, List.length_reverse, Array.length_toList]
    exact hsz
  obtain ⟨os, hos, hcs, hds⟩ := id hs
  have hTs : s.TypeIs (.ref sl) "slice" := ⟨os, hos, hcs⟩
  unfold getItem
  try with_reducible refine wpAny_holding ?_
  first | refine wpAny_bind (wpAny_pure ?_) | skip
  refine wpAny_bind (wpAny_sequenceKey ht.typeIs (by decide) ?_)
  refine wpAny_bind (wpAny_callSpecial?_slot (name := Str.ofString "__getitem__") ht.typeIs PyProof.Rows.slot_tuple_getitem (wpAny_call_entry PyProof.Rows.slot_tuple_getitem ht.typeIs entry_tuple_getitem ?_ (args_tuple_getitem _ _)))
  show wpAny _ _ (Builtin.Tuple.tupleItemsOf (.ref t) >>= _) _ _ s
  refine wpAny_bind (tupleItemsOf_ ht ?_)
  refine wpAny_bind (wpAny_typeOf hTs ?_)
  rw [if_pos (by decide)]
  refine wpAny_bind (sliceApplied_rev hs ps ?_)
  have hno : ¬ ((((items.size : Int) - 1) == 0 && (-1 : Int) == 1 && items.size == items.size) = true) := by
    intro q
    rw [Bool.and_eq_true, Bool.and_eq_true] at q
    exact absurd q.1.2 (by decide)
  show wpAny _ _ (if (((items.size : Int) - 1) == 0 && (-1 : Int) == 1 && items.size == items.size) = true then _ else _) _ _ s
  rw [if_neg hno, pick_rev]
  first
    | exact wpAny_bind (m := Builtin.Tuple.tupleExact _) (wpAny_newObj_type (wpAny_pure ⟨_, rfl, wpAny_pure h⟩) hrev)
    | exact wpAny_bind (m := Builtin.Tuple.tupleExact _) (wpAny_newObj_type (wpAny_bind (wpAny_pure (wpAny_pure ⟨_, rfl, wpAny_pure h⟩))) hrev)
    | exact wpAny_bind (wpAny_bind (m := Builtin.Tuple.tupleExact _) (wpAny_newObj_type (wpAny_pure (wpAny_pure ⟨_, rfl, wpAny_pure h⟩)) hrev))
    | exact wpAny_bind (wpAny_bind (m := Builtin.Tuple.tupleExact _) (wpAny_newObj_type (wpAny_pure ⟨_, rfl, wpAny_pure h⟩) hrev))
end
section
variable {X : Cx}
/-- t[::-1] -/
def tRevA (K : PySem.W.Frag) (te : TE) : TE := fun σ H Q => te σ H fun x H1 => ∃ a xs, x = .ref a ∧ ((SqL K H1 a xs ∧ ∀ p, H1 p = none → Q (.ref p) (upd H1 p (.lst xs.reverse))) ∨ (SqT K H1 a xs ∧ ∀ p, H1 p = none → Q (.ref p) (upd H1 p (.tup xs.reverse))))
theorem pe_revA {e : Expr} {te : TE} {k : Nat} {p1 p2 p3 pos : Pos} (he : PE X e te) : PE X (.Subscript e (.Slice none none (some (.UnaryOp .USub (.Constant (.int 1) k p1) p2)) p3) pos) (tRevA X.K te) := by
  refine ⟨fun pins s σ H Q I h => ?_⟩
  refine Subscript_ (thn (he.run pins s σ H _ I h) fun v s1 ⟨x, H1, I1, r1, q1⟩ => ?_)
  obtain ⟨a, xs, ex, hx⟩ := q1
  subst ex
  cases r1
  have hst : PO X (some (.UnaryOp .USub (.Constant (.int 1) k p1) p2)) (tPart (tUn (rU fun i => .int (-i)) (tC (.int 1)))) := po_some (pe_un un_neg pe_int)
  refine wpAny_Slice (thn (po_none.run pins s1 σ H1 (fun o H2 => o = none ∧ H2 = H1) I1 ⟨rfl, rfl⟩) fun vl s2 ⟨l, H2, I2, pl, el, e2⟩ => ?_)
  subst el e2
  refine thn (po_none.run pins s2 σ H2 (fun o H3 => o = none ∧ H3 = H2) I2 ⟨rfl, rfl⟩) fun vu s3 ⟨u, H3, I3, pu, eu, e3⟩ => ?_
  subst eu e3
  refine thn (hst.run pins s3 σ H3 (fun o H4 => o = some (-1) ∧ H4 = H3) I3 ⟨1, rfl, -1, rfl, rfl, rfl⟩) fun vs s4 ⟨o, H4, I4, ps, eo, e4⟩ => ?_
  subst eo e4
  have I5 : Inv X pins σ H4 { s4 with heap := s4.heap.push { cls := .type "slice", data := .fields #[vl, vu, vs] } } := I4.kept (t' := s4.toks) fun b ob q => Heap.get?_push_of_some _ q
  show wpAny (model X.prog X.w) X.A (subscriptTail e (.Slice none none (some (.UnaryOp .USub (.Constant (.int 1) k p1) p2)) p3) (.ref a) (.ref s4.heap.objs.size)) (EP X pins σ Q) X.xe { s4 with heap := s4.heap.push { cls := .type "slice", data := .fields #[vl, vu, vs] } }
  rcases hx with ⟨hx, q⟩ | ⟨hx, q⟩
  · obtain ⟨its, r, ht, hz⟩ := I5.list hx
    have hlen := r.length
    refine tail_any (ops := [.ref a, .ref s4.heap.objs.size]) ht.isList.typeIs (PySem.slot_list_getitem.lookup) ?_ (by with_unfolding_all rfl)
    refine wpAny_getItem_list_slice ht.isList (Heap.IsSliceOf.new _ vl vu vs) pl pu ps (by decide) ?_ (by rw [List.size_toArray]; omega)
    rw [PySem.W.krv_pick]
    refine ⟨.ref _, _, I5.laid (t' := s4.toks) (o := .lst xs.reverse) (fun b ob q => Heap.get?_push_of_some _ q) (Nat.le_refl _) ?_, rfl, q _ (I5.hok.fresh (Nat.le_refl _))⟩
    exact ⟨by rw [List.length_reverse]; exact hz, _, 0, r.reverse, Heap.get?_push_size _ rfl⟩
  · obtain ⟨its, r, ht, hz⟩ := I5.tuple hx
    have hlen : its.toArray.size = xs.length := by rw [List.size_toArray]; exact r.length.symm
    cases pl
    cases pu
    refine tail_any (ops := [.ref a, .ref s4.heap.objs.size]) ht.typeIs (PyProof.Rows.slot_tuple_getitem.lookup) ?_ (by with_unfolding_all rfl)
    refine getItem_tuple_rev ht (Heap.IsSliceOf.new _ _ _ vs) ps ?_ (by rw [hlen]; exact hz)
    refine ⟨.ref _, _, I5.laid (t' := s4.toks) (o := .tup xs.reverse) (fun b ob q => Heap.get?_push_of_some _ q) (Nat.le_refl _) ?_, rfl, q _ (I5.hok.fresh (Nat.le_refl _))⟩
    exact ⟨by rw [List.length_reverse]; exact hz, _, r.reverse, IsTup.new _ _⟩
theorem RepL.snoc {K : PySem.W.Frag} {H : Hp} {O : Addr → Prop} {v : V} {d : D} (h : Rep K H O v d) : ∀ {vs : List V} {ds : List D}, RepL K H O vs ds → RepL K H O (vs ++ [v]) (ds ++ [d])
  | _, _, .nil => .cons h .nil
  | _, _, .cons a r => .cons a (RepL.snoc h r)
theorem RepL.rev {K : PySem.W.Frag} {H : Hp} {O : Addr → Prop} : ∀ {vs : List V} {ds : List D}, RepL K H O vs ds → RepL K H O vs.reverse ds.reverse
  | _, _, .nil => .nil
  | _, _, .cons a r => by
    rw [List.reverse_cons, List.reverse_cons]
    exact RepL.snoc a (RepL.rev r)
@[simp] def revV (f : EvF) : EvF := fun env => (f env).bind fun x => match x with
  | .l xs => some (.l xs.reverse)
  | .t xs => some (.t xs.reverse)
  | _ => none
theorem de_rev {a : Expr} {f : EvF} {k : Nat} {p1 p2 p3 pos : Pos} (ha : DB X a f) : DE X (.Subscript a (.Slice none none (some (.UnaryOp .USub (.Constant (.int 1) k p1) p2)) p3) pos) (revV f) := by
  intro σ H O env d Q ok R e c
  obtain ⟨x, e1, e2⟩ := bind_some' e
  refine PEw (pe_revA wE_pe) (ha σ H O env x _ ok R e1 fun v H1 s1 r1 => ?_)
  have ok1 := ok.same s1
  cases x <;> first
    | (cases e2; done)
    | skip
  · cases e2
    obtain ⟨q, vs, rfl, h1, h2⟩ := r1.tup
    exact ⟨q, vs, rfl, .inr ⟨h1, fun p np => c _ _ (s1.trans (same_new np)) (Rep.newT ok1 np h2.rev)⟩⟩
  · cases e2
    obtain ⟨q, vs, rfl, h1, h2⟩ := r1.lst
    exact ⟨q, vs, rfl, .inl ⟨SqL.of h1, fun p np => c _ _ (s1.trans (same_new np)) (Rep.newL ok1 np h2.rev)⟩⟩
end
end PL
/-! PL m: the evaluator's cases. -/
namespace PL
open PySem PySem.Spec PyProof.Rows L2

/-! ### names, constants -/
def nameS (Γ : Ga) (x : Str) (pos : Pos) : Ev := match Γ.slot x with
  | some i => if Γ.vis x = true then .ofB (.Name x pos) (fun env => getV env i) (fun env => getB env i) else .bad
  | none => match Γ.con.lookup x with
    | some d => if Γ.gl x = true then .ofE (.Name x pos) (fun _ => some d) else .bad
    | none => .bad
def constS (c : Const) (k : Nat) (pos : Pos) : Ev := match c with
  | .int i => .ofE (.Constant c k pos) fun _ => some (.i i)
  | .bool b => .ofE (.Constant c k pos) fun _ => some (.b b)
  | .none => .ofE (.Constant c k pos) fun _ => some .n
  | .str s => .ofE (.Constant c k pos) fun _ => some (.s s)
  | _ => .bad
section
variable {Γ : Ga} {X : Cx} {rec : Rc}
theorem nameS_ok (g : GOk Γ X) (x : Str) (pos : Pos) : EvOk X (.Name x pos) (nameS Γ x pos) := by
  unfold nameS
  split
  · rename_i i h
    refine if_ok fun q => ?_
    obtain ⟨v1, v2, v3⟩ := g.vis q
    exact ofB_ok (de_name (g.slot h) v1 v2 v3) (db_name (g.slot h) v1 v2 v3)
  · split
    · rename_i d e
      refine if_ok fun q => ?_
      obtain ⟨v, u, c1, c2, c3⟩ := g.con x d e
      obtain ⟨g1, g2, _⟩ := g.gl q
      exact ofE_ok (de_con g1 c1 c2 g2 c3)
    · exact bad_ok
theorem constS_ok (c : Const) (k : Nat) (pos : Pos) : EvOk X (.Constant c k pos) (constS c k pos) := by
  unfold constS
  split
  · exact ofE_ok de_int
  · exact ofE_ok de_bl
  · exact ofE_ok de_non
  · exact ofE_ok de_str
  · exact bad_ok

/-! ### operators -/
/-- [..] * k, fresh -/
@[simp] def mulLD : D → D → Option D
  | .l xs, .i k => if 0 ≤ k ∧ absLe k 1000000 = true ∧ xs.length * k.toNat ≤ SZ then some (.l (List.replicate k.toNat xs).flatten) else none
  | _, _ => none
theorem df_mulL {a b : Expr} {f g : EvF} {pos : Pos} (ha : DB X a f) (hb : DB X b g) : DF X (.BinOp a .Mult b pos) (bind2 mulLD f g) := DFl.df <| by
  intro σ H O env d Q ok R e c pins s I
  obtain ⟨p, q, e1, e2, e3⟩ := bind2_some e
  refine wpAny_BinOp (bin (R := fun x y H2 => ∃ H1, RepB X.K H1 O x p ∧ RepB X.K H2 O y q ∧ Same H H1 ∧ Same H1 H2 ∧ OkO H2 O) wE_pe wE_pe I (ha σ H O env p _ ok R e1 fun x H1 s1 r1 => hb σ H1 O env q _ (ok.same s1) (R.same s1) e2 fun y H2 s2 r2 => ⟨H1, r1, r2, s1, s2, (ok.same s1).same s2⟩) ?_)
  intro v u s2 x y H2 I2 rx ry ⟨H1, r1, r2, k1, k2, ok2⟩
  replace r1 := r1.same k2
  cases p <;> cases q <;> first
    | (cases e3; done)
    | skip
  rename_i xs k
  have e3 : (if 0 ≤ k ∧ absLe k 1000000 = true ∧ xs.length * k.toNat ≤ SZ then some (D.l (List.replicate k.toNat xs).flatten) else none) = some d := e3
  split at e3
  · rename_i hk
    have hk2 := absLe_ok hk.2.1
    cases e3
    obtain ⟨a', vs, rfl, ha, ra⟩ := r1.lst
    obtain rfl := r2.int
    have l1 := ra.length
    exact op_rep pins s2 σ H2 _ _ v u Q I2 rx ry ⟨a', k, vs, rfl, rfl, ha, by omega, by omega, by rw [l1, SZ_eq]; exact hk.2.2, fun p np => c p _ _ _ ((k1.trans k2).trans (same_new np)) ((k1.trans k2).free np) rfl upd_same (newF np (ra.rep k.toNat))⟩
  · cases e3
def binS (x : Expr) (op : Operator) (a b : Ev) : Ev := match opD op with
  | some F => { Ev.ofE x (bind2 F a.b b.b) with f := if op = .Mult then bind2 mulLD a.b b.b else noE }
  | none => .bad
theorem binS_ok {a b : Expr} {op : Operator} {pos : Pos} {ra rb : Ev} (ha : EvOk X a ra) (hb : EvOk X b rb) : EvOk X (.BinOp a op b pos) (binS (.BinOp a op b pos) op ra rb) := by
  unfold binS
  split
  · rename_i F h
    have q := ofE_ok (de_bin (pos := pos) (opD_ok h) ha.b hb.b)
    refine ⟨q.e, q.b, ?_, q.t⟩
    show DF X _ (if op = .Mult then bind2 mulLD ra.b rb.b else noE)
    split
    · rename_i e
      subst e
      exact df_mulL ha.b hb.b
    · exact df_no
  · exact bad_ok
@[simp] def negV (f : EvF) : EvF := fun env => (f env).bind fun d => match d with
  | .i x => some (.i (-x))
  | _ => none
@[simp] def notV (f : EvF) : EvF := fun env => (asB f env).map fun x => .b (!x)
@[simp] def notT (f : List Cell → Option Bool) : List Cell → Option Bool := fun env => (f env).map (!·)
def unS (x : Expr) (op : UnaryOp) (a : Ev) : Ev := match op with
  | .Not => ⟨notV a.e, notV a.e, noE, notT a.t⟩
  | .USub => .ofE x (negV a.e)
  | _ => .bad
theorem unS_ok {a : Expr} {op : UnaryOp} {pos : Pos} {ra : Ev} (ha : EvOk X a ra) : EvOk X (.UnaryOp op a pos) (unS (.UnaryOp op a pos) op ra) := by
  cases op <;> first
    | exact bad_ok
    | exact ⟨de_not ha.e, (de_not ha.e).db, df_no, dt_not ha.t⟩
    | exact ofE_ok (de_neg ha.e)

/-! ### and, or -/
def andEs (ev : Expr → Ev) : List Expr → EvF
  | [] => noE
  | [a] => (ev a).e
  | a :: r => andV (ev a).e (andEs ev r)
def orEs (ev : Expr → Ev) : List Expr → EvF
  | [] => noE
  | [a] => (ev a).e
  | a :: r => orV (ev a).e (orEs ev r)
def andTs (ev : Expr → Ev) : List Expr → List Cell → Option Bool
  | [] => noT
  | [a] => (ev a).t
  | a :: r => andT (ev a).t (andTs ev r)
def orTs (ev : Expr → Ev) : List Expr → List Cell → Option Bool
  | [] => noT
  | [a] => (ev a).t
  | a :: r => orT (ev a).t (orTs ev r)
theorem dw_no {x : Expr} : DW X x noT := fun _ _ _ _ _ _ _ _ h => nomatch h
theorem andEs_ok {ev : Expr → Ev} (h : ∀ x, EvOk X x (ev x)) {pos : Pos} : ∀ es : List Expr, DE X (.BoolOp .And es pos) (andEs ev es)
  | [] => de_no
  | [a] => de_one (h a).e
  | a :: b :: r => de_and (h a).e (andEs_ok h (b :: r))
theorem orEs_ok {ev : Expr → Ev} (h : ∀ x, EvOk X x (ev x)) {pos : Pos} : ∀ es : List Expr, DE X (.BoolOp .Or es pos) (orEs ev es)
  | [] => de_no
  | [a] => de_one (h a).e
  | a :: b :: r => de_or (h a).e (orEs_ok h (b :: r))
theorem andTs_ok {ev : Expr → Ev} (h : ∀ x, EvOk X x (ev x)) {pos : Pos} : ∀ es : List Expr, DW X (.BoolOp .And es pos) (andTs ev es)
  | [] => dw_no
  | [a] => dw_and1 (h a).t
  | a :: b :: r => dw_and (h a).t (andTs_ok h (b :: r))
theorem orTs_ok {ev : Expr → Ev} (h : ∀ x, EvOk X x (ev x)) {pos : Pos} : ∀ es : List Expr, DW X (.BoolOp .Or es pos) (orTs ev es)
  | [] => dw_no
  | [a] => dw_or1 (h a).t
  | a :: b :: r => dw_or (h a).t (orTs_ok h (b :: r))
def boolS (op : BoolOp) (ev : Expr → Ev) (es : List Expr) : Ev := match op with
  | .And => ⟨andEs ev es, andEs ev es, noE, andTs ev es⟩
  | .Or => ⟨orEs ev es, orEs ev es, noE, orTs ev es⟩
theorem boolS_ok {op : BoolOp} {ev : Expr → Ev} (h : ∀ x, EvOk X x (ev x)) {pos : Pos} {es : List Expr} : EvOk X (.BoolOp op es pos) (boolS op ev es) := by
  cases op
  · exact ⟨andEs_ok h es, (andEs_ok h es).db, df_no, (andTs_ok h es).dt⟩
  · exact ⟨orEs_ok h es, (orEs_ok h es).db, df_no, (orTs_ok h es).dt⟩

/-! ### comparisons -/
def compS (ev : Expr → Ev) (a : Expr) (ops : List CmpOp) (bs : List Expr) : Ev := match ops, bs with
  | [op], [b] => if behindInMarks op b = false then ⟨bind2 (cmpD op) (ev a).b (ev b).b, bind2 (cmpD op) (ev a).b (ev b).b, noE, asB (bind2 (cmpD op) (ev a).b (ev b).b)⟩ else .bad
  | [op, op'], [b, c] => match cmpB op, cmpB op' with
    | some p, some q => if lastMarks [op, op'] [b, c] = false then ⟨chainV p q (ev a).b (ev b).b (ev c).b, chainV p q (ev a).b (ev b).b (ev c).b, noE, asB (chainV p q (ev a).b (ev b).b (ev c).b)⟩ else .bad
    | _, _ => .bad
  | _, _ => .bad
theorem compS_ok {ev : Expr → Ev} (hu : X.A.units + 65 < cLine) (h : ∀ x, EvOk X x (ev x)) {pos : Pos} {a : Expr} {ops : List CmpOp} {bs : List Expr} : EvOk X (.Compare a ops bs pos) (compS ev a ops bs) := by
  unfold compS
  split
  · rename_i op b
    split
    · rename_i q
      have z := de_cmp (pos := pos) (cmpD_ok hu op) (h a).b (h b).b q
      exact ⟨z, z.db, df_no, dt_cmp (cmpD_ok hu op) (h a).b (h b).b q⟩
    · exact bad_ok
  · rename_i op op' b c
    split
    · rename_i p q e1 e2
      split
      · rename_i z
        have w := de_chain (pos := pos) (cmpB_ok e1) (cmpB_ok e2) (h a).b (h b).b (h c).b z
        exact ⟨w, w.db, df_no, dt_chain (cmpB_ok e1) (cmpB_ok e2) (h a).b (h b).b (h c).b z⟩
      · exact bad_ok
    · exact bad_ok
  · exact bad_ok
def iteS (c a b : Ev) : Ev := ⟨iteV c.t a.e b.e, iteV c.t a.e b.e, noE, noT⟩
theorem iteS_ok {c a b : Expr} {rc ra rb : Ev} {pos : Pos} (hc : EvOk X c rc) (ha : EvOk X a ra) (hb : EvOk X b rb) : EvOk X (.IfExp c a b pos) (iteS rc ra rb) :=
  ⟨de_ite hc.t ha.e hb.e, (de_ite hc.t ha.e hb.e).db, df_no, dt_no⟩

/-! ### displays, subscripts -/
def tupS (x : Expr) (ev : Expr → Ev) (es : List Expr) : Ev := if es.all noStar = true then .ofE x (fun env => (argsE ev es env).bind fun xs => if xs.length ≤ SZ then some (.t xs) else none) else .bad
theorem tupS_ok {ev : Expr → Ev} (h : ∀ x, EvOk X x (ev x)) {pos : Pos} {es : List Expr} {k : Nat} : EvOk X (.Tuple es k pos) (tupS (.Tuple es k pos) ev es) :=
  if_ok fun q => ofE_ok (de_tup (argsE_ok h q))
def lstS (x : Expr) (ev : Expr → Ev) (es : List Expr) : Ev := if es.all noStar = true then .ofF x (fun env => (argsE ev es env).bind fun xs => if xs.length ≤ SZ then some (.l xs) else none) else .bad
theorem lstS_ok {ev : Expr → Ev} (h : ∀ x, EvOk X x (ev x)) {pos : Pos} {es : List Expr} : EvOk X (.List es pos) (lstS (.List es pos) ev es) :=
  if_ok fun q => ofF_ok (df_lst (argsE_ok h q))
def isSlice : Expr → Bool
  | .Slice .. => true
  | _ => false
theorem plainIx_of {b : Expr} (h : isSlice b = false) : PlainIx b := by
  intro o i
  cases b <;> first | (cases h; done) | rfl
def partS (ev : Expr → Ev) : Option Expr → List Cell → Option (Option Int)
  | none => fun _ => some none
  | some a => partV (ev a).e
theorem partS_ok {ev : Expr → Ev} (h : ∀ x, EvOk X x (ev x)) : ∀ o : Option Expr, DP' X o (partS ev o)
  | none => dp_none
  | some a => dp_some (h a).e
def subS (x : Expr) (ev : Expr → Ev) (a b : Expr) : Ev := match b with
  | .Slice lo hi none _ => .ofE x (sliceV (ev a).b (partS ev lo) (partS ev hi))
  | .Slice none none (some (.UnaryOp .USub (.Constant (.int 1) _ _) _)) _ => .ofE x (revV (ev a).b)
  | b => if isSlice b = false then .ofE x (bind2 ixD (ev a).b (ev b).b) else .bad
theorem subS_ok {ev : Expr → Ev} (hu : X.A.units + 65 < cLine) (h : ∀ x, EvOk X x (ev x)) {pos : Pos} {a b : Expr} : EvOk X (.Subscript a b pos) (subS (.Subscript a b pos) ev a b) := by
  unfold subS
  split
  · exact ofE_ok (de_slice (h a).b (partS_ok h _) (partS_ok h _))
  · exact ofE_ok (de_rev (h a).b)
  · split
    · rename_i q
      exact ofE_ok (de_ix hu (h a).b (h b).b (plainIx_of q))
    · exact bad_ok
end
end PL
/-! PL q: sorted(set(xs)), xs a list of tuples of ints. -/
namespace PL
open PySem PySem.Spec PyProof.Rows L2

/-! ### the list that comes -/
def srtB : Int := 1000000
/-- k among strictly ascending rows -/
def insT (k : List Int) : List (List Int) → List (List Int)
  | [] => [k]
  | x :: r => if k = x then x :: r else if TS.code srtB k < TS.code srtB x then k :: x :: r else x :: insT k r
def srtT : List (List Int) → List (List Int)
  | [] => []
  | k :: r => insT k (srtT r)
theorem insT_mem {k y : List Int} : ∀ {l : List (List Int)}, y ∈ insT k l ↔ y = k ∨ y ∈ l
  | [] => by simp [insT]
  | x :: r => by
    unfold insT
    split
    · rename_i e
      subst e
      simp
    · split
      · simp
      · rw [List.mem_cons, insT_mem (l := r), List.mem_cons]
        constructor
        · rintro (h | h | h)
          · exact .inr (.inl h)
          · exact .inl h
          · exact .inr (.inr h)
        · rintro (h | h | h)
          · exact .inr (.inl h)
          · exact .inl h
          · exact .inr (.inr h)
theorem srtT_mem {y : List Int} : ∀ {l : List (List Int)}, y ∈ srtT l ↔ y ∈ l
  | [] => by simp [srtT]
  | k :: r => by rw [srtT, insT_mem, srtT_mem (l := r), List.mem_cons]
def SameL (d : Nat) (l : List (List Int)) : Prop := ∀ k ∈ l, k.length = d ∧ TS.Bd srtB k
theorem code_inj' : ∀ {a b : List Int}, a.length = b.length → TS.Bd srtB a → TS.Bd srtB b → TS.code srtB a = TS.code srtB b → a = b
  | [], [], _, _, _, _ => rfl
  | x :: a, y :: b, hl, ha, hb, e => by
    have hl' : a.length = b.length := by simpa using hl
    have hxy : x = y := by
      rcases Int.lt_trichotomy x y with h | h | h
      · have := TS.code_lt hl' ha.tail hb.tail h; omega
      · exact h
      · have := TS.code_lt hl'.symm hb.tail ha.tail h; omega
    subst hxy
    have e2 : TS.code srtB a = TS.code srtB b := by
      rcases Int.lt_trichotomy (TS.code srtB a) (TS.code srtB b) with h | h | h
      · have := (TS.code_same (B := srtB) (d := x) hl').mpr h; omega
      · exact h
      · have := (TS.code_same (B := srtB) (d := x) hl'.symm).mpr h; omega
    rw [code_inj' hl' ha.tail hb.tail e2]
theorem insT_pw {d : Nat} {k : List Int} (hk : k.length = d ∧ TS.Bd srtB k) : ∀ {l : List (List Int)}, SameL d l → l.Pairwise (fun a b => TS.code srtB a < TS.code srtB b) → (insT k l).Pairwise (fun a b => TS.code srtB a < TS.code srtB b)
  | [], _, _ => by simp [insT]
  | x :: r, hs, pw => by
    unfold insT
    rw [List.pairwise_cons] at pw
    split
    · rw [List.pairwise_cons]; exact pw
    · rename_i ne
      split
      · rename_i hlt
        rw [List.pairwise_cons, List.pairwise_cons]
        refine ⟨fun y hy => ?_, pw⟩
        rcases List.mem_cons.mp hy with e | e
        · rw [e]; exact hlt
        · have := pw.1 y e; omega
      · rename_i hge
        rw [List.pairwise_cons]
        refine ⟨fun y hy => ?_, insT_pw hk (fun z hz => hs z (List.mem_cons_of_mem _ hz)) pw.2⟩
        rcases insT_mem.mp hy with e | e
        · subst e
          obtain ⟨x1, x2⟩ := hs x List.mem_cons_self
          have : TS.code srtB y ≠ TS.code srtB x := fun z => ne (code_inj' (by rw [hk.1, x1]) hk.2 x2 z)
          omega
        · exact pw.1 y e
theorem srtT_same {d : Nat} {l : List (List Int)} (h : SameL d l) : SameL d (srtT l) := fun k hk => h k (srtT_mem.mp hk)
theorem srtT_pw {d : Nat} : ∀ {l : List (List Int)}, SameL d l → (srtT l).Pairwise (fun a b => TS.code srtB a < TS.code srtB b)
  | [], _ => by simp [srtT]
  | k :: r, h => by
    rw [srtT]
    have hr : SameL d r := fun z hz => h z (List.mem_cons_of_mem _ hz)
    exact insT_pw (h k List.mem_cons_self) (srtT_same hr) (srtT_pw hr)
theorem srtT_nodup {d : Nat} {l : List (List Int)} (h : SameL d l) : (srtT l).Nodup := (srtT_pw h).imp fun {a b} z e => by subst e; omega
/-- whatever sorts so is it -/
theorem srtT_unique {d : Nat} {l m : List (List Int)} (h : SameL d l) (nd : m.Nodup) (mem : ∀ k, k ∈ m ↔ k ∈ l) (pw : m.Pairwise (fun a b => TS.code srtB a ≤ TS.code srtB b)) : m = srtT l := by
  have hm : SameL d m := fun k hk => h k ((mem k).mp hk)
  refine List.Perm.eq_of_pairwise (le := fun a b => TS.code srtB a ≤ TS.code srtB b) (fun a b ha hb h1 h2 => ?_) pw ((srtT_pw h).imp fun {a b} z => by omega) ((List.perm_ext_iff_of_nodup nd (srtT_nodup h)).mpr fun k => (mem k).trans srtT_mem.symm)
  obtain ⟨a1, a2⟩ := hm a ha
  obtain ⟨b1, b2⟩ := srtT_same h b hb
  exact code_inj' (by rw [a1, b1]) a2 b2 (by omega)
def tupsD : List D → Option (List (List Int))
  | [] => some []
  | .t xs :: r => (intsD xs).bind fun ns => (tupsD r).map (ns :: ·)
  | _ :: _ => none
def sameB (d : Nat) (l : List (List Int)) : Bool := l.all fun k => decide (k.length = d) && k.all fun m => decide (0 ≤ m) && absLe m 999999
theorem sameB_ok {d : Nat} {l : List (List Int)} (h : sameB d l = true) : SameL d l := fun k hk => by
  have q := List.all_eq_true.mp h k hk
  rw [Bool.and_eq_true, decide_eq_true_eq, List.all_eq_true] at q
  refine ⟨q.1, fun m hm => ?_⟩
  have := q.2 m hm
  rw [Bool.and_eq_true, decide_eq_true_eq] at this
  have h2 := absLe_ok this.2
  unfold srtB
  omega
def widthT : List (List Int) → Nat
  | [] => 1
  | k :: _ => k.length
def srtSetD : D → Option D
  | .l ds => (tupsD ds).bind fun ns => if (decide (ns.length < 64) && decide (1 ≤ widthT ns) && sameB (widthT ns) ns) = true then some (.l ((srtT ns).map fun k => .t (k.map .i))) else none
  | _ => none
section
variable {K : PySem.W.Frag} {H : Hp} {O : Addr → Prop}
theorem tupsD_rep : ∀ {vs : List V} {ds : List D} {ns : List (List Int)}, RepL K H O vs ds → tupsD ds = some ns → ∃ ks : List (Addr × List Int), vs = ks.map (fun p => V.ref p.1) ∧ ks.map (·.2) = ns ∧ ∀ p ∈ ks, SqT K H p.1 (p.2.map V.int) ∧ Rep K H O (.ref p.1) (.t (p.2.map .i))
  | _, [], ns, .nil, e => by cases e; exact ⟨[], rfl, rfl, fun p hp => nomatch hp⟩
  | _, d :: ds, ns, .cons a r, e => by
    cases d <;> first
      | (cases e; done)
      | skip
    rename_i xs
    have e : ((intsD xs).bind fun ns => (tupsD ds).map (ns :: ·)) = some ns := e
    obtain ⟨n1, e1, e⟩ := bind_some' e
    obtain ⟨n2, e2, e⟩ := map_some' e
    subst e
    obtain ⟨ks, h1, h2, h3⟩ := tupsD_rep r e2
    have e3 := intsD_some e1
    subst e3
    obtain ⟨q, vs', rfl, s1, s2⟩ := RepB.tup (.inl a)
    rw [s2.ints] at s1
    refine ⟨(q, n1) :: ks, by rw [h1]; rfl, by rw [List.map_cons, h2], fun p hp => ?_⟩
    rcases List.mem_cons.mp hp with e | e
    · subst e; exact ⟨s1, a⟩
    · exact h3 p e
theorem sqT_same {H' : Hp} (k : Same H H') {a : Addr} {xs : List V} (h : SqT K H a xs) : SqT K H' a xs := by
  rcases h with h | h
  · exact .inl (rd_kp (O := fun _ => False) (Kp.of k) h fun z => z)
  · exact .inr h
end
section
variable {X : Cx} {e : Expr} {f : EvF} {p p2 pos pos2 : Pos}
theorem df_srtSet (hc : X.calm = true) (hu : X.A.units + 64 < cLine) (hg : Gl X "sorted") (hm : X.mg "sorted" = none) (hg2 : Gl X "set") (hm2 : X.mg "set" = none) (ha : DB X e f) (hs : starEach [e] X.env = (false, eval e X.env) :: starEach [] X.env) :
    DF X (.Call (.Name "sorted" p) [.Call (.Name "set" p2) [e] [] pos2] [] pos) (fun env => (f env).bind srtSetD) := DFl.df <| by
  intro σ H O env d Q ok R z c
  obtain ⟨q, e1, e2⟩ := bind_some' z
  refine PEw (pe_callB (cr_sortedT hc) hg hm (by decide +kernel) (pa_cons (pe_callTy (cr_setOfT hc hu) hg2 hm2 (by decide +kernel) (pa_cons wE_pe pa_nil hs) (by decide) (by decide) hs rfl) pa_nil rfl) (by decide) (by decide) rfl rfl) ?_
  refine ha σ H O env q _ ok R e1 fun v H1 s1 r1 => ?_
  cases q <;> first
    | (cases e2; done)
    | skip
  rename_i ds
  have e2 : ((tupsD ds).bind fun ns => if (decide (ns.length < 64) && decide (1 ≤ widthT ns) && sameB (widthT ns) ns) = true then some (D.l ((srtT ns).map fun k => .t (k.map .i))) else none) = some d := e2
  obtain ⟨ns, e3, e4⟩ := bind_some' e2
  split at e4 <;> first
    | (cases e4; done)
    | skip
  rename_i hk
  cases e4
  rw [Bool.and_eq_true, Bool.and_eq_true, decide_eq_true_eq, decide_eq_true_eq] at hk
  obtain ⟨⟨k1, k2⟩, k3⟩ := hk
  have hsame := sameB_ok k3
  obtain ⟨a, vs, rfl, h1, h2⟩ := r1.lst
  obtain ⟨ks, q1, q2, q3⟩ := tupsD_rep h2 e3
  subst q1
  have hlen : ks.length = ns.length := by rw [← q2, List.length_map]
  refine ⟨a, ks, rfl, SqL.of h1, fun p hp => (q3 p hp).1, by omega, fun b L nb sub cov => ?_⟩
  have sb := same_new (o := SetTO X.prog X.w b L) nb
  refine ⟨b, L, widthT ns, srtB, rfl, upd_same, fun p hp => sqT_same sb (q3 p (sub p hp)).1, k2, fun p hp => hsame p.2 (by rw [← q2]; exact List.mem_map_of_mem (sub p hp)), fun L' p pm nd few pw np => ?_⟩
  have e5 : L'.map (·.2) = srtT ns := by
    refine srtT_unique hsame nd (fun k => ?_) (List.pairwise_map.mpr pw)
    rw [(pm.map (·.2)).mem_iff, ← q2]
    constructor
    · intro h
      obtain ⟨y, y1, y2⟩ := List.mem_map.mp h
      rw [← y2]
      exact List.mem_map_of_mem (sub y y1)
    · intro h
      obtain ⟨y, y1, y2⟩ := List.mem_map.mp h
      rw [← y2]
      exact cov y y1
  have e6 : (srtT ns).map (fun k => D.t (k.map .i)) = L'.map fun q => D.t (q.2.map .i) := by rw [← e5, List.map_map]; rfl
  rw [e6] at c
  have rl : ∀ M : List (Addr × List Int), (∀ q ∈ M, q ∈ ks) → RepL X.K (upd H1 b (SetTO X.prog X.w b L)) O (M.map fun q => V.ref q.1) (M.map fun q => D.t (q.2.map .i)) := by
    intro M
    induction M with
    | nil => intro _; exact .nil
    | cons m M ih => intro h; exact .cons ((q3 m (h m List.mem_cons_self)).2.same sb) (ih fun q hq => h q (List.mem_cons_of_mem _ hq))
  refine c p _ _ _ ((s1.trans sb).trans (same_new np)) (s1.free (sb.free np)) rfl upd_same (newF np (rl L' fun q hq => sub q (pm.mem_iff.mp hq)))
end
end PL
/-! PL z: min of a list of tuples of ints. -/
namespace PL
open PySem PySem.Spec PySem.W PyProof.Rows L2
theorem tupsD_inv : ∀ {ds : List D} {ns : List (List Int)}, tupsD ds = some ns → ds = ns.map fun k => .t (k.map .i)
  | [], _, h => by cases h; rfl
  | .t xs :: r, ns, h => by
    rw [tupsD] at h
    obtain ⟨k, e1, h⟩ := bind_some' h
    obtain ⟨m, e2, h⟩ := map_some' h
    subst h
    have : ∀ {xs : List D} {k : List Int}, intsD xs = some k → xs = k.map .i := by
      intro xs
      induction xs with
      | nil => intro k h; cases h; rfl
      | cons x xs ih =>
        intro k h
        cases x <;> first
          | (cases h; done)
          | skip
        rw [intsD] at h
        obtain ⟨m, e, h⟩ := map_some' h
        subst h
        rw [ih e]; rfl
    rw [List.map_cons, ← tupsD_inv e2, ← this e1]
  | .n :: _, _, h => by cases h
  | .b _ :: _, _, h => by cases h
  | .i _ :: _, _, h => by cases h
  | .s _ :: _, _, h => by cases h
  | .l _ :: _, _, h => by cases h
  | .r _ _ :: _, _, h => by cases h
  | .z _ :: _, _, h => by cases h
def tPy (k : List Int) : PyData := .tuple (k.map .int)
theorem toPy_t (k : List Int) : toPy (.t (k.map .i)) = tPy k := by
  rw [toPy, toPys_eq, List.map_map]; rfl
theorem toPys_t (ns : List (List Int)) : toPys (ns.map fun k => D.t (k.map .i)) = ns.map tPy := by
  rw [toPys_eq, List.map_map]
  exact List.map_congr_left fun k _ => toPy_t k
theorem tPy_inj {a b : List Int} (h : tPy a = tPy b) : a = b := by
  unfold tPy at h
  replace h := PyData.tuple.inj h
  induction a generalizing b with
  | nil => cases b with | nil => rfl | cons y b => cases h
  | cons x a ih => cases b with
    | nil => cases h
    | cons y b =>
      rw [List.map_cons, List.map_cons, List.cons.injEq] at h
      rw [PyData.int.inj h.1, ih h.2]
theorem alike_t : ∀ a b : List Int, alikeAll (a.map .int) (b.map .int) = true
  | [], _ => by simp [alikeAll]
  | _ :: _, [] => by simp [alikeAll]
  | x :: a, y :: b => by rw [List.map_cons, List.map_cons, alikeAll, alike, alike_t a b]; rfl
theorem lt_t (a b : List Int) : dataLt (tPy a) (tPy b) = decide (a < b) := by
  rw [tPy, tPy, dataLt_tuple]
  exact dataLt_ints a b
def minTL (k : List Int) (r : List (List Int)) : List Int := r.foldl (fun a y => if decide (y < a) = true then y else a) k
theorem minTL_py : ∀ (r : List (List Int)) (k : List Int), PySem.W.minD (tPy k) (r.map tPy) = tPy (minTL k r)
  | [], _ => rfl
  | y :: r, k => by
    unfold PySem.W.minD minTL
    rw [List.map_cons, List.foldl_cons, List.foldl_cons, lt_t]
    by_cases h : decide (y < k) = true
    · rw [if_pos h, if_pos h]; exact minTL_py r y
    · rw [if_neg h, if_neg h]; exact minTL_py r k
@[simp] def minTD : List D → Option D
  | [.l xs] => (tupsD xs).bind fun ks => match ks with
    | [] => none
    | k :: r => some (.t ((minTL k r).map .i))
  | _ => none
theorem vals_get {vs : List V} {us : List Value} (h : Vals vs us) : ∀ {i : Nat} {u : Value}, us[i]? = some u → ∃ v, vs[i]? = some v ∧ RelV v u := by
  induction h with
  | nil => intro i u e; simp at e
  | cons r _ ih =>
    intro i u e
    cases i with
    | zero => simp at e; subst e; exact ⟨_, rfl, r⟩
    | succ i => simpa using ih (by simpa using e)
theorem ok_tt (k : List Int) : okD 1 (.t (k.map .i)) = true := by
  show (k.map D.i).all (okD 0) = true
  rw [List.all_eq_true]
  intro x hx
  obtain ⟨y, _, rfl⟩ := List.mem_map.mp hx
  rfl
theorem cf_minT {X : Cx} (hc : X.calm = true) (hu : X.A.units + 65 < cLine) : CallF X (.builtin "min") minTD := by
  intro pins s σ H O xs us ds d Q I ok rv rb e c
  unfold minTD at e
  split at e
  · rename_i ys
    obtain ⟨v, rfl, r⟩ := repB1 rb
    obtain ⟨ks, e1, e2⟩ := bind_some' e
    cases ks with
    | nil => cases e2
    | cons k0 r0 =>
      cases e2
      have hy := tupsD_inv e1
      subst hy
      obtain ⟨a, vs, rfl, ha, ra⟩ := r.lst
      obtain ⟨its, rvs, hl, _⟩ := I.list (SqL.of ha)
      rw [Vals.ref1 rv]
      have hok : ((k0 :: r0).map fun k => D.t (k.map .i)).all (okD 1) = true := by
        rw [List.all_eq_true]
        intro x hx
        obtain ⟨k, _, rfl⟩ := List.mem_map.mp hx
        exact ok_tt k
      have hdp := repL_dp 1 ra hok
      rw [toPys_t] at hdp
      obtain ⟨as, hr⟩ := Dp.readsAll I _ _ _ hdp rvs
      have hdep : PyData.depthAll ((k0 :: r0).map tPy) ≤ 2 := by
        have := (lay_of_ok 2 (.l ((k0 :: r0).map fun k : List Int => D.t (k.map D.i))) hok).2
        rw [toPy, toPys_t, PyData.depth] at this
        omega
      refine min_list_data (I.ok.hd hc) hl.isList hr ⟨fun x hx y hy => ?_, fun x hx => ?_⟩ (by rw [← List.map_cons]; show X.A.units + 1 + PyData.depthAll _ < cLine; omega) fun i u h' tk bs hi hrd hk => ?_
      · rw [← List.map_cons] at hx hy
        obtain ⟨p, _, rfl⟩ := List.mem_map.mp hx
        obtain ⟨q, _, rfl⟩ := List.mem_map.mp hy
        rw [tPy, tPy, alike]
        exact alike_t p q
      · rw [← List.map_cons] at hx
        obtain ⟨p, _, rfl⟩ := List.mem_map.mp hx
        exact nofun
      · have hi' : its[i]? = some u := by simpa using hi
        obtain ⟨w, hw, rw'⟩ := vals_get rvs hi'
        obtain ⟨dd, hd, rep⟩ := ra.getV hw
        rw [List.getElem?_map] at hd
        cases hk2 : (k0 :: r0)[i]? with
        | none => rw [hk2] at hd; cases hd
        | some kk =>
          rw [hk2] at hd
          cases hd
          have h1 := rep_dp 1 rep (ok_tt kk)
          rw [toPy_t] at h1
          obtain ⟨as2, hr2⟩ := Dp.reads I _ _ _ h1 rw'
          have hr3 := reads_keeps hk hr2
          have := (Reads.unique hr3 _ _ hrd).1
          rw [minTL_py] at this
          have := tPy_inj this
          rw [← this] at c
          exact ⟨w, H, I.kept hk, rw', c _ _ (Same.refl _) rep⟩
  · cases e
theorem CallF.or {X : Cx} {fv : Value} {F G : List D → Option D} (h1 : CallF X fv F) (h2 : CallF X fv G) : CallF X fv fun xs => (F xs).or (G xs) := by
  intro pins s σ H O xs us ds d Q I ok rv rb e c
  cases hf : F ds with
  | some x =>
    have e : (F ds).or (G ds) = some d := e
    rw [hf] at e
    cases e
    exact h1 pins s σ H O xs us ds _ Q I ok rv rb hf c
  | none =>
    have e : (F ds).or (G ds) = some d := e
    rw [hf] at e
    exact h2 pins s σ H O xs us ds d Q I ok rv rb e c
/-- min, of ints or of tuples of ints -/
def minE (xs : List D) : Option D := (minD xs).or (minTD xs)
theorem cf_minE {X : Cx} (hc : X.calm = true) (hu : X.A.units + 65 < cLine) : CallF X (.builtin "min") minE := (cf_min hc).or (cf_minT hc hu)
/-! ### sum of a tuple of ints -/
section
variable {prog : Program} {w : World} {A : Around} {E : Value → Shared → Prop} {s : Shared} {l : Addr}
theorem iter_intTuple {xs : Array (Int × Tok)} {Q : Value → Shared → Prop} (hl : s.heap.IsTuple l (intItems xs))
    (h : ∀ s₂ : Shared, s₂ = { s with heap := s.heap.push { cls := .type "tuple_iterator", data := .fields #[.ref l, .int 0 0] } } →
      (s₂.heap.IsTupleIter s.heap.objs.size l 0 ∧ s₂.heap.IsTuple l (intItems xs)) → (∀ b ∈ [s.heap.objs.size, l], b < s₂.heap.objs.size) → l ≠ s.heap.objs.size → Q (.ref s.heap.objs.size) s₂) :
    wpAny (model prog w) A (pyIter (.ref l)) Q E s := by
  have hlt : l < s.heap.objs.size := by obtain ⟨_, e, _⟩ := hl; exact Heap.lt_size e
  refine wpAny_pyIter_tuple hl (h _ rfl ⟨⟨_, Heap.get?_push_size _ rfl, rfl, rfl⟩, hl.push _⟩ (fun b hb => ?_) (Nat.ne_of_lt hlt))
  show b < (s.heap.push _).objs.size
  rw [Heap.size_push]
  rcases List.mem_cons.mp hb with rfl | hb
  · exact Nat.lt_succ_self _
  · rcases List.mem_cons.mp hb with rfl | hb
    · exact Nat.lt_succ_of_lt hlt
    · cases hb
theorem old_keptT {h' : Heap} {o' : Obj} (hk : ∀ b o, b ∉ [s.heap.objs.size] → (s.heap.push o').get? b = some o → h'.get? b = some o) : ∀ b o, s.heap.get? b = some o → h'.get? b = some o := fun b o e =>
  hk b o (fun hb => absurd (Heap.lt_size e) ((List.mem_singleton.mp hb) ▸ Nat.lt_irrefl _)) (Heap.get?_push_of_some _ e)
theorem sum_tupG {xs : Array (Int × Tok)} {Q : Value → Shared → Prop} (hh : A.handled = none) (hl : s.heap.IsTuple l (intItems xs))
    (h : ∀ h' tk t', (∀ b o, s.heap.get? b = some o → h'.get? b = some o) → Q (.int (preSum (numAt xs) xs.size) t') { s with heap := h', toks := tk }) :
    wpAny (model prog w) A (call (.builtin "sum") [.ref l]) Q E s := by
  refine call_sum_walkG (iter_intTuple hl fun s₂ e st hfp hlI => ?_)
  subst e
  refine ⟨_, _, _, _, _, _, numAt xs, rfl, Walks.tuple (A := A.in1) hh _ l hlI (intItems xs), st, hfp, (fun _ _ => intItems_at), fun h' tk t' hk => ?_⟩
  have := h h' tk t' (old_keptT hk)
  simpa [intItems] using this
theorem sum_rawT {its : List Value} {ns : List Int} {Q : Value → Shared → Prop} (hh : A.handled = none) (hl : s.heap.IsTuple l its.toArray) (hi : IntsAre its ns)
    (h : ∀ h' tk t', (∀ b o, s.heap.get? b = some o → h'.get? b = some o) → Q (.int ns.sum t') { s with heap := h', toks := tk }) : wpAny (model prog w) A (call (.builtin "sum") [.ref l]) Q E s := by
  obtain ⟨xs, e⟩ := hi.allInts.items
  have hn : numsOf (intItems xs).toList = ns := by rw [← e]; exact hi.numsOf
  rw [nums_intItems] at hn
  rw [e] at hl
  refine sum_tupG hh hl fun h' tk t' hk => ?_
  have := h h' tk t' hk
  rw [preSum_eq, List.take_of_length_le (by simp), hn]; exact this
end
@[simp] def sumTD : List D → Option D
  | [.t xs] => (intsD xs).map fun ns => .i ns.sum
  | _ => none
theorem intsD_inv : ∀ {xs : List D} {k : List Int}, intsD xs = some k → xs = k.map .i
  | [], _, h => by cases h; rfl
  | .i x :: xs, k, h => by
    rw [intsD] at h
    obtain ⟨m, e, h⟩ := map_some' h
    subst h
    rw [intsD_inv e]; rfl
  | .n :: _, _, h => by cases h
  | .b _ :: _, _, h => by cases h
  | .t _ :: _, _, h => by cases h
  | .s _ :: _, _, h => by cases h
  | .l _ :: _, _, h => by cases h
  | .r _ _ :: _, _, h => by cases h
  | .z _ :: _, _, h => by cases h
theorem cf_sumT {X : Cx} (hc : X.calm = true) : CallF X (.builtin "sum") sumTD := by
  intro pins s σ H O xs us ds d Q I ok rv rb e c
  unfold sumTD at e
  split at e
  · rename_i ys
    obtain ⟨v, rfl, r⟩ := repB1 rb
    obtain ⟨ns, e1, e2⟩ := map_some' e
    subst e2
    have hy := intsD_inv e1
    subst hy
    obtain ⟨a, vs, rfl, ha, ra⟩ := r.tup
    have hv := RepL.ints ra
    subst hv
    obtain ⟨its, rvs, hl, _⟩ := I.tuple ha
    rw [Vals.ref1 rv]
    exact sum_rawT (I.ok.hd hc) hl rvs.ints fun h' tk t' hk => ⟨.int _, H, I.kept hk, ⟨_, rfl⟩, c _ _ (Same.refl _) (.i _)⟩
  · cases e
/-- sum, of a list or a tuple -/
def sumE (xs : List D) : Option D := (sumD xs).or (sumTD xs)
theorem cf_sumE {X : Cx} (hc : X.calm = true) : CallF X (.builtin "sum") sumE := (cf_sum hc).or (cf_sumT hc)
end PL
/-! PL cb: itertools.combinations, at the library's level. -/
namespace PL
open PySem PySem.Spec
open Sem (wp)

theorem cb_mro : mroOf (.type "itertools.combinations") = pure [.type "itertools.combinations", .type "object"] := by rw [mroOf_type]; kernel_rfl
theorem cb_lookup_new : typeLookup (.type "itertools.combinations") "__new__" = pure (some (.builtin "itertools.combinations.__new__")) := by rw [typeLookup_type, builtinLookup_eq_fast]; kernel_rfl
theorem cb_slot_init : Slot "itertools.combinations" "__init__" "object.__init__" :=
  .of (owner := "object") (n := "__init__") (by rw [typeLookup_type, builtinLookup_eq_fast]; kernel_rfl) (by decide +kernel) (by decide +kernel) (by decide +kernel)
    (by first | exact .inl (by decide +kernel) | exact .inr (by decide +kernel)) (by rw [isSubtype_type]; kernel_rfl)
theorem cb_sub : isSubtype (.type "itertools.combinations") (.type "itertools.combinations") = pure true := by rw [isSubtype_type]; kernel_rfl
theorem cb_called : TypeCalled "itertools.combinations" "itertools.combinations.__new__" "object.__init__" :=
  ⟨by decide +kernel, by decide +kernel, ⟨_, _, cb_mro⟩, madeBy_type cb_mro cb_lookup_new (by decide +kernel), by decide +kernel, cb_sub, cb_slot_init⟩
theorem cb_typeCall (a b : Value) : checkTypeCall "itertools.combinations" ⟨[a, b], []⟩ = pure () := by kernel_rfl
theorem cb_newCall (a b : Value) : checkBuiltinCall "itertools.combinations.__new__" ⟨[.type "itertools.combinations", a, b], []⟩ = pure () := by kernel_rfl
theorem cb_entry_new : entryFor table "itertools.combinations.__new__" = some Builtin.«itertools.combinations.__new__» := entryFor_of_tree (by kernel_rfl)
theorem cb_slot_iter : Slot "itertools.combinations" "__iter__" "itertools.combinations.__iter__" :=
  .of (owner := "itertools.combinations") (n := "__iter__") (by rw [typeLookup_type, builtinLookup_eq_fast]; kernel_rfl) (by decide +kernel) (by decide +kernel) (by decide +kernel)
    (by first | exact .inl (by decide +kernel) | exact .inr (by decide +kernel)) cb_sub
theorem cb_slot_next : Slot "itertools.combinations" "__next__" "itertools.combinations.__next__" :=
  .of (owner := "itertools.combinations") (n := "__next__") (by rw [typeLookup_type, builtinLookup_eq_fast]; kernel_rfl) (by decide +kernel) (by decide +kernel) (by decide +kernel)
    (by first | exact .inl (by decide +kernel) | exact .inr (by decide +kernel)) cb_sub
theorem cb_entry_next : entryFor table "itertools.combinations.__next__" = some Builtin.«itertools.combinations.__next__» := entryFor_of_tree (by kernel_rfl)
theorem cb_noDict : typeHasDict (.type "itertools.combinations") = false := by decide +kernel
end PL
namespace PL
open PySem PySem.Spec
theorem cb_entry_iter : entryFor table "itertools.combinations.__iter__" = some Builtin.«dict_keyiterator.__iter__» :=
  entryFor_alias (id' := "dict_keyiterator.__iter__") (by kernel_rfl) (by first | rfl | decide +kernel | (unfold String.splitOn; simp +decide [String.splitOnAux])) (by decide +kernel) (by kernel_rfl)
theorem cb_owner : Manifest.owners.lookup (String.ofList ['s', 'n', 'o', 'i', 't', 'a', 'n', 'i', 'b', 'm', 'o', 'c', '.', 's', 'l', 'o', 'o', 't', 'r', 'e', 't', 'i'].reverse) = some Manifest.sig_itertools_combinations := by kernel_rfl
theorem cb_args_iter (a : Value) : argsOk "itertools.combinations.__iter__" ⟨[a], []⟩ := by
  unfold argsOk; rw [signature?_of (id := "itertools.combinations.__iter__") (n := ['_', '_', 'r', 'e', 't', 'i', '_', '_']) (o := ['s', 'n', 'o', 'i', 't', 'a', 'n', 'i', 'b', 'm', 'o', 'c', '.', 's', 'l', 'o', 'o', 't', 'r', 'e', 't', 'i']) (by kernel_rfl) cb_owner]; kernel_rfl
theorem cb_args_next (a : Value) : argsOk "itertools.combinations.__next__" ⟨[a], []⟩ := by
  unfold argsOk; rw [signature?_of (id := "itertools.combinations.__next__") (n := ['_', '_', 't', 'x', 'e', 'n', '_', '_']) (o := ['s', 'n', 'o', 'i', 't', 'a', 'n', 'i', 'b', 'm', 'o', 'c', '.', 's', 'l', 'o', 'o', 't', 'r', 'e', 't', 'i']) (by kernel_rfl) cb_owner]; kernel_rfl
/-- a combinations object: its pool, how far it is (0 fresh, 1 amid, 2 ended), what it handed out last, its indices -/
def cbF (pool : Addr) (st : Int) (last : Value) (ix : List Nat) : Array Value := (.ref pool :: rawInt st :: last :: ix.map fun (i : Nat) => rawInt i).toArray
def cbObj (pool : Addr) (st : Int) (last : Value) (ix : List Nat) : Obj := { cls := .type "itertools.combinations", data := .fields (cbF pool st last ix) }
end PL
namespace PL
open PySem PySem.Spec
open Sem (wp)
def tupObj (items : List Value) : Obj := { cls := .type "tuple", data := .seq items.toArray }
theorem cb_str : "itertools." ++ "combinations" = "itertools.combinations" := by decide
theorem meets_cb_new (prog : Program) (w : World) (v : Value) (n : Nat) (t : Tok) (h1 : n ≤ 1000) :
    MeetsIn prog w (Builtin.«itertools.combinations.__new__» ⟨[.type "itertools.combinations", v, .int n t], []⟩)
      (fun A R s => wpAny (model prog w) A.in1 (collect v) (fun items s1 => items.length ≤ 1000 ∧ R (.ok (.ret (.ref (s1.heap.objs.size + 1)))) { s1 with heap := (s1.heap.push (tupObj items)).push (cbObj s1.heap.objs.size (if n > items.length then 2 else 0) .none (List.range n)) }) (fun e s' => R (.error e) s') s) :=
  .of_wp fun A R s h => by
    have hsub := cb_sub
    have hd := cb_noDict
    have hn : ¬ ((decide ((n : Int) < -(2 ^ 63 : Int)) || decide ((n : Int) ≥ (2 ^ 63 : Int))) = true) := by
      have a : decide ((n : Int) < -(2 ^ 63 : Int)) = false := decide_eq_false (by omega)
      have b : decide ((n : Int) ≥ (2 ^ 63 : Int)) = false := decide_eq_false (by omega)
      rw [a, b]
      decide
    repeat (first
      | wp_step
      | simp only [List.head?_cons, Option.some_or, List.getElem?_cons_succ, List.getElem?_cons_zero, List.length_cons, List.length_nil, List.forIn_nil, cb_str])
    refine wpAny_mono (Q := fun a s' => a = (n : Int) ∧ s' = s) ?_ ?_ (fun _ _ h => h)
    · rw [if_neg hn]
      exact wpAny_pure ⟨rfl, rfl⟩
    rintro a s' ⟨rfl, rfl⟩
    refine wpAny_bind (wpAny_mono h ?_ (fun _ _ h => h))
    rintro items s1 ⟨hl, h⟩
    have e1 : ¬ ((n : Int) < 0) := by omega
    have e2 : Builtin.Itertools.itTooMany (n : Int) = false := by unfold Builtin.Itertools.itTooMany; exact decide_eq_false (by omega)
    rw [if_neg e1, e2]
    show wpAny _ _ (newTuple items >>= _) _ _ _
    unfold newTuple
    refine wpAny_bind (wpAny_newObj_type ?_ (by size_fits))
    refine wpAny_pure ?_
    have e3 : ((n : Int)).toNat = n := by simp
    show wpAny _ _ (Builtin.Itertools.itNewRecord (Value.type "itertools.combinations") _ >>= _) _ _ _
    unfold Builtin.Itertools.itNewRecord
    rw [hd]
    rw [if_pos (show (!false) = true from rfl)]
    refine wpAny_bind ?_
    refine wpAny_newObj_type ?_ ?_
    · show wpAny _ _ (ret _) _ _ _
      refine wpAny_pure ⟨_, rfl, ?_⟩
      rw [e3]
      have e5 : (s1.heap.push (tupObj items)).objs.size = s1.heap.objs.size + 1 := Heap.size_push ..
      show R (.ok (.ret (.ref (s1.heap.push (tupObj items)).objs.size))) { s1 with heap := (s1.heap.push (tupObj items)).push (cbObj s1.heap.objs.size (if n > items.length then 2 else 0) .none (List.range n)) }
      rw [e5]
      exact h
    · show Array.size _ ≤ sizeLine + 2
      rw [sizeLine_eq, e3]
      simp
      omega
end PL
namespace PL
open PySem PySem.Spec
open Sem (wp)
/-- the indices behind these, of a pool of n -/
def cbNext (n : Nat) (ix : List Nat) : Option (List Nat) :=
  match (List.range ix.length).reverse.find? fun i => ix.getD i 0 != i + n - ix.length with
  | none => none
  | some i => some (ix.take i ++ (List.range (ix.length - i)).map fun j => ix.getD i 0 + 1 + j)
def cbPick (items : List Value) (ix : List Nat) : List Value := ix.map fun i => items.toArray.getD i .none
theorem cbF_ix (pool : Addr) (st : Int) (last : Value) (ix : List Nat) : ((cbF pool st last ix).toList.drop 3).map (fun | .int n _ => n.toNat | _ => 0) = ix := by
  unfold cbF
  show (ix.map fun (i : Nat) => rawInt i).map _ = ix
  rw [List.map_map]
  conv => rhs; rw [← List.map_id ix]
  apply List.map_congr_left
  intro i _
  show ((i : Int)).toNat = i
  simp
section
variable {prog : Program} {w : World} {A : Around} {E : Value → Shared → Prop} {s : Shared}
theorem cbF_size (pool : Addr) (st : Int) (last : Value) (ix : List Nat) : (cbF pool st last ix).size = ix.length + 3 := by simp [cbF]
theorem cbF_set1 (pool : Addr) (st st' : Int) (last : Value) (ix : List Nat) : (cbF pool st last ix).setIfInBounds 1 (rawInt st') = cbF pool st' last ix := by simp [cbF]
theorem cbF_set2 (pool : Addr) (st : Int) (last last' : Value) (ix : List Nat) : (cbF pool st last ix).setIfInBounds 2 last' = cbF pool st last' ix := by simp [cbF]
theorem cbF_ixs (pool : Addr) (st : Int) (last : Value) (ix jx : List Nat) : (cbF pool st last ix).extract 0 3 ++ (jx.map fun (n : Nat) => rawInt n).toArray = cbF pool st last jx := by
  simp [cbF]
theorem cb_out {it pool : Addr} {st : Int} {last : Value} {ix jx : List Nat} {items : List Value} {Q : Option Value → Shared → Prop} (hit : s.heap.get? it = some (cbObj pool st last ix)) (hp : s.heap.get? pool = some (tupObj items)) (hl : jx.length ≤ 1000)
    (hQ : ∀ h', h'.get? it = some (cbObj pool st (.ref s.heap.objs.size) ix) → h'.get? s.heap.objs.size = some (tupObj (cbPick items jx)) → h'.objs.size = s.heap.objs.size + 1 → (∀ b o, b ≠ it → s.heap.get? b = some o → h'.get? b = some o) → Q (some (.ref s.heap.objs.size)) { s with heap := h' }) :
    wpAny (model prog w) A ((Builtin.Itertools.itPoolItems (.ref pool) >>= fun xs => newTuple (jx.map fun i => xs.getD i .none)) >>= fun result => field (.ref it) 2 >>= fun before => setField (.ref it) 2 result >>= fun _ => letGo [before] [result] >>= fun _ => ret result)
      (fun fin s' => ∃ v, fin = Fin.done (Flow.ret v) ∧ Q (some v) s') E s := by
  refine wpAny_bind (wpAny_bind ?_)
  show wpAny _ _ (seqItems? (.ref pool) >>= _) _ _ _
  refine wpAny_bind ?_
  show wpAny _ _ (load pool >>= _) _ _ _
  refine wpAny_bind (wpAny_load hp ?_)
  show wpAny _ _ (pure (some items.toArray)) _ _ _
  refine wpAny_pure (wpAny_pure ?_)
  unfold newTuple
  have hlt : it < s.heap.objs.size := Heap.lt_size hit
  refine wpAny_newObj_type ?_ ?_
  · have hit2 : (s.heap.push (tupObj (cbPick items jx))).get? it = some (cbObj pool st last ix) := Heap.get?_push_of_some _ hit
    have hT2 : (s.heap.push (tupObj (cbPick items jx))).get? s.heap.objs.size = some (tupObj (cbPick items jx)) := Heap.get?_push_size _ rfl
    show wpAny _ _ _ _ _ { s with heap := s.heap.push (tupObj (cbPick items jx)) }
    refine wpAny_bind (wpAny_field hit2 rfl (x := last) rfl ?_)
    refine wpAny_bind (wpAny_setField hit2 rfl (by rw [cbF_size]; omega) ?_)
    refine wpAny_bind (wpAny_letGo ?_)
    refine wpAny_pure ⟨_, rfl, ?_⟩
    refine hQ _ ?_ ?_ ?_ ?_
    · have h1 := Heap.get?_update_self (Obj.mapFields fun x => x.setIfInBounds 2 (Value.ref s.heap.objs.size)) hit2 rfl
      have h2 : Obj.mapFields (fun x => x.setIfInBounds 2 (Value.ref s.heap.objs.size)) (cbObj pool st last ix) = cbObj pool st (.ref s.heap.objs.size) ix := by
        show ({ cls := _, data := .fields ((cbF pool st last ix).setIfInBounds 2 (Value.ref s.heap.objs.size)) } : Obj) = _
        rw [cbF_set2]
        rfl
      exact h1.trans (congrArg some h2)
    · rw [Heap.get?_update_other _ _ (Nat.ne_of_lt hlt)]
      exact hT2
    · rw [Heap.size_update, Heap.size_push]
    · intro b o hb e
      rw [Heap.get?_update_other _ _ (Ne.symm hb)]
      exact Heap.get?_push_of_some _ e
  · show Array.size _ ≤ sizeLine
    rw [sizeLine_eq]
    simp
    omega
theorem cb_next0 {it pool : Addr} {last : Value} {ix : List Nat} {items : List Value} {Q : Option Value → Shared → Prop} (hit : s.heap.get? it = some (cbObj pool 0 last ix)) (hp : s.heap.get? pool = some (tupObj items)) (hne : pool ≠ it) (hl : ix.length ≤ 1000)
    (hQ : ∀ h', h'.get? it = some (cbObj pool 1 (.ref s.heap.objs.size) ix) → h'.get? s.heap.objs.size = some (tupObj (cbPick items ix)) → h'.objs.size = s.heap.objs.size + 1 → (∀ b o, b ≠ it → s.heap.get? b = some o → h'.get? b = some o) → Q (some (.ref s.heap.objs.size)) { s with heap := h' }) :
    wpAny (model prog w) A (callSpecial? (.ref it) "__next__") Q E s := by
  have hT : s.TypeIs (.ref it) "itertools.combinations" := ⟨_, hit, rfl⟩
  refine wpAny_callSpecial?_slot (name := Str.ofString "__next__") hT cb_slot_next (wpAny_call_entry cb_slot_next hT cb_entry_next ?_ (cb_args_next _))
  show wpAny _ _ (field (.ref it) 0 >>= _) _ _ s
  refine wpAny_bind (wpAny_field hit rfl (x := .ref pool) rfl ?_)
  show wpAny _ _ (Builtin.Itertools.itNumbersFrom (.ref it) 3 >>= _) _ _ s
  refine wpAny_bind ?_
  show wpAny _ _ (load it >>= _) _ _ s
  refine wpAny_bind (wpAny_load hit ?_)
  show wpAny _ _ (pure (((cbF pool 0 last ix).toList.drop 3).map _)) _ _ s
  refine wpAny_pure ?_
  generalize hx : List.map _ (List.drop 3 (cbF pool 0 last ix).toList) = jx
  have ej : jx = ix := hx.symm.trans (cbF_ix pool 0 last ix)
  clear hx
  subst ej
  show wpAny _ _ (Builtin.Itertools.itIntField (.ref it) 1 >>= _) _ _ s
  refine wpAny_bind ?_
  show wpAny _ _ (field (.ref it) 1 >>= _) _ _ s
  refine wpAny_bind (wpAny_field hit rfl (x := rawInt 0) rfl (wpAny_pure ?_))
  show wpAny _ _ (setField (.ref it) 1 (rawInt 1) >>= _) _ _ s
  refine wpAny_bind (wpAny_setField hit rfl (by rw [cbF_size]; omega) ?_)
  have h1 := Heap.get?_update_self (Obj.mapFields fun x => x.setIfInBounds 1 (rawInt 1)) hit rfl
  have h2 : Obj.mapFields (fun x => x.setIfInBounds 1 (rawInt 1)) (cbObj pool 0 last jx) = cbObj pool 1 last jx := by
    show ({ cls := _, data := .fields ((cbF pool 0 last jx).setIfInBounds 1 (rawInt 1)) } : Obj) = _
    rw [cbF_set1]
    rfl
  have sz := Heap.size_update s.heap it (Obj.mapFields fun x => x.setIfInBounds 1 (rawInt 1))
  refine cb_out (s := { s with heap := s.heap.update it (Obj.mapFields fun x => x.setIfInBounds 1 (rawInt 1)) }) (h1.trans (congrArg some h2)) ((Heap.get?_update_other _ _ (Ne.symm hne)).trans hp) hl fun h' a b c d => ?_
  rw [show ({ s with heap := s.heap.update it (Obj.mapFields fun x => x.setIfInBounds 1 (rawInt 1)) } : Shared).heap.objs.size = s.heap.objs.size from sz] at a b c ⊢
  exact hQ h' a b c fun x o hx e => d x o hx ((Heap.get?_update_other _ _ (Ne.symm hx)).trans e)
theorem cb_next1 {it pool : Addr} {last : Value} {ix nx : List Nat} {items : List Value} {Q : Option Value → Shared → Prop} (hit : s.heap.get? it = some (cbObj pool 1 last ix)) (hp : s.heap.get? pool = some (tupObj items)) (hne : pool ≠ it) (hn : cbNext items.length ix = some nx) (hl : nx.length ≤ 1000)
    (hQ : ∀ h', h'.get? it = some (cbObj pool 1 (.ref s.heap.objs.size) nx) → h'.get? s.heap.objs.size = some (tupObj (cbPick items nx)) → h'.objs.size = s.heap.objs.size + 1 → (∀ b o, b ≠ it → s.heap.get? b = some o → h'.get? b = some o) → Q (some (.ref s.heap.objs.size)) { s with heap := h' }) :
    wpAny (model prog w) A (callSpecial? (.ref it) "__next__") Q E s := by
  have hT : s.TypeIs (.ref it) "itertools.combinations" := ⟨_, hit, rfl⟩
  refine wpAny_callSpecial?_slot (name := Str.ofString "__next__") hT cb_slot_next (wpAny_call_entry cb_slot_next hT cb_entry_next ?_ (cb_args_next _))
  show wpAny _ _ (field (.ref it) 0 >>= _) _ _ s
  refine wpAny_bind (wpAny_field hit rfl (x := .ref pool) rfl ?_)
  show wpAny _ _ (Builtin.Itertools.itNumbersFrom (.ref it) 3 >>= _) _ _ s
  refine wpAny_bind ?_
  show wpAny _ _ (load it >>= _) _ _ s
  refine wpAny_bind (wpAny_load hit ?_)
  show wpAny _ _ (pure (((cbF pool 1 last ix).toList.drop 3).map _)) _ _ s
  refine wpAny_pure ?_
  generalize hx : List.map _ (List.drop 3 (cbF pool 1 last ix).toList) = jx
  have ej : jx = ix := hx.symm.trans (cbF_ix pool 1 last ix)
  clear hx
  subst ej
  show wpAny _ _ (Builtin.Itertools.itIntField (.ref it) 1 >>= _) _ _ s
  refine wpAny_bind ?_
  show wpAny _ _ (field (.ref it) 1 >>= _) _ _ s
  refine wpAny_bind (wpAny_field hit rfl (x := rawInt 1) rfl (wpAny_pure ?_))
  show wpAny _ _ (Builtin.Itertools.itPoolItems (.ref pool) >>= _) _ _ s
  refine wpAny_bind ?_
  show wpAny _ _ (seqItems? (.ref pool) >>= _) _ _ _
  refine wpAny_bind ?_
  show wpAny _ _ (load pool >>= _) _ _ _
  refine wpAny_bind (wpAny_load hp ?_)
  show wpAny _ _ (pure (some items.toArray)) _ _ _
  refine wpAny_pure (wpAny_pure ?_)
  split
  rotate_left
  · rename_i hz
    have hz' : cbNext items.length jx = none := hz
    rw [hn] at hz'
    cases hz'
  rename_i next hz
  have hz' : cbNext items.length jx = some next := hz
  rw [hn] at hz'
  cases hz'
  show wpAny _ _ (Builtin.Itertools.itSetNumbersFrom (.ref it) 3 nx >>= _) _ _ s
  refine wpAny_bind ?_
  show wpAny _ _ (updateFields it fun fs => fs.extract 0 3 ++ (nx.map fun (n : Nat) => rawInt n).toArray) _ _ s
  have h1 := Heap.get?_update_self (Obj.mapFields fun fs => fs.extract 0 3 ++ (nx.map fun (n : Nat) => rawInt n).toArray) hit rfl
  have h2 : Obj.mapFields (fun fs => fs.extract 0 3 ++ (nx.map fun (n : Nat) => rawInt n).toArray) (cbObj pool 1 last jx) = cbObj pool 1 last nx := by
    show ({ cls := _, data := .fields ((cbF pool 1 last jx).extract 0 3 ++ (nx.map fun (n : Nat) => rawInt n).toArray) } : Obj) = _
    rw [cbF_ixs]
    rfl
  have sz := Heap.size_update s.heap it (Obj.mapFields fun fs => fs.extract 0 3 ++ (nx.map fun (n : Nat) => rawInt n).toArray)
  refine wpAny_updateFields hit rfl ?_ (by show ((cbF pool 1 last jx).extract 0 3 ++ (nx.map fun (n : Nat) => rawInt n).toArray).size ≤ _; rw [cbF_ixs, cbF_size, sizeLine_eq]; omega)
  refine cb_out (s := { s with heap := s.heap.update it (Obj.mapFields fun fs => fs.extract 0 3 ++ (nx.map fun (n : Nat) => rawInt n).toArray) }) (h1.trans (congrArg some h2)) ((Heap.get?_update_other _ _ (Ne.symm hne)).trans hp) hl fun h' a b c d => ?_
  rw [show ({ s with heap := s.heap.update it (Obj.mapFields fun fs => fs.extract 0 3 ++ (nx.map fun (n : Nat) => rawInt n).toArray) } : Shared).heap.objs.size = s.heap.objs.size from sz] at a b c ⊢
  exact hQ h' a b c fun x o hx e => d x o hx ((Heap.get?_update_other _ _ (Ne.symm hx)).trans e)
theorem cb_stop {it : Addr} {Q : Option Value → Shared → Prop} (hh : A.handled = none) (hQ : ∀ e h', CpRep.StopE e h' → Heap.ExtBut it s.heap h' → E e { s with heap := h' }) :
    wpAny (model prog w) A (Builtin.Itertools.itStop : Sem Fin) (fun fin s' => ∃ v, fin = Fin.done (Flow.ret v) ∧ Q (some v) s') E s := by
  show wpAny _ _ (newExc (.type "StopIteration") [] >>= _) _ _ _
  refine wpAny_bind ?_
  simp only [newExc, newTuple]
  refine wpAny_bind (wpAny_newObj_type ?_ (by size_fits))
  refine wpAny_bind (m := firstArgMember _ _) (wpAny_of_eq (a := Value.none) (by first | rfl | (simp only [firstArgMember]; rfl)) ?_)
  refine wpAny_newObj_type ?_ (by size_fits)
  simp only [raiseNew]
  refine wpAny_bind (wpAny_handled ?_)
  rw [hh]
  refine wpAny_bind (wpAny_pure (wpAny_throw ?_))
  exact hQ _ _ ⟨_, _, _, rfl, Heap.get?_push_size _ rfl, rfl, rfl, rfl⟩ (((Heap.ExtBut.refl it s.heap).push _).push _)
theorem cb_end {it pool : Addr} {st : Int} {last : Value} {ix : List Nat} {items : List Value} {Q : Option Value → Shared → Prop} (hh : A.handled = none) (hit : s.heap.get? it = some (cbObj pool st last ix)) (hp : s.heap.get? pool = some (tupObj items)) (hst : st = 2 ∨ (st = 1 ∧ cbNext items.length ix = none))
    (hQ : ∀ e h', CpRep.StopE e h' → Heap.ExtBut it s.heap h' → E e { s with heap := h' }) : wpAny (model prog w) A (callSpecial? (.ref it) "__next__") Q E s := by
  have hT : s.TypeIs (.ref it) "itertools.combinations" := ⟨_, hit, rfl⟩
  have hh1 : A.in1.handled = none := hh
  refine wpAny_callSpecial?_slot (name := Str.ofString "__next__") hT cb_slot_next (wpAny_call_entry cb_slot_next hT cb_entry_next ?_ (cb_args_next _))
  show wpAny _ _ (field (.ref it) 0 >>= _) _ _ s
  refine wpAny_bind (wpAny_field hit rfl (x := .ref pool) rfl ?_)
  show wpAny _ _ (Builtin.Itertools.itNumbersFrom (.ref it) 3 >>= _) _ _ s
  refine wpAny_bind ?_
  show wpAny _ _ (load it >>= _) _ _ s
  refine wpAny_bind (wpAny_load hit ?_)
  show wpAny _ _ (pure (((cbF pool st last ix).toList.drop 3).map _)) _ _ s
  refine wpAny_pure ?_
  generalize hx : List.map _ (List.drop 3 (cbF pool st last ix).toList) = jx
  have ej : jx = ix := hx.symm.trans (cbF_ix pool st last ix)
  clear hx
  subst ej
  show wpAny _ _ (Builtin.Itertools.itIntField (.ref it) 1 >>= _) _ _ s
  refine wpAny_bind ?_
  show wpAny _ _ (field (.ref it) 1 >>= _) _ _ s
  refine wpAny_bind (wpAny_field hit rfl (x := rawInt st) rfl (wpAny_pure ?_))
  rcases hst with e | ⟨e, hn⟩
  · subst e
    show wpAny _ _ (rule _ >>= _) _ _ _
    exact wpAny_bind (wpAny_rule (cb_stop hh1 hQ))
  · subst e
    show wpAny _ _ (Builtin.Itertools.itPoolItems (.ref pool) >>= _) _ _ s
    refine wpAny_bind ?_
    show wpAny _ _ (seqItems? (.ref pool) >>= _) _ _ _
    refine wpAny_bind ?_
    show wpAny _ _ (load pool >>= _) _ _ _
    refine wpAny_bind (wpAny_load hp ?_)
    show wpAny _ _ (pure (some items.toArray)) _ _ _
    refine wpAny_pure (wpAny_pure ?_)
    split
    · rename_i next hz
      have hz' : cbNext items.length jx = some next := hz
      rw [hn] at hz'
      cases hz'
    rename_i hz
    show wpAny _ _ (setField (.ref it) 1 (rawInt 2) >>= _) _ _ s
    refine wpAny_bind (wpAny_setField hit rfl (by rw [cbF_size]; omega) ?_)
    refine cb_stop hh1 fun e h' se eb => hQ e h' se fun b o hb x => eb b o hb ((Heap.get?_update_other _ _ (Ne.symm hb)).trans x)
/-- next of it -/
theorem pyNext_some {it : Addr} {Q : Option Value → Shared → Prop} (h : wpAny (model prog w) A (callSpecial? (.ref it) "__next__") (fun r s' => ∃ v, r = some v ∧ Q (some v) s') E s)
    : wpAny (model prog w) A (callSpecial? (.ref it) "__next__") (fun r s' => ∃ v, r = some v ∧ Q (some v) s') E s := h
theorem cb_stopNext {e : Value} {Q : Option Value → Shared → Prop} (se : CpRep.StopE e s.heap) (h : Q none s) : wpAny (model prog w) A (do
    if ← isInstance e (.type "StopIteration") then pure none else throw e) Q E s := by
  obtain ⟨a, o, vs, rfl, ho, hc, hd, _⟩ := se
  refine wpAny_bind (wpAny_isInstance (T := "StopIteration") (b := true) ⟨_, ho, hc⟩ isSubtype_stop ?_)
  exact wpAny_pure h
theorem cb_pyNext_end {it pool : Addr} {st : Int} {last : Value} {ix : List Nat} {items : List Value} {Q : Option Value → Shared → Prop} (hh : A.handled = none) (hit : s.heap.get? it = some (cbObj pool st last ix)) (hp : s.heap.get? pool = some (tupObj items)) (hst : st = 2 ∨ (st = 1 ∧ cbNext items.length ix = none))
    (hQ : ∀ h', Heap.ExtBut it s.heap h' → Q none { s with heap := h' }) : wpAny (model prog w) A (pyNext (.ref it)) Q E s := by
  unfold pyNext
  refine wpAny_bind (wpAny_attempt (cb_end hh hit hp hst fun e h' se eb => ?_))
  exact cb_stopNext (s := { s with heap := h' }) se (hQ h' eb)
theorem cb_pyNext0 {it pool : Addr} {last : Value} {ix : List Nat} {items : List Value} {Q : Option Value → Shared → Prop} (hit : s.heap.get? it = some (cbObj pool 0 last ix)) (hp : s.heap.get? pool = some (tupObj items)) (hne : pool ≠ it) (hl : ix.length ≤ 1000)
    (hQ : ∀ h', h'.get? it = some (cbObj pool 1 (.ref s.heap.objs.size) ix) → h'.get? s.heap.objs.size = some (tupObj (cbPick items ix)) → h'.objs.size = s.heap.objs.size + 1 → (∀ b o, b ≠ it → s.heap.get? b = some o → h'.get? b = some o) → Q (some (.ref s.heap.objs.size)) { s with heap := h' }) :
    wpAny (model prog w) A (pyNext (.ref it)) Q E s := by
  unfold pyNext
  exact wpAny_bind (wpAny_attempt (cb_next0 hit hp hne hl fun h' a b c d => wpAny_pure (hQ h' a b c d)))
theorem cb_pyNext1 {it pool : Addr} {last : Value} {ix nx : List Nat} {items : List Value} {Q : Option Value → Shared → Prop} (hit : s.heap.get? it = some (cbObj pool 1 last ix)) (hp : s.heap.get? pool = some (tupObj items)) (hne : pool ≠ it) (hn : cbNext items.length ix = some nx) (hl : nx.length ≤ 1000)
    (hQ : ∀ h', h'.get? it = some (cbObj pool 1 (.ref s.heap.objs.size) nx) → h'.get? s.heap.objs.size = some (tupObj (cbPick items nx)) → h'.objs.size = s.heap.objs.size + 1 → (∀ b o, b ≠ it → s.heap.get? b = some o → h'.get? b = some o) → Q (some (.ref s.heap.objs.size)) { s with heap := h' }) :
    wpAny (model prog w) A (pyNext (.ref it)) Q E s := by
  unfold pyNext
  exact wpAny_bind (wpAny_attempt (cb_next1 hit hp hne hn hl fun h' a b c d => wpAny_pure (hQ h' a b c d)))
theorem cb_pyIter {it : Addr} {pool : Addr} {st : Int} {last : Value} {ix : List Nat} {Q : Value → Shared → Prop} (hit : s.heap.get? it = some (cbObj pool st last ix)) (h : Q (.ref it) s) : wpAny (model prog w) A (pyIter (.ref it)) Q E s := by
  have hT : s.TypeIs (.ref it) "itertools.combinations" := ⟨_, hit, rfl⟩
  refine wpAny_pyIter_slot hT cb_slot_iter (wpAny_call_entry cb_slot_iter hT cb_entry_iter ?_ (cb_args_iter _))
  show wpAny _ _ (ret (.ref it)) _ _ s
  exact wpAny_pure ⟨_, rfl, "itertools.combinations", _, hT, cb_slot_next.lookup, h⟩
theorem cb_call {v : Value} {n : Nat} {t : Tok} {Q : Value → Shared → Prop} (h1 : n ≤ 1000)
    (h : wpAny (model prog w) A.in1.in1 (collect v) (fun items s1 => items.length ≤ 1000 ∧ Q (.ref (s1.heap.objs.size + 1)) { s1 with heap := (s1.heap.push (tupObj items)).push (cbObj s1.heap.objs.size (if n > items.length then 2 else 0) .none (List.range n)) }) E s) :
    wpAny (model prog w) A (call (.type "itertools.combinations") [v, .int n t]) Q E s := by
  refine callType_newIn cb_called (by decide) (cb_typeCall _ _) (cb_newCall _ _) (fun obj => F.args_object_init_3 obj _ _) cb_entry_new (meets_cb_new prog w v n t h1) ?_
  refine wpAny_mono h ?_ ?_
  · rintro items s1 ⟨hl, q⟩
    refine ⟨hl, ?_⟩
    show _ ∧ _
    have hz : (s1.heap.push (tupObj items)).objs.size = s1.heap.objs.size + 1 := Heap.size_push ..
    have := Heap.get?_push_size (s1.heap.push (tupObj items)) (o := cbObj s1.heap.objs.size (if n > items.length then 2 else 0) .none (List.range n)) rfl
    rw [hz] at this
    exact ⟨⟨_, this, rfl⟩, q⟩
  · intro e s' q
    exact q
end
end PL
/-! PL ce: what a for over combinations walks. -/
namespace PL
open PySem PySem.Spec PyProof.Rows L2

/-- all index rows from ix on -/
def cbSeq : Nat → Nat → List Nat → Option (List (List Nat))
  | 0, _, _ => none
  | f + 1, n, ix => match cbNext n ix with
    | none => some [ix]
    | some jx => (cbSeq f n jx).map (ix :: ·)
def cbIx (n r : Nat) : Option (List (List Nat)) := if (decide (n ≤ 100) && decide (r ≤ 100)) = true then (if r > n then some [] else cbSeq 2000 n (List.range r)) else none
theorem cbNext_length {n : Nat} {ix jx : List Nat} (h : cbNext n ix = some jx) : jx.length = ix.length := by
  unfold cbNext at h
  split at h
  · cases h
  · rename_i i e
    cases h
    have h1 := List.mem_of_find?_eq_some e
    rw [List.mem_reverse, List.mem_range] at h1
    simp
    omega
theorem cbSeq_ne : ∀ {f n : Nat} {ix : List Nat} {rows : List (List Nat)}, cbSeq f n ix = some rows → rows[0]? = some ix
  | 0, _, _, _, h => by cases h
  | f + 1, n, ix, rows, h => by
    unfold cbSeq at h
    split at h
    · cases h; rfl
    · obtain ⟨l, _, e⟩ := map_some' h
      subst e
      rfl
/-- row i + 1 is the next of row i; behind the last there is none -/
theorem cbSeq_step : ∀ {f n : Nat} {ix : List Nat} {rows : List (List Nat)}, cbSeq f n ix = some rows → ∀ {i : Nat} {jx : List Nat}, rows[i]? = some jx → cbNext n jx = rows[i + 1]? ∧ jx.length = ix.length
  | 0, _, _, _, h, _, _, _ => by cases h
  | f + 1, n, ix, rows, h, i, jx, hj => by
    unfold cbSeq at h
    split at h
    · rename_i e
      cases h
      cases i with
      | zero => cases hj; exact ⟨e, rfl⟩
      | succ i => cases hj
    · rename_i nx e
      obtain ⟨l, e1, e2⟩ := map_some' h
      subst e2
      cases i with
      | zero =>
        cases hj
        rw [List.getElem?_cons_succ, cbSeq_ne e1]
        exact ⟨e, rfl⟩
      | succ i =>
        rw [List.getElem?_cons_succ] at hj ⊢
        obtain ⟨h1, h2⟩ := cbSeq_step e1 hj
        exact ⟨h1, h2.trans (cbNext_length e)⟩
def cbRow (vs : List V) (ix : List Nat) : List V := ix.map fun i => vs.getD i .non
theorem vals_getD {vs : List V} {its : List Value} (r : Vals vs its) (i : Nat) : RelV (vs.getD i .non) (its.toArray.getD i .none) := by
  have e : its.toArray.getD i .none = its.getD i .none := by simp
  rw [e, List.getD_eq_getElem?_getD, List.getD_eq_getElem?_getD]
  cases h : vs[i]? with
  | some v =>
    obtain ⟨u, h1, h2⟩ := r.get h
    rw [h1]
    exact h2
  | none =>
    have h1 : its[i]? = none := by
      rw [List.getElem?_eq_none_iff] at h ⊢
      rw [← r.length]; exact h
    rw [h1]
    exact rfl
theorem vals_row {vs : List V} {its : List Value} (r : Vals vs its) : ∀ ix : List Nat, Vals (cbRow vs ix) (cbPick its ix)
  | [] => .nil
  | i :: ix => .cons (vals_getD r i) (vals_row r ix)
/-- where the walk stands ahead of turn i -/
def CbAt (h : Heap) (pool it : Addr) (items : List Value) (r : Nat) (rows : List (List Nat)) (i : Nat) : Prop :=
  h.get? pool = some (tupObj items) ∧ ((i = 0 ∧ h.get? it = some (cbObj pool (if r > items.length then 2 else 0) .none (List.range r))) ∨
    (∃ ix last, 0 < i ∧ rows[i - 1]? = some ix ∧ h.get? it = some (cbObj pool 1 last ix)))
def ItCb (vs : List V) (rows : List (List Nat)) : It :=
  ⟨fun i H => i < rows.length, fun i H v H' => ∃ T ix, v = .ref T ∧ H T = none ∧ H' = upd H T (.tup (cbRow vs ix)) ∧ rows[i]? = some ix, fun i H => i = rows.length⟩
theorem cbIx_ok {n r : Nat} {rows : List (List Nat)} (h : cbIx n r = some rows) : n ≤ 100 ∧ r ≤ 100 ∧ ((r > n ∧ rows = []) ∨ (¬ r > n ∧ cbSeq 2000 n (List.range r) = some rows)) := by
  unfold cbIx at h
  split at h
  · rename_i q
    rw [Bool.and_eq_true, decide_eq_true_eq, decide_eq_true_eq] at q
    split at h
    · rename_i q2; cases h; exact ⟨q.1, q.2, .inl ⟨q2, rfl⟩⟩
    · rename_i q2; exact ⟨q.1, q.2, .inr ⟨q2, h⟩⟩
  · cases h
theorem turn_cb {P : Program} {w : World} {K : PySem.W.Frag} {tg : Expr} {vs : List V} {items : List Value} {r : Nat} {rows : List (List Nat)} (pool it : Addr) (hne : pool ≠ it) (rv : Vals vs items) (hr : cbIx items.length r = some rows) :
    Turn P w K tg (ItCb vs rows) [it, pool] it (fun i h => CbAt h pool it items r rows i) where
  mem := by simp
  obj := fun i h st b hb => by
    obtain ⟨hp, st⟩ := st
    have e' : b = it ∨ b = pool := by simpa using hb
    rcases e' with z | z
    · rw [z]
      rcases st with ⟨_, e⟩ | ⟨ix, last, _, _, e⟩
      · exact ⟨_, e, fun v q => nomatch q⟩
      · exact ⟨_, e, fun v q => nomatch q⟩
    · rw [z]; exact ⟨_, hp, fun v q => nomatch q⟩
  keep := fun i h h' st k => by
    obtain ⟨hp, st⟩ := st
    refine ⟨k pool (by simp) _ hp, ?_⟩
    rcases st with ⟨a, e⟩ | ⟨ix, last, a, b, e⟩
    · exact .inl ⟨a, k it (by simp) _ e⟩
    · exact .inr ⟨ix, last, a, b, k it (by simp) _ e⟩
  item := by
    intro X hP hw hK hc i pins s σ H E I hf st hg
    subst hP hw hK
    obtain ⟨hp, st⟩ := st
    have hg : i < rows.length := hg
    obtain ⟨hn100, hr100, hrows⟩ := cbIx_ok hr
    have hpl : pool < s.heap.objs.size := Heap.lt_size hp
    have fin : ∀ (ix : List Nat), rows[i]? = some ix → ix.length ≤ 1000 → it < s.heap.objs.size → ∀ (h' : Heap), h'.get? it = some (cbObj pool 1 (.ref s.heap.objs.size) ix) → h'.get? s.heap.objs.size = some (tupObj (cbPick items ix)) → h'.objs.size = s.heap.objs.size + 1 → (∀ b o, b ≠ it → s.heap.get? b = some o → h'.get? b = some o) →
        (∃ u, some (Value.ref s.heap.objs.size) = some u ∧ wpAny (model X.prog X.w) X.A (letOwnedTupleGo tg (.ref it) u) (fun _ s2 => ∃ x H', Inv X pins σ H' s2 ∧ RelV x u ∧ (ItCb vs rows).yld i H x H' ∧ CbAt s2.heap pool it items r rows (i + 1) ∧ ∀ b ∈ [it, pool], H' b = none) E { s with heap := h' }) := by
      intro ix hx hl1 hil h' hit hT hsz hk
      have rr := vals_row rv ix
      have new : ObjOk X.prog X.w (upd H s.heap.objs.size (.tup (cbRow vs ix))) h' s.heap.objs.size (.tup (cbRow vs ix)) :=
        ⟨by show (cbRow vs ix).length ≤ sizeLine; rw [sizeLine_eq]; unfold cbRow; rw [List.length_map]; omega, cbPick items ix, rr, ⟨_, hT, rfl, _, rfl⟩⟩
      have I1 : Inv X pins σ (upd H s.heap.objs.size (.tup (cbRow vs ix))) { s with heap := h', toks := s.toks } :=
        I.turnedNew (ch := [it, pool]) (fun b ob hb q => hk b ob (fun z => hb (by simp [z])) q) hf (Nat.le_refl _) new
      refine ⟨_, rfl, go_of (s := { s with heap := h' }) (n := "itertools.combinations") hit rfl rfl (by decide) ⟨.ref s.heap.objs.size, _, I1, rfl, ⟨_, ix, rfl, I.hok.fresh (Nat.le_refl _), rfl, hx⟩, ⟨hk pool _ hne hp, .inr ⟨ix, _, Nat.succ_pos _, by simpa using hx, hit⟩⟩, fun b hb => ?_⟩⟩
      have hb' : b < s.heap.objs.size := by
        have e' : b = it ∨ b = pool := by simpa using hb
        rcases e' with z | z
        · rw [z]; exact hil
        · rw [z]; exact hpl
      rw [upd_ne (Nat.ne_of_lt hb')]
      exact (hf b hb).1
    rcases hrows with ⟨h1, h2⟩ | ⟨h1, h2⟩
    · subst h2; cases hg
    rcases st with ⟨a, e⟩ | ⟨ix, last, a, b, e⟩
    · subst a
      rw [if_neg h1] at e
      have h3 := cbSeq_ne h2
      have h4 : (List.range r).length ≤ 1000 := by simp; omega
      exact cb_pyNext0 e hp hne h4 fun h' a b c d => fin _ h3 h4 (Heap.lt_size e) h' a b c d
    · have h5 := cbSeq_step h2 b
      rw [show i - 1 + 1 = i by omega] at h5
      obtain ⟨nx, hnx⟩ : ∃ nx, rows[i]? = some nx := ⟨_, List.getElem?_eq_getElem hg⟩
      have h6 := cbSeq_step h2 hnx
      have h4 : nx.length ≤ 1000 := by rw [h6.2]; simp; omega
      exact cb_pyNext1 e hp hne (h5.1.trans hnx) h4 fun h' a b c d => fin _ hnx h4 (Heap.lt_size e) h' a b c d
  done := by
    intro X hP hw hK hc i pins s σ H E I hf st hg
    subst hP hw hK
    obtain ⟨hp, st⟩ := st
    have hg : i = rows.length := hg
    obtain ⟨hn100, hr100, hrows⟩ := cbIx_ok hr
    have fin : ∀ h', Heap.ExtBut it s.heap h' → ((none : Option Value) = none ∧ Inv X pins σ H { s with heap := h' }) := fun h' eb => by
      obtain ⟨f0, f1, f2, f3, f4, f5⟩ := hf it (by simp)
      exact ⟨rfl, I.turned (t' := s.toks) (fun b o hb q => eb b o hb q) f0 f1 f3 f4 f5⟩
    rcases st with ⟨a, e⟩ | ⟨ix, last, a, b, e⟩
    · rcases hrows with ⟨h1, h2⟩ | ⟨h1, h2⟩
      · rw [if_pos h1] at e
        exact cb_pyNext_end (I.ok.hd hc) e hp (.inl rfl) fin
      · have h3 := cbSeq_ne h2
        have h4 := (List.getElem?_eq_some_iff.mp h3).1
        omega
    · rcases hrows with ⟨h1, h2⟩ | ⟨h1, h2⟩
      · subst h2; cases b
      · have h5 := cbSeq_step h2 b
        rw [show i - 1 + 1 = i by omega] at h5
        refine cb_pyNext_end (I.ok.hd hc) e hp (.inr ⟨rfl, h5.1.trans ?_⟩) fin
        rw [hg]
        simp
  self := fun A i s Q E st h => by
    obtain ⟨hp, ⟨_, e⟩ | ⟨ix, last, _, _, e⟩⟩ := st
    · exact cb_pyIter e h
    · exact cb_pyIter e h
end PL
/-! PL cf: combinations on data. -/
namespace PL
open PySem PySem.Spec PyProof.Rows L2

@[simp] def combD : D → D → Option (List D)
  | d, .i r => if 0 ≤ r then (walkD d).bind fun ds => (cbIx ds.length r.toNat).map fun rows => rows.map fun ix => .t (ix.map fun i => ds.getD i .n) else none
  | _, _ => none
theorem cb_rep {K : PySem.W.Frag} {H1 H3 : Hp} {O O2 : Addr → Prop} {vs : List V} {ds : List D} (rl : RepL K H1 O vs ds) (go : ∀ {v : V} {d : D}, Rep K H1 O v d → Rep K H3 O2 v d) : ∀ ix : List Nat, RepL K H3 O2 (cbRow vs ix) (ix.map fun i => ds.getD i .n)
  | [] => .nil
  | i :: ix => .cons (by
      show Rep K H3 O2 (vs.getD i .non) (ds.getD i .n)
      rw [List.getD_eq_getElem?_getD, List.getD_eq_getElem?_getD]
      cases h : ds[i]? with
      | some d =>
        obtain ⟨v, h1, h2⟩ := rl.get h
        rw [h1]
        exact go h2
      | none =>
        have h1 : vs[i]? = none := by
          rw [List.getElem?_eq_none_iff] at h ⊢
          rw [rl.length]; exact h
        rw [h1]
        exact .n) (cb_rep rl go ix)
theorem itCb_ok {K : PySem.W.Frag} {E W : Addr → Prop} {vs : List V} {ds : List D} {rows : List (List Nat)} {H1 : Hp} (ew : ∀ a, E a → W a) (rl : RepL K H1 W vs ds) : ItOk K (ItCb vs rows) E W (rows.map fun ix => .t (ix.map fun i => ds.getD i .n)) H1 := by
  refine ⟨fun i H2 k hi => ?_, fun H2 k => ?_, fun i H2 x H3 d k y e => ?_⟩
  · rw [List.length_map] at hi; exact hi
  · show _ = rows.length
    rw [List.length_map]
  · obtain ⟨T, ix, e4, hT, e5, hx⟩ := y
    subst e4 e5
    rw [List.getElem?_map, hx] at e
    cases e
    exact ⟨same_new hT, fun O2 m ok2 => Rep.newT ok2 hT (cb_rep rl (fun h => h.go k ew m) ix)⟩
theorem vals_rng {lo : Int} : ∀ {n : Nat} {its : List Value}, its.length = n → (∀ (j : Nat) (v : Value), its[j]? = some v → ∃ t, v = Value.int (lo + (j : Nat) * 1) t) → Vals ((List.range n).map fun i => V.int (lo + (i : Nat))) its := by
  intro n its hl h
  have key : ∀ (its : List Value) (k : Nat), (∀ (j : Nat) (v : Value), its[j]? = some v → ∃ t, v = Value.int (lo + ((k + j : Nat) : Int)) t) → Vals ((List.range' k its.length).map fun i => V.int (lo + (i : Nat))) its := by
    intro its
    induction its with
    | nil => intro k h; exact .nil
    | cons v r ih =>
      intro k h
      rw [List.length_cons, List.range'_succ, List.map_cons]
      refine .cons ?_ (ih (k + 1) fun j v e => ?_)
      · obtain ⟨t, e⟩ := h 0 v rfl
        exact ⟨t, e⟩
      · have := h (j + 1) v e
        rw [show k + 1 + j = k + (j + 1) by omega]
        exact this
  rw [List.range_eq_range', ← hl]
  refine key its 0 fun j v e => ?_
  obtain ⟨t, e2⟩ := h j v e
  refine ⟨t, ?_⟩
  rw [e2, Nat.zero_add, Int.mul_one]
theorem repL_rng {K : PySem.W.Frag} {H : Hp} {O : Addr → Prop} {lo : Int} {n : Nat} : RepL K H O ((List.range n).map fun i => V.int (lo + (i : Nat))) (rngD lo n) := by
  unfold rngD
  induction List.range n with
  | nil => exact .nil
  | cons a r ih => exact .cons (.i _) ih
section
variable {X : Cx}
theorem collect_walk {A : Around} {E : Value → Shared → Prop} {pins : List (Addr × Obj)} {σ : L2.St} {H : Hp} {s : Shared} {b : Bool} {O : Addr → Prop} {v : V} {d : D} {ds : List D} {u : Value} {Q : List Value → Shared → Prop} (hh : A.handled = none) (I : Inv X pins σ H s) (r : RepX b X.K H O v d) (e : walkD d = some ds) (hl : ds.length ≤ 1000) (ru : RelV v u)
    (hQ : ∀ items vs h' tk, Vals vs items → RepL X.K H O vs ds → (∀ b o, s.heap.get? b = some o → h'.get? b = some o) → Q items { s with heap := h', toks := tk }) :
    wpAny (model X.prog X.w) A (collect u) Q E s := by
  cases hd : seqD d with
  | some xs =>
    have e3 : xs = ds := by
      cases d <;> first
        | (cases hd; done)
        | (cases hd; cases e; rfl)
    subst e3
    obtain ⟨kd, a, vs, rfl, st, rl⟩ := r.seq hd
    cases ru
    rcases st H Kp.refl with ⟨_, hq⟩ | ⟨_, hq⟩
    · obtain ⟨its, rv, ⟨o, n, ho, hc, _, hs⟩, hz⟩ := I.list hq
      refine wpAny_collect_seq a (.inl rfl) ho hc hs (fun h' k => ?_) (by rw [List.size_toArray, ← rv.length]; exact hz)
      exact hQ its vs h' s.toks rv rl k
    · obtain ⟨its, rv, ⟨o, ho, hc, n, hs⟩, hz⟩ := I.tuple hq
      refine wpAny_collect_seq a (.inr rfl) ho hc hs (fun h' k => ?_) (by rw [List.size_toArray, ← rv.length]; exact hz)
      exact hQ its vs h' s.toks rv rl k
  | none =>
    cases d <;> first
      | (cases e; done)
      | (cases hd; done)
      | skip
    rename_i lo hi
    have e2 : (if (smI lo && smI hi) = true then some (rngD lo (hi - lo).toNat) else none) = some ds := e
    split at e2
    · rename_i hg
      cases e2
      rw [Bool.and_eq_true] at hg
      obtain ⟨g1, g2⟩ := smI_ok hg.1
      obtain ⟨g3, g4⟩ := smI_ok hg.2
      have hB : RepB X.K H O v (.r lo hi) := by
        unfold RepX at r
        split at r
        · exact .inl r
        · exact r
      obtain ⟨a, rfl, ha⟩ := hB.rng
      cases ru
      obtain ⟨t, u, w, e0⟩ := I.hok _ _ ha
      rw [rngD_length] at hl
      have e5 : Builtin.Range.rangeSize lo hi 1 = (((hi - lo).toNat : Nat) : Int) := by rw [rangeSize_one]; split <;> omega
      refine collect_range (r := a) (a := lo) (b := hi) (c := 1) (t := t) (u := u) (v := w) (n := (hi - lo).toNat) hh e0 (small_one g1 g2 g3 g4) e5 (by omega) fun h' tk acc k hacc => ?_
      exact hQ acc.toList _ h' tk (vals_rng (by rw [Array.length_toList]; exact hacc.1) fun j v e => hacc.2 j v (by simpa using e)) repL_rng k
    · cases e2
/-- for .. in combinations(a, r) -/
theorem di_comb {tg e e2 : Expr} {f g : EvF} {b : Bool} {x : Str} {p pos : Pos} (hg : Gl X x) (hm : X.mg x = some (.type "itertools.combinations")) (hc : X.calm = true) (hdb : (x == ("__debug__" : Str)) = false) (ha : DX b X e f) (hb : DB X e2 g)
    (hs : starEach [e, e2] X.env = (false, eval e X.env) :: starEach [e2] X.env) (hs2 : starEach [e2] X.env = [(false, eval e2 X.env)]) (hpl : (backTo pos (starEach [e2] X.env)).any (·.1) = false) :
    DI b X tg (.Call (.Name x p) [e, e2] [] pos) (fun env => (f env).bind fun d => (g env).bind fun d' => combD d d') := by
  intro σ H O env ds R ok Rc z c
  obtain ⟨d, e1, z⟩ := bind_some' z
  obtain ⟨d', e2', z⟩ := bind_some' z
  have hA : wA X [e, e2] σ H fun vs H2 => ∃ v w, vs = [v, w] ∧ Same H H2 ∧ RepX b X.K H2 O v d ∧ RepB X.K H2 O w d' :=
    PAw (pa_cons wE_pe (pa_cons wE_pe pa_nil (by rw [hs2]; rfl)) hs) (ha σ H O env d _ ok Rc e1 fun v H1 k1 r1 => hb σ H1 O env d' _ (ok.same k1) (Rc.same k1) e2' fun w H2 k2 r2 => ⟨v, w, rfl, k1.trans k2, r1.same k2, r2⟩)
  unfold combD at z
  split at z
  · rename_i d r
    split at z
    · rename_i hr0
      obtain ⟨xs, z1, z2⟩ := bind_some' z
      obtain ⟨rows, z3, z4⟩ := map_some' z2
      subst z4
      obtain ⟨hn100, hr100, _⟩ := cbIx_ok z3
      intro pins s I
      refine Call_ (ld_glob I hg hm (PyProof.Rows.callWith_type1 (thn (hA pos pins s I) fun us s1 ⟨vs, H1, I1, r1, q1⟩ => ?_) hs hpl) hdb)
      obtain ⟨v, w, rfl, k, rv, rw'⟩ := q1
      cases r1 with
      | cons ru rr =>
        cases rr with
        | cons ru2 rr =>
          cases rr
          obtain rfl := rw'.int
          obtain ⟨t, rfl⟩ := ru2
          obtain ⟨n, rfl⟩ := Int.eq_ofNat_of_zero_le hr0
          have z3' : cbIx xs.length n = some rows := z3
          have hn : n ≤ 100 := hr100
          refine cb_call (by omega) (collect_walk (by show X.A.handled = none; exact I.ok.hd hc) I1 rv z1 (by omega) ru fun items ws h' tk rv' rl' hk => ⟨by rw [← rv'.length, rl'.length]; omega, ?_⟩)
          have I2 : Inv X pins σ H1 { s1 with heap := h', toks := tk } := I1.kept hk
          have hlen : items.length = xs.length := by rw [← rv'.length, rl'.length]
          have hz : (h'.push (tupObj items)).objs.size = h'.objs.size + 1 := Heap.size_push ..
          have hp : ((h'.push (tupObj items)).push (cbObj h'.objs.size (if n > items.length then 2 else 0) .none (List.range n))).get? h'.objs.size = some (tupObj items) := Heap.get?_push_of_some _ (Heap.get?_push_size _ rfl)
          have hit := Heap.get?_push_size (h'.push (tupObj items)) (o := cbObj h'.objs.size (if n > items.length then 2 else 0) .none (List.range n)) rfl
          rw [hz] at hit
          have I3 : Inv X pins σ H1 { s1 with heap := (h'.push (tupObj items)).push (cbObj h'.objs.size (if n > items.length then 2 else 0) .none (List.range n)), toks := tk } :=
            I2.kept fun b o e => Heap.get?_push_of_some _ (Heap.get?_push_of_some _ e)
          refine cb_pyIter hit ?_
          refine ⟨h'.objs.size + 1, [h'.objs.size + 1, h'.objs.size], _, _, H1, rfl, I3, turn_cb (r := n) (rows := rows) h'.objs.size (h'.objs.size + 1) (Nat.ne_of_lt (Nat.lt_succ_self _)) rv' (by rw [hlen]; exact z3'), ⟨hp, .inl ⟨rfl, hit⟩⟩, fun b hb => ?_, c _ _ k (itCb_ok eo_sub rl')⟩
          have e' : b = h'.objs.size + 1 ∨ b = h'.objs.size := by simpa using hb
          have hle : h'.objs.size ≤ b := by
            rcases e' with z | z
            · rw [z]; exact Nat.le_add_right _ _
            · rw [z]; exact Nat.le_refl _
          exact I2.fpOk hle (I2.hok.fresh hle)
    · cases z
  · cases z
end
end PL
/-! PL cg: gcd, lcm, tuple(reversed(..)). -/
namespace PL
open PySem PySem.Spec PyProof.Rows L2

@[simp] def gcdD : List D → Option D
  | [.i a, .i b] => some (.i ((Nat.gcd a.natAbs b.natAbs : Nat) : Int))
  | _ => none
@[simp] def lcmD : List D → Option D
  | [.i a, .i b] => if (absLe a 4611686018427387903 && absLe b 4611686018427387903) = true then some (.i ((Nat.lcm a.natAbs b.natAbs : Nat) : Int)) else none
  | _ => none
@[simp] def revD : D → Option D
  | .l xs => some (.t xs.reverse)
  | _ => none
@[simp] def lrgD : D → D → Option D
  | .i a, .i b => if (absLe a 4611686018427387903 && absLe b 4611686018427387903 && decide ((b - a).toNat ≤ 1000000)) = true then some (.l (rngD a (b - a).toNat)) else none
  | _, _ => none
section
variable {X : Cx}
def rLcm : List V → Hp → VK → Prop := fun vs H Q => ∃ a b : Int, vs = [.int a, .int b] ∧ a.natAbs < 2 ^ 63 ∧ b.natAbs < 2 ^ 63 ∧ Q (.int ((Nat.lcm a.natAbs b.natAbs : Nat) : Int)) H
theorem cr_lcm : CallR X (.builtin "math.lcm") rLcm := by
  intro pins s σ H vs us Q I r h
  obtain ⟨a, b, rfl, ha, hb, q⟩ := h
  obtain ⟨t, u, rfl⟩ := Vals.int2 r
  refine PySem.W.mg_lcm_v (c := ((Nat.lcm a.natAbs b.natAbs : Nat) : Int)) (by omega) (by omega) (by rw [Nat.lcm_one_left]) ?_ ⟨.int _, H, I.tok _, ⟨_, rfl⟩, q⟩
  have e : ((Nat.lcm a.natAbs b.natAbs : Nat) : Int).natAbs = Nat.lcm a.natAbs b.natAbs := rfl
  rw [e]
  have h1 : Nat.lcm a.natAbs b.natAbs ≤ a.natAbs * b.natAbs := by
    unfold Nat.lcm
    exact Nat.div_le_self _ _
  have h2 : a.natAbs * b.natAbs ≤ 2 ^ 63 * 2 ^ 63 := Nat.mul_le_mul (Nat.le_of_lt ha) (Nat.le_of_lt hb)
  have h3 : Nat.lcm a.natAbs b.natAbs < 2 ^ (126 + 1) := by
    refine Nat.lt_of_le_of_lt (Nat.le_trans h1 h2) (by decide)
  have h4 := PySem.W.mg_log h3
  exact Nat.lt_of_le_of_lt h4 (by decide)
theorem repB2i {H : Hp} {O : Addr → Prop} {xs : List V} {a b : Int} (rb : RepBs X.K H O xs [.i a, .i b]) : xs = [.int a, .int b] := by
  cases rb with
  | cons r1 rr =>
    cases rr with
    | cons r2 rr =>
      cases rr
      rw [r1.int, r2.int]
theorem cf_gcd : CallF X (.builtin "math.gcd") gcdD := .of cr_gcd fun H O xs ds d Q ok rb e c => by
  unfold gcdD at e
  split at e
  · cases e
    exact ⟨_, _, repB2i rb, c _ _ (Same.refl _) (.i _)⟩
  · cases e
theorem cf_lcm : CallF X (.builtin "math.lcm") lcmD := .of cr_lcm fun H O xs ds d Q ok rb e c => by
  unfold lcmD at e
  split at e
  · split at e
    · rename_i q
      rw [Bool.and_eq_true] at q
      have h1 := absLe_ok q.1
      have h2 := absLe_ok q.2
      cases e
      exact ⟨_, _, repB2i rb, by omega, by omega, c _ _ (Same.refl _) (.i _)⟩
    · cases e
  · cases e
variable {e : Expr} {es : List Expr} {f : EvF} {fs : List Cell → Option (List D)} {pos : Pos}
/-- f(..), f a module's name for a built-in -/
theorem de_callM {x : Str} {p : Pos} {id : String} {F : List D → Option D} (hc : CallF X (.builtin id) F) (hg : Gl X x) (hm : X.mg x = some (.builtin id)) (ha : DM X (e :: es) fs) (hdb : (x == ("__debug__" : Str)) = false)
    (he : starEach (e :: es) X.env = (false, eval e X.env) :: starEach es X.env) (hpl : (backTo pos (starEach es X.env)).any (·.1) = false) : DE X (.Call (.Name x p) (e :: es) [] pos) (callV F fs) := by
  intro σ H O env d Q ok R z c
  obtain ⟨ds, e1, e2⟩ := bind_some' z
  exact PEw (pe_callBfun can_ok hg hm wA_pa hdb he hpl) (ha σ H O env ds _ ok R e1 fun vs H1 s1 r1 => fun pins s σ us I r => hc pins s σ H1 O vs us ds d Q I (ok.same s1) r r1 e2 fun v H' k q => c v H' (s1.trans k) q)
theorem repL_rev {K : PySem.W.Frag} {H : Hp} {O : Addr → Prop} : ∀ {vs : List V} {ds : List D}, RepL K H O vs ds → RepL K H O vs.reverse ds.reverse := by
  have key : ∀ {vs : List V} {ds : List D}, RepL K H O vs ds → ∀ {ws : List V} {es : List D}, RepL K H O ws es → RepL K H O (vs.reverseAux ws) (ds.reverseAux es) := by
    intro vs
    induction vs with
    | nil => intro ds r ws es r'; cases r; exact r'
    | cons v vs ih => intro ds r ws es r'; cases r with
      | cons a r => exact ih r (.cons a r')
  intro vs ds r
  exact key r .nil
theorem de_tupRev {p p2 pos pos2 : Pos} (hc : X.calm = true) (hg : Gl X "tuple") (hm : X.mg "tuple" = none) (hg2 : Gl X "reversed") (hm2 : X.mg "reversed" = none) (ha : DB X e f) (hs : starEach [e] X.env = (false, eval e X.env) :: starEach [] X.env) :
    DE X (.Call (.Name "tuple" p) [.Call (.Name "reversed" p2) [e] [] pos2] [] pos) (fun env => (f env).bind revD) := by
  intro σ H O env d Q ok R z c
  obtain ⟨q, e1, e2⟩ := bind_some' z
  refine PEw (RT.pe_tupRev hc hg hm hg2 hm2 wE_pe hs rfl) (ha σ H O env q _ ok R e1 fun v H1 s1 r1 => ?_)
  unfold revD at e2
  split at e2
  · cases e2
    obtain ⟨a, vs, rfl, h1, h2⟩ := r1.lst
    exact ⟨a, vs, rfl, SqL.of h1, fun q hq => c _ _ (s1.trans (same_new hq)) (Rep.newT (ok.same s1) hq (repL_rev h2))⟩
  · cases e2
/-- list(range(a, b)) -/
theorem df_lrg {a c : Expr} {g : EvF} {p p2 pos pos2 : Pos} (hc : X.calm = true) (hg : Gl X "list") (hm : X.mg "list" = none) (hg2 : Gl X "range") (hm2 : X.mg "range" = none) (ha : DB X a f) (hb : DB X c g) (na : starEach [a, c] X.env = (false, eval a X.env) :: starEach [c] X.env)
    (nb : starEach [c] X.env = (false, eval c X.env) :: starEach [] X.env) (hp : (backTo p2 (starEach [c] X.env)).any (·.1) = false) (hp2 : (backTo pos2 (starEach [c] X.env)).any (·.1) = false) :
    DF X (.Call (.Name "list" p) [.Call (.Name "range" p2) [a, c] [] pos2] [] pos) (fun env => (f env).bind fun x => (g env).bind fun y => lrgD x y) := DFl.df <| by
  intro σ H O env d Q ok R z k
  obtain ⟨x, e1, z⟩ := bind_some' z
  obtain ⟨y, e2, e3⟩ := bind_some' z
  refine PEw (pe_listRg hc hg hm (prg_2 hg2 hm2 wE_pe wE_pe na nb hp2) rfl) (ha σ H O env x _ ok R e1 fun v H1 s1 r1 => hb σ H1 O env y _ (ok.same s1) (R.same s1) e2 fun w H2 s2 r2 => ?_)
  unfold lrgD at e3
  split at e3
  · split at e3
    · rename_i q
      rw [Bool.and_eq_true, Bool.and_eq_true, decide_eq_true_eq] at q
      obtain ⟨⟨q1, q2⟩, q3⟩ := q
      have h1 := absLe_ok q1
      have h2 := absLe_ok q2
      cases e3
      refine ⟨_, _, r1.int, r2.int, ⟨by omega, by omega, by omega, by omega, by omega⟩, fun q hq => ?_⟩
      exact k q _ _ _ ((s1.trans s2).trans (same_new hq)) ((s1.trans s2).free hq) rfl upd_same (newF hq repL_rng)
    · cases e3
  · cases e3
end
end PL
/-! PL df: max(.., default=..), l.index(..). -/
namespace PL
open PySem PySem.Spec PySem.W PyProof.Rows L2

/-- max(x, default=d), x ints -/
@[simp] def mxdD : D → D → Option D
  | .t xs, d => (intsD xs).map fun ns => match ns with
    | [] => d
    | m :: r => .i (maxL m r)
  | .l xs, d => (intsD xs).map fun ns => match ns with
    | [] => d
    | m :: r => .i (maxL m r)
  | _, _ => none
theorem maxL_fold : ∀ (r : List Int) (m : Int), r.foldl max m = maxL m r
  | [], _ => rfl
  | x :: r, m => by
    rw [List.foldl_cons, maxL]
    have : max m x = if m < x then x else m := by
      by_cases h : m < x
      · rw [if_pos h]; omega
      · rw [if_neg h]; omega
    rw [this, maxL_fold r]
theorem mx_toPys (ns : List Int) : toPys (ns.map D.i) = ns.map PyData.int := by
  rw [toPys_eq, List.map_map]
  exact List.map_congr_left fun k _ => by show toPy (.i k) = _; rw [toPy]
theorem mx_alike (ns : List Int) : AlikeAll (ns.map PyData.int) := by
  refine ⟨fun x hx y hy => ?_, fun x hx => ?_⟩
  · obtain ⟨p, _, rfl⟩ := List.mem_map.mp hx
    obtain ⟨q, _, rfl⟩ := List.mem_map.mp hy
    rw [alike]
  · obtain ⟨p, _, rfl⟩ := List.mem_map.mp hx
    exact nofun
theorem mx_ok (ns : List Int) : (ns.map D.i).all (okD 0) = true := by
  rw [List.all_eq_true]
  intro x hx
  obtain ⟨y, _, rfl⟩ := List.mem_map.mp hx
  rfl
section
variable {X : Cx} {a b : Expr} {f g : EvF}
theorem mxd_args {env : Env} {pos kp : Pos} {b : Expr} : (backToKw pos (keywordEach [⟨some "default", b, kp⟩] env)).filterMap (·.1) = [Str.ofString "default"] := rfl
theorem rep_maxI {pins : List (Addr × Obj)} {σ : L2.St} {H : Hp} {O : Addr → Prop} {s : Shared} {vs : List V} {ns : List Int} {us : List Value} (I : Inv X pins σ H s) (r : RepL X.K H O vs (ns.map D.i)) (rv : Vals vs us) : ∃ as, ReadsAll s.heap us (ns.map PyData.int) as := by
  have hdp := repL_dp 0 r (mx_ok ns)
  rw [mx_toPys] at hdp
  exact Dp.readsAll I _ _ _ hdp rv
theorem mx_dep (ns : List Int) : PyData.depthAll (ns.map PyData.int) = 0 := by
  induction ns with
  | nil => rfl
  | cons x r ih => rw [List.map_cons, PyData.depthAll, ih]; rfl
theorem de_mxd {p pos kp : Pos} (hc : X.calm = true) (hu : X.A.units + 65 < cLine) (hg : Gl X "max") (hm : X.mg "max" = none) (ha : DB X a f) (hb : DE X b g)
    (he : starEach [a] X.env = [(false, eval a X.env)]) : DE X (.Call (.Name "max" p) [a] [⟨some "default", b, kp⟩] pos) (fun env => (f env).bind fun x => (g env).bind fun d => mxdD x d) := by
  intro σ H O env d Q ok R z c pins s I
  obtain ⟨x, e1, z1⟩ := bind_some' z
  clear z
  obtain ⟨y, e2, e3⟩ := bind_some' z1
  clear z1
  refine wpAny_Call_Name_kw (ld_blt I hg hm (by decide +kernel : bootBuiltins "max" = some (.builtin "max")) ?_ (by decide) (by decide))
  refine PyProof.Rows.callWith_kw ?_ (by rw [he]; rfl) (by rw [he]; rfl) rfl rfl
  rw [he]
  refine Calls.spliced_cons (thn (ha σ H O env x (fun x' H1 => RepB X.K H1 O x' x ∧ Same H H1) ok R e1 (fun x' H1 s1 r1 => ⟨r1, s1⟩) pins s I) fun u s1 ⟨x', H1, I1, rx, r1, k1⟩ => ?_)
  refine Calls.spliced_nil ?_
  refine PyProof.Rows.kws_cons (thn (hb σ H1 O env y (fun y' H2 => Rep X.K H2 O y' y ∧ Same H1 H2) (ok.same k1) (R.same k1) e2 (fun y' H2 s2 r2 => ⟨r2, s2⟩) pins s1 I1) fun w s2 ⟨y', H2, I2, ry, r2, k2⟩ => PyProof.Rows.kws_nil ?_)
  have r1' := r1.same k2
  have ss := k1.trans k2
  cases x <;> first
    | (cases e3; done)
    | skip
  · obtain ⟨ns, e4, e5⟩ := map_some' e3
    have e6 := intsD_inv e4
    subst e6
    subst e5
    obtain ⟨q, vs, rfl, h1, h2⟩ := r1'.tup
    cases (show u = Value.ref q from rx)
    obtain ⟨its, rv, p, _⟩ := I2.tuple h1
    obtain ⟨as, hr⟩ := rep_maxI I2 h2 rv
    refine max_tuple_default (I2.ok.hd hc) p hr (mx_alike ns) (by rw [mx_dep]; omega) (fun z h' tk hk => ?_) fun m r i v h' tk bs z hv hrd hk => ?_
    · cases ns with
      | nil => exact ⟨y', H2, I2.kept hk, ry, c _ _ ss r2⟩
      | cons m r => cases z
    · cases ns with
      | nil => cases z
      | cons m' r' =>
        rw [List.map_cons] at z
        cases z
        rw [maxD_ints, maxL_fold] at hrd
        cases hrd
        exact ⟨.int _, H2, I2.kept hk, ⟨_, rfl⟩, c _ _ ss (.i _)⟩
  · obtain ⟨ns, e4, e5⟩ := map_some' e3
    have e6 := intsD_inv e4
    subst e6
    subst e5
    obtain ⟨q, vs, rfl, h1, h2⟩ := r1'.lst
    cases (show u = Value.ref q from rx)
    obtain ⟨its, rv, p, _⟩ := I2.list (SqL.of h1)
    obtain ⟨as, hr⟩ := rep_maxI I2 h2 rv
    refine max_list_default (I2.ok.hd hc) p.isList hr (mx_alike ns) (by rw [mx_dep]; omega) (fun z h' tk hk => ?_) fun m r i v h' tk bs z hv hrd hk => ?_
    · cases ns with
      | nil => exact ⟨y', H2, I2.kept hk, ry, c _ _ ss r2⟩
      | cons m r => cases z
    · cases ns with
      | nil => cases z
      | cons m' r' =>
        rw [List.map_cons] at z
        cases z
        rw [maxD_ints, maxL_fold] at hrd
        cases hrd
        exact ⟨.int _, H2, I2.kept hk, ⟨_, rfl⟩, c _ _ ss (.i _)⟩

/-- l.index(k), ints -/
@[simp] def ixlD : D → D → Option D
  | .l xs, .i k => (intsD xs).bind fun ns => (ns.idxOf? k).map fun j => .i (j : Nat)
  | _, _ => none
theorem idxOf_some : ∀ {ns : List Int} {k : Int} {j : Nat}, ns.idxOf? k = some j → ns[j]? = some k ∧ ∀ m, m < j → ∀ z, ns[m]? = some z → z ≠ k
  | [], _, _, h => by simp at h
  | x :: r, k, j, h => by
    rw [List.idxOf?_cons] at h
    by_cases e : (x == k) = true
    · rw [if_pos e] at h
      cases h
      exact ⟨by rw [eq_of_beq e]; rfl, fun m hm => absurd hm (Nat.not_lt_zero _)⟩
    · rw [if_neg e] at h
      obtain ⟨i, h1, rfl⟩ := map_some' h
      obtain ⟨g1, g2⟩ := idxOf_some h1
      refine ⟨by simpa using g1, fun m hm z hz => ?_⟩
      cases m with
      | zero => cases hz; intro q; exact e (by rw [q]; exact BEq.rfl)
      | succ m => exact g2 m (by omega) z (by simpa using hz)
theorem de_index {apos cpos : Pos} (ha : DB X a f) (hb : DB X b g) (m : M1 X a "index" apos b cpos) : DE X (.Call (.Attribute a "index" apos) [b] [] cpos) (bind2 ixlD f g) := by
  intro σ H O env d Q ok R z c pins s I
  obtain ⟨p, q, e1, e2, e3⟩ := bind2_some z
  cases p <;> first
    | (cases e3; done)
    | skip
  cases q <;> first
    | (cases e3; done)
    | skip
  rename_i xs k
  obtain ⟨ns, e4, e5⟩ := bind_some' e3
  obtain ⟨j, e6, rfl⟩ := map_some' e5
  have e7 := intsD_inv e4
  subst e7
  obtain ⟨j1, j2⟩ := idxOf_some e6
  refine wpAny_Call_method m.base m.few m.line PySem.F.plainAttrs_list PySem.F.slot_list_index PySem.F.type_list_index (thn (ha σ H O env _ (fun x H1 => RepB X.K H1 O x (.l (ns.map D.i)) ∧ Same H H1) ok R e1 (fun x H1 s1 r1 => ⟨r1, s1⟩) pins s I) fun u s1 ⟨x, H1, I1, rx, r1, k1⟩ => ?_)
  obtain ⟨l, vs, rfl, h1, h2⟩ := r1.lst
  cases (show u = Value.ref l from rx)
  obtain ⟨its, rv, hl, _⟩ := I1.list (SqL.of h1)
  refine ⟨hl.isList.typeIs, fun b z => ?_, ?_⟩
  · cases z
    obtain ⟨o, n, ho, hc, hdn, hd⟩ := hl
    exact ⟨o, ho, hdn⟩
  rw [m.trees]
  refine Calls.callWith_builtin rfl (Calls.evalArgs_plain (Calls.spliced_cons (thn (hb σ H1 O env _ (fun y H2 => RepB X.K H2 O y (.i k) ∧ Same H1 H2) (ok.same k1) (R.same k1) e2 (fun y H2 s2 r2 => ⟨r2, s2⟩) pins s1 I1) fun iv s2 ⟨y, H2, I2, ry, r2, k2⟩ => Calls.spliced_nil ?_)))
  obtain rfl := r2.int
  obtain ⟨l', vs', el, g1, g2⟩ := (r1.same k2).lst
  cases el
  have ev : vs' = ns.map V.int := g2.ints
  subst ev
  have hz : (ns.map V.int)[j]? = some (V.int k) := by rw [List.getElem?_map, j1]; rfl
  refine mt_index pins s2 σ H2 (.ref l) [.int k] (.ref l) [iv] Q I2 rfl (.cons ry .nil) ⟨l, ns.map V.int, .int k, j, .int k, rfl, rfl, SqL.of g1, rfl, ?_, hz, by simp [eqV], fun m z' hm hz' => ?_, c _ _ (k1.trans k2) (.i _)⟩
  · rw [List.all_eq_true]
    intro x hx
    obtain ⟨y, _, rfl⟩ := List.mem_map.mp hx
    rfl
  · rw [List.getElem?_map] at hz'
    cases hn : ns[m]? with
    | none => rw [hn] at hz'; cases hz'
    | some w =>
      rw [hn] at hz'
      cases hz'
      have := j2 m hm w hn
      simp [eqV, this]
/-- tuple(range(n)) -/
@[simp] def trgD : D → Option D
  | .i b => if absLe b 1000000 = true then some (.t (rngD 0 b.toNat)) else none
  | _ => none
theorem de_trg {p p2 pos pos2 : Pos} (hc : X.calm = true) (hg : Gl X "tuple") (hm : X.mg "tuple" = none) (hg2 : Gl X "range") (hm2 : X.mg "range" = none) (ha : DB X a f) (na : starEach [a] X.env = (false, eval a X.env) :: starEach [] X.env) :
    DE X (.Call (.Name "tuple" p) [.Call (.Name "range" p2) [a] [] pos2] [] pos) (fun env => (f env).bind trgD) := by
  intro σ H O env d Q ok R z k
  obtain ⟨x, e1, e3⟩ := bind_some' z
  refine PEw (pe_tupRg hc hg hm (prg_1 hg2 hm2 wE_pe na) rfl) (ha σ H O env x _ ok R e1 fun v H1 s1 r1 => ?_)
  unfold trgD at e3
  split at e3
  · split at e3
    · rename_i b q
      have h1 := absLe_ok q
      cases e3
      refine ⟨b, r1.int, ⟨by omega, by omega, by omega, by omega, by omega⟩, fun q hq => ?_⟩
      have e : (b - 0).toNat = b.toNat := by omega
      refine k (.ref q) _ (s1.trans (same_new hq)) (Rep.newT (ok.same s1) hq ?_)
      have r := repL_rng (K := X.K) (H := H1) (O := O) (lo := 0) (n := b.toNat)
      rw [← e] at r ⊢
      exact r
    · cases e3
  · cases e3
end
end PL
/-! PL n: calls, targets, iterables, comprehensions; the evaluator. -/
namespace PL
open PySem PySem.Spec PyProof.Rows L2

/-! ### built-ins -/
inductive Bl where
  | len | int | abs | max | min | sum | any | all | tuple | list
def blOf (x : Str) : Option Bl :=
  if x = "len" then some .len else if x = "int" then some .int else if x = "tuple" then some .tuple else if x = "all" then some .all else if x = "any" then some .any else if x = "list" then some .list
  else if x = "max" then some .max else if x = "min" then some .min else if x = "abs" then some .abs else if x = "sum" then some .sum else none
def Bl.val : Bl → Value
  | .len => .builtin "len" | .int => .type "int" | .abs => .builtin "abs" | .max => .builtin "max" | .min => .builtin "min" | .sum => .builtin "sum" | .any => .builtin "any" | .all => .builtin "all" | .tuple => .type "tuple" | .list => .type "list"
def Bl.fn : Bl → List D → Option D
  | .len => lenD | .int => intD | .abs => absD | .max => maxD | .min => minE | .sum => sumE | .any => anyD | .all => allD | .tuple => tupleD | .list => listD
theorem blOf_ok {x : Str} {b : Bl} (h : blOf x = some b) : bootBuiltins x = some b.val := by
  unfold blOf at h
  repeat' split at h
  all_goals first
    | (cases h; done)
    | (rename_i e; cases h; subst e; first
        | exact PyProof.Rows.boot_len | exact PyProof.Rows.boot_int | exact PyProof.Rows.boot_tuple | exact PyProof.Rows.boot_all | exact PyProof.Rows.boot_any | exact PyProof.Rows.boot_list | exact PyProof.Rows.boot_max | exact PyProof.Rows.boot_min | exact PyProof.Rows.boot_abs | exact PyProof.Rows.boot_sum
        | decide +kernel)
def tyOf (x : Str) : Option Ty5 := if x = "int" then some .int else if x = "str" then some .str else if x = "bool" then some .bool else if x = "tuple" then some .tuple else if x = "list" then some .list else none
theorem tyOf_ok {x : Str} {T : Ty5} (h : tyOf x = some T) : bootBuiltins x = some (.type T.name) := by
  unfold tyOf at h
  repeat' split at h
  all_goals first
    | (cases h; done)
    | (rename_i e; cases h; subst e; decide +kernel)
def Ga.bl (Γ : Ga) (x : Str) : Bool := Γ.gl x && Γ.free.contains x
section
variable {Γ : Ga} {X : Cx} {rec : Rc}
theorem GOk.bl {x : Str} (g : GOk Γ X) (h : Γ.bl x = true) : Gl X x ∧ X.mg x = none ∧ (x == ("__debug__" : Str)) = false ∧ x ≠ "__name__" := by
  unfold Ga.bl at h
  rw [Bool.and_eq_true] at h
  obtain ⟨h1, h2, h3⟩ := g.gl h.1
  exact ⟨h1, g.free x h.2, h2, h3⟩
@[simp] def rngv (f : EvF) : EvF := fun env => (f env).bind fun d => match d with
  | .i j => some (.r 0 j)
  | _ => none
def instS (Γ : Ga) (x : Expr) (ev : Expr → Ev) (args : List Expr) : Ev := match args with
  | [a, .Name y _] => if (Γ.bl y && noStar a) = true then (match tyOf y with
    | some T => .ofE x (instV [T] (ev a).b)
    | none => .bad) else .bad
  | [a, .Tuple [.Name y _, .Name z _] _ _] => if (Γ.bl y && Γ.bl z && noStar a) = true then (match tyOf y, tyOf z with
    | some T, some U => .ofE x (instV [T, U] (ev a).b)
    | _, _ => .bad) else .bad
  | _ => .bad
theorem boot_isi : bootBuiltins "isinstance" = some (.builtin "isinstance") := by decide +kernel
theorem instS_ok {ev : Expr → Ev} (g : GOk Γ X) (h : ∀ x, EvOk X x (ev x)) {p pos : Pos} {args : List Expr} (hb : Γ.bl "isinstance" = true) : EvOk X (.Call (.Name "isinstance" p) args [] pos) (instS Γ (.Call (.Name "isinstance" p) args [] pos) ev args) := by
  obtain ⟨g1, g2, g3, g4⟩ := g.bl hb
  unfold instS
  split
  · refine if_ok fun q => ?_
    rw [Bool.and_eq_true] at q
    obtain ⟨q1, q2, q3, q4⟩ := g.bl q.1
    split
    · rename_i T e
      exact ofE_ok (de_inst1 g1 g2 boot_isi g4 g3 q1 q2 (tyOf_ok e) q4 q3 (h _).b (star_cons q.2))
    · exact bad_ok
  · refine if_ok fun q => ?_
    rw [Bool.and_eq_true, Bool.and_eq_true] at q
    obtain ⟨q1, q2, q3, q4⟩ := g.bl q.1.1
    obtain ⟨r1, r2, r3, r4⟩ := g.bl q.1.2
    split
    · rename_i T U e e'
      exact ofE_ok (de_inst2 g1 g2 boot_isi g4 g3 q1 q2 (tyOf_ok e) q4 q3 r1 r2 (tyOf_ok e') r4 r3 (h _).b (star_cons q.2))
    · exact bad_ok
  · exact bad_ok
/-- sorted(set(e)) -/
def sortS (Γ : Ga) (x : Expr) (ev : Expr → Ev) (a : Expr) (r : List Expr) : Ev := match a, r with
  | .Call (.Name g _) [e] [] _, [] => if (decide (g = "set") && Γ.bl g && noStar e) = true then .ofF x (fun env => ((ev e).b env).bind srtSetD) else .bad
  | _, _ => .bad
theorem sortS_ok {ev : Expr → Ev} (g : GOk Γ X) (h : ∀ x, EvOk X x (ev x)) {p pos : Pos} {a : Expr} {r : List Expr} (hb : Γ.bl "sorted" = true) : EvOk X (.Call (.Name "sorted" p) (a :: r) [] pos) (sortS Γ (.Call (.Name "sorted" p) (a :: r) [] pos) ev a r) := by
  obtain ⟨g1, g2, g3, g4⟩ := g.bl hb
  unfold sortS
  split
  · refine if_ok fun q => ?_
    rw [Bool.and_eq_true, Bool.and_eq_true, decide_eq_true_eq] at q
    obtain ⟨⟨e, q1⟩, q2⟩ := q
    subst e
    obtain ⟨r1, r2, r3, r4⟩ := g.bl q1
    have hu := g.un
    exact ofF_ok (df_srtSet g.calm (by omega) g1 g2 r1 r2 (h _).b (star_cons q2))
  · exact bad_ok
theorem blOf_tup {x : Str} (h : blOf x = some .tuple) : x = "tuple" := by
  unfold blOf at h
  repeat' split at h
  all_goals first
    | assumption
    | (cases h; done)
theorem bl_ok {ev : Expr → Ev} (g : GOk Γ X) (h : ∀ x, EvOk X x (ev x)) {p pos : Pos} {f : Str} {a : Expr} {r : List Expr} {b : Bl} (e : blOf f = some b) (hb : Γ.bl f = true) (h1 : noStar a = true) (h2 : r.all noStar = true) (nl : b ≠ .list) :
    DE X (.Call (.Name f p) (a :: r) [] pos) (callV b.fn (argsB ev (a :: r))) := by
  obtain ⟨g1, g2, g3, g4⟩ := g.bl hb
  have hv := blOf_ok e
  have hm : DM X (a :: r) (argsB ev (a :: r)) := argsB_ok h (by rw [List.all_cons, h1, h2]; rfl)
  have he := star_cons (es := r) (env := X.env) h1
  have hp := star_any (pos := pos) (env := X.env) h2
  cases b with
  | len => exact de_callB cf_len g1 g2 hv hm g4 g3 he hp
  | int => exact de_callTy cf_int g1 g2 hv hm g4 g3 he hp
  | abs => exact de_callB cf_abs g1 g2 hv hm g4 g3 he hp
  | max => exact de_callB (cf_max g.calm) g1 g2 hv hm g4 g3 he hp
  | min => exact de_callB (cf_minE g.calm g.un) g1 g2 hv hm g4 g3 he hp
  | sum => exact de_callB (cf_sumE g.calm) g1 g2 hv hm g4 g3 he hp
  | any => exact de_callB (cf_any g.calm) g1 g2 hv hm g4 g3 he hp
  | all => exact de_callB (cf_all g.calm) g1 g2 hv hm g4 g3 he hp
  | tuple => exact de_callTy cf_tuple g1 g2 hv hm g4 g3 he hp
  | list => exact absurd rfl nl
/-- f(..), f imported from the library -/
def Ga.md (Γ : Ga) (x : Str) : Bool := Γ.gl x && (match modOf x with
  | some (m, _) => Γ.free.contains m
  | none => false)
theorem GOk.md {x : Str} (g : GOk Γ X) (h : Γ.md x = true) : Gl X x ∧ (x == ("__debug__" : Str)) = false ∧ ∃ m v, modOf x = some (m, v) ∧ X.mg x = some v := by
  unfold Ga.md at h
  rw [Bool.and_eq_true] at h
  obtain ⟨h1, h2, h3⟩ := g.gl h.1
  refine ⟨h1, h2, ?_⟩
  have hh := h.2
  split at hh
  · rename_i m v e
    exact ⟨m, v, e, g.mods x m v e hh⟩
  · cases hh
def modS (Γ : Ga) (x : Expr) (ev : Expr → Ev) (f : Str) (as : List Expr) : Ev :=
  if (Γ.md f && decide (f = "gcd")) = true then .ofE x (callV gcdD (argsB ev as)) else if (Γ.md f && decide (f = "lcm")) = true then .ofE x (callV lcmD (argsB ev as)) else .bad
theorem modS_ok {ev : Expr → Ev} (g : GOk Γ X) (h : ∀ x, EvOk X x (ev x)) {p pos : Pos} {f : Str} {a : Expr} {r : List Expr} (h1 : noStar a = true) (h2 : r.all noStar = true) : EvOk X (.Call (.Name f p) (a :: r) [] pos) (modS Γ (.Call (.Name f p) (a :: r) [] pos) ev f (a :: r)) := by
  have hm : DM X (a :: r) (argsB ev (a :: r)) := argsB_ok h (by rw [List.all_cons, h1, h2]; rfl)
  unfold modS
  split
  · rename_i q
    rw [Bool.and_eq_true, decide_eq_true_eq] at q
    obtain ⟨q, e⟩ := q
    subst e
    obtain ⟨g1, g2, m, v, e, g3⟩ := g.md q
    cases e
    exact ofE_ok (de_callM cf_gcd g1 g3 hm g2 (star_cons h1) (star_any h2))
  · split
    · rename_i q
      rw [Bool.and_eq_true, decide_eq_true_eq] at q
      obtain ⟨q, e⟩ := q
      subst e
      obtain ⟨g1, g2, m, v, e, g3⟩ := g.md q
      cases e
      exact ofE_ok (de_callM cf_lcm g1 g3 hm g2 (star_cons h1) (star_any h2))
    · exact bad_ok
/-- tuple(..), or tuple(reversed(e)) -/
def tuqS (Γ : Ga) (x : Expr) (ev : Expr → Ev) (a : Expr) (r : List Expr) : Ev := match a, r with
  | .Call (.Name g _) [e] [] _, [] => if (decide (g = "reversed") && Γ.bl g && noStar e) = true then .ofE x (fun env => ((ev e).b env).bind revD) else if (decide (g = "range") && Γ.bl g && noStar e) = true then .ofE x (fun env => ((ev e).b env).bind trgD) else .ofE x (callV tupleD (argsB ev (a :: r)))
  | _, _ => .ofE x (callV tupleD (argsB ev (a :: r)))
theorem tuqS_ok {ev : Expr → Ev} (g : GOk Γ X) (h : ∀ x, EvOk X x (ev x)) {p pos : Pos} {a : Expr} {r : List Expr} (hb : Γ.bl "tuple" = true) (h1 : noStar a = true) (h2 : r.all noStar = true) : EvOk X (.Call (.Name "tuple" p) (a :: r) [] pos) (tuqS Γ (.Call (.Name "tuple" p) (a :: r) [] pos) ev a r) := by
  have pl := ofE_ok (bl_ok (p := p) (pos := pos) g h (b := .tuple) (by rfl) hb h1 h2 (by intro z; cases z))
  unfold tuqS
  split
  · split
    · rename_i q
      rw [Bool.and_eq_true, Bool.and_eq_true, decide_eq_true_eq] at q
      obtain ⟨⟨e, q1⟩, q2⟩ := q
      subst e
      obtain ⟨g1, g2, _, _⟩ := g.bl hb
      obtain ⟨r1, r2, _, _⟩ := g.bl q1
      exact ofE_ok (de_tupRev g.calm g1 g2 r1 r2 (h _).b (star_cons q2))
    · split
      · rename_i q
        rw [Bool.and_eq_true, Bool.and_eq_true, decide_eq_true_eq] at q
        obtain ⟨⟨e, q1⟩, q2⟩ := q
        subst e
        obtain ⟨g1, g2, _, _⟩ := g.bl hb
        obtain ⟨r1, r2, _, _⟩ := g.bl q1
        exact ofE_ok (de_trg g.calm g1 g2 r1 r2 (h _).b (star_cons q2))
      · exact pl
  · exact pl
/-- list(..), or list(range(a, b)) -/
def lisS (Γ : Ga) (x : Expr) (ev : Expr → Ev) (a : Expr) (r : List Expr) : Ev := match a, r with
  | .Call (.Name g _) [u, w] [] _, [] => if (decide (g = "range") && Γ.bl g && noStar u && noStar w) = true then .ofF x (fun env => ((ev u).b env).bind fun i => ((ev w).b env).bind fun j => lrgD i j) else .ofF x (callV listD (argsB ev (a :: r)))
  | _, _ => .ofF x (callV listD (argsB ev (a :: r)))
theorem lisS_ok {ev : Expr → Ev} (g : GOk Γ X) (h : ∀ x, EvOk X x (ev x)) {p pos : Pos} {a : Expr} {r : List Expr} (hb : Γ.bl "list" = true) (h1 : noStar a = true) (h2 : r.all noStar = true) : EvOk X (.Call (.Name "list" p) (a :: r) [] pos) (lisS Γ (.Call (.Name "list" p) (a :: r) [] pos) ev a r) := by
  obtain ⟨g1, g2, g3, g4⟩ := g.bl hb
  have pl : EvOk X (.Call (.Name "list" p) (a :: r) [] pos) (.ofF (.Call (.Name "list" p) (a :: r) [] pos) (callV listD (argsB ev (a :: r)))) :=
    ofF_ok (df_callTy cn_list g1 g2 (by rfl) (argsB_ok h (by rw [List.all_cons, h1, h2]; rfl)) g4 g3 (star_cons h1) (star_any h2))
  unfold lisS
  split
  · split
    · rename_i q
      rw [Bool.and_eq_true, Bool.and_eq_true, Bool.and_eq_true, decide_eq_true_eq] at q
      obtain ⟨⟨⟨e, q1⟩, q2⟩, q3⟩ := q
      subst e
      obtain ⟨r1, r2, _, _⟩ := g.bl q1
      exact ofF_ok (df_lrg g.calm g1 g2 r1 r2 (h _).b (h _).b (star_cons q2) (star_cons q3) (star_any (by rw [List.all_cons, q3]; rfl)) (star_any (by rw [List.all_cons, q3]; rfl)))
    · exact pl
  · exact pl
theorem blOf_lst {x : Str} (h : blOf x = some .list) : x = "list" := by
  unfold blOf at h
  repeat' split at h
  all_goals first
    | assumption
    | (cases h; done)
/-- f(..), f a def of the program or a built-in -/
def callS (Γ : Ga) (x : Expr) (ev : Expr → Ev) (f : Str) (args : List Expr) : Ev :=
  match args with
  | [] => .bad
  | a :: r => if (Γ.gl f && noStar a && r.all noStar) = true then (match Γ.fns.lookup f with
    | some n => if r.length + 1 = n then .ofE x (callN (Γ.call f) fun m => argsM ev m (a :: r)) else .bad
    | none => if Γ.free.contains f = true then (if f = "isinstance" then instS Γ x ev (a :: r) else if f = "range" then (match r with
        | [] => .ofE x (rngv (ev a).b)
        | _ => .bad)
      else if f = "sorted" then sortS Γ x ev a r
      else match blOf f with
        | some .list => lisS Γ x ev a r
        | some .tuple => tuqS Γ x ev a r
        | some b => .ofE x (callV b.fn (argsB ev (a :: r)))
        | none => .bad) else modS Γ x ev f (a :: r)) else .bad
theorem callS_ok {ev : Expr → Ev} (g : GOk Γ X) (h : ∀ x, EvOk X x (ev x)) {p pos : Pos} {f : Str} {args : List Expr} : EvOk X (.Call (.Name f p) args [] pos) (callS Γ (.Call (.Name f p) args [] pos) ev f args) := by
  unfold callS
  split
  · exact bad_ok
  · rename_i a r
    refine if_ok fun q => ?_
    rw [Bool.and_eq_true, Bool.and_eq_true] at q
    obtain ⟨⟨q1, q2⟩, q3⟩ := q
    obtain ⟨g1, g2, g3⟩ := g.gl q1
    split
    · rename_i n e
      split
      · rename_i hn
        obtain ⟨k, fa, fd, ps, G, hr, hm, hk, hb⟩ := g.fns f n e
        exact ofE_ok (de_callN G hr g1 hm hk hb (argsM_t h (by rw [List.all_cons, q2, q3]; rfl)) (argsM_f h (by rw [List.all_cons, q2, q3]; rfl)) hn g2 (fun env ds z => by rw [argsM_len z]; exact hn) (fun env ds z => by rw [argsM_len z]; exact hn) (star_cons q2) (star_any q3))
      · exact bad_ok
    · split
      rotate_left
      · exact modS_ok g h q2 q3
      rename_i q4
      have hb : Γ.bl f = true := by unfold Ga.bl; rw [q1, q4]; rfl
      split
      · rename_i e
        subst e
        exact instS_ok g h hb
      · split
        · rename_i e
          subst e
          split
          · exact ofE_ok (de_rngv1 g1 (g.free _ q4) (h a).b (star_cons q2) rfl)
          · exact bad_ok
        · split
          · rename_i e
            subst e
            exact sortS_ok g h hb
          split
          · rename_i e
            have e2 := blOf_lst e
            subst e2
            exact lisS_ok g h hb q2 q3
          · rename_i e
            have e2 := blOf_tup e
            subst e2
            exact tuqS_ok g h hb q2 q3
          · rename_i b nl nt e
            exact ofE_ok (bl_ok g h e hb q2 q3 nl)
          · exact bad_ok

/-! ### targets -/
def allO {α : Type} : List (Option α) → Option (List α)
  | [] => some []
  | none :: _ => none
  | some a :: r => (allO r).map (a :: ·)
def tgO (Γ : Ga) : Nat → Expr → Option Tg
  | 0, _ => none
  | n + 1, .Name x _ => if Γ.loc x = true then (Γ.slot x).map .nm else none
  | n + 1, .Tuple es _ _ => (allO (es.map (tgO Γ n))).map .tp
  | n + 1, _ => none
theorem tgO_plain {n : Nat} {e : Expr} {t : Tg} (h : tgO Γ n e = some t) : ∀ env : Env, ∀ es : List Expr, assignEach (e :: es) env = (false, assign e env) :: assignEach es env := by
  intro env es
  cases n with
  | zero => cases h
  | succ n =>
    cases e <;> first
      | (cases h; done)
      | rfl
theorem tgOs_len {n : Nat} {env : Env} : ∀ {es : List Expr} {ts : List Tg}, allO (es.map (tgO Γ n)) = some ts → (assignEach es env).length = ts.length ∧ (assignEach es env).findIdx? (·.1) = none
  | [], ts, h => by cases h; exact ⟨rfl, rfl⟩
  | e :: es, ts, h => by
    rw [List.map_cons] at h
    cases z : tgO Γ n e with
    | none => rw [z] at h; cases h
    | some t =>
      rw [z] at h
      obtain ⟨ts', h1, h2⟩ := map_some' (show (allO (es.map (tgO Γ n))).map (t :: ·) = some ts from h)
      subst h2
      obtain ⟨g1, g2⟩ := tgOs_len (env := env) h1
      rw [tgO_plain z env es]
      refine ⟨by rw [List.length_cons, List.length_cons, g1], ?_⟩
      rw [List.findIdx?_cons, g2]
      rfl
theorem tgO_ok (g : GOk Γ X) : ∀ {n : Nat} {e : Expr} {t : Tg}, tgO Γ n e = some t → DG X e t
  | 0, _, _, h => by cases h
  | n + 1, e, t, h => by
    have go : ∀ {es : List Expr} {ts : List Tg}, allO (es.map (tgO Γ n)) = some ts → DGs X es ts := by
      intro es
      induction es with
      | nil => intro ts h; cases h; exact dgs_nil
      | cons e es ih =>
        intro ts h
        rw [List.map_cons] at h
        cases z : tgO Γ n e with
        | none => rw [z] at h; cases h
        | some t =>
          rw [z] at h
          obtain ⟨ts', h1, h2⟩ := map_some' (show (allO (es.map (tgO Γ n))).map (t :: ·) = some ts from h)
          subst h2
          exact dgs_cons (tgO_ok g z) (ih h1) (by rw [tgO_plain z X.env es]; rfl)
    cases e <;> first
      | (cases h; done)
      | skip
    · rename_i x pos
      have h : (if Γ.loc x = true then (Γ.slot x).map Tg.nm else none) = some t := h
      split at h
      · rename_i q
        obtain ⟨i, h1, h2⟩ := map_some' h
        subst h2
        obtain ⟨l1, l2⟩ := g.loc q
        exact dg_name g.nd (g.slot h1) l1 l2
      · cases h
    · rename_i es k pos
      obtain ⟨ts, h1, h2⟩ := map_some' (show (allO (es.map (tgO Γ n))).map Tg.tp = some t from h)
      subst h2
      obtain ⟨g1, g2⟩ := tgOs_len (env := X.env) h1
      exact dg_tup g.calm (go h1) g1 g2

/-! ### what is walked -/
def isTup : Expr → Bool
  | .Tuple .. => true
  | _ => false
def evX (b : Bool) (r : Ev) : EvF := if b = true then r.e else r.b
theorem evX_ok {x : Expr} {r : Ev} (h : EvOk X x r) : ∀ b, DX b X x (evX b r)
  | true => h.e.dx
  | false => h.b.dx
def plainI (ev : Expr → Ev) (b : Bool) (iter : Expr) : List Cell → Option (List D) := fun env => (evX b (ev iter) env).bind walkD
def rngI (ev : Expr → Ev) : List Expr → List Cell → Option (List D)
  | [a] => fun env => ((ev a).b env).bind rng1
  | [a, b] => fun env => ((ev a).b env).bind fun x => ((ev b).b env).bind fun y => rng2 x y
  | [a, b, c] => fun env => ((ev a).b env).bind fun x => ((ev b).b env).bind fun y => ((ev c).b env).bind fun z => rng3 x y z
  | _ => fun _ => none
def itS (Γ : Ga) (ev : Expr → Ev) (b : Bool) (tg iter : Expr) : List Cell → Option (List D) := match iter with
  | .Call (.Name f _) args [] _ => if (Γ.bl f && args.all noStar) = true then
      (if f = "range" then rngI ev args
      else if (decide (f = "enumerate") && isTup tg) = true then (match args with
        | [a] => fun env => (evX b (ev a) env).bind fun d => (seqD d).map (enumD 0)
        | _ => fun _ => none)
      else if (decide (f = "zip") && isTup tg) = true then (match args with
        | [a, c] => fun env => (evX b (ev a) env).bind fun d => (evX b (ev c) env).bind fun d' => (seqD d).bind fun xs => (seqD d').map fun ys => zipD xs ys
        | _ => fun _ => none)
      else plainI ev b iter) else if (Γ.md f && decide (f = "combinations") && args.all noStar) = true then (match args with
        | [a, c] => fun env => (evX b (ev a) env).bind fun d => ((ev c).b env).bind fun d' => combD d d'
        | _ => fun _ => none)
      else plainI ev b iter
  | _ => plainI ev b iter
theorem di_no {b : Bool} {tg iter : Expr} : DI b X tg iter (fun _ => none) := fun _ _ _ _ _ _ _ _ h => nomatch h
theorem rngI_ok {ev : Expr → Ev} (g : GOk Γ X) (h : ∀ x, EvOk X x (ev x)) {b : Bool} {tg : Expr} {p pos : Pos} (hb : Γ.bl "range" = true) : ∀ {args : List Expr}, args.all noStar = true → DI b X tg (.Call (.Name "range" p) args [] pos) (rngI ev args)
  | [], _ => di_no
  | [a], q => by
    obtain ⟨g1, g2, _, _⟩ := g.bl hb
    rw [List.all_cons, Bool.and_eq_true] at q
    exact di_range1 g1 g2 (h a).b (starE1 (star_cons q.1))
  | [a, c], q => by
    obtain ⟨g1, g2, _, _⟩ := g.bl hb
    rw [List.all_cons, Bool.and_eq_true, List.all_cons, Bool.and_eq_true] at q
    exact di_range2 g1 g2 (h a).b (h c).b (star_cons q.1) (starE1 (star_cons q.2.1))
  | [a, c, d], q => by
    obtain ⟨g1, g2, _, _⟩ := g.bl hb
    rw [List.all_cons, Bool.and_eq_true] at q
    have q2 := q.2
    rw [List.all_cons, Bool.and_eq_true, List.all_cons, Bool.and_eq_true] at q2
    exact di_range3 g1 g2 (h a).b (h c).b (h d).b (star_cons q.1) (star_cons q2.1) (starE1 (star_cons q2.2.1)) (star_any q.2)
  | _ :: _ :: _ :: _ :: _, _ => di_no
theorem itS_ok' {ev : Expr → Ev} (g : GOk Γ X) (h : ∀ x, EvOk X x (ev x)) {b : Bool} {tg iter : Expr} : DI b X tg iter (itS Γ ev b tg iter) := by
  unfold itS
  split
  · rename_i f p args pos
    split
    · rename_i q
      rw [Bool.and_eq_true] at q
      split
      · rename_i e
        subst e
        exact rngI_ok g h q.1 q.2
      · split
        · rename_i e
          rw [Bool.and_eq_true, decide_eq_true_eq] at e
          obtain ⟨e, e2⟩ := e
          subst e
          obtain ⟨g1, g2, _, _⟩ := g.bl q.1
          cases tg <;> first
            | (cases e2; done)
            | skip
          split
          · rename_i a
            have q2 := q.2
            rw [List.all_cons, Bool.and_eq_true] at q2
            exact di_enum g1 g2 (evX_ok (h a) b) (starE1 (star_cons q2.1))
          · exact di_no
        · split
          · rename_i e
            rw [Bool.and_eq_true, decide_eq_true_eq] at e
            obtain ⟨e, e2⟩ := e
            subst e
            obtain ⟨g1, g2, _, _⟩ := g.bl q.1
            cases tg <;> first
              | (cases e2; done)
              | skip
            split
            · rename_i a c
              have q2 := q.2
              rw [List.all_cons, Bool.and_eq_true] at q2
              have q3 := q2.2
              rw [List.all_cons, Bool.and_eq_true] at q3
              exact di_zip g1 g2 (evX_ok (h a) b) (evX_ok (h c) b) (star_cons q2.1) (starE1 (star_cons q3.1)) (star_any q2.2)
            · exact di_no
          · exact di_of (evX_ok (h _) b)
    · split
      · rename_i q
        rw [Bool.and_eq_true, Bool.and_eq_true, decide_eq_true_eq] at q
        obtain ⟨⟨q0, e⟩, q2⟩ := q
        subst e
        obtain ⟨g1, g2, m, v, e, g3⟩ := g.md q0
        cases e
        split
        · rename_i a c _
          rw [List.all_cons, Bool.and_eq_true] at q2
          have q3 := q2.2
          rw [List.all_cons, Bool.and_eq_true] at q3
          exact di_comb g1 g3 g.calm g2 (evX_ok (h a) b) (h c).b (star_cons q2.1) (starE1 (star_cons q3.1)) (star_any q2.2)
        · exact di_no
      · exact di_of (evX_ok (h _) b)
  · exact di_of (evX_ok (h _) b)
def isSet : Expr → Bool
  | .Set .. => true
  | _ => false
theorem noSet {e : Expr} (h : isSet e = false) (env : Env) : ∀ x, foldedSetIterable e env x = pure x := by
  intro x
  cases e <;> first | (cases h; done) | rfl

/-! ### comprehensions -/
/-- the block's own names, with their slots -/
def ownOf (Γ : Ga) : List (Str × NameKind) → List (Str × Nat)
  | [] => []
  | (x, k) :: r => if (k == .local || k == .cell) = true then (match Γ.slot x with
    | some i => (x, i) :: ownOf Γ r
    | none => ownOf Γ r) else ownOf Γ r
def testsS (ev : Expr → Ev) : List Expr → List Cell → Option Bool
  | [] => fun _ => some true
  | [c] => (ev c).t
  | _ => fun _ => none
theorem testsS_ok {ev : Expr → Ev} (h : ∀ x, EvOk X x (ev x)) : ∀ {cs : List Expr}, DTs X cs (testsS ev cs)
  | [] => dts_nil
  | [c] => dts_one (h c).t
  | _ :: _ :: _ => fun _ _ _ _ _ _ _ _ h => nomatch h
def subB (a b : List Nat) : Bool := a.all fun i => b.contains i
theorem subB_ok {a b : List Nat} (h : subB a b = true) : ∀ i ∈ a, i ∈ b := fun i hi => by
  have q := List.all_eq_true.mp h i hi
  exact List.contains_iff_mem.mp q
def lcS (Γ : Ga) (rec : Rc) (elt : Expr) (gs : List Comprehension) (scope : Scope) : EvF := match gs with
  | [⟨tg, iter, ifs, 0⟩] => (match tgO (Γ.blk scope) 4 tg with
    | some t => if (blkC Γ.N Γ.sc scope (ownOf Γ scope.names) && subB t.slots ((ownOf Γ scope.names).map (·.2)) && !isSet iter) = true then
        lcV (itS Γ (rec Γ) false tg iter) t (testsS (rec (Γ.blk scope)) ifs) (rec (Γ.blk scope) elt).e ((ownOf Γ scope.names).map (·.2)) else noE
    | none => noE)
  | [⟨tg, iter, ifs, 0⟩, ⟨tg1, iter1, ifs1, 0⟩] => (match tgO (Γ.blk scope) 4 tg, tgO (Γ.blk scope) 4 tg1 with
    | some t, some t1 => if (blkC Γ.N Γ.sc scope (ownOf Γ scope.names) && subB t.slots ((ownOf Γ scope.names).map (·.2)) && subB t1.slots ((ownOf Γ scope.names).map (·.2)) && !isSet iter && !isSet iter1) = true then
        lcV2 (itS Γ (rec Γ) false tg iter) t (testsS (rec (Γ.blk scope)) ifs) (itS (Γ.blk scope) (rec (Γ.blk scope)) true tg1 iter1) t1 (testsS (rec (Γ.blk scope)) ifs1) (rec (Γ.blk scope) elt).e ((ownOf Γ scope.names).map (·.2)) else noE
    | _, _ => noE)
  | _ => noE
theorem lcS_ok (g : GOk Γ X) (h : Snd rec) {elt : Expr} {gs : List Comprehension} {scope : Scope} {pos : Pos} : DF X (.ListComp elt gs scope pos) (lcS Γ rec elt gs scope) := by
  unfold lcS
  split
  · rename_i tg iter ifs
    split
    · rename_i t ht
      split
      · rename_i q
        rw [Bool.and_eq_true, Bool.and_eq_true, Bool.not_eq_true'] at q
        obtain ⟨⟨q1, q2⟩, q3⟩ := q
        exact df_lc g.calm g.nd (by rw [g.N, g.sc]; exact q1) (noSet q3 X.env) (itS_ok' g (fun x => h Γ X x g)) (fun Y hY => tgO_ok (g.blk hY) ht) (fun Y hY => testsS_ok fun x => h _ Y x (g.blk hY)) (fun Y hY => (h _ Y elt (g.blk hY)).e) (subB_ok q2)
      · exact df_no
    · exact df_no
  · rename_i tg iter ifs tg1 iter1 ifs1
    split
    · rename_i t t1 ht ht1
      split
      · rename_i q
        rw [Bool.and_eq_true, Bool.and_eq_true, Bool.and_eq_true, Bool.and_eq_true, Bool.not_eq_true', Bool.not_eq_true'] at q
        obtain ⟨⟨⟨⟨q1, q2⟩, q3⟩, q4⟩, q5⟩ := q
        exact df_lc2 g.calm g.nd (by rw [g.N, g.sc]; exact q1) (noSet q4 X.env) (fun env => noSet q5 env) (itS_ok' g (fun x => h Γ X x g)) (fun Y hY => tgO_ok (g.blk hY) ht) (fun Y hY => testsS_ok fun x => h _ Y x (g.blk hY))
          (fun Y hY => itS_ok' (g.blk hY) fun x => h _ Y x (g.blk hY)) (fun Y hY => tgO_ok (g.blk hY) ht1) (fun Y hY => testsS_ok fun x => h _ Y x (g.blk hY)) (fun Y hY => (h _ Y elt (g.blk hY)).e) (subB_ok q2) (subB_ok q3)
      · exact df_no
    · exact df_no
  · exact df_no

/-! ### dicts -/
def notMod : Expr → Bool
  | .Call (.Name _ _) [] [] _ => false
  | _ => true
theorem notMod_ok {a : Expr} (h : notMod a = true) {m : Str} {env : Env} {whole : Sem Value} : attributeBase a m env whole = whole := by
  unfold attributeBase
  split
  · cases h
  · rfl
def dctS (x : Expr) (ev : Expr → Ev) (ks : List (Option Expr)) (vs : List Expr) : Ev := match ks, vs with
  | [], [] => .ofF x (fun _ => some (.d [] []))
  | [some a], [b] => .ofF x (fun env => ((ev a).e env).bind fun k => ((ev b).e env).bind fun v => if tkD k = true then some (.d [k] [v]) else none)
  | _, _ => .bad
theorem dctS_ok {ev : Expr → Ev} (hu : X.A.units + 65 < cLine) (h : ∀ x, EvOk X x (ev x)) {ks : List (Option Expr)} {vs : List Expr} {pos : Pos} : EvOk X (.Dict ks vs pos) (dctS (.Dict ks vs pos) ev ks vs) := by
  unfold dctS
  split
  · exact ofF_ok df_dict0
  · exact ofF_ok (df_dict1 hu (h _).e (h _).e)
  · exact bad_ok
/-- d.get(..), l.index(..) -/
def attS (x : Expr) (ev : Expr → Ev) (a : Expr) (m : Str) (ap : Pos) (args : List Expr) (cp : Pos) : Ev := if (decide (m = "index") && (ap.endLine == cp.line) && args.all noStar && notMod a) = true then (match args with
  | [b] => .ofE x (bind2 ixlD (ev a).b (ev b).b)
  | _ => .bad) else if (decide (m = "get") && (ap.endLine == cp.line) && args.all noStar && notMod a) = true then (match args with
  | [b] => .ofE x (bind2 getV1 (ev a).b (ev b).b)
  | [b, c] => .ofE x (fun env => ((ev a).b env).bind fun p => ((ev b).b env).bind fun q => ((ev c).e env).bind fun z => getV2 p q z)
  | _ => .bad) else .bad
theorem attS_ok {ev : Expr → Ev} (hu : X.A.units + 65 < cLine) (h : ∀ x, EvOk X x (ev x)) {a : Expr} {m : Str} {ap cp : Pos} {args : List Expr} : EvOk X (.Call (.Attribute a m ap) args [] cp) (attS (.Call (.Attribute a m ap) args [] cp) ev a m ap args cp) := by
  unfold attS
  split
  · rename_i q
    rw [Bool.and_eq_true, Bool.and_eq_true, Bool.and_eq_true, decide_eq_true_eq] at q
    obtain ⟨⟨⟨e, q1⟩, q2⟩, q3⟩ := q
    subst e
    split
    · rename_i b
      rw [List.all_cons, Bool.and_eq_true] at q2
      exact ofE_ok (de_index (h a).b (h b).b ⟨notMod_ok q3, by rw [star_cons q2.1]; rfl, q1, by rw [star_cons q2.1]; rfl⟩)
    · exact bad_ok
  rename_i nq
  refine if_ok fun q => ?_
  rw [Bool.and_eq_true, Bool.and_eq_true, Bool.and_eq_true, decide_eq_true_eq] at q
  obtain ⟨⟨⟨e, q1⟩, q2⟩, q3⟩ := q
  subst e
  clear nq
  split
  · rename_i b
    rw [List.all_cons, Bool.and_eq_true] at q2
    exact ofE_ok (de_get1 hu (h a).b (h b).b ⟨notMod_ok q3, by rw [star_cons q2.1]; rfl, q1, by rw [star_cons q2.1]; rfl⟩)
  · rename_i b c
    rw [List.all_cons, Bool.and_eq_true, List.all_cons, Bool.and_eq_true] at q2
    exact ofE_ok (de_get2 hu (h a).b (h b).b (h c).e ⟨notMod_ok q3, by rw [star_cons q2.1, star_cons q2.2.1]; rfl, q1, by rw [star_cons q2.1, star_cons q2.2.1]; rfl⟩)
  · exact bad_ok

/-- max(x, default=d) -/
def mxdS (Γ : Ga) (x : Expr) (ev : Expr → Ev) (f : Str) (args : List Expr) (k : Str) (b : Expr) : Ev := match args with
  | [a] => if (decide (f = "max") && decide (k = "default") && Γ.bl f && noStar a) = true then .ofE x (fun env => ((ev a).b env).bind fun p => ((ev b).e env).bind fun d => mxdD p d) else .bad
  | _ => .bad
theorem mxdS_ok {ev : Expr → Ev} (g : GOk Γ X) (h : ∀ x, EvOk X x (ev x)) {f k : Str} {p kp cp : Pos} {args : List Expr} {b : Expr} : EvOk X (.Call (.Name f p) args [⟨some k, b, kp⟩] cp) (mxdS Γ (.Call (.Name f p) args [⟨some k, b, kp⟩] cp) ev f args k b) := by
  unfold mxdS
  split
  · refine if_ok fun q => ?_
    rw [Bool.and_eq_true, Bool.and_eq_true, Bool.and_eq_true, decide_eq_true_eq, decide_eq_true_eq] at q
    obtain ⟨⟨⟨e, e'⟩, q1⟩, q2⟩ := q
    subst e
    subst e'
    obtain ⟨g1, g2, _, _⟩ := g.bl q1
    exact ofE_ok (de_mxd g.calm g.un g1 g2 (h _).b (h _).e (by rw [star_cons q2]; rfl))
  · exact bad_ok

/-! ### the evaluator -/
def step (rec : Rc) (Γ : Ga) (x : Expr) : Ev := match x with
  | .Name y pos => nameS Γ y pos
  | .Constant c k pos => constS c k pos
  | .BinOp a op b _ => binS x op (rec Γ a) (rec Γ b)
  | .UnaryOp op a _ => unS x op (rec Γ a)
  | .BoolOp op es _ => boolS op (rec Γ) es
  | .Compare a ops bs _ => compS (rec Γ) a ops bs
  | .IfExp c a b _ => iteS (rec Γ c) (rec Γ a) (rec Γ b)
  | .Tuple es _ _ => tupS x (rec Γ) es
  | .List es _ => lstS x (rec Γ) es
  | .Subscript a b _ => subS x (rec Γ) a b
  | .Call (.Name f _) args [] _ => callS Γ x (rec Γ) f args
  | .ListComp elt gs scope _ => .ofF x (lcS Γ rec elt gs scope)
  | .Dict ks vs _ => dctS x (rec Γ) ks vs
  | .Call (.Name f _) args [⟨some k, b, _⟩] _ => mxdS Γ x (rec Γ) f args k b
  | .Call (.Attribute a m ap) args [] cp => attS x (rec Γ) a m ap args cp
  | _ => .bad
theorem step_ok (h : Snd rec) : Snd (step rec) := by
  intro Γ X x g
  have hh : ∀ x, EvOk X x (rec Γ x) := fun x => h Γ X x g
  unfold step
  split
  · exact nameS_ok g _ _
  · exact constS_ok _ _ _
  · exact binS_ok (hh _) (hh _)
  · exact unS_ok (hh _)
  · exact boolS_ok hh
  · exact compS_ok g.un hh
  · exact iteS_ok (hh _) (hh _) (hh _)
  · exact tupS_ok hh
  · exact lstS_ok hh
  · exact subS_ok (by have := g.un; omega) hh
  · exact callS_ok g hh
  · exact ofF_ok (lcS_ok g h)
  · exact dctS_ok g.un hh
  · exact mxdS_ok g hh
  · exact attS_ok g.un hh
  · exact bad_ok
def ev : Nat → Rc
  | 0 => fun _ _ => .bad
  | n + 1 => step (ev n)
theorem ev_ok : ∀ n, Snd (ev n)
  | 0 => fun _ _ _ _ => bad_ok
  | n + 1 => step_ok (ev_ok n)
end
end PL
/-! PL o: the evaluator of statements and of defs, and that the model keeps to it. -/
namespace PL
open PySem PySem.Spec PyProof.Rows L2

/-! ### name = [.. for ..] -/
/-- a fresh list stored in a name -/
def DA (X : Cx) (st : Stmt) (i : Nat) (f : EvF) : Prop := ∀ (σ : L2.St) (H : Hp) (O : Addr → Prop) (env : List Cell) (d : D) (D : Ends), OkO H O → RelC X.K H O σ env → f env = some d →
  (∀ a xs ds H', Same H H' → H a = none → d = .l ds → H' a = some (.lst xs) → RepL X.K H' (fun b => O b ∨ b = a) xs ds → D.nx (σ.set i (some (.ref a))) H') → wS X st D σ H
section
variable {Γ : Ga} {X : Cx} {rec : Rc}
theorem da_no {st : Stmt} {i : Nat} : DA X st i noE := fun _ _ _ _ _ _ _ _ h => nomatch h
theorem da_lc (g : GOk Γ X) (h : Snd rec) {elt : Expr} {gs : List Comprehension} {scope : Scope} {y : Str} {py pos spos : Pos} {i : Nat} (hy : Γ.slot y = some i) (hl : Γ.sc.names.lookup y = some .local) (hk : Γ.sc.kind = .function) (hline : (py.line == pos.line) = true)
    (hno : (scope.names.any fun (n, k) => n == y && (k == .local || k == .cell)) = false) : DA X (.Assign [.Name y py] (.ListComp elt gs scope pos) spos) i (lcS Γ rec elt gs scope) := by
  have hyl : X.env.scope.names.lookup y = some .local := by rw [g.sc]; exact hl
  have hkk : X.env.scope.kind = .function := by rw [g.sc]; exact hk
  unfold lcS
  split
  · rename_i tg iter ifs
    split
    · rename_i t ht
      split
      · rename_i q
        rw [Bool.and_eq_true, Bool.and_eq_true, Bool.not_eq_true'] at q
        obtain ⟨⟨q1, q2⟩, q3⟩ := q
        intro σ H O env d D ok R z c
        exact PSw (ps_setLc g.calm g.nd (g.slot hy) hyl (sw_true hkk hyl hline hno) wI_pi (blkOk_by (by rw [g.N, g.sc]; exact q1)) bG_pg bTs_pts bE_pe (noSet q3 X.env))
          (tlc_go (Q := fun x H1 => gName i x σ H1 D.nx) (itS_ok' g (fun x => h Γ X x g)) (fun Y hY => tgO_ok (g.blk hY) ht) (fun Y hY => testsS_ok fun x => h _ Y x (g.blk hY)) (fun Y hY => (h _ Y elt (g.blk hY)).e) (subB_ok q2) ok R z c)
      · exact da_no
    · exact da_no
  · rename_i tg iter ifs tg1 iter1 ifs1
    split
    · rename_i t t1 ht ht1
      split
      · rename_i q
        rw [Bool.and_eq_true, Bool.and_eq_true, Bool.and_eq_true, Bool.and_eq_true, Bool.not_eq_true', Bool.not_eq_true'] at q
        obtain ⟨⟨⟨⟨q1, q2⟩, q3⟩, q4⟩, q5⟩ := q
        intro σ H O env d D ok R z c
        exact PSw (ps_setLc2 g.calm g.nd (g.slot hy) hyl (sw_true hkk hyl hline hno) wI_pi (blkOk_by (by rw [g.N, g.sc]; exact q1)) (subB_ok q3) bG_pg bTs_pts bI_pi bG_pg bTs_pts bE_pe (noSet q4 X.env) (fun env => noSet q5 env))
          (tlc2_go (Q := fun x H1 => gName i x σ H1 D.nx) (itS_ok' g (fun x => h Γ X x g)) (fun Y hY => tgO_ok (g.blk hY) ht) (fun Y hY => testsS_ok fun x => h _ Y x (g.blk hY))
            (fun Y hY => itS_ok' (g.blk hY) fun x => h _ Y x (g.blk hY)) (fun Y hY => tgO_ok (g.blk hY) ht1) (fun Y hY => testsS_ok fun x => h _ Y x (g.blk hY)) (fun Y hY => (h _ Y elt (g.blk hY)).e) (subB_ok q2) ok R z c)
      · exact da_no
    · exact da_no
  · exact da_no
theorem DA.own {st : Stmt} {i : Nat} {f : EvF} (h : DA X st i f) : DS X st (ownF i f) := by
  intro H0 M0 H O σ env fl D R z k
  obtain ⟨d, e1, z⟩ := map_some' z
  subst z
  refine h σ H _ env d D R.okW R.rel e1 fun a xs ds H1 s na ed ha r => ?_
  subst ed
  exact k _ H1 (R.fresh s na ⟨xs, ha, r⟩)
theorem DA.asg {st : Stmt} {i : Nat} {f : EvF} (h : DA X st i f) : DS X st (asgF (.nm i) f) := by
  intro H0 M0 H O σ env fl D R z k
  obtain ⟨d, e1, z⟩ := bind_some' z
  obtain ⟨env', e2, z⟩ := map_some' z
  subst z
  refine h σ H _ env d D R.okW R.rel e1 fun a xs ds H1 s na ed ha r => ?_
  subst ed
  have rr : Rep X.K H1 (Ow O σ env) (.ref a) (.l ds) := .l ha (fun q => R.okW a q na) (r.less fun b q => .inl q)
  have e3 := e2
  rw [bindT] at e2
  cases e2
  exact k _ H1 ((R.same s).bind e3 ((R.same s).rel.set rr) (by rw [Tg.slots]; exact Off.set))
theorem sw_cell {y : Str} {e : Expr} {py : Pos} {l : Nat} {env : Env} (h : env.scope.names.lookup y = some .cell) : swapsWith e (some (.Name y py)) l env = pure false := by
  have ky : env.kindOf y = some .cell := h
  unfold swapsWith
  cases e <;> first
    | rfl
    | (simp only [ky]; rw [show (some NameKind.cell == some NameKind.local) = false from rfl, Bool.and_false]; rfl)
theorem sws_cell {y : Str} {e : Expr} {py : Pos} {l : Nat} {env : Env} (h : env.scope.names.lookup y = some .cell) : swapsWithSole [.Name y py] e l env = pure false := by
  unfold swapsWithSole
  first
  | exact sw_cell h
  | (split <;> first | exact sw_cell h | rfl)
  | (cases e <;> first | exact sw_cell h | rfl)
def isComp : Expr → Bool
  | .ListComp .. => true
  | .SetComp .. => true
  | .DictComp .. => true
  | _ => false
theorem sw_plain {e : Expr} (h : isComp e = false) {t : Option Expr} {l : Nat} {env : Env} : swapsWith e t l env = pure false := by
  unfold swapsWith
  cases e <;> first
    | (cases h; done)
    | rfl
theorem sws_plain {e tg : Expr} (h : isComp e = false) {l : Nat} {env : Env} : swapsWithSole [tg] e l env = pure false := sw_plain h
theorem sst_none {tg e : Expr} (h : isTup e = false ∨ (isTup tg = false ∧ (match tg with | .List .. => false | _ => true) = true)) {env : Env} : swappedStores [tg] e env = pure none := by
  unfold swappedStores
  rcases h with h | ⟨h, h2⟩
  · cases tg <;> first
      | rfl
      | (cases e <;> first | (cases h; done) | rfl)
  · cases tg <;> first
      | (cases h; done)
      | (cases h2; done)
      | rfl

theorem names_lt {f : Expr → Option Str} (hf : ∀ x, isTup x = true → f x = none) : ∀ ts : List Expr, ts.any isTup = true → (ts.filterMap f).length < ts.length
  | [], h => by cases h
  | a :: r, h => by
    rw [List.any_cons, Bool.or_eq_true] at h
    cases e : isTup a with
    | true =>
      rw [List.filterMap_cons_none (hf a e), List.length_cons]
      exact Nat.lt_succ_of_le (List.length_filterMap_le f r)
    | false =>
      rw [e] at h
      have ih := names_lt hf r (h.resolve_left (by decide))
      cases e2 : f a with
      | none => rw [List.filterMap_cons_none e2, List.length_cons]; omega
      | some b => rw [List.filterMap_cons_some e2, List.length_cons, List.length_cons]; omega
theorem sst_nest {ts : List Expr} {kk : Nat} {p : Pos} {e : Expr} (h : ts.any isTup = true) {env : Env} : swappedStores [.Tuple ts kk p] e env = pure none := by
  unfold swappedStores
  cases e <;> first
    | rfl
    | skip
  rename_i vs k2 p2
  dsimp only
  split
  · rfl
  · split
    · rfl
    · split
      · rfl
      · rename_i hn
        exfalso
        apply hn
        rw [Bool.or_eq_true]
        left
        rw [bne_iff_ne]
        refine Nat.ne_of_lt (names_lt ?_ ts h)
        intro x hx
        cases x <;> first
          | (cases hx; done)
          | rfl

/-! ### statements -/
def mutL : Nat → List Stmt → List Str
  | 0, _ => []
  | _ + 1, [] => []
  | n + 1, st :: r => (match st with
    | .Expr (.Call (.Attribute (.Name x _) _ _) _ _ _) _ => [x]
    | .Assign [.Subscript (.Name x _) _ _] _ _ => [x]
    | .AugAssign (.Subscript (.Name x _) _ _) _ _ _ => [x]
    | .For _ _ b _ _ => mutL n b
    | .While _ b _ _ => mutL n b
    | .If _ a b _ => mutL n a ++ mutL n b
    | _ => []) ++ mutL n r
/-- names that are changed before they are stored anew; out: those behind -/
def liv : Nat → List Stmt → List Str → List Str
  | 0, _, out => out
  | _ + 1, [], out => out
  | n + 1, st :: r, out => match st with
    | .Expr (.Call (.Attribute (.Name x _) _ _) _ _ _) _ => x :: liv n r out
    | .Assign [.Name x _] _ _ => (liv n r out).filter fun y => decide (y ≠ x)
    | .Assign [.Subscript (.Name x _) _ _] _ _ => x :: liv n r out
    | .AugAssign (.Subscript (.Name x _) _ _) _ _ _ => x :: liv n r out
    | .For _ _ b _ _ => liv n b [] ++ liv n r out
    | .While _ b _ _ => liv n b [] ++ liv n r out
    | .If _ a b _ => liv n a (liv n r out) ++ liv n b (liv n r out)
    | _ => liv n r out
/-- names stored -/
def asgL : Nat → List Stmt → List Str
  | 0, _ => []
  | _ + 1, [] => []
  | n + 1, st :: r => (match st with
    | .Assign [.Name x _] _ _ => [x]
    | .For _ _ b _ _ => asgL n b
    | .While _ b _ _ => asgL n b
    | .If _ a b _ => asgL n a ++ asgL n b
    | _ => []) ++ asgL n r
def keepB (Γ : Ga) (names : List Str) (i : Nat) : Bool := match Γ.N[i]? with
  | some x => names.contains x
  | none => false
def isRet : Stmt → Bool
  | .Return .. => true
  | _ => false
def frS (Γ : Ga) (M names : List Str) (st : Stmt) (f : StF) : StF := if (isRet st || M.all fun x => names.contains x) = true then f else fun env => f (frC (keepB Γ names) 0 env)
def assignS (Γ : Ga) (rec : Rc) (M : List Str) (tg e : Expr) : StF := match tg with
  | .Name y py => (match Γ.slot y with
    | some i => if Γ.loc y = true then (match e with
      | .ListComp elt gs scope pos => (match Γ.sc.names.lookup y with
        | some .local => if (decide (Γ.sc.kind = .function) && (py.line == pos.line) && !(scope.names.any fun (n, k) => n == y && (k == .local || k == .cell))) = true then
            (if M.contains y = true then ownF i (lcS Γ rec elt gs scope) else asgF (.nm i) (lcS Γ rec elt gs scope)) else fun _ => none
        | some .cell => if M.contains y = true then ownF i (lcS Γ rec elt gs scope) else asgF (.nm i) (lcS Γ rec elt gs scope)
        | _ => fun _ => none)
      | e => if isComp e = true then fun _ => none else if M.contains y = true then ownF i (rec Γ e).f else asgF (.nm i) (rec Γ e).e) else fun _ => none
    | none => fun _ => none)
  | .Subscript (.Name x _) k _ => (match Γ.slot x with
    | some i => if (Γ.vis x && !isComp e && !isSlice k) = true then setF i (rec Γ k).e (rec Γ e).e else fun _ => none
    | none => fun _ => none)
  | .Tuple ts _ _ => (match tgO Γ 4 tg with
    | some t => if (!isComp e && (!isTup e || ts.any isTup)) = true then asgF t (rec Γ e).e else fun _ => none
    | none => fun _ => none)
  | _ => fun _ => none
theorem ds_no {st : Stmt} : DS X st (fun _ => none) := ds_never
theorem dsif {c : Bool} {st : Stmt} {f : StF} (h : c = true → DS X st f) : DS X st (if c = true then f else fun _ => none) := by
  split
  · rename_i q; exact h q
  · exact ds_no
theorem assignS_ok (g : GOk Γ X) (h : Snd rec) {M : List Str} {tg e : Expr} {pos : Pos} : DS X (.Assign [tg] e pos) (assignS Γ rec M tg e) := by
  have hh : ∀ x, EvOk X x (rec Γ x) := fun x => h Γ X x g
  unfold assignS
  split
  · rename_i y py
    split
    · rename_i i hy
      refine dsif fun hl => ?_
      obtain ⟨l1, l2⟩ := g.loc hl
      split
      · rename_i elt gs scope lpos
        split
        · rename_i hloc
          refine dsif fun q => ?_
          rw [Bool.and_eq_true, Bool.and_eq_true, Bool.not_eq_true', decide_eq_true_eq] at q
          have A := da_lc (spos := pos) g h (elt := elt) (gs := gs) hy hloc q.1.1 q.1.2 q.2
          split
          · exact A.own
          · exact A.asg
        · rename_i hcell
          split
          · exact ds_own g.nd (g.slot hy) l1 l2 (lcS_ok g h) (sw_cell (by rw [g.sc]; exact hcell))
          · exact ds_asg (ofF_ok (lcS_ok g h)).e (dg_name g.nd (g.slot hy) l1 l2) (sws_cell (by rw [g.sc]; exact hcell)) (sst_none (.inr ⟨rfl, rfl⟩)) rfl
        · exact ds_no
      · split
        · exact ds_no
        · rename_i hc
          have hc := Bool.not_eq_true _ ▸ hc
          split
          · exact ds_own g.nd (g.slot hy) l1 l2 (hh e).f (sw_plain hc)
          · exact ds_asg (hh e).e (dg_name g.nd (g.slot hy) l1 l2) (sws_plain hc) (sst_none (.inr ⟨rfl, rfl⟩)) rfl
    · exact ds_no
  · rename_i x p1 k p2
    split
    · rename_i i hy
      refine dsif fun q => ?_
      rw [Bool.and_eq_true, Bool.and_eq_true, Bool.not_eq_true', Bool.not_eq_true'] at q
      obtain ⟨⟨q1, q2⟩, q3⟩ := q
      obtain ⟨v1, v2, v3⟩ := g.vis q1
      exact ds_setIx (by have := g.un; omega) (g.slot hy) v1 v2 v3 (hh k).e (hh e).e (fun v => by cases k <;> first | (cases q3; done) | rfl) (sws_plain q2) (sst_none (.inr ⟨rfl, rfl⟩)) rfl
    · exact ds_no
  · rename_i ts k p2
    split
    · rename_i t ht
      refine dsif fun q => ?_
      rw [Bool.and_eq_true, Bool.not_eq_true', Bool.or_eq_true, Bool.not_eq_true'] at q
      refine ds_asg (hh e).e (tgO_ok g ht) (sws_plain q.1) ?_ rfl
      rcases q.2 with q2 | q2
      · exact sst_none (.inl q2)
      · exact sst_nest q2
    · exact ds_no
  · exact ds_no
def exprS (Γ : Ga) (rec : Rc) (e : Expr) : StF := match e with
  | .Call (.Attribute (.Name x _) m apos) [a] [] cpos => (match Γ.slot x with
    | some i => if (decide (m = "append") && Γ.vis x && noStar a && (apos.endLine == cpos.line)) = true then appF i (rec Γ a).e else fun _ => none
    | none => fun _ => none)
  | e => if isComp e = true then fun _ => none else fun env => ((rec Γ e).e env).map fun _ => .nx env
theorem exprS_ok (g : GOk Γ X) (h : Snd rec) {e : Expr} {pos : Pos} : DS X (.Expr e pos) (exprS Γ rec e) := by
  have hh : ∀ x, EvOk X x (rec Γ x) := fun x => h Γ X x g
  unfold exprS
  split
  · rename_i x p1 m apos a cpos
    split
    · rename_i i hy
      refine dsif fun q => ?_
      rw [Bool.and_eq_true, Bool.and_eq_true, Bool.and_eq_true, decide_eq_true_eq] at q
      obtain ⟨⟨⟨e, q1⟩, q2⟩, q3⟩ := q
      subst e
      obtain ⟨v1, v2, v3⟩ := g.vis q1
      exact ds_append (g.slot hy) v1 v2 v3 (hh a).e q3 (star_cons q2) rfl
    · exact ds_no
  · split
    · exact ds_no
    · rename_i hc
      have hc := Bool.not_eq_true _ ▸ hc
      exact ds_expr (hh e).e (sw_plain hc)
def augS (Γ : Ga) (rec : Rc) (op : Operator) (x : Str) (e : Expr) : StF := match Γ.slot x with
  | some i => if Γ.loc x = true then (match op with
    | .Add => augF i (fun a b => a + b) (rec Γ e).e
    | .Sub => augF i (fun a b => a - b) (rec Γ e).e
    | _ => fun _ => none) else fun _ => none
  | none => fun _ => none
theorem augS_ok (g : GOk Γ X) (h : Snd rec) {op : Operator} {x : Str} {e : Expr} {p pos : Pos} : DS X (.AugAssign (.Name x p) op e pos) (augS Γ rec op x e) := by
  have hh : ∀ x, EvOk X x (rec Γ x) := fun x => h Γ X x g
  unfold augS
  split
  · rename_i i hy
    refine dsif fun hl => ?_
    obtain ⟨l1, l2⟩ := g.loc hl
    split
    · exact ds_aug g.nd (g.slot hy) l1 l2 ip_add (hh e).e
    · exact ds_aug g.nd (g.slot hy) l1 l2 ip_sub (hh e).e
    · exact ds_no
  · exact ds_no
def oneS (Γ : Ga) (rec : Rc) (W : Nat) (M : List Str) (ba bl : List Stmt → StF) (st : Stmt) : StF := match st with
  | .Assign [tg] e _ => assignS Γ rec M tg e
  | .AugAssign (.Name x _) op e _ => augS Γ rec op x e
  | .Expr e _ => exprS Γ rec e
  | .Return (some e) _ => retF (rec Γ e).e
  | .Return none _ => fun _ => some (.rt .n)
  | .If c a b _ => ifF (rec Γ c).t (ba a) (ba b)
  | .For tg iter body [] _ => (match tgO Γ 4 tg with
    | some t => if isSet iter = false then forF (itS Γ (rec Γ) true tg iter) t (bl body) else fun _ => none
    | none => fun _ => none)
  | .While c body [] _ => whileV (rec Γ c).t (bl body) W
  | .Pass _ => fun env => some (.nx env)
  | .Break _ => fun env => some (.bk env)
  | .Continue _ => fun env => some (.ct env)
  | _ => fun _ => none
/-- what may be held behind a statement -/
def heldS (Mu P ni : List Str) (st : Stmt) : List Str := P.filter (fun x => ni.contains x) ++ (asgL 100 [st]).filter fun x => Mu.contains x
/-- n: how deep; W: turns of a while; Mu: names that are ever changed; P: names that may hold what may be changed; later: names that are changed behind -/
def stS (Γ : Ga) (rec : Rc) (W : Nat) (Mu : List Str) : Nat → List Str → List Str → List Stmt → StF
  | 0, _, _, _ => fun _ => none
  | n + 1, P, later, [] => fun env => some (.nx env)
  | n + 1, P, later, st :: rest => seqF (frS Γ P (liv 100 (st :: rest) later) st (oneS Γ rec W (liv 100 rest later)
      (stS Γ rec W Mu n (P.filter fun x => (liv 100 (st :: rest) later).contains x) (liv 100 rest later)) (stS Γ rec W Mu n (heldS Mu P (liv 100 (st :: rest) later) st) (liv 100 (st :: rest) later)) st))
      (stS Γ rec W Mu n (heldS Mu P (liv 100 (st :: rest) later) st) later rest)
theorem frS_ok {M names : List Str} {st st' : Stmt} {f : StF} (h : DS X st f) : DS X st (frS Γ M names st' f) := by
  unfold frS
  split
  · exact h
  · exact ds_free _ h
theorem oneS_ok (g : GOk Γ X) (h : Snd rec) (hp : PassesOwn (model X.prog X.w) X.A X.env X.xe) {W : Nat} {M : List Str} {ba bl : List Stmt → StF} (ha : ∀ sts, DSs X sts (ba sts)) (hl : ∀ sts, DSs X sts (bl sts)) {st : Stmt} : DS X st (oneS Γ rec W M ba bl st) := by
  have hh : ∀ x, EvOk X x (rec Γ x) := fun x => h Γ X x g
  unfold oneS
  split
  · exact assignS_ok g h
  · exact augS_ok g h
  · exact exprS_ok g h
  · exact ds_ret (hh _).e
  · exact ds_retN
  · exact ds_if (hh _).t (ha _) (ha _)
  · split
    · rename_i t ht
      split
      · rename_i hs
        exact ds_for hp g.calm (itS_ok' g hh) (tgO_ok g ht) (hl _) (noSet hs X.env)
      · exact ds_no
    · exact ds_no
  · exact ds_while W hp (hh _).t (hl _)
  · exact ds_pass
  · exact ds_break
  · exact ds_cont
  · exact ds_no
theorem stS_ok (g : GOk Γ X) (h : Snd rec) (hp : PassesOwn (model X.prog X.w) X.A X.env X.xe) {W : Nat} {Mu : List Str} : ∀ (n : Nat) (M later : List Str) (sts : List Stmt), DSs X sts (stS Γ rec W Mu n M later sts)
  | 0, _, _, _ => fun _ _ _ _ _ _ _ _ _ e => nomatch e
  | n + 1, M, later, [] => dss_nil
  | n + 1, M, later, st :: rest => by
    rw [stS]
    exact dss_cons (frS_ok (oneS_ok g h hp (fun sts => stS_ok g h hp n _ _ sts) (fun sts => stS_ok g h hp n _ _ sts))) (stS_ok g h hp n _ later rest)
end
end PL
/-! PL p: defs: what a call gives; every def keeps its promise. -/
namespace PL
open PySem PySem.Spec PyProof.Rows L2

/-! ### binding, by position alone -/
theorem zip_look {as : List Str} (nd : as.Nodup) : ∀ {us : List Value}, us.length = as.length → (as.filterMap fun n => ((as.zip us).lookup n).map (n, ·)) = as.zip us := by
  have aux : ∀ (as : List Str) (us : List Value) (pre : List (Str × Value)), as.Nodup → us.length = as.length → (∀ n ∈ as, pre.lookup n = none) → (as.filterMap fun n => ((pre ++ as.zip us).lookup n).map (n, ·)) = as.zip us := by
    intro as
    induction as with
    | nil => intro us pre _ _ _; rfl
    | cons a as ih =>
      intro us pre nd hl hp
      cases us with
      | nil => cases hl
      | cons u us =>
        rw [List.zip_cons_cons, List.filterMap_cons]
        have h1 : (pre ++ (a, u) :: as.zip us).lookup a = some u := by
          rw [List.lookup_append, hp a List.mem_cons_self]
          simp [List.lookup]
        rw [h1]
        have h2 : pre ++ (a, u) :: as.zip us = (pre ++ [(a, u)]) ++ as.zip us := by simp
        rw [h2]
        rw [List.nodup_cons] at nd
        have h3 := ih us (pre ++ [(a, u)]) nd.2 (by simpa using hl) (fun n hn => by
          rw [List.lookup_append, hp n (List.mem_cons_of_mem _ hn)]
          have ne : (n == a) = false := by
            rw [beq_eq_false_iff_ne]
            intro e
            exact nd.1 (e ▸ hn)
          simp [List.lookup, ne])
        show (a, u) :: _ = _
        rw [h3]
  intro us hl
  have := aux as us [] nd hl (fun _ _ => rfl)
  simpa using this
theorem zip_none {as : List Str} : ∀ {us : List Value}, us.length = as.length → (as.filter fun n => ((as.zip us).lookup n).isNone) = [] := by
  intro us hl
  rw [List.filter_eq_nil_iff]
  intro n hn
  have aux : ∀ (as : List Str) (us : List Value), us.length = as.length → n ∈ as → ((as.zip us).lookup n).isSome = true := by
    intro as
    induction as with
    | nil => intro us _ h; cases h
    | cons a as ih =>
      intro us hl h
      cases us with
      | nil => cases hl
      | cons u us =>
        rw [List.zip_cons_cons, List.lookup_cons]
        split
        · rfl
        · rcases List.mem_cons.mp h with e | e
          · subst e; rename_i z; simp at z
          · exact ih us (by simpa using hl) e
  have q := aux as us hl hn
  cases z : (as.zip us).lookup n with
  | none => rw [z] at q; cases q
  | some v => simp
theorem bind_gen {x qual : Str} {body : List Stmt} {scope : Scope} {kV doc pm : Value} {an : Option Addr} {cdv ct : Value} {as : List Arg} (nd : (as.map (·.arg)).Nodup) {us : List Value} (hl : us.length = (as.map (·.arg)).length) :
    bindArgs (PySem.W.fnOf x qual ⟨[], as, none, [], [], none, []⟩ body scope .none kV doc pm an cdv ct) ⟨us, []⟩ = pure ((as.map (·.arg)).zip us) := by
  have h1 := zip_look nd hl
  have h2 := zip_none hl
  have h3 : ¬ us.length > (as.map (·.arg)).length := by omega
  have h4 : seqItems? Value.none = pure none := rfl
  have h5 : decide (us.length > (as.map (·.arg)).length) = false := decide_eq_false h3
  unfold bindArgs
  simp only [h4, List.map_nil, List.nil_append, List.append_nil, pure_bind, List.forIn_nil, h5, Bool.false_and, Option.isNone_none, Option.getD_none, List.length_nil, Nat.zero_sub, List.drop_nil, Nat.sub_zero, List.take_length, h2, List.isEmpty_nil, Bool.not_true, List.zip_nil_right, Bool.false_eq_true, if_false, h1]

/-! ### a def -/
def plainArgs (p : Arguments) : Option (List Str) := match p with
  | ⟨[], as, none, [], [], none, []⟩ => some (as.map (·.arg))
  | _ => none
/-- the blocks of comprehensions within -/
def scE : Nat → Expr → List Scope
  | 0, _ => []
  | n + 1, x => match x with
    | .BinOp a _ b _ => scE n a ++ scE n b
    | .UnaryOp _ a _ => scE n a
    | .BoolOp _ es _ => es.flatMap (scE n)
    | .Compare a _ bs _ => scE n a ++ bs.flatMap (scE n)
    | .IfExp c a b _ => scE n c ++ (scE n a ++ scE n b)
    | .Tuple es _ _ => es.flatMap (scE n)
    | .List es _ => es.flatMap (scE n)
    | .Subscript a b _ => scE n a ++ scE n b
    | .Slice a b _ _ => (match a with | some a => scE n a | none => []) ++ (match b with | some b => scE n b | none => [])
    | .Call f args _ _ => scE n f ++ args.flatMap (scE n)
    | .Attribute a _ _ => scE n a
    | .ListComp elt gs scope _ => scope :: (scE n elt ++ gs.flatMap fun g => scE n g.iter ++ g.ifs.flatMap (scE n))
    | .SetComp elt gs scope _ => scope :: (scE n elt ++ gs.flatMap fun g => scE n g.iter ++ g.ifs.flatMap (scE n))
    | .DictComp k v gs scope _ => scope :: (scE n k ++ (scE n v ++ gs.flatMap fun g => scE n g.iter ++ g.ifs.flatMap (scE n)))
    | .Dict ks vs _ => (ks.flatMap fun k => match k with | some k => scE n k | none => []) ++ vs.flatMap (scE n)
    | _ => []
def scL : Nat → List Stmt → List Scope
  | 0, _ => []
  | n + 1, [] => []
  | n + 1, st :: r => (match st with
    | .Expr e _ => scE 40 e
    | .Assign ts e _ => scE 40 e ++ ts.flatMap (scE 40)
    | .AugAssign t _ e _ => scE 40 e ++ scE 40 t
    | .Return (some e) _ => scE 40 e
    | .For _ i b o _ => scE 40 i ++ (scL n b ++ scL n o)
    | .While c b o _ => scE 40 c ++ (scL n b ++ scL n o)
    | .If c a b _ => scE 40 c ++ (scL n a ++ scL n b)
    | .Raise (some e) _ _ => scE 40 e
    | _ => []) ++ scL n r
def addS (acc : List Str) (x : Str) : List Str := if acc.contains x = true then acc else acc ++ [x]
def locN (names : List (Str × NameKind)) : List Str := (names.filter fun y => y.2 == .local || y.2 == .cell).map (·.1)
def namesOf (ps : List Str) (sc : Scope) (body : List Stmt) : List Str := ((locN sc.names) ++ (scL 100 body).flatMap fun s => locN s.names).foldl addS ps
def fsB (N ps : List Str) (sc : Scope) : Bool := decide (sc.kind = .function) && decide (sc.isCoroutine = false) && decide (sc.isGenerator = false) && decide N.Nodup && decide (N.take ps.length = ps) &&
  (ps.all fun x => match sc.names.lookup x with
    | some .local => true
    | some .cell => true
    | _ => false) && sc.names.all fun y => decide (y.2 ≠ .free)
theorem fsB_ok {N ps : List Str} {sc : Scope} (h : fsB N ps sc = true) : FnScope N ps sc := by
  unfold fsB at h
  simp only [Bool.and_eq_true, List.all_eq_true, decide_eq_true_eq] at h
  obtain ⟨⟨⟨⟨⟨⟨h1, h2⟩, h3⟩, h4⟩, h5⟩, h6⟩, h7⟩ := h
  refine ⟨h1, h2, h3, h4, h5, fun x hx => ?_, h7⟩
  have q := h6 x hx
  split at q
  · rename_i e; exact .inl e
  · rename_i e; exact .inr e
  · cases q
abbrev Dfs := List He.DefD
def okDef (d : He.DefD) : Bool := decide (d.at_ = (d.name, none)) && d.dfl.isEmpty && d.kwd.isEmpty && (match plainArgs d.params with
  | some ps => fsB (namesOf ps d.scope d.body) ps d.scope
  | none => false)
def parsOf (d : He.DefD) : List Str := (plainArgs d.params).getD []
/-- what the module has beside its defs: names that are the built-ins; constants -/
structure Fr where
  free : List Str
  con : List (Str × D)
def gaOf (fns : List (Str × Nat)) (fr : Fr) (call : Str → List D → Option D) (d : He.DefD) : Ga := ⟨namesOf (parsOf d) d.scope d.body, d.scope, fun _ => true, fns, fr.free, call, fr.con⟩
/-- a while's turns, at most -/
def WH : Nat := 100000
/-- what the body does -/
def bodyF (fns : List (Str × Nat)) (free : Fr) (call : Str → List D → Option D) (d : He.DefD) : StF := stS (gaOf fns free call d) (ev 60) WH (mutL 100 d.body) 60 [] [] d.body
@[simp] def startC (n : Nat) (ds : List D) : List Cell := ds.map .v ++ List.replicate (n - ds.length) .no
@[simp] def outF : Fl → Option D
  | .rt d => some d
  | .nx _ => some .n
  | _ => none
def defF (fns : List (Str × Nat)) (free : Fr) (call : Str → List D → Option D) (d : He.DefD) : List D → Option D := fun ds => (bodyF fns free call d (startC (namesOf (parsOf d) d.scope d.body).length ds)).bind outF
def fnsOf (fn : Dfs) : List (Str × Nat) := fn.map fun d => (d.name, (parsOf d).length)
def findD (x : Str) : Dfs → Option He.DefD
  | [] => none
  | d :: r => if d.name = x then some d else findD x r
theorem findD_mem {x : Str} {d : He.DefD} : ∀ {fn : Dfs}, findD x fn = some d → d ∈ fn ∧ d.name = x
  | [], h => by cases h
  | e :: r, h => by
    unfold findD at h
    split at h
    · rename_i q
      cases h
      exact ⟨List.mem_cons_self, q⟩
    · obtain ⟨h1, h2⟩ := findD_mem h
      exact ⟨List.mem_cons_of_mem _ h1, h2⟩
theorem findD_look {x : Str} {n : Nat} : ∀ {fn : Dfs}, (fnsOf fn).lookup x = some n → ∃ d, findD x fn = some d ∧ n = (parsOf d).length
  | [], h => by cases h
  | e :: r, h => by
    unfold fnsOf at h
    rw [List.map_cons, List.lookup_cons] at h
    unfold findD
    split at h
    · rename_i q
      cases h
      exact ⟨e, if_pos (eq_of_beq q).symm, rfl⟩
    · rename_i q
      obtain ⟨d, h1, h2⟩ := findD_look (fn := r) h
      rw [if_neg fun z => by rw [z, beq_self_eq_true] at q; cases q]
      exact ⟨d, h1, h2⟩
/-- a call, at most k deep -/
def callD (fn : Dfs) (free : Fr) : Nat → Str → List D → Option D
  | 0, _ => fun _ => none
  | k + 1, x => match findD x fn with
    | some d => defF (fnsOf fn) free (callD fn free k) d
    | none => fun _ => none

section
variable {P : Program} {w : World} {K : PySem.W.Frag} {mg : Str → Option Value} {base : Heap} {fn : Dfs} {free : Fr}
theorem startC_rel {H : Hp} {O : Addr → Prop} {N : List Str} {vs : List V} {ds : List D} (ok : OkO H O) (r : RepL K H O vs ds) : RelM K H (fun _ => False) H O (L2.start N vs) (startC N.length ds) := by
  have l := r.length
  have no : ∀ i d, (startC N.length ds)[i]? ≠ some (Cell.o d) := fun i d e => by
    unfold startC at e
    rw [List.getElem?_append] at e
    split at e
    · rw [List.getElem?_map] at e
      obtain ⟨a, _, h⟩ := map_some' e
      cases h
    · rw [List.getElem?_replicate] at e
      split at e <;> cases e
  have nown : ∀ i a, ¬ Own (L2.start N vs) (startC N.length ds) i a := fun i a o => let ⟨⟨d, e⟩, _⟩ := o; no i d e
  refine ⟨⟨?_, fun i c e => ?_⟩, ok, fun i a o => (nown i a o).elim, fun i j a o _ => (nown i a o).elim, Kp.refl, fun i a o => (nown i a o).elim⟩
  · unfold startC L2.start
    rw [List.length_append, List.length_append, List.length_map, List.length_map, List.length_replicate, List.length_replicate, l]
    exact Nat.le_refl _
  · unfold startC at e
    rw [List.getElem?_append] at e
    split at e
    · rename_i hi
      rw [List.getElem?_map] at e
      obtain ⟨d, h1, h2⟩ := map_some' e
      subst h2
      obtain ⟨v, g1, g2⟩ := r.get h1
      refine ⟨v, ?_, g2.less fun a z => z.elim id fun ⟨j, o⟩ => (nown j a o).elim⟩
      unfold L2.start
      rw [List.getElem?_append_left (by rw [List.length_map, l]; rw [List.length_map] at hi; exact hi), List.getElem?_map, g1]
      rfl
    · rw [List.getElem?_replicate] at e
      split at e
      · cases e; trivial
      · cases e
/-- the defs as the head tells them -/
structure Known (K : PySem.W.Frag) (mg : Str → Option Value) (fn : Dfs) (fr : Fr) : Prop where
  def_ : ∀ d ∈ fn, ∃ fd, FunD K d.name d.qual d.params d.body d.scope [] [] (He.ga K d.name) fd
  glo : ∀ d ∈ fn, mg d.name = some (.ref (He.ga K d.name))
  mods : ∀ x m v, modOf x = some (m, v) → fr.free.contains m = true → mg x = some v
  free : ∀ x, fr.free.contains x = true → mg x = none
  con : ∀ x d, fr.con.lookup x = some d → ∃ v u, mg x = some u ∧ RelV v u ∧ ∀ H O, Rep K H O v d
theorem plainArgs_some {p : Arguments} {ps : List Str} (h : plainArgs p = some ps) : ∃ as : List Arg, p = ⟨[], as, none, [], [], none, []⟩ ∧ ps = as.map (·.arg) := by
  unfold plainArgs at h
  split at h
  · cases h; exact ⟨_, rfl, rfl⟩
  · cases h
theorem okDef_some {d : He.DefD} (h : okDef d = true) : ∃ as : List Arg, d.params = ⟨[], as, none, [], [], none, []⟩ ∧ parsOf d = as.map (·.arg) ∧ FnScope (namesOf (parsOf d) d.scope d.body) (parsOf d) d.scope := by
  unfold okDef at h
  rw [Bool.and_eq_true] at h
  obtain ⟨_, h⟩ := h
  split at h
  · rename_i ps e
    obtain ⟨as, e1, e2⟩ := plainArgs_some e
    have e3 : parsOf d = ps := by unfold parsOf; rw [e]; rfl
    rw [e3]
    exact ⟨as, e1, e2, fsB_ok h⟩
  · cases h
theorem binds_of {d : He.DefD} {f : Addr} {fd : FuncData} (ok : okDef d = true) (F : FunD K d.name d.qual d.params d.body d.scope [] [] f fd) : Binds K fd (parsOf d) [] := by
  obtain ⟨as, e1, e2, S⟩ := okDef_some ok
  have nd : (as.map (·.arg)).Nodup := by
    rw [← e2, ← S.pre]
    exact S.nd.sublist (List.take_sublist _ _)
  rw [e1] at F
  rw [e2]
  exact F.bindsN fun kV doc pm an cdv ct us hl => bind_gen nd hl
theorem bindsA_of {d : He.DefD} {f : Addr} {fd : FuncData} (ok : okDef d = true) (F : FunD K d.name d.qual d.params d.body d.scope [] [] f fd) (s : Shared) (us : List Value) (hl : us.length = (parsOf d).length) : BindsTo s fd ⟨us, []⟩ ((parsOf d).zip us) := by
  obtain ⟨as, e1, e2, S⟩ := okDef_some ok
  have nd : (as.map (·.arg)).Nodup := by
    rw [← e2, ← S.pre]
    exact S.nd.sublist (List.take_sublist _ _)
  rw [e1] at F
  rw [e2] at hl ⊢
  exact F.bindsA (fun kV doc pm an cdv ct us hl => bind_gen nd hl) s us hl
/-- every def does what callD says -/
theorem call_ok (hok : fn.all okDef = true) (kn : Known K mg fn free) : ∀ (k : Nat) (x : Str) (d : He.DefD), findD x fn = some d → ∀ fd, FunD K d.name d.qual d.params d.body d.scope [] [] (He.ga K d.name) fd →
    FnOk P w K mg base CX0 k (He.ga K d.name) fd (parsOf d) (spD K (parsOf d).length (callD fn free k x))
  | 0, x, d, hd, fd, F => ⟨fun vs H Q E h => h.1, fun A outer s H args us vs Q E _ _ _ _ h => by
      obtain ⟨_, ds, d', O, _, _, e, _⟩ := h
      cases e⟩
  | k + 1, x, d, hd, fd, F => by
    have hm := findD_mem hd
    have okd := List.all_eq_true.mp hok d hm.1
    obtain ⟨as, e1, e2, S⟩ := okDef_some okd
    refine F.ok S (fun vs H Q E h => h.1) (fun cdv A outer s H vs Q E hr h => ⟨wSs (cxOf CX0 P w K mg base (namesOf (parsOf d) d.scope d.body) d.qual d.scope (He.ga K d.name) cdv A outer s H E).nox d.body, PSs.nox wSs_pss, ?_⟩)
    obtain ⟨hl, ds, r, O, ok, rl, e, c⟩ := h
    have e : (match findD x fn with
      | some d => defF (fnsOf fn) free (callD fn free k) d
      | none => fun _ => none) ds = some r := e
    rw [hd] at e
    have e : (bodyF (fnsOf fn) free (callD fn free k) d (startC (namesOf (parsOf d) d.scope d.body).length ds)).bind outF = some r := e
    obtain ⟨fl, e3, e4⟩ := bind_some' e
    have g : GOk (gaOf (fnsOf fn) free (callD fn free k) d) (cxOf CX0 P w K mg base (namesOf (parsOf d) d.scope d.body) d.qual d.scope (He.ga K d.name) cdv A outer s H E).nox := by
      refine ⟨rfl, S.nd, rfl, fun _ _ => rfl, rfl, ?_, fun y hy => kn.free y hy, fun y m v e hy => kn.mods y m v e hy, fun y n hy => ?_, kn.con⟩
      · have := hr.un
        show (A.deeper _).units + 65 < cLine
        omega
      · obtain ⟨d', h1, h2⟩ := findD_look hy
        have hm' := findD_mem h1
        obtain ⟨fd', F'⟩ := kn.def_ d' hm'.1
        have okd' := List.all_eq_true.mp hok d' hm'.1
        refine ⟨k, He.ga K d'.name, fd', parsOf d', ?_, hr, ?_, F'.kp, binds_of okd' F'⟩
        · rw [h2]
          exact call_ok hok kn k y d' h1 fd' F'
        · rw [← hm'.2]
          exact kn.glo d' hm'.1
    refine stS_ok g (ev_ok 60) .never 60 [] [] d.body H (fun _ => False) H O _ _ fl _ (startC_rel ok rl) e3 ?_
    cases fl with
    | rt q =>
      cases e4
      exact fun v H' kp ok' rp => c v H' (fun a o z => kp a o z fun f => f) rp
    | nx env' =>
      cases e4
      exact fun σ' H' R => c .non H' (fun a o z => R.kp a o z fun f => f) .n
    | bk _ => cases e4
    | ct _ => cases e4
end
end PL
/-! PL r: a law's end. -/
namespace PL
open PySem PySem.Spec PySem.W PyProof.Rows L2

def defD : Stmt → Option He.DefD
  | .FunctionDef n a b _ _ _ sc _ _ _ => some ⟨(n, none), n, n, a, b, sc, [], []⟩
  | _ => none
def defsOf (P : Program) : Dfs := P.main.body.filterMap defD
def faOf (fn : Dfs) (free : List Str) : List He.Fa := fn.map (fun d => .glo d.name) ++ free.map .free
theorem says_fact {fa : List He.Fa} {fn : List He.DefD} {K : PySem.W.Frag} (c : He.SaysD fa fn K) : ∀ f ∈ fa, f.ok K = true := fun f hf => by
  obtain ⟨i, hi⟩ := List.mem_iff_getElem?.mp hf
  exact c.fact i hi
theorem says_def {fa : List He.Fa} {fn : List He.DefD} {K : PySem.W.Frag} (c : He.SaysD fa fn K) (hok : fn.all okDef = true) : ∀ d ∈ fn, ∃ fd, FunD K d.name d.qual d.params d.body d.scope [] [] (He.ga K d.name) fd := fun d hd => by
  obtain ⟨i, hi⟩ := List.mem_iff_getElem?.mp hd
  obtain ⟨fd, F⟩ := c.def_ i hi
  have ok := List.all_eq_true.mp hok d hd
  unfold okDef at ok
  rw [Bool.and_eq_true, Bool.and_eq_true, Bool.and_eq_true, decide_eq_true_eq, List.isEmpty_iff, List.isEmpty_iff] at ok
  obtain ⟨⟨⟨e1, e2⟩, e3⟩, _⟩ := ok
  have f1 : d.dvs K = [] := by unfold He.DefD.dvs; rw [e2]; rfl
  have f2 : d.kws K = [] := by unfold He.DefD.kws; rw [e3]; rfl
  have f3 : He.fAd K d.at_ = He.ga K d.name := by rw [e1]; rfl
  rw [f1, f2, f3] at F
  exact ⟨fd, F⟩
theorem known_of {fn : Dfs} {free : Fr} {K : PySem.W.Frag} {mg : Str → Option Value} {h : Heap} (X : K.In h) (G : h.Ns mainGlobals mg) (hok : fn.all okDef = true) (c : He.SaysD (faOf fn free.free) fn K) (hm : ∀ x m v, modOf x = some (m, v) → free.free.contains m = true → mg x = some v) (hc : ∀ x d, free.con.lookup x = some d → ∃ v u, mg x = some u ∧ RelV v u ∧ ∀ H O, Rep K H O v d) : Known K mg fn free where
  def_ := says_def c hok
  glo := fun d hd => He.glo_ok X G (says_fact c (.glo d.name) (List.mem_append_left _ (List.mem_map_of_mem hd)))
  free := fun x hx => He.free_ok X G (says_fact c (.free x) (List.mem_append_right _ (List.mem_map_of_mem (List.contains_iff_mem.mp hx))))
  mods := hm
  con := hc
/-- the names imported from the library, as the marks in the list of free names tell them -/
def modsOf (free : List Str) : List (Str × Value) := (["gcd", "lcm", "combinations"] : List Str).filterMap fun x => match modOf x with
  | some (m, v) => if free.contains m = true then some (x, v) else none
  | none => none
theorem modOf_mem {x m : Str} {v : Value} (h : modOf x = some (m, v)) : x ∈ (["gcd", "lcm", "combinations"] : List Str) := by
  unfold modOf at h
  repeat' split at h
  all_goals first
    | (cases h; done)
    | (rename_i e; subst e; decide)
/-- a constant as it stands in the written part -/
def conV (K : PySem.W.Frag) : Nat → D → Value → Bool
  | _, .n, .none => true
  | _, .b x, .bool y => decide (x = y)
  | _, .i x, .int y _ => decide (x = y)
  | _, .s x, .str y _ => decide (x = y)
  | k + 1, .t ds, .ref a => (match K.lookup a with
    | some ⟨.type T, _, .seq its _, _⟩ => decide (T = "tuple") && decide (its.size ≤ sizeLine) && decide (ds.length = its.toList.length) && (ds.zip its.toList).all fun p => conV K k p.1 p.2
    | _ => false)
  | _, _, _ => false
theorem conV_ok {K : PySem.W.Frag} : ∀ (k : Nat) (d : D) (u : Value), conV K k d u = true → ∃ v, RelV v u ∧ ∀ H O, Rep K H O v d
  | k, .n, u, h => by
    cases u <;> first
      | exact ⟨.non, rfl, fun _ _ => .n⟩
      | (cases k <;> cases h)
  | k, .b x, u, h => by
    cases u <;> first
      | (cases k <;> cases h; done)
      | skip
    have e : x = _ := of_decide_eq_true (show decide (x = _) = true by cases k <;> exact h)
    subst e
    exact ⟨.bl x, rfl, fun _ _ => .b x⟩
  | k, .i x, u, h => by
    cases u <;> first
      | (cases k <;> cases h; done)
      | skip
    have e : x = _ := of_decide_eq_true (show decide (x = _) = true by cases k <;> exact h)
    subst e
    exact ⟨.int x, ⟨_, rfl⟩, fun _ _ => .i x⟩
  | k, .s x, u, h => by
    cases u <;> first
      | (cases k <;> cases h; done)
      | skip
    have e : x = _ := of_decide_eq_true (show decide (x = _) = true by cases k <;> exact h)
    subst e
    exact ⟨.str x, ⟨_, rfl⟩, fun _ _ => .s x⟩
  | k + 1, .t ds, u, h => by
    cases u <;> first
      | (cases h; done)
      | skip
    rename_i a
    rw [conV] at h
    split at h
    · rename_i T o its n sl e
      rw [Bool.and_eq_true, Bool.and_eq_true, Bool.and_eq_true, decide_eq_true_eq, decide_eq_true_eq, decide_eq_true_eq] at h
      obtain ⟨⟨⟨h1, h2⟩, h3⟩, h4⟩ := h
      have go : ∀ (ds : List D) (us : List Value), ds.length = us.length → ((ds.zip us).all fun p => conV K k p.1 p.2) = true → ∃ vs, Vals vs us ∧ ∀ H O, RepL K H O vs ds := by
        intro ds
        induction ds with
        | nil =>
          intro us hl _
          cases us with
          | nil => exact ⟨[], .nil, fun _ _ => .nil⟩
          | cons u us => cases hl
        | cons d ds ih =>
          intro us hl ha
          cases us with
          | nil => cases hl
          | cons u us =>
            rw [List.zip_cons_cons, List.all_cons, Bool.and_eq_true] at ha
            obtain ⟨v, g1, g2⟩ := conV_ok k d u ha.1
            obtain ⟨vs, g3, g4⟩ := ih us (by simpa using hl) ha.2
            exact ⟨v :: vs, .cons g1 g3, fun H O => .cons (g2 H O) (g4 H O)⟩
      obtain ⟨vs, g1, g2⟩ := go ds its.toList h3 h4
      exact ⟨.ref a, rfl, fun H O => .tk (fun G => .inr ⟨_, its, n, e, by rw [h1], rfl, h2, g1⟩) (g2 H O)⟩
    · cases h
  | 0, .t _, u, h => by cases u <;> cases h
  | k, .l _, u, h => by cases k <;> cases u <;> cases h
  | k, .z _, u, h => by cases k <;> cases u <;> cases h
  | k, .r _ _, u, h => by cases k <;> cases u <;> cases h
  | k, .d _ _, u, h => by cases k <;> cases u <;> cases h
def conOk (K : PySem.W.Frag) (p : Str × D) : Bool := match PySem.W.nsIn K mainGlobals p.1 with
  | some (some u) => conV K 9 p.2 u
  | _ => false
abbrev AlM : Type := Bool × He.AlD
def obsM (fr : Fr) (fa : List He.Fa) (fn : List He.DefD) (K : PySem.W.Frag) : AlM := (((modsOf fr.free).all fun p => He.eqO (PySem.W.nsIn K mainGlobals p.1) (some (some p.2))) && fr.con.all (conOk K), He.obsD fa fn K)
def valM (fn : List He.DefD) : AlM := (true, He.valD fn)
def SaysM (fr : Fr) (fa : List He.Fa) (fn : List He.DefD) (K : PySem.W.Frag) : Prop := obsM fr fa fn K = valM fn
def obsMG (n : Nat) (fr : Fr) (fa : List He.Fa) (fn : List He.DefD) (g : Addr → Option Obj) : AlM := obsM fr fa fn (He.frG g (He.asD g n))
def hookM (n : Nat) (fr : Fr) (fa : List He.Fa) (fn : List He.DefD) : PySem.W.Hook where
  α := AlM
  obs := fun s => obsMG n fr fa fn s.heap.get?
  val := fun _ => valM fn
  says := fun _ h => ∃ K : PySem.W.Frag, K.In h ∧ SaysM fr fa fn K
  of := fun _ _ e => ⟨_, He.frG_in, e⟩
  keeps := fun _ _ _ ⟨K, hK, c⟩ k => ⟨K, PySem.W.Frag.In.keeps hK k, c⟩
theorem obsMG_eq {n : Nat} {fr : Fr} {fa : List He.Fa} {fn : List He.DefD} {g : Addr → Option Obj} {s : Shared} (h : ∀ a, g a = s.heap.get? a) : obsMG n fr fa fn g = (hookM n fr fa fn).obs s := by
  have e : g = s.heap.get? := funext h
  rw [e] <;> rfl
theorem SaysM.d {fr : Fr} {fa : List He.Fa} {fn : List He.DefD} {K : PySem.W.Frag} (c : SaysM fr fa fn K) : He.SaysD fa fn K := congrArg (fun z : AlM => z.2) c
theorem look_mem {x : Str} {d : D} : ∀ {l : List (Str × D)}, l.lookup x = some d → (x, d) ∈ l
  | [], h => by cases h
  | (y, e) :: l, h => by
    rw [List.lookup_cons] at h
    split at h
    · rename_i q
      cases h
      rw [eq_of_beq q]
      exact List.mem_cons_self
    · exact List.mem_cons_of_mem _ (look_mem h)
theorem knownM_of {fn : Dfs} {free : Fr} {K : PySem.W.Frag} {mg : Str → Option Value} {h : Heap} (X : K.In h) (G : h.Ns mainGlobals mg) (hok : fn.all okDef = true) (c : SaysM free (faOf fn free.free) fn K) : Known K mg fn free := by
  have c0 : (((modsOf free.free).all fun p => He.eqO (PySem.W.nsIn K mainGlobals p.1) (some (some p.2))) && free.con.all (conOk K)) = true := congrArg (fun z : AlM => z.1) c
  rw [Bool.and_eq_true] at c0
  refine known_of X G hok c.d (fun x m v e hm => ?_) fun x d e => ?_
  · have hx : (x, v) ∈ modsOf free.free := by
      unfold modsOf
      refine List.mem_filterMap.mpr ⟨x, modOf_mem e, ?_⟩
      rw [e]
      show (if free.free.contains m = true then some (x, v) else none) = some (x, v)
      rw [if_pos hm]
    exact PySem.W.mg_of X G (He.eqO_ok (List.all_eq_true.mp c0.1 _ hx))
  · have q := List.all_eq_true.mp c0.2 _ (look_mem e)
    unfold conOk at q
    split at q
    · rename_i u hu
      obtain ⟨v, r, p⟩ := conV_ok 9 d u q
      exact ⟨v, u, PySem.W.mg_of X G hu, r, p⟩
    · cases q
/-- what the law's def promises -/
def spLaw (K : PySem.W.Frag) : Sp := fun vs H Q _ => ∃ (a : Addr) (ns : List Int), vs = [.ref a] ∧ ns.length ≤ 63 ∧ (∀ z ∈ ns, Builtin.Int.intBits z ≤ 1048576) ∧ SqL K H a (ns.map V.int) ∧ ∀ H', Q (.bl true) H'
theorem lawOk {P : Program} {w : World} {K : PySem.W.Frag} {mg : Str → Option Value} {base : Heap} {fn : Dfs} {free : Fr} {d : He.DefD} {fd : FuncData} {k : Nat} {x : Str} (hok : fn.all okDef = true) (kn : Known K mg fn free) (hd : findD x fn = some d) (hp : (parsOf d).length = 1)
    (F : FunD K d.name d.qual d.params d.body d.scope [] [] (He.ga K d.name) fd)
    (h : ∀ ns : List Int, ns.length ≤ 63 → (∀ z ∈ ns, Builtin.Int.intBits z ≤ 1048576) → callD fn free k x [.z (ns.map .i)] = some (.b true)) : FnOk P w K mg base CX0 k (He.ga K d.name) fd (parsOf d) (spLaw K) := by
  refine (call_ok hok kn k x d hd fd F).imp fun vs H Q E q => ?_
  obtain ⟨a, ns, rfl, hl, hb, hs, q⟩ := q
  refine ⟨hp.symm, [.z (ns.map .i)], .b true, fun _ => False, fun a z => z.elim, .cons ?_ .nil, h ns hl hb, fun v H' _ r => ?_⟩
  · rcases hs with hs | ⟨o, its, n, e1, e2, e3, e4, e5⟩
    · exact .z hs (fun z => z) (RepL.of_ints ns)
    · exact .zk (fun G => .inr ⟨o, its, n, e1, e2, e3, e4, e5⟩) (RepL.of_ints ns)
  · cases r
    exact q H'
theorem walk_fin {l : PySem.W.OpenLaw} {n k : Nat} {q : Program} {loose : List Str} {XP : (Str → Option Value) → Heap → Prop} {YP : World → Heap → Prop} {d : DefRec} {x : Str}
    (hn : l.most = some n) (hn2 : n ≤ sizeLine) (hdf : d.params.defaults = []) (hr : Room k callerA)
    (F : ∀ (w : World) (mg : Str → Option Value) (fa : Addr) (h : Heap), YP w h → h.Ns mainGlobals mg → mg d.name = some (.ref fa) →
      ∃ (K : PySem.W.Frag) (fd : FuncData) (sp : Sp), K.In h ∧ (∀ (s : Shared) (u : Value), BindsTo s fd ⟨[u], []⟩ [(x, u)]) ∧
        (∀ (H : Hp) (a : Addr) (ns : List Int), ns.length ≤ n → (∀ z ∈ ns, Builtin.Int.intBits z ≤ 1048576) → SqL K H a (ns.map V.int) → sp [.ref a] H (fun v _ => v = .bl true) fun _ _ _ => False) ∧
        ∀ base : Heap, K.In base → base.Ns mainGlobals mg → FnOk l.prog w K mg base CX0 k fa fd [x] sp) :
    PySem.W.WalkO q loose XP YP l.row.toRowW d [] (fun f vs => PySem.call f vs) := by
  refine Att.attach_callB hn hdf fun w s₀ s₁ mg mb fa o pm cd doc a vs ns G Y ho hd hcd hmg hobj hints hlen hbits hg => ?_
  obtain ⟨K, fd, sp, KX, hb, hsp, hF⟩ := F w mg fa _ Y G.T.g hmg
  exact law_call KX G.T.g G.T.b G.T.builtins G.T.nolimit hg hobj hints (Nat.le_trans hlen hn2) hr hF hb (fun H hO hS => hsp H a ns hlen hbits hS) fun H e s' z => z
end PL
/-! PL s: short names of the evaluator's forms. -/
namespace PL
open PySem PySem.Spec PyProof.Rows L2
@[simp] def vV (i : Nat) : EvF := fun env => getV env i
@[simp] def vB (i : Nat) : EvF := fun env => getB env i
@[simp] def kI (i : Int) : EvF := fun _ => some (.i i)
@[simp] def kB (b : Bool) : EvF := fun _ => some (.b b)
@[simp] def kN : EvF := fun _ => some .n
@[simp] def kS (s : Str) : EvF := fun _ => some (.s s)
@[simp] def tupV (f : List Cell → Option (List D)) : EvF := fun env => (f env).bind fun xs => if xs.length ≤ SZ then some (.t xs) else none
@[simp] def lstV (f : List Cell → Option (List D)) : EvF := fun env => (f env).bind fun xs => if xs.length ≤ SZ then some (.l xs) else none
@[simp] def srtV (f : EvF) : EvF := fun env => (f env).bind srtSetD
@[simp] def kC (d : D) : EvF := fun _ => some d
/-- a name among the arguments of a def -/
def vM (m : Bool) (i : Nat) : EvF := if m = true then vV i else vB i
@[simp] theorem vM_t {i : Nat} : vM true i = vV i := rfl
@[simp] theorem vM_f {i : Nat} : vM false i = vB i := rfl
@[simp] def mxV (f g : EvF) : EvF := fun env => (f env).bind fun p => (g env).bind fun d => mxdD p d
@[simp] def g2V (f g h : EvF) : EvF := fun env => (f env).bind fun p => (g env).bind fun q => (h env).bind fun z => getV2 p q z
@[simp] def d0V : EvF := fun _ => some (.d [] [])
@[simp] def d1V (f g : EvF) : EvF := fun env => (f env).bind fun k => (g env).bind fun v => if tkD k = true then some (.d [k] [v]) else none
@[simp] def a0 : List Cell → Option (List D) := fun _ => some []
@[simp] def p0 : List Cell → Option (Option Int) := fun _ => some none
@[simp] def itR1 (f : EvF) : List Cell → Option (List D) := fun env => (f env).bind rng1
@[simp] def itR2 (f g : EvF) : List Cell → Option (List D) := fun env => (f env).bind fun x => (g env).bind fun y => rng2 x y
@[simp] def itR3 (f g h : EvF) : List Cell → Option (List D) := fun env => (f env).bind fun x => (g env).bind fun y => (h env).bind fun z => rng3 x y z
@[simp] def itE (f : EvF) : List Cell → Option (List D) := fun env => (f env).bind fun d => (seqD d).map (enumD 0)
@[simp] def itZ (f g : EvF) : List Cell → Option (List D) := fun env => (f env).bind fun d => (g env).bind fun d' => (seqD d).bind fun xs => (seqD d').map fun ys => zipD xs ys
@[simp] def itP (f : EvF) : List Cell → Option (List D) := fun env => (f env).bind walkD
@[simp] def itC (f g : EvF) : List Cell → Option (List D) := fun env => (f env).bind fun d => (g env).bind fun d' => combD d d'
@[simp] def trV (f : EvF) : EvF := fun env => (f env).bind revD
@[simp] def tgV (f : EvF) : EvF := fun env => (f env).bind trgD
@[simp] def lrV (f g : EvF) : EvF := fun env => (f env).bind fun i => (g env).bind fun j => lrgD i j
@[simp] def tY : List Cell → Option Bool := fun _ => some true
@[simp] def plI (a b : Int) : Int := a + b
@[simp] def miI (a b : Int) : Int := a - b
@[simp] def dropF (f : EvF) : StF := fun env => (f env).map fun _ => .nx env
@[simp] def ret0 : StF := fun _ => some (.rt .n)
@[simp] def nop : StF := fun env => some (.nx env)
@[simp] def brk : StF := fun env => some (.bk env)
@[simp] def cnt : StF := fun env => some (.ct env)
@[simp] def stk : StF := fun _ => none
@[simp] def keepL (N names : List Str) (i : Nat) : Bool := match N[i]? with
  | some x => names.contains x
  | none => false
@[simp] def freeF (N names : List Str) (f : StF) : StF := fun env => f (frC (keepL N names) 0 env)
@[simp] def runF (n : Nat) (b : StF) : List D → Option D := fun ds => (b (startC n ds)).bind outF
class Bx (α : Type) where
  v : α
/-! ### calls of defs: arguments given, or lent -/
def orN (x : Option (List D)) [b : Bx (Unit → Option (List D))] (F : List D → Option D) : Option D := match x with
  | some ds => F ds
  | none => (b.v ()).bind fun ds => (F ds).bind atomO
@[simp] theorem callN_e {F : List D → Option D} {as : Bool → List Cell → Option (List D)} {env : List Cell} : callN F as env = @orN (as true env) ⟨fun _ => as false env⟩ F := rfl
@[simp] theorem orN_some {ds : List D} {b : Bx (Unit → Option (List D))} {F : List D → Option D} : @orN (some ds) b F = F ds := rfl
@[simp] theorem orN_none {b : Bx (Unit → Option (List D))} {F : List D → Option D} : @orN none b F = (b.v ()).bind fun ds => (F ds).bind atomO := rfl
@[simp] theorem orN_ite {c : Prop} [Decidable c] {x y : Option (List D)} {b : Bx (Unit → Option (List D))} {F : List D → Option D} : @orN (if c then x else y) b F = if c then @orN x b F else @orN y b F := by
  by_cases h : c <;> simp [h]
end PL
/-! PL t: loops and comprehensions on mapped lists; defs that the laws share. -/
namespace PL
open PySem PySem.Spec PyProof.Rows L2

/-! ### mapped lists -/
theorem compD_filter {α : Type} {t : Tg} {ft : List Cell → Option Bool} {f : EvF} {env : List Cell} (enc g : α → D) (p : α → Bool) : ∀ (l : List α), (∀ a ∈ l, ∃ env1, bindT t (enc a) env = some env1 ∧ ft env1 = some (p a) ∧ (p a = true → f env1 = some (g a))) →
    compD t ft f env (l.map enc) = some ((l.filter p).map g)
  | [], _ => rfl
  | a :: l, h => by
    obtain ⟨env1, h1, h2, h3⟩ := h a List.mem_cons_self
    have ih := compD_filter enc g p l fun b hb => h b (List.mem_cons_of_mem _ hb)
    rw [List.map_cons, compD, h1, Option.bind_some, h2, Option.bind_some, ih]
    cases hp : p a with
    | true => rw [if_pos rfl, h3 hp, List.filter_cons_of_pos hp]; rfl
    | false => rw [if_neg Bool.false_ne_true, List.filter_cons_of_neg (by rw [hp]; exact Bool.false_ne_true)]
theorem compD_map {α : Type} {t : Tg} {ft : List Cell → Option Bool} {f : EvF} {env : List Cell} (enc g : α → D) (l : List α) (h : ∀ a ∈ l, ∃ env1, bindT t (enc a) env = some env1 ∧ ft env1 = some true ∧ f env1 = some (g a)) :
    compD t ft f env (l.map enc) = some (l.map g) := by
  have := compD_filter (t := t) (ft := ft) (f := f) (env := env) enc g (fun _ => true) l fun a ha => by
    obtain ⟨env1, h1, h2, h3⟩ := h a ha
    exact ⟨env1, h1, h2, fun _ => h3⟩
  rwa [List.filter_eq_self.mpr fun _ _ => rfl] at this
theorem blsD_map {α : Type} (q : α → Bool) : ∀ l : List α, blsD (l.map fun a => .b (q a)) = some (l.map q)
  | [] => rfl
  | a :: l => by rw [List.map_cons, blsD, blsD_map q l]; rfl
theorem allD_map {α : Type} (q : α → Bool) (l : List α) : allD [.l (l.map fun a => .b (q a))] = some (.b (l.all q)) := by
  rw [allD, blsD_map q l]
  simp [List.all_map]
theorem anyD_map {α : Type} (q : α → Bool) (l : List α) : anyD [.l (l.map fun a => .b (q a))] = some (.b (l.any q)) := by
  rw [anyD, blsD_map q l]
  simp [List.any_map]
theorem intsD_map : ∀ l : List Int, intsD (l.map .i) = some l
  | [] => rfl
  | a :: l => by rw [List.map_cons, intsD, intsD_map l]; rfl
theorem zipD_map {α β : Type} (f : α → D) (g : β → D) : ∀ (l : List α) (m : List β), zipD (l.map f) (m.map g) = (List.zip l m).map fun p => .t [f p.1, g p.2]
  | [], _ => by simp [zipD]
  | _ :: _, [] => by simp [zipD]
  | a :: l, b :: m => by rw [List.map_cons, List.map_cons, zipD, zipD_map f g l m, List.zip_cons_cons, List.map_cons]
theorem enumD_map {α : Type} (f : α → D) : ∀ (l : List α) (n : Nat), enumD n (l.map f) = (l.zipIdx n).map fun p => .t [.i p.2, f p.1]
  | [], _ => rfl
  | a :: l, n => by rw [List.map_cons, enumD, enumD_map f l (n + 1), List.zipIdx_cons, List.map_cons]
theorem rngD_map (lo : Int) (n : Nat) : rngD lo n = (List.range n).map fun i => .i (lo + (i : Nat)) := rfl
/-- a loop, by what holds ahead of each turn -/
theorem forV_inv {t : Tg} {fb : StF} (P : Nat → List Cell → Prop) : ∀ (ds : List D) (i : Nat) (env : List Cell), P i env →
    (∀ j d env, ds[j]? = some d → P (i + j) env → ∃ env1 env2, bindT t d env = some env1 ∧ (fb env1 = some (.nx env2) ∨ fb env1 = some (.ct env2)) ∧ P (i + j + 1) env2) → ∃ env', forV t fb ds env = some (.nx env') ∧ P (i + ds.length) env'
  | [], i, env, h0, _ => ⟨env, rfl, h0⟩
  | d :: ds, i, env, h0, hs => by
    obtain ⟨env1, env2, h1, h2, h3⟩ := hs 0 d env rfl h0
    obtain ⟨env', h4, h5⟩ := forV_inv P ds (i + 1) env2 h3 fun j d' e q p => by
      have := hs (j + 1) d' e (by rw [List.getElem?_cons_succ]; exact q) (by rw [show i + (j + 1) = i + 1 + j by omega]; exact p)
      rw [show i + (j + 1) + 1 = i + 1 + j + 1 by omega] at this
      exact this
    refine ⟨env', ?_, by rw [List.length_cons, show i + (ds.length + 1) = i + 1 + ds.length by omega]; exact h5⟩
    rw [forV, h1, Option.bind_some]
    rcases h2 with h2 | h2 <;> (rw [h2, Option.bind_some]; exact h4)
/-- .. over a mapped list, the state a fold -/
theorem forV_fold {α β : Type} {t : Tg} {fb : StF} (enc : α → D) (P : β → List Cell → Prop) (stp : β → α → β) : ∀ (l : List α) (b : β) (env : List Cell), P b env →
    (∀ a b env, a ∈ l → P b env → ∃ env1 env2, bindT t (enc a) env = some env1 ∧ (fb env1 = some (.nx env2) ∨ fb env1 = some (.ct env2)) ∧ P (stp b a) env2) → ∃ env', forV t fb (l.map enc) env = some (.nx env') ∧ P (l.foldl stp b) env'
  | [], b, env, h0, _ => ⟨env, rfl, h0⟩
  | a :: l, b, env, h0, hs => by
    obtain ⟨env1, env2, h1, h2, h3⟩ := hs a b env List.mem_cons_self h0
    obtain ⟨env', h4, h5⟩ := forV_fold enc P stp l (stp b a) env2 h3 fun a' b' e m p => hs a' b' e (List.mem_cons_of_mem _ m) p
    refine ⟨env', ?_, h5⟩
    rw [List.map_cons, forV, h1, Option.bind_some]
    rcases h2 with h2 | h2 <;> (rw [h2, Option.bind_some]; exact h4)

/-! ### shared defs -/
/-- need(good, at); slots [good, at] -/
def S_need (c : Str → List D → Option D) : List D → Option D := runF 2 (
  (seqF (ifF (notT (asT (vB 0)))
    (seqF stk
    nop)
    nop)
  nop))

/-- is_seq(value); slots [value] -/
def S_is_seq (c : Str → List D → Option D) : List D → Option D := runF 1 (
  (seqF (retF (instV [.tuple, .list] (vB 0)))
  nop))

/-- is_long(value, low, high); slots [value, low, high] -/
def S_is_long (c : Str → List D → Option D) : List D → Option D := runF 3 (
  (seqF (retF (andV (callN (c "is_seq") fun m => (consL (vM m 0) a0)) (chainV fLe fLe (vB 1) (callV lenD (consL (vB 0) a0)) (vB 2))))
  nop))

/-- is_int(value); slots [value] -/
def S_is_int (c : Str → List D → Option D) : List D → Option D := runF 1 (
  (seqF (retF (andV (instV [.int] (vB 0)) (notV (instV [.bool] (vB 0)))))
  nop))

/-- is_from(value, low, high); slots [value, low, high] -/
def S_is_from (c : Str → List D → Option D) : List D → Option D := runF 3 (
  (seqF (retF (andV (callN (c "is_int") fun m => (consL (vM m 0) a0)) (chainV fLe fLe (vB 1) (vB 0) (vB 2))))
  nop))

/-- plain(value); slots [value, .0, part] -/
def S_plain (c : Str → List D → Option D) : List D → Option D := runF 3 (
  (seqF (ifF (asT (callN (c "is_seq") fun m => (consL (vM m 0) a0)))
    (seqF (retF (callV tupleD (consL (lcV (itP (vB 0)) (.nm 2) tY (callN (c "plain") fun m => (consL (vM m 2) a0)) [1, 2]) a0)))
    nop)
    nop)
  (seqF (retF (vV 0))
  nop)))

/-- _law_power(base, many); slots [base, many, result, k] -/
def S__law_power (c : Str → List D → Option D) : List D → Option D := runF 4 (
  (seqF (asgF (.nm 2) (kI 1))
  (seqF (forF (itR1 (vB 1)) (.nm 3)
    (seqF (asgF (.nm 2) (bind2 mulD (vB 2) (vB 0)))
    nop))
  (seqF (retF (vV 2))
  nop))))

/-- _law_cell(script, place); slots [script, place] -/
def S__law_cell (c : Str → List D → Option D) : List D → Option D := runF 2 (
  (seqF (ifF (asB (bind2 ltE (vB 1) (callV lenD (consL (vB 0) a0))))
    (seqF (retF (callV intD (consL (bind2 ixD (vB 0) (vB 1)) a0)))
    nop)
    nop)
  (seqF (retF (kI 0))
  nop)))

/-- _law_numbers(script, place, many); slots [script, place, many, cell, numbers, rest, k, twice] -/
def S__law_numbers (c : Str → List D → Option D) : List D → Option D := runF 8 (
  (seqF (asgF (.nm 3) (callN (c "_law_cell") fun m => (consL (vM m 0) (consL (vM m 1) a0))))
  (seqF (ownF 4 (lstV a0))
  (seqF (asgF (.nm 5) (vV 3))
  (seqF (forF (itR1 (vB 2)) (.nm 6)
    (seqF (ifF (asB (bind2 (cmpI fGe) (vB 3) (bind2 powD (kI 10) (kI 18))))
      (seqF (appF 4 (bind2 modD (callV intD (consL (vB 5) a0)) (bind2 powD (kI 10) (kI 9))))
      (seqF (asgF (.nm 5) (bind2 fdivD (vB 5) (bind2 powD (kI 10) (kI 9))))
      nop))
      (seqF (asgF (.nm 7) (bind2 modD (callV intD (consL (bind2 addD (bind2 addD (bind2 mulD (vB 3) (kI 48271)) (bind2 mulD (bind2 addD (vB 6) (kI 1)) (kI 69621))) (vB 1)) a0)) (kI 2147483647)))
      (seqF (appF 4 (bind2 modD (bind2 modD (callV intD (consL (bind2 addD (bind2 mulD (vB 7) (kI 16807)) (bind2 mulD (bind2 addD (vB 6) (kI 3)) (kI 40692))) a0)) (kI 2147483399)) (bind2 powD (kI 10) (kI 9))))
      nop)))
    nop))
  (seqF (retF (vV 4))
  nop))))))

/-- _law_same(one, other); slots [one, other, k] -/
def S__law_same (c : Str → List D → Option D) : List D → Option D := runF 3 (
  (seqF (ifF (orT (asT (instV [.tuple] (vB 1))) (asT (instV [.tuple] (vB 0))))
    (seqF (ifF (orT (notT (asT (instV [.tuple] (vB 0)))) (orT (notT (asT (instV [.tuple] (vB 1)))) (asB (bind2 neqD (callV lenD (consL (vB 0) a0)) (callV lenD (consL (vB 1) a0))))))
      (seqF (retF (kB false))
      nop)
      nop)
    (seqF (forF (itR1 (callV lenD (consL (vB 1) a0))) (.nm 2)
      (seqF (ifF (notT (asT (callN (c "_law_same") fun m => (consL (bind2 ixD (vB 0) (vB 2)) (consL (bind2 ixD (vB 1) (vB 2)) a0)))))
        (seqF (retF (kB false))
        nop)
        nop)
      nop))
    (seqF (retF (kB true))
    nop)))
    nop)
  (seqF (ifF (orT (asB (bind2 isD (vB 0) kN)) (asB (bind2 isD (vB 1) kN)))
    (seqF (retF (andV (bind2 isD (vB 0) kN) (bind2 isD (vB 1) kN)))
    nop)
    nop)
  (seqF (ifF (orT (asB (bind2 neqD (instV [.bool] (vB 0)) (instV [.bool] (vB 1)))) (asB (bind2 neqD (instV [.str] (vB 0)) (instV [.str] (vB 1)))))
    (seqF (retF (kB false))
    nop)
    nop)
  (seqF (retF (andV (instV [.int, .str] (vB 0)) (andV (instV [.int, .str] (vB 1)) (bind2 eqqD (vB 0) (vB 1)))))
  nop)))))

/-- _law_listed(value); slots [value, .0, part] -/
def S__law_listed (c : Str → List D → Option D) : List D → Option D := runF 3 (
  (seqF (ifF (asT (instV [.tuple] (vB 0)))
    (seqF (retF (lcV (itP (vB 0)) (.nm 2) tY (callN (c "_law_listed") fun m => (consL (vM m 2) a0)) [1, 2]))
    nop)
    nop)
  (seqF (retF (vV 0))
  nop)))


section
variable {c : Str → List D → Option D}
theorem is_seq_t (xs : List D) : S_is_seq c [.t xs] = some (.b true) := by simp [S_is_seq]
theorem is_seq_l (xs : List D) : S_is_seq c [.l xs] = some (.b true) := by simp [S_is_seq]
theorem is_seq_n : S_is_seq c [.n] = some (.b false) := by simp [S_is_seq]
theorem is_seq_i (x : Int) : S_is_seq c [.i x] = some (.b false) := by simp [S_is_seq]
theorem is_seq_s (x : Str) : S_is_seq c [.s x] = some (.b false) := by simp [S_is_seq]
theorem is_seq_b (x : Bool) : S_is_seq c [.b x] = some (.b false) := by simp [S_is_seq]
theorem is_long_t {xs : List D} {lo hi : Int} (h : c "is_seq" [.t xs] = some (.b true)) : S_is_long c [.t xs, .i lo, .i hi] = some (.b (decide (lo ≤ xs.length) && decide ((xs.length : Int) ≤ hi))) := by
  simp [S_is_long, h]
  by_cases h1 : lo ≤ (xs.length : Int) <;> simp [h1]
theorem is_long_l {xs : List D} {lo hi : Int} (h : c "is_seq" [.l xs] = some (.b true)) : S_is_long c [.l xs, .i lo, .i hi] = some (.b (decide (lo ≤ xs.length) && decide ((xs.length : Int) ≤ hi))) := by
  simp [S_is_long, h]
  by_cases h1 : lo ≤ (xs.length : Int) <;> simp [h1]
theorem is_long_no {d : D} {lo hi : Int} (h : c "is_seq" [d] = some (.b false)) : S_is_long c [d, .i lo, .i hi] = some (.b false) := by simp [S_is_long, h]
theorem is_int_i (x : Int) : S_is_int c [.i x] = some (.b true) := by simp [S_is_int]
theorem is_int_b (x : Bool) : S_is_int c [.b x] = some (.b false) := by simp [S_is_int]
theorem is_int_n : S_is_int c [.n] = some (.b false) := by simp [S_is_int]
theorem is_int_s (x : Str) : S_is_int c [.s x] = some (.b false) := by simp [S_is_int]
theorem is_int_t (x : List D) : S_is_int c [.t x] = some (.b false) := by simp [S_is_int]
theorem is_int_l (x : List D) : S_is_int c [.l x] = some (.b false) := by simp [S_is_int]
theorem is_from_i {x lo hi : Int} (h : c "is_int" [.i x] = some (.b true)) : S_is_from c [.i x, .i lo, .i hi] = some (.b (decide (lo ≤ x) && decide (x ≤ hi))) := by
  simp [S_is_from, h]
  by_cases h1 : lo ≤ x <;> simp [h1]
theorem is_from_no {d : D} {lo hi : Int} (h : c "is_int" [d] = some (.b false)) : S_is_from c [d, .i lo, .i hi] = some (.b false) := by simp [S_is_from, h]
theorem need_t {d : D} : S_need c [.b true, d] = some .n := by simp [S_need]
theorem ixN_nat {n p : Nat} (h : p < n) : ixN n (p : Int) = some p := by
  unfold ixN
  rw [if_pos (Int.natCast_nonneg p), if_pos (by omega)]
  simp
theorem atI_nat {α : Type} {xs : List α} {p : Nat} (h : p < xs.length) : atI xs (p : Int) = some xs[p] := by
  unfold atI
  rw [ixN_nat h]
  simp [h]
theorem atI_map {α β : Type} (f : α → β) {xs : List α} {p : Nat} (h : p < xs.length) : atI (xs.map f) (p : Int) = some (f xs[p]) := by
  rw [atI_nat (by simpa using h)]
  simp
theorem law_cell_eq (s : List Int) (p : Nat) : S__law_cell c [.z (s.map .i), .i p] = some (.i (s.getD p 0)) := by
  by_cases h : p < s.length
  · simp [S__law_cell, h, atI_map D.i h]
  · have h' : s.length ≤ p := by omega
    simp [S__law_cell, h, h']
theorem smallI_of {x : Int} (h : -(2 ^ 64) < x ∧ x < 2 ^ 64) : smallI x = true := absLe_of (by omega)
theorem smI_nat {n : Nat} (h : n ≤ 4611686018427387903) : smI n = true := absLe_of (by simpa using h)
theorem law_power_eq {b : Int} {n : Nat} (hb : smallI b = true) (hn : smI n = true) : S__law_power c [.i b, .i n] = some (.i (b ^ n)) := by
  have hl := forV_inv (t := .nm 3) (fb := seqF (asgF (.nm 2) (bind2 mulD (vB 2) (vB 0))) nop) (fun j env => ∃ x, env = [.v (.i b), .v (.i n), .v (.i (b ^ j)), x]) (rngD 0 n) 0 [.v (.i b), .v (.i n), .v (.i 1), .no] ⟨.no, by simp⟩ (fun j d env hd hp => by
    obtain ⟨x, rfl⟩ := hp
    refine ⟨_, _, rfl, .inl ?_, .v d, rfl⟩
    have hm : (smallI (b ^ (0 + j)) || smallI b) = true := by rw [hb, Bool.or_true]
    have e : mulD (.i (b ^ (0 + j))) (.i b) = some (.i (b ^ (0 + j + 1))) := by
      rw [mulD, if_pos hm, Int.pow_succ]
    simp only [seqF, asgF, bind2, vB, getB, Cell.any, List.set, Option.bind_some, e, bindT, Option.map_some, nop])
  obtain ⟨env', h1, x, h2⟩ := hl
  rw [rngD_length, Nat.zero_add] at h2
  subst h2
  simp [S__law_power, hn, h1]
theorem pow18 : powD (.i 10) (.i 18) = some (.i 1000000000000000000) := by decide +kernel
theorem pow9 : powD (.i 10) (.i 9) = some (.i 1000000000) := by decide +kernel
theorem mul_r {x y : Int} (h : smallI y = true) : mulD (.i x) (.i y) = some (.i (x * y)) := by rw [mulD, if_pos (by rw [h, Bool.or_true])]
theorem mul_l {x y : Int} (h : smallI x = true) : mulD (.i x) (.i y) = some (.i (x * y)) := by rw [mulD, if_pos (by rw [h, Bool.true_or])]
def Small9 (xs : List Int) : Prop := ∀ x ∈ xs, 0 ≤ x ∧ x < 1000000000
def numsB : StF := (seqF (ifF (asB (bind2 (cmpI fGe) (vB 3) (bind2 powD (kI 10) (kI 18))))
      (seqF (appF 4 (bind2 modD (callV intD (consL (vB 5) a0)) (bind2 powD (kI 10) (kI 9))))
      (seqF (asgF (.nm 5) (bind2 fdivD (vB 5) (bind2 powD (kI 10) (kI 9))))
      nop))
      (seqF (asgF (.nm 7) (bind2 modD (callV intD (consL (bind2 addD (bind2 addD (bind2 mulD (vB 3) (kI 48271)) (bind2 mulD (bind2 addD (vB 6) (kI 1)) (kI 69621))) (vB 1)) a0)) (kI 2147483647)))
      (seqF (appF 4 (bind2 modD (bind2 modD (callV intD (consL (bind2 addD (bind2 mulD (vB 7) (kI 16807)) (bind2 mulD (bind2 addD (vB 6) (kI 3)) (kI 40692))) a0)) (kI 2147483399)) (bind2 powD (kI 10) (kI 9))))
      nop)))
    nop)
theorem numsB_step {z : D} {p m cell rest kk : Int} {xs : List Int} {tw : Cell} (hx : Small9 xs) (hl : xs.length < 1000) :
    ∃ y rest' tw', numsB [.v z, .v (.i p), .v (.i m), .v (.i cell), .o (.l (xs.map .i)), .v (.i rest), .v (.i kk), tw] = some (.nx [.v z, .v (.i p), .v (.i m), .v (.i cell), .o (.l ((xs ++ [y]).map .i)), .v (.i rest'), .v (.i kk), tw']) ∧ 0 ≤ y ∧ y < 1000000000 := by
  have hz : xs.length < SZ := by unfold SZ; omega
  by_cases h : (1000000000000000000 : Int) ≤ cell
  · refine ⟨rest % 1000000000, rest / 1000000000, tw, ?_, by omega, by omega⟩
    have hf : fdivD (.i rest) (.i 1000000000) = some (.i (rest / 1000000000)) := by rw [fdivD, if_pos ⟨by decide, by decide +kernel⟩]
    simp [-powD, -fdivD, numsB, pow18, pow9, h, hz, hf]
  · refine ⟨(((cell * 48271 + (kk + 1) * 69621 + p) % 2147483647 * 16807 + (kk + 3) * 40692) % 2147483399) % 1000000000, rest, .v (.i ((cell * 48271 + (kk + 1) * 69621 + p) % 2147483647)), ?_, by omega, by omega⟩
    simp [-powD, -mulD, numsB, pow18, pow9, h, hz, mul_r (y := 48271) (by decide +kernel), mul_r (y := 69621) (by decide +kernel), mul_r (y := 16807) (by decide +kernel), mul_r (y := 40692) (by decide +kernel)]
theorem law_numbers_ex {ns : List Int} {p : Int} {m : Nat} {cell : Int} (hm : m ≤ 100) (hc : c "_law_cell" [.z (ns.map .i), .i p] = some (.i cell)) :
    ∃ xs : List Int, S__law_numbers c [.z (ns.map .i), .i p, .i m] = some (.l (xs.map .i)) ∧ xs.length = m ∧ Small9 xs := by
  obtain ⟨env', h1, xs, rest, kk, tw, rfl, h3, h4⟩ := forV_inv (t := .nm 6) (fb := numsB) (fun j env => ∃ (xs : List Int) (rest : Int) (kk tw : Cell), env = [.v (.z (ns.map .i)), .v (.i p), .v (.i m), .v (.i cell), .o (.l (xs.map .i)), .v (.i rest), kk, tw] ∧ xs.length = j ∧ Small9 xs)
    (rngD 0 m) 0 [.v (.z (ns.map .i)), .v (.i p), .v (.i m), .v (.i cell), .o (.l []), .v (.i cell), .no, .no] ⟨[], cell, .no, .no, rfl, rfl, fun _ h => nomatch h⟩ (fun j d env hd hp => by
      obtain ⟨xs, rest, kk, tw, rfl, h3, h4⟩ := hp
      obtain ⟨e, hj⟩ := rngD_get hd
      subst e
      obtain ⟨y, rest', tw', h5, h6, h7⟩ := numsB_step (z := .z (ns.map .i)) (p := p) (m := m) (cell := cell) (rest := rest) (kk := 0 + (j : Int)) (tw := tw) h4 (by omega)
      refine ⟨_, _, rfl, .inl h5, xs ++ [y], rest', _, tw', rfl, by simp [h3], fun x hx => ?_⟩
      rcases List.mem_append.mp hx with h | h
      · exact h4 x h
      · rw [List.mem_singleton.mp h]; exact ⟨h6, h7⟩)
  refine ⟨xs, ?_, by rw [h3, rngD_length]; simp, h4⟩
  have hn : smI m = true := smI_nat (by omega)
  unfold numsB at h1
  simp [-powD, -mulD, -fdivD, -modD, -addD, S__law_numbers, hc, hn, h1]
end
end PL
/-! PL u: more of the shared defs. -/
namespace PL
open PySem PySem.Spec PyProof.Rows L2
theorem ok_i (n : Nat) (x : Int) : okD n (.i x) = true := by cases n <;> rfl
theorem ok_b (n : Nat) (x : Bool) : okD n (.b x) = true := by cases n <;> rfl
theorem ok_n (n : Nat) : okD n .n = true := by cases n <;> rfl
theorem ok_s {n : Nat} {x : Str} (h : PyData.canLay0 (.str x) = true) : okD n (.s x) = true := by cases n <;> exact h
theorem nb_i (n : Nat) (x : Int) : nbD n (.i x) = true := by cases n <;> rfl
theorem nb_n (n : Nat) : nbD n .n = true := by cases n <;> rfl
theorem nb_s {n : Nat} {x : Str} (h : PyData.canLay0 (.str x) = true) : nbD n (.s x) = true := by cases n <;> exact h
theorem eq_i (x y : Int) : eqD (.i x) (.i y) = decide (x = y) := by
  rw [eqD_nb 0 _ _ (nb_i 0 x) (nb_i 0 y)]
  simp
theorem eq_s {x y : Str} (hx : PyData.canLay0 (.str x) = true) (hy : PyData.canLay0 (.str y) = true) : eqD (.s x) (.s y) = decide (x = y) := by
  rw [eqD_nb 0 _ _ (nb_s (n := 0) hx) (nb_s (n := 0) hy)]
  simp
theorem eqq_i (x y : Int) : eqqD (.i x) (.i y) = some (.b (decide (x = y))) := by rw [eqqD, ok_i, ok_i, eq_i]; rfl
theorem neq_i (x y : Int) : neqD (.i x) (.i y) = some (.b (!decide (x = y))) := by rw [neqD, ok_i, ok_i, eq_i]; rfl
theorem eqq_s {x y : Str} (hx : PyData.canLay0 (.str x) = true) (hy : PyData.canLay0 (.str y) = true) : eqqD (.s x) (.s y) = some (.b (decide (x = y))) := by rw [eqqD, ok_s hx, ok_s hy, eq_s hx hy]; rfl
theorem eqq_b : ∀ x y : Bool, eqqD (.b x) (.b y) = some (.b (x == y))
  | true, true => by decide +kernel
  | true, false => by decide +kernel
  | false, true => by decide +kernel
  | false, false => by decide +kernel
theorem neq_b : ∀ x y : Bool, neqD (.b x) (.b y) = some (.b (x != y))
  | true, true => by decide +kernel
  | true, false => by decide +kernel
  | false, true => by decide +kernel
  | false, false => by decide +kernel
/-- without bools: == is equality -/
theorem eqq_nb {n : Nat} {x y : D} (hn : n ≤ 20) (hx : nbD n x = true) (hy : nbD n y = true) (ox : okD DP x = true) (oy : okD DP y = true) : eqqD x y = some (.b (decide (x = y))) := by rw [eqqD, ox, oy, eqD_nb n _ _ hx hy]; rfl
section
variable {c : Str → List D → Option D}
theorem law_same_i (x : Int) : S__law_same c [.i x, .i x] = some (.b true) := by
  simp [-eqqD, -neqD, S__law_same, eqq_i, neq_b, isND]
theorem law_same_b (x y : Bool) : S__law_same c [.b x, .b y] = some (.b (x == y)) := by
  simp [-eqqD, -neqD, S__law_same, eqq_b, neq_b, isND]
theorem law_same_n : S__law_same c [.n, .n] = some (.b true) := by
  simp [-eqqD, -neqD, S__law_same, isND]
theorem law_same_s {x : Str} (h : PyData.canLay0 (.str x) = true) : S__law_same c [.s x, .s x] = some (.b true) := by
  simp [-eqqD, -neqD, S__law_same, eqq_s h h, neq_b, isND]
end
end PL
namespace PL
open PySem PySem.Spec PyProof.Rows L2
section
variable {c : Str → List D → Option D}
theorem law_same_t {xs : List D} (hl : xs.length ≤ 1000) (h : ∀ x ∈ xs, c "_law_same" [x, x] = some (.b true)) : S__law_same c [.t xs, .t xs] = some (.b true) := by
  obtain ⟨env', h1, k, rfl⟩ := forV_inv (t := .nm 2) (fb := (seqF (ifF (notT (asT (callN (c "_law_same") fun m => (consL (bind2 ixD (vB 0) (vB 2)) (consL (bind2 ixD (vB 1) (vB 2)) a0)))))
        (seqF (retF (kB false))
        nop)
        nop)
      nop)) (fun j env => ∃ k, env = [.v (.t xs), .v (.t xs), k]) (rngD 0 xs.length) 0 [.v (.t xs), .v (.t xs), .no] ⟨.no, rfl⟩ (fun j d env hd hp => by
      obtain ⟨k, rfl⟩ := hp
      obtain ⟨e, hj⟩ := rngD_get hd
      subst e
      have hx := h xs[j] (List.getElem_mem hj)
      refine ⟨_, [.v (.t xs), .v (.t xs), .v (.i (0 + (j : Int)))], rfl, .inl ?_, _, rfl⟩
      simp [atI_nat hj, hx])
  have hn : smI xs.length = true := smI_nat (by omega)
  simp [-eqqD, -neqD, S__law_same, isND, hn, h1, neq_i]
theorem law_listed_t {α : Type} (enc dec : α → D) {l : List α} (hl : l.length ≤ SZ) (h : ∀ a ∈ l, c "_law_listed" [enc a] = some (dec a)) : S__law_listed c [.t (l.map enc)] = some (.l (l.map dec)) := by
  have e := compD_map (t := .nm 2) (ft := tY) (f := callN (c "_law_listed") fun m => (consL (vM m 2) a0)) (env := [.v (.t (l.map enc)), .no, .no]) enc dec l fun a ha => ⟨_, rfl, rfl, by simp [h a ha]⟩
  simp [S__law_listed, e, hl]
theorem law_listed_i (x : Int) : S__law_listed c [.i x] = some (.i x) := by simp [S__law_listed]
theorem law_listed_s (x : Str) : S__law_listed c [.s x] = some (.s x) := by simp [S__law_listed]
theorem plain_t {α : Type} (enc dec : α → D) {l : List α} (hl : l.length ≤ SZ) (hs : c "is_seq" [.t (l.map enc)] = some (.b true)) (h : ∀ a ∈ l, c "plain" [enc a] = some (dec a)) : S_plain c [.t (l.map enc)] = some (.t (l.map dec)) := by
  have e := compD_map (t := .nm 2) (ft := tY) (f := callN (c "plain") fun m => (consL (vM m 2) a0)) (env := [.v (.t (l.map enc)), .no, .no]) enc dec l fun a ha => ⟨_, rfl, rfl, by simp [h a ha]⟩
  simp [S_plain, e, hl, hs]
theorem plain_l {α : Type} (enc dec : α → D) {l : List α} (hl : l.length ≤ SZ) (hs : c "is_seq" [.l (l.map enc)] = some (.b true)) (h : ∀ a ∈ l, c "plain" [enc a] = some (dec a)) : S_plain c [.l (l.map enc)] = some (.t (l.map dec)) := by
  have e := compD_map (t := .nm 2) (ft := tY) (f := callN (c "plain") fun m => (consL (vM m 2) a0)) (env := [.v (.l (l.map enc)), .no, .no]) enc dec l fun a ha => ⟨_, rfl, rfl, by simp [h a ha]⟩
  simp [S_plain, e, hl, hs]
theorem plain_no {d : D} (hs : c "is_seq" [d] = some (.b false)) : S_plain c [d] = some d := by simp [S_plain, hs]
end
/-- a loop that appends -/
theorem forV_app {α γ : Type} {t : Tg} {fb : StF} (enc : α → D) (g : α → List γ) (P : List γ → List Cell → Prop) : ∀ (l : List α) (f0 : List γ) (env : List Cell), P f0 env →
    (∀ a f env, a ∈ l → f.length + (g a).length ≤ f0.length + (l.flatMap g).length → P f env → ∃ env1 env2, bindT t (enc a) env = some env1 ∧ (fb env1 = some (.nx env2) ∨ fb env1 = some (.ct env2)) ∧ P (f ++ g a) env2) →
    ∃ env', forV t fb (l.map enc) env = some (.nx env') ∧ P (f0 ++ l.flatMap g) env'
  | [], f0, env, h0, _ => ⟨env, rfl, by simpa using h0⟩
  | a :: l, f0, env, h0, hs => by
    have e : f0.length + ((a :: l).flatMap g).length = (f0 ++ g a).length + (l.flatMap g).length := by rw [List.flatMap_cons, List.length_append, List.length_append]; omega
    obtain ⟨env1, env2, h1, h2, h3⟩ := hs a f0 env List.mem_cons_self (by rw [List.flatMap_cons, List.length_append]; omega) h0
    obtain ⟨env', h4, h5⟩ := forV_app enc g P l (f0 ++ g a) env2 h3 fun a' f' e' m hl p => hs a' f' e' (List.mem_cons_of_mem _ m) (by rw [e]; exact hl) p
    refine ⟨env', ?_, by rw [List.flatMap_cons, ← List.append_assoc]; exact h5⟩
    rw [List.map_cons, forV, h1, Option.bind_some]
    rcases h2 with h2 | h2 <;> (rw [h2, Option.bind_some]; exact h4)
/-! ### slices -/
theorem cut_to {xs : List D} {k : Nat} (h : k ≤ xs.length) : cutD xs none (some (k : Int)) = xs.take k := by
  have e1 : HT.sIx xs.length 0 none = 0 := rfl
  have e2 : HT.sIx xs.length xs.length (some (k : Int)) = k := by
    rw [HT.sIx_nat]
    omega
  unfold cutD
  rw [e1, e2]
  simp
theorem cut_from {xs : List D} {k : Nat} (h : k ≤ xs.length) : cutD xs (some (k : Int)) none = xs.drop k := by
  have e1 : HT.sIx xs.length 0 (some (k : Int)) = k := by
    rw [HT.sIx_nat]
    omega
  have e2 : HT.sIx xs.length xs.length none = xs.length := rfl
  unfold cutD
  rw [e1, e2, List.take_of_length_le]
  rw [List.length_drop]; exact Nat.le_refl _
@[simp] def Cell.fr : Cell → Cell
  | .o d => .v d
  | .v d => .v d
  | .no => .no
/-- all given up, whatever the cell is -/
@[simp] theorem frC_any (n : Nat) (x : Cell) (r : List Cell) : frC (fun _ => false) n (x :: r) = x.fr :: frC (fun _ => false) (n + 1) r := by cases x <;> simp
end PL
/-! PL x: the rows' forms for simp; loops by a rule. -/
namespace PL
open PySem PySem.Spec PyProof.Rows L2

/-! ### statements, opaque to simp but for these; what comes behind stands in a box, into which simp does not look -/
def bd {α β : Type} (x : Option α) [f : Bx (α → Option β)] : Option β := x.bind f.v
@[simp] theorem bd_some {α β : Type} {a : α} {f : Bx (α → Option β)} : @bd α β (some a) f = f.v a := rfl
@[simp] theorem bd_none {α β : Type} {f : Bx (α → Option β)} : @bd α β none f = none := rfl
@[simp] theorem bd_ite {α β : Type} {c : Prop} [Decidable c] {a b : Option α} {f : Bx (α → Option β)} : @bd α β (if c then a else b) f = if c then @bd α β a f else @bd α β b f := by
  by_cases h : c <;> simp [h]
def sQ [f : Bx StF] [g : Bx StF] : StF := seqF f.v g.v
def fr (it : List Cell → Option (List D)) (t : Tg) (b : StF) : StF := forF it t b
def wh (c : List Cell → Option Bool) (b : StF) (n : Nat) : StF := whileV c b n
section
variable {f g : StF} {h : Bx StF} {env : List Cell}
@[simp] theorem sq_asg {t : Tg} {e : EvF} : @sQ ⟨asgF t e⟩ h env = @bd _ _ (e env) ⟨fun d => @bd _ _ (bindT t d env) h⟩ := by
  simp only [sQ, seqF, asgF, bd]
  cases e env with
  | none => rfl
  | some d => cases h : bindT t d env <;> simp [h]
@[simp] theorem sq_own {i : Nat} {e : EvF} : @sQ ⟨ownF i e⟩ h env = @bd _ _ (e env) ⟨fun d => h.v (env.set i (.o d))⟩ := by
  simp only [sQ, seqF, ownF, bd]
  cases e env <;> rfl
@[simp] theorem sq_app {i : Nat} {e : EvF} : @sQ ⟨appF i e⟩ h env = @bd _ _ (getO env i) ⟨fun ds => @bd _ _ (e env) ⟨fun y => if ds.length < SZ then h.v (env.set i (.o (.l (ds ++ [y])))) else none⟩⟩ := by
  simp only [sQ, seqF, appF, bd]
  cases getO env i with
  | none => rfl
  | some ds =>
    cases e env with
    | none => rfl
    | some y =>
      simp only [Option.bind_some]
      split <;> rfl
@[simp] theorem sq_set {i : Nat} {k e : EvF} : @sQ ⟨setF i k e⟩ h env = @bd _ _ (setF i k e env) ⟨fun fl => match fl with
  | .nx e => h.v e
  | fl => some fl⟩ := rfl
@[simp] theorem sq_aug {i : Nat} {op : Int → Int → Int} {e : EvF} : @sQ ⟨augF i op e⟩ h env = @bd _ _ (augF i op e env) ⟨fun fl => match fl with
  | .nx e => h.v e
  | fl => some fl⟩ := rfl
@[simp] theorem sq_drop {e : EvF} : @sQ ⟨dropF e⟩ h env = @bd _ _ (e env) ⟨fun _ => h.v env⟩ := by
  simp only [sQ, seqF, dropF, bd]
  cases e env <;> rfl
@[simp] theorem sq_ret {e : EvF} : @sQ ⟨retF e⟩ h env = (e (frC (fun _ => false) 0 env)).map .rt := by
  simp only [sQ, seqF, retF]
  cases e (frC (fun _ => false) 0 env) <;> rfl
@[simp] theorem sq_ret0 : @sQ ⟨ret0⟩ h env = some (.rt .n) := rfl
@[simp] theorem sq_nop : @sQ ⟨nop⟩ h env = h.v env := rfl
@[simp] theorem sq_brk : @sQ ⟨brk⟩ h env = some (.bk env) := rfl
@[simp] theorem sq_cnt : @sQ ⟨cnt⟩ h env = some (.ct env) := rfl
@[simp] theorem sq_stk : @sQ ⟨stk⟩ h env = none := rfl
@[simp] theorem sq_if {c : List Cell → Option Bool} : @sQ ⟨ifF c f g⟩ h env = @bd _ _ (c env) ⟨fun x => if x = true then @sQ ⟨f⟩ h env else @sQ ⟨g⟩ h env⟩ := by
  simp only [sQ, seqF, ifF, bd]
  cases c env with
  | none => rfl
  | some x => cases x <;> rfl
@[simp] theorem sq_sq {f g : Bx StF} : @sQ ⟨@sQ f g⟩ h env = @sQ f ⟨@sQ g h⟩ env := by
  simp only [sQ, seqF]
  cases f.v env with
  | none => rfl
  | some fl => cases fl <;> rfl
@[simp] theorem sq_free {N names : List Str} : @sQ ⟨freeF N names f⟩ h env = @sQ ⟨f⟩ h (frC (keepL N names) 0 env) := rfl
end

@[simp] theorem ite_bind {α β : Type} {c : Prop} [Decidable c] {a b : Option α} {f : α → Option β} : (if c then a else b).bind f = if c then a.bind f else b.bind f := by
  by_cases h : c <;> simp [h]
@[simp] theorem ite_map {α β : Type} {c : Prop} [Decidable c] {a b : Option α} {f : α → β} : Option.map f (if c then a else b) = if c then a.map f else b.map f := by
  by_cases h : c <;> simp [h]
/-! ### what a run ends with -/
def Wf (r : Option Fl) (Q : Fl → Prop) : Prop := ∃ fl, r = some fl ∧ Q fl
@[simp] theorem Wf_some {fl : Fl} {Q : Fl → Prop} : Wf (some fl) Q ↔ Q fl := ⟨fun ⟨_, e, h⟩ => by cases e; exact h, fun h => ⟨_, rfl, h⟩⟩
@[simp] theorem Wf_none {Q : Fl → Prop} : Wf none Q ↔ False := ⟨fun ⟨_, e, _⟩ => (nomatch e), fun h => h.elim⟩
@[simp] theorem Wf_ite {c : Prop} [Decidable c] {a b : Option Fl} {Q : Fl → Prop} : Wf (if c then a else b) Q ↔ (c → Wf a Q) ∧ (¬ c → Wf b Q) := by
  by_cases h : c <;> simp [h]
@[simp] theorem Wf_map {a : Option D} {g : D → Fl} {Q : Fl → Prop} : Wf (a.map g) Q ↔ ∃ d, a = some d ∧ Q (g d) := by
  cases a <;> simp
theorem Wf.imp {r : Option Fl} {Q Q' : Fl → Prop} (h : Wf r Q) (k : ∀ fl, Q fl → Q' fl) : Wf r Q' := let ⟨fl, e, q⟩ := h; ⟨fl, e, k fl q⟩
theorem run_of {n : Nat} {b : StF} {ds : List D} {d : D} (h : Wf (b (startC n ds)) fun fl => outF fl = some d) : runF n b ds = some d := by
  obtain ⟨fl, e, q⟩ := h
  rw [runF, e]
  exact q
@[simp] def LQ (Pn : List Cell → Prop) (Q : Fl → Prop) (Bk : List Cell → Prop) : Fl → Prop
  | .nx e => Pn e
  | .ct e => Pn e
  | .rt d => Q (.rt d)
  | .bk e => Bk e
section
variable {α : Type} {it : List Cell → Option (List D)} {t : Tg} {fb : StF} {g : Bx StF} {env : List Cell} {Q : Fl → Prop}
theorem Wf_forV (enc : α → D) (g : StF) (Q : Fl → Prop) : ∀ (l pre : List α) (P : List α → List Cell → Prop) (env : List Cell), P pre env →
    (∀ pre' a post env, pre ++ l = pre' ++ a :: post → P pre' env → Wf ((bindT t (enc a) env).bind fb) (LQ (P (pre' ++ [a])) Q fun e => Wf (g e) Q)) →
    (∀ env, P (pre ++ l) env → Wf (g env) Q) → Wf ((forV t fb (l.map enc) env).bind fun fl => match fl with
      | .nx e => g e
      | fl => some fl) Q
  | [], pre, P, env, h0, _, hk => by
    rw [List.append_nil] at hk
    exact hk env h0
  | a :: l, pre, P, env, h0, hs, hk => by
    obtain ⟨fl, e, q⟩ := hs pre a l env rfl h0
    have e' : pre ++ a :: l = (pre ++ [a]) ++ l := by simp
    rw [List.map_cons, forV]
    cases hb : bindT t (enc a) env with
    | none => rw [hb] at e; cases e
    | some env1 =>
      rw [hb, Option.bind_some] at e
      rw [Option.bind_some, e, Option.bind_some]
      cases fl with
      | nx e1 =>
        rw [e'] at hs hk
        exact Wf_forV enc g Q l (pre ++ [a]) P e1 q hs hk
      | ct e1 =>
        rw [e'] at hs hk
        exact Wf_forV enc g Q l (pre ++ [a]) P e1 q hs hk
      | bk e1 => exact q
      | rt d => exact ⟨_, rfl, q⟩
theorem Wf_fr (enc : α → D) (l : List α) (P : List α → List Cell → Prop) (hit : it env = some (l.map enc)) (h0 : P [] env)
    (hs : ∀ pre a post env, l = pre ++ a :: post → P pre env → Wf (@bd _ _ (bindT t (enc a) env) ⟨fb⟩) (LQ (P (pre ++ [a])) Q fun e => Wf (g.v e) Q))
    (hk : ∀ env, P l env → Wf (g.v env) Q) : Wf (@sQ ⟨fr it t fb⟩ g env) Q := by
  have := Wf_forV (t := t) (fb := fb) enc g.v Q l [] P env h0 (fun pre' a post env e h => hs pre' a post env e h) hk
  simp only [sQ, seqF, fr, forF, hit, Option.bind_some]
  exact this
/-- by the index -/
theorem Wf_fri (enc : α → D) (l : List α) (P : Nat → List Cell → Prop) (hit : it env = some (l.map enc)) (h0 : P 0 env)
    (hs : ∀ i (h : i < l.length) env, P i env → Wf (@bd _ _ (bindT t (enc l[i]) env) ⟨fb⟩) (LQ (P (i + 1)) Q fun e => Wf (g.v e) Q))
    (hk : ∀ env, P l.length env → Wf (g.v env) Q) : Wf (@sQ ⟨fr it t fb⟩ g env) Q := by
  refine Wf_fr enc l (fun pre => P pre.length) hit h0 (fun pre a post env e h => ?_) hk
  have hl : pre.length < l.length := by rw [e]; simp
  have ha : l[pre.length] = a := by subst e; simp
  have := hs pre.length hl env h
  rw [ha] at this
  rw [List.length_append, List.length_singleton]
  exact this
/-- over range(n), from lo on -/
theorem Wf_frr (lo : Int) (n : Nat) (P : Nat → List Cell → Prop) (hit : it env = some (rngD lo n)) (h0 : P 0 env)
    (hs : ∀ i, i < n → ∀ env, P i env → Wf (@bd _ _ (bindT t (.i (lo + (i : Nat))) env) ⟨fb⟩) (LQ (P (i + 1)) Q fun e => Wf (g.v e) Q))
    (hk : ∀ env, P n env → Wf (g.v env) Q) : Wf (@sQ ⟨fr it t fb⟩ g env) Q := by
  refine Wf_fri (fun i : Nat => D.i (lo + (i : Nat))) (List.range n) P hit h0 (fun i h env p => ?_) (by rw [List.length_range]; exact hk)
  rw [List.length_range] at h
  rw [List.getElem_range]
  exact hs i h env p
/-- a while loop: what holds ahead of each test, and what falls -/
theorem Wf_wh {c : List Cell → Option Bool} {n : Nat} (P : Nat → List Cell → Prop) : ∀ (m : Nat), m < n → P m env →
    (∀ m env, P m env → ∃ b, c env = some b ∧ (b = true → Wf (fb env) (LQ (fun e => ∃ m', m' < m ∧ P m' e) Q fun e => Wf (g.v e) Q)) ∧ (b = false → Wf (g.v env) Q)) → Wf (@sQ ⟨wh c fb n⟩ g env) Q := by
  have go : ∀ (n m : Nat) (env : List Cell), m < n → P m env → (∀ m env, P m env → ∃ b, c env = some b ∧ (b = true → Wf (fb env) (LQ (fun e => ∃ m', m' < m ∧ P m' e) Q fun e => Wf (g.v e) Q)) ∧ (b = false → Wf (g.v env) Q)) → Wf ((whileV c fb n env).bind fun fl => match fl with
      | .nx e => g.v e
      | fl => some fl) Q := by
    intro n
    induction n with
    | zero => intro m env h; omega
    | succ n ih =>
      intro m env hm hp hs
      obtain ⟨b, e1, e2, e3⟩ := hs m env hp
      rw [whileV, e1, Option.bind_some]
      cases b with
      | false => simpa using e3 rfl
      | true =>
        obtain ⟨fl, e4, q⟩ := e2 rfl
        rw [if_pos rfl, e4, Option.bind_some]
        cases fl with
        | nx e =>
          obtain ⟨m', h1, h2⟩ := q
          exact ih m' e (by omega) h2 hs
        | ct e =>
          obtain ⟨m', h1, h2⟩ := q
          exact ih m' e (by omega) h2 hs
        | bk e => exact q
        | rt d => exact ⟨_, rfl, q⟩
  intro m hm hp hs
  exact go n m env hm hp hs
end

/-- some cells stored anew -/
@[simp] def setS (env : List Cell) : List Nat → (Nat → Cell) → List Cell
  | [], _ => env
  | i :: r, c => (setS env r c).set i (c i)
theorem setS_len (env : List Cell) (c : Nat → Cell) : ∀ is, (setS env is c).length = env.length
  | [] => rfl
  | i :: r => by rw [setS, List.length_set, setS_len env c r]
theorem setS_get (env : List Cell) (c : Nat → Cell) (j : Nat) : ∀ is, (setS env is c)[j]? = if j ∈ is ∧ j < env.length then some (c j) else env[j]?
  | [] => by simp
  | i :: r => by
    rw [setS, List.getElem?_set, setS_len, setS_get env c j r]
    by_cases e : i = j
    · subst e
      by_cases h : i < env.length
      · simp [h]
      · simp [h, List.getElem?_eq_none (show env.length ≤ i by omega)]
    · have e' : ¬ j = i := fun z => e z.symm
      simp [e, e']
theorem wipe_set (env : List Cell) : ∀ is, wipeC env is = setS env is fun _ => .no
  | [] => rfl
  | i :: r => by rw [wipeC, setS, wipe_set env r]
theorem stale_ex {env env' : List Cell} {is : List Nat} (h : wipeC env' is = wipeC env is) : ∃ c, env' = setS env is c := by
  refine ⟨fun i => env'.getD i .no, List.ext_getElem? fun j => ?_⟩
  rw [wipe_set, wipe_set] at h
  have hl : env'.length = env.length := by
    have := congrArg List.length h
    rwa [setS_len, setS_len] at this
  have hj := congrArg (·[j]?) h
  simp only [setS_get] at hj
  rw [setS_get]
  by_cases m : j ∈ is
  · by_cases l : j < env.length
    · rw [if_pos ⟨m, l⟩]
      simp [List.getD, show j < env'.length by omega]
    · rw [if_neg fun z => l z.2, List.getElem?_eq_none (by omega), List.getElem?_eq_none (by omega)]
  · rw [if_neg fun z => m z.1, if_neg fun z => m z.1] at hj
    rw [if_neg fun z => m z.1, hj]
section
variable {α : Type} {it : List Cell → Option (List D)} {t : Tg} {fb : StF} {g : Bx StF} {env : List Cell} {Q : Fl → Prop}
/-- a loop that stores nothing of which anything comes -/
theorem Wf_frs (is : List Nat) (enc : α → D) (l : List α) (hit : it env = some (l.map enc))
    (hs : ∀ a ∈ l, ∀ c : Nat → Cell, Wf (@bd _ _ (bindT t (enc a) (setS env is c)) ⟨fb⟩) (LQ (fun e => wipeC e is = wipeC env is) Q fun e => Wf (g.v e) Q))
    (hk : ∀ c : Nat → Cell, Wf (g.v (setS env is c)) Q) : Wf (@sQ ⟨fr it t fb⟩ g env) Q := by
  refine Wf_fr enc l (fun _ e => wipeC e is = wipeC env is) hit rfl (fun pre a post e he h => ?_) fun e h => ?_
  · obtain ⟨c, rfl⟩ := stale_ex h
    exact hs a (by rw [he]; simp) c
  · obtain ⟨c, rfl⟩ := stale_ex h
    exact hk c
/-- .. with a fact that grows -/
theorem Wf_frp (is : List Nat) (enc : α → D) (l : List α) (P : List α → Prop) (hit : it env = some (l.map enc)) (h0 : P [])
    (hs : ∀ pre a post, l = pre ++ a :: post → P pre → ∀ c : Nat → Cell, Wf (@bd _ _ (bindT t (enc a) (setS env is c)) ⟨fb⟩) (LQ (fun e => P (pre ++ [a]) ∧ wipeC e is = wipeC env is) Q fun e => Wf (g.v e) Q))
    (hk : P l → ∀ c : Nat → Cell, Wf (g.v (setS env is c)) Q) : Wf (@sQ ⟨fr it t fb⟩ g env) Q := by
  refine Wf_fr enc l (fun pre e => P pre ∧ wipeC e is = wipeC env is) hit ⟨h0, rfl⟩ (fun pre a post e he h => ?_) fun e h => ?_
  · obtain ⟨c, rfl⟩ := stale_ex h.2
    exact hs pre a post he h.1 c
  · obtain ⟨c, rfl⟩ := stale_ex h.2
    exact hk h.1 c
end

/-! ### comprehensions over mapped lists -/
def compM {α : Type} (p : α → Option Bool) (g : α → Option D) : List α → Option (List D)
  | [] => some []
  | a :: l => (p a).bind fun c => if c = true then (g a).bind fun y => (compM p g l).bind fun ys => some (y :: ys) else compM p g l
section
variable {α : Type} {t : Tg} {ft : List Cell → Option Bool} {f : EvF} {env : List Cell}
theorem compD_M (enc : α → D) (l : List α) : compD t ft f env (l.map enc) = compM (fun a => (bindT t (enc a) env).bind ft) (fun a => (bindT t (enc a) env).bind f) l := by
  induction l with
  | nil => rfl
  | cons a l ih =>
    rw [List.map_cons, compD, compM, ← ih]
    cases h : bindT t (enc a) env with
    | none => rfl
    | some env1 => rfl
theorem compM_congr {p q : α → Option Bool} {g h : α → Option D} {l : List α} (h1 : ∀ a ∈ l, p a = q a) (h2 : ∀ a ∈ l, q a = some true → g a = h a) : compM p g l = compM q h l := by
  induction l with
  | nil => rfl
  | cons a l ih =>
    rw [compM, compM, h1 a List.mem_cons_self, ih (fun b hb => h1 b (List.mem_cons_of_mem _ hb)) fun b hb => h2 b (List.mem_cons_of_mem _ hb)]
    have := h2 a List.mem_cons_self
    cases hq : q a with
    | none => rfl
    | some c =>
      cases c with
      | false => rfl
      | true => rw [this hq]
theorem compM_some (p : α → Bool) (g : α → D) (l : List α) : compM (fun a => some (p a)) (fun a => some (g a)) l = some ((l.filter p).map g) := by
  induction l with
  | nil => rfl
  | cons a l ih =>
    rw [compM, ih]
    cases h : p a <;> simp [h]
@[simp] theorem compM_tt (g : α → D) (l : List α) : compM (fun _ => some true) (fun a => some (g a)) l = some (l.map g) := by
  have := compM_some (fun _ => true) g l
  rw [this, List.filter_eq_self.mpr fun _ _ => rfl]
/-- with what is known of the members -/
theorem compM_eq {p : α → Option Bool} {g : α → Option D} {l : List α} (q : α → Bool) (h : α → D) (h1 : ∀ a ∈ l, p a = some (q a)) (h2 : ∀ a ∈ l, q a = true → g a = some (h a)) : compM p g l = some ((l.filter q).map h) := by
  rw [← compM_some]
  exact compM_congr h1 fun a ha e => h2 a ha (by cases e' : q a with | true => rfl | false => rw [e'] at e; cases e)
theorem compM_all {p : α → Option Bool} {g : α → Option D} {l : List α} (h : α → D) (h1 : ∀ a ∈ l, p a = some true) (h2 : ∀ a ∈ l, g a = some (h a)) : compM p g l = some (l.map h) := by
  rw [compM_eq (fun _ => true) h h1 fun a ha _ => h2 a ha, List.filter_eq_self.mpr fun _ _ => rfl]
/-- two clauses -/
def comp2M (p : α → Option Bool) (g : α → Option (List D)) : List α → Option (List D)
  | [] => some []
  | a :: l => (p a).bind fun c => if c = true then (g a).bind fun y => (comp2M p g l).bind fun ys => some (y ++ ys) else comp2M p g l
theorem compD2_M {fs1 : List Cell → Option (List D)} {t1 : Tg} {ft1 : List Cell → Option Bool} {vs1 : List Nat} (enc : α → D) (l : List α) : compD2 t ft fs1 t1 ft1 f vs1 env (l.map enc) = comp2M (fun a => (bindT t (enc a) env).bind ft) (fun a => (bindT t (enc a) env).bind fun env1 => (fs1 env1).bind fun ds1 => compD t1 ft1 f (wipeC env1 vs1) ds1) l := by
  induction l with
  | nil => rfl
  | cons a l ih =>
    rw [List.map_cons, compD2, comp2M, ← ih]
    cases h : bindT t (enc a) env with
    | none => rfl
    | some env1 =>
      simp only [Option.bind_some]
      cases ft env1 with
      | none => rfl
      | some c =>
        cases c
        · rfl
        · simp only [if_true, Option.bind_some]
          cases fs1 env1 <;> rfl
theorem comp2M_eq {p : α → Option Bool} {g : α → Option (List D)} {l : List α} (q : α → Bool) (h : α → List D) (h1 : ∀ a ∈ l, p a = some (q a)) (h2 : ∀ a ∈ l, q a = true → g a = some (h a)) : comp2M p g l = some ((l.filter q).flatMap h) := by
  induction l with
  | nil => rfl
  | cons a l ih =>
    rw [comp2M, ih (fun b hb => h1 b (List.mem_cons_of_mem _ hb)) fun b hb => h2 b (List.mem_cons_of_mem _ hb), h1 a List.mem_cons_self]
    have := h2 a List.mem_cons_self
    cases hq : q a with
    | false => simp [hq]
    | true => rw [this hq]; simp [hq]
theorem comp2M_all {p : α → Option Bool} {g : α → Option (List D)} {l : List α} (h : α → List D) (h1 : ∀ a ∈ l, p a = some true) (h2 : ∀ a ∈ l, g a = some (h a)) : comp2M p g l = some (l.flatMap h) := by
  rw [comp2M_eq (fun _ => true) h h1 fun a ha _ => h2 a ha, List.filter_eq_self.mpr fun _ _ => rfl]
end

/-! ### displays -/
def mkT (xs : List D) : Option D := if xs.length ≤ SZ then some (.t xs) else none
def mkL (xs : List D) : Option D := if xs.length ≤ SZ then some (.l xs) else none
theorem mkT_ok {xs : List D} (h : xs.length ≤ SZ) : mkT xs = some (.t xs) := if_pos h
theorem mkL_ok {xs : List D} (h : xs.length ≤ SZ) : mkL xs = some (.l xs) := if_pos h
theorem sz_le {n : Nat} (h : n ≤ 1000000) : n ≤ SZ := by unfold SZ; omega
section
variable {a b c d e f : D}
@[simp] theorem mkT_0 : mkT [] = some (.t []) := mkT_ok (sz_le (by simp))
@[simp] theorem mkT_1 : mkT [a] = some (.t [a]) := mkT_ok (sz_le (by simp))
@[simp] theorem mkT_2 : mkT [a, b] = some (.t [a, b]) := mkT_ok (sz_le (by simp))
@[simp] theorem mkT_3 : mkT [a, b, c] = some (.t [a, b, c]) := mkT_ok (sz_le (by simp))
@[simp] theorem mkT_4 : mkT [a, b, c, d] = some (.t [a, b, c, d]) := mkT_ok (sz_le (by simp))
@[simp] theorem mkT_5 : mkT [a, b, c, d, e] = some (.t [a, b, c, d, e]) := mkT_ok (sz_le (by simp))
@[simp] theorem mkL_0 : mkL [] = some (.l []) := mkL_ok (sz_le (by simp))
@[simp] theorem mkL_1 : mkL [a] = some (.l [a]) := mkL_ok (sz_le (by simp))
@[simp] theorem mkL_2 : mkL [a, b] = some (.l [a, b]) := mkL_ok (sz_le (by simp))
@[simp] theorem mkL_3 : mkL [a, b, c] = some (.l [a, b, c]) := mkL_ok (sz_le (by simp))
@[simp] theorem mkL_4 : mkL [a, b, c, d] = some (.l [a, b, c, d]) := mkL_ok (sz_le (by simp))
@[simp] theorem mkL_5 : mkL [a, b, c, d, e] = some (.l [a, b, c, d, e]) := mkL_ok (sz_le (by simp))
end
@[simp] theorem mkT_6 {a b c d e f : D} : mkT [a, b, c, d, e, f] = some (.t [a, b, c, d, e, f]) := mkT_ok (sz_le (by simp))
@[simp] theorem mkL_6 {a b c d e f : D} : mkL [a, b, c, d, e, f] = some (.l [a, b, c, d, e, f]) := mkL_ok (sz_le (by simp))
@[simp] theorem mkT_7 {a b c d e f g : D} : mkT [a, b, c, d, e, f, g] = some (.t [a, b, c, d, e, f, g]) := mkT_ok (sz_le (by simp))
@[simp] theorem mkL_7 {a b c d e f g : D} : mkL [a, b, c, d, e, f, g] = some (.l [a, b, c, d, e, f, g]) := mkL_ok (sz_le (by simp))
@[simp] theorem mkT_8 {a b c d e f g h : D} : mkT [a, b, c, d, e, f, g, h] = some (.t [a, b, c, d, e, f, g, h]) := mkT_ok (sz_le (by simp))
@[simp] theorem mkL_8 {a b c d e f g h : D} : mkL [a, b, c, d, e, f, g, h] = some (.l [a, b, c, d, e, f, g, h]) := mkL_ok (sz_le (by simp))
@[simp] theorem mkT_9 {a b c d e f g h i : D} : mkT [a, b, c, d, e, f, g, h, i] = some (.t [a, b, c, d, e, f, g, h, i]) := mkT_ok (sz_le (by simp))
@[simp] theorem mkL_9 {a b c d e f g h i : D} : mkL [a, b, c, d, e, f, g, h, i] = some (.l [a, b, c, d, e, f, g, h, i]) := mkL_ok (sz_le (by simp))
@[simp] theorem mkT_10 {a b c d e f g h i j : D} : mkT [a, b, c, d, e, f, g, h, i, j] = some (.t [a, b, c, d, e, f, g, h, i, j]) := mkT_ok (sz_le (by simp))
@[simp] theorem mkL_10 {a b c d e f g h i j : D} : mkL [a, b, c, d, e, f, g, h, i, j] = some (.l [a, b, c, d, e, f, g, h, i, j]) := mkL_ok (sz_le (by simp))
def tupW (f : List Cell → Option (List D)) : EvF := tupV f
def lstW (f : List Cell → Option (List D)) : EvF := lstV f
@[simp] theorem tupW_e (f : List Cell → Option (List D)) (env : List Cell) : tupW f env = (f env).bind mkT := rfl
@[simp] theorem lstW_e (f : List Cell → Option (List D)) (env : List Cell) : lstW f env = (f env).bind mkL := rfl
def lcW (fs : List Cell → Option (List D)) (t : Tg) (ft : List Cell → Option Bool) (f : EvF) (vs : List Nat) : EvF := lcV fs t ft f vs
@[simp] theorem lcW_e (fs : List Cell → Option (List D)) (t : Tg) (ft : List Cell → Option Bool) (f : EvF) (vs : List Nat) (env : List Cell) : lcW fs t ft f vs env = (fs env).bind fun ds => (compD t ft f (wipeC env vs) ds).bind mkL := rfl
def lcW2 (fs : List Cell → Option (List D)) (t : Tg) (ft : List Cell → Option Bool) (fs1 : List Cell → Option (List D)) (t1 : Tg) (ft1 : List Cell → Option Bool) (f : EvF) (vs : List Nat) : EvF := lcV2 fs t ft fs1 t1 ft1 f vs
@[simp] theorem lcW2_e (fs : List Cell → Option (List D)) (t : Tg) (ft : List Cell → Option Bool) (fs1 : List Cell → Option (List D)) (t1 : Tg) (ft1 : List Cell → Option Bool) (f : EvF) (vs : List Nat) (env : List Cell) :
    lcW2 fs t ft fs1 t1 ft1 f vs env = (fs env).bind fun ds => (compD2 t ft fs1 t1 ft1 f t1.slots (wipeC env vs) ds).bind mkL := rfl
theorem mkL_map {α : Type} {g : α → D} {l : List α} (h : l.length ≤ SZ) : mkL (l.map g) = some (.l (l.map g)) := mkL_ok (by simpa using h)
theorem mkL_fmap {α : Type} {g : α → D} {p : α → Bool} {l : List α} (h : l.length ≤ SZ) : mkL ((l.filter p).map g) = some (.l ((l.filter p).map g)) := mkL_ok (by
  have := List.length_filter_le p l
  simp; omega)

/-! ### equality, membership -/
def eqE (a b : D) : Option D := eqqD a b
def neE (a b : D) : Option D := neqD a b
def inE (a b : D) : Option D := inD a b
def niE (a b : D) : Option D := ninD a b
def muE (a b : D) : Option D := mulD a b
def muF (a b : D) : Option D := mulLD a b
def fdE (a b : D) : Option D := fdivD a b
def moE (a b : D) : Option D := modD a b
def poE (a b : D) : Option D := powD a b
def adE (a b : D) : Option D := addD a b
@[simp] theorem adE_i (x y : Int) : adE (.i x) (.i y) = some (.i (x + y)) := rfl
theorem adE_t {xs ys : List D} (h : xs.length + ys.length ≤ SZ) : adE (.t xs) (.t ys) = some (.t (xs ++ ys)) := if_pos h
theorem adE_l {xs ys : List D} (h : xs.length + ys.length ≤ SZ) : adE (.l xs) (.l ys) = some (.l (xs ++ ys)) := if_pos h
theorem adE_l' {xs ys : List D} (h : xs.length + ys.length ≤ 1000000) : adE (.l xs) (.l ys) = some (.l (xs ++ ys)) := adE_l (sz_le h)
theorem adE_t' {xs ys : List D} (h : xs.length + ys.length ≤ 1000000) : adE (.t xs) (.t ys) = some (.t (xs ++ ys)) := adE_t (sz_le h)
theorem mkL_map' {α : Type} {g : α → D} {l : List α} (h : l.length ≤ 1000000) : mkL (l.map g) = some (.l (l.map g)) := mkL_map (sz_le h)
theorem muE_r {x y : Int} (h : smallI y = true) : muE (.i x) (.i y) = some (.i (x * y)) := mul_r h
theorem muE_l {x y : Int} (h : smallI x = true) : muE (.i x) (.i y) = some (.i (x * y)) := mul_l h
theorem moE_ok {x y : Int} (h : 0 < y) : moE (.i x) (.i y) = some (.i (x % y)) := if_pos h
theorem fdE_ok {x y : Int} (h : 0 < y) (h2 : y < 1000000000000) : fdE (.i x) (.i y) = some (.i (x / y)) := if_pos ⟨h, absLe_of (by omega)⟩
theorem poE_ok {x y : Int} (h : 0 ≤ y) (h1 : y < 1000000) (h2 : smallI x = true) : poE (.i x) (.i y) = some (.i (x ^ y.toNat)) := if_pos ⟨h, absLe_of (by omega), h2⟩
/-- no bools, no ranges; not deep -/
abbrev Nb (d : D) : Prop := nbD 8 d = true
@[simp] theorem nb8_i (x : Int) : nbD 8 (.i x) = true := rfl
@[simp] theorem nb8_n : nbD 8 .n = true := rfl
@[simp] theorem nb8_t (xs : List D) : nbD 8 (.t xs) = xs.all (nbD 7) := rfl
@[simp] theorem nb8_l (xs : List D) : nbD 8 (.l xs) = xs.all (nbD 7) := rfl
@[simp] theorem nb7_i (x : Int) : nbD 7 (.i x) = true := rfl
@[simp] theorem nb7_n : nbD 7 .n = true := rfl
@[simp] theorem nb7_t (xs : List D) : nbD 7 (.t xs) = xs.all (nbD 6) := rfl
@[simp] theorem nb7_l (xs : List D) : nbD 7 (.l xs) = xs.all (nbD 6) := rfl
@[simp] theorem nb6_i (x : Int) : nbD 6 (.i x) = true := rfl
@[simp] theorem nb6_n : nbD 6 .n = true := rfl
@[simp] theorem nb6_t (xs : List D) : nbD 6 (.t xs) = xs.all (nbD 5) := rfl
@[simp] theorem nb6_l (xs : List D) : nbD 6 (.l xs) = xs.all (nbD 5) := rfl
@[simp] theorem nb5_i (x : Int) : nbD 5 (.i x) = true := rfl
@[simp] theorem nb5_n : nbD 5 .n = true := rfl
@[simp] theorem nb5_t (xs : List D) : nbD 5 (.t xs) = xs.all (nbD 4) := rfl
@[simp] theorem nb5_l (xs : List D) : nbD 5 (.l xs) = xs.all (nbD 4) := rfl
@[simp] theorem nb4_i (x : Int) : nbD 4 (.i x) = true := rfl
@[simp] theorem nb4_n : nbD 4 .n = true := rfl
theorem ok_mono : ∀ (k : Nat) (d : D), okD k d = true → okD (k + 1) d = true
  | _, .n, _ => rfl
  | _, .b _, _ => rfl
  | _, .i _, _ => rfl
  | k, .s x, h => by cases k <;> exact h
  | 0, .t _, h => by cases h
  | 0, .l _, h => by cases h
  | k + 1, .t xs, h => by
    have h : xs.all (okD k) = true := h
    show xs.all (okD (k + 1)) = true
    rw [List.all_eq_true] at h ⊢
    exact fun x hx => ok_mono k x (h x hx)
  | k + 1, .l xs, h => by
    have h : xs.all (okD k) = true := h
    show xs.all (okD (k + 1)) = true
    rw [List.all_eq_true] at h ⊢
    exact fun x hx => ok_mono k x (h x hx)
  | k, .r _ _, h => by cases k <;> cases h
  | k, .z _, h => by cases k <;> cases h
  | k, .d _ _, h => by cases k <;> cases h
theorem ok_DP {d : D} (h : nbD 8 d = true) : okD DP d = true := by
  have := ok_of_nb 8 d h
  have go : ∀ m, okD (8 + m) d = true := by
    intro m
    induction m with
    | zero => exact this
    | succ m ih => exact ok_mono _ d ih
  exact go 12
theorem ok_DP7 {d : D} (h : nbD 7 d = true) : okD 19 d = true := by
  have := ok_of_nb 7 d h
  have go : ∀ m, okD (7 + m) d = true := by
    intro m
    induction m with
    | zero => exact this
    | succ m ih => exact ok_mono _ d ih
  exact go 12
theorem eqE_nb {x y : D} (hx : nbD 8 x = true) (hy : nbD 8 y = true) : eqE x y = some (.b (decide (x = y))) := eqq_nb (by omega) hx hy (ok_DP hx) (ok_DP hy)
theorem neE_nb {x y : D} (hx : nbD 8 x = true) (hy : nbD 8 y = true) : neE x y = some (.b (!decide (x = y))) := by
  rw [neE, neqD, ok_DP hx, ok_DP hy, eqD_nb 8 _ _ hx hy]; rfl
@[simp] theorem eqE_i (x y : Int) : eqE (.i x) (.i y) = some (.b (decide (x = y))) := eqq_i x y
@[simp] theorem neE_i (x y : Int) : neE (.i x) (.i y) = some (.b (!decide (x = y))) := neq_i x y
theorem eqE_s {x y : Str} (hx : PyData.canLay0 (.str x) = true) (hy : PyData.canLay0 (.str y) = true) : eqE (.s x) (.s y) = some (.b (decide (x = y))) := eqq_s hx hy
theorem neE_s {x y : Str} (hx : PyData.canLay0 (.str x) = true) (hy : PyData.canLay0 (.str y) = true) : neE (.s x) (.s y) = some (.b (!decide (x = y))) := by rw [neE, neqD, ok_s hx, ok_s hy, eq_s hx hy]; rfl
@[simp] theorem eqE_b (x y : Bool) : eqE (.b x) (.b y) = some (.b (x == y)) := eqq_b x y
@[simp] theorem neE_b (x y : Bool) : neE (.b x) (.b y) = some (.b (x != y)) := neq_b x y
theorem any_eqD {xs : List D} {a : D} (hx : xs.all (nbD 8) = true) (ha : nbD 8 a = true) : (xs.any fun x => eqD x a) = decide (a ∈ xs) := by
  induction xs with
  | nil => rfl
  | cons x xs ih =>
    rw [List.all_cons, Bool.and_eq_true] at hx
    rw [List.any_cons, ih hx.2, eqD_nb 8 _ _ hx.1 ha]
    by_cases h : a = x
    · simp [h]
    · have h' : ¬ x = a := fun e => h e.symm
      simp [h, h']
theorem nb_mono : ∀ (k : Nat) (d : D), nbD k d = true → nbD (k + 1) d = true
  | _, .n, _ => rfl
  | k, .b _, h => by cases k <;> cases h
  | _, .i _, _ => rfl
  | k, .s x, h => by cases k <;> exact h
  | 0, .t _, h => by cases h
  | 0, .l _, h => by cases h
  | k + 1, .t xs, h => by
    have h : xs.all (nbD k) = true := h
    show xs.all (nbD (k + 1)) = true
    rw [List.all_eq_true] at h ⊢
    exact fun x hx => nb_mono k x (h x hx)
  | k + 1, .l xs, h => by
    have h : xs.all (nbD k) = true := h
    show xs.all (nbD (k + 1)) = true
    rw [List.all_eq_true] at h ⊢
    exact fun x hx => nb_mono k x (h x hx)
  | k, .r _ _, h => by cases k <;> cases h
  | k, .z _, h => by cases k <;> cases h
  | k, .d _ _, h => by cases k <;> cases h
theorem all8 {xs : List D} (h : xs.all (nbD 7) = true) : xs.all (nbD 8) = true := by
  rw [List.all_eq_true] at h ⊢
  exact fun x hx => nb_mono 7 x (h x hx)
theorem inE_l {a : D} {xs : List D} (ha : nbD 8 a = true) (hx : xs.all (nbD 7) = true) : inE a (.l xs) = some (.b (decide (a ∈ xs))) := by
  have e : okD DP (.l xs) = true := ok_DP (d := .l xs) hx
  rw [inE, inD, ok_DP ha, e, any_eqD (all8 hx) ha]; rfl
theorem inE_t {a : D} {xs : List D} (ha : nbD 8 a = true) (hx : xs.all (nbD 7) = true) : inE a (.t xs) = some (.b (decide (a ∈ xs))) := by
  have e : okD DP (.t xs) = true := ok_DP (d := .t xs) hx
  rw [inE, inD, ok_DP ha, e, any_eqD (all8 hx) ha]; rfl
theorem niE_l {a : D} {xs : List D} (ha : nbD 8 a = true) (hx : xs.all (nbD 7) = true) : niE a (.l xs) = some (.b (!decide (a ∈ xs))) := by
  have e : okD DP (.l xs) = true := ok_DP (d := .l xs) hx
  rw [niE, ninD, ok_DP ha, e, any_eqD (all8 hx) ha]; rfl
theorem niE_t {a : D} {xs : List D} (ha : nbD 8 a = true) (hx : xs.all (nbD 7) = true) : niE a (.t xs) = some (.b (!decide (a ∈ xs))) := by
  have e : okD DP (.t xs) = true := ok_DP (d := .t xs) hx
  rw [niE, ninD, ok_DP ha, e, any_eqD (all8 hx) ha]; rfl
theorem map_i_iff {a b : List Int} : a.map D.i = b.map D.i ↔ a = b := ⟨fun h => by
  induction a generalizing b with
  | nil => cases b with | nil => rfl | cons y b => cases h
  | cons x a ih => cases b with
    | nil => cases h
    | cons y b =>
      rw [List.map_cons, List.map_cons, List.cons.injEq] at h
      rw [D.i.inj h.1, ih h.2], fun h => by rw [h]⟩
theorem map_inj {α : Type} {enc : α → D} (hi : ∀ a b, enc a = enc b → a = b) {a b : List α} : a.map enc = b.map enc ↔ a = b := ⟨fun h => by
  induction a generalizing b with
  | nil => cases b with | nil => rfl | cons y b => cases h
  | cons x a ih => cases b with
    | nil => cases h
    | cons y b =>
      rw [List.map_cons, List.map_cons, List.cons.injEq] at h
      rw [hi _ _ h.1, ih h.2], fun h => by rw [h]⟩
theorem nb_ints (k : Nat) (l : List Int) : (l.map D.i).all (nbD k) = true := by
  rw [List.all_eq_true]
  intro x hx
  obtain ⟨y, _, rfl⟩ := List.mem_map.mp hx
  exact nb_i k y

/-! ### operations at constructors -/
@[simp] theorem ixD_t (xs : List D) (k : Int) : ixD (.t xs) (.i k) = atI xs k := rfl
@[simp] theorem ixD_l (xs : List D) (k : Int) : ixD (.l xs) (.i k) = atI xs k := rfl
@[simp] theorem ixD_z (xs : List D) (k : Int) : ixD (.z xs) (.i k) = atI xs k := rfl
@[simp] theorem seqD_t (xs : List D) : seqD (.t xs) = some xs := rfl
@[simp] theorem seqD_l (xs : List D) : seqD (.l xs) = some xs := rfl
@[simp] theorem walkD_t (xs : List D) : walkD (.t xs) = some xs := rfl
@[simp] theorem walkD_l (xs : List D) : walkD (.l xs) = some xs := rfl
@[simp] theorem walkD_r (lo hi : Int) : walkD (.r lo hi) = if (smI lo && smI hi) = true then some (rngD lo (hi - lo).toNat) else none := rfl
@[simp] theorem lenD_t (xs : List D) : lenD [.t xs] = some (.i xs.length) := rfl
@[simp] theorem lenD_l (xs : List D) : lenD [.l xs] = some (.i xs.length) := rfl
@[simp] theorem lenD_z (xs : List D) : lenD [.z xs] = some (.i xs.length) := rfl
@[simp] theorem fLt_e (x y : Int) : fLt x y = decide (x < y) := rfl
@[simp] theorem fLe_e (x y : Int) : fLe x y = decide (x ≤ y) := rfl
@[simp] theorem fGt_e (x y : Int) : fGt x y = decide (y < x) := rfl
@[simp] theorem fGe_e (x y : Int) : fGe x y = decide (y ≤ x) := rfl
@[simp] theorem maxD_2 (x y : Int) : maxD [.i x, .i y] = some (.i (if y > x then y else x)) := rfl
@[simp] theorem minD_2 (x y : Int) : minD [.i x, .i y] = some (.i (if y < x then y else x)) := rfl
/-! ### the calls of a program -/
abbrev Cf := Nat → Str → List D → Option D
abbrev Fm := (Str → List D → Option D) → List D → Option D
def Sh (C : Cf) (f : Str) (S : Fm) : Prop := ∀ k, C (k + 1) f = S (C k)
theorem Sh.run {C : Cf} {f : Str} {S : Fm} (h : Sh C f S) {k : Nat} {xs : List D} {d : D} (e : S (C k) xs = some d) : C (k + 1) f xs = some d := by rw [h k]; exact e
end PL
/-! PL y: the shared defs at any data. -/
namespace PL
open PySem PySem.Spec PyProof.Rows L2

/-- no range, no script at the top -/
def calm : D → Bool
  | .r _ _ => false
  | .z _ => false
  | .d _ _ => false
  | _ => true
def isSq : D → Bool
  | .t _ => true
  | .l _ => true
  | _ => false
def isTu : D → Bool
  | .t _ => true
  | _ => false
def isIn : D → Bool
  | .i _ => true
  | _ => false
def isBo : D → Bool
  | .b _ => true
  | _ => false
def isSt : D → Bool
  | .s _ => true
  | _ => false
/-- a sequence's members -/
def mem : D → List D
  | .t xs => xs
  | .l xs => xs
  | _ => []
def longB (d : D) (lo hi : Int) : Bool := isSq d && (decide (lo ≤ (mem d).length) && decide (((mem d).length : Int) ≤ hi))
def fromB (d : D) (lo hi : Int) : Bool := match d with
  | .i x => decide (lo ≤ x) && decide (x ≤ hi)
  | _ => false
@[simp] theorem calm_n : calm .n = true := rfl
@[simp] theorem calm_b (x : Bool) : calm (.b x) = true := rfl
@[simp] theorem calm_i (x : Int) : calm (.i x) = true := rfl
@[simp] theorem calm_s (x : Str) : calm (.s x) = true := rfl
@[simp] theorem calm_t (x : List D) : calm (.t x) = true := rfl
@[simp] theorem calm_l (x : List D) : calm (.l x) = true := rfl
@[simp] theorem calm_z (x : List D) : calm (.z x) = false := rfl
@[simp] theorem calm_d (x y : List D) : calm (.d x y) = false := rfl
@[simp] theorem isSq_n : isSq .n = false := rfl
@[simp] theorem isSq_b (x : Bool) : isSq (.b x) = false := rfl
@[simp] theorem isSq_i (x : Int) : isSq (.i x) = false := rfl
@[simp] theorem isSq_s (x : Str) : isSq (.s x) = false := rfl
@[simp] theorem isSq_t (x : List D) : isSq (.t x) = true := rfl
@[simp] theorem isSq_l (x : List D) : isSq (.l x) = true := rfl
@[simp] theorem isTu_n : isTu .n = false := rfl
@[simp] theorem isTu_b (x : Bool) : isTu (.b x) = false := rfl
@[simp] theorem isTu_i (x : Int) : isTu (.i x) = false := rfl
@[simp] theorem isTu_s (x : Str) : isTu (.s x) = false := rfl
@[simp] theorem isTu_t (x : List D) : isTu (.t x) = true := rfl
@[simp] theorem isTu_l (x : List D) : isTu (.l x) = false := rfl
@[simp] theorem isIn_n : isIn .n = false := rfl
@[simp] theorem isIn_b (x : Bool) : isIn (.b x) = false := rfl
@[simp] theorem isIn_i (x : Int) : isIn (.i x) = true := rfl
@[simp] theorem isIn_s (x : Str) : isIn (.s x) = false := rfl
@[simp] theorem isIn_t (x : List D) : isIn (.t x) = false := rfl
@[simp] theorem isIn_l (x : List D) : isIn (.l x) = false := rfl
@[simp] theorem isBo_n : isBo .n = false := rfl
@[simp] theorem isBo_b (x : Bool) : isBo (.b x) = true := rfl
@[simp] theorem isBo_i (x : Int) : isBo (.i x) = false := rfl
@[simp] theorem isBo_s (x : Str) : isBo (.s x) = false := rfl
@[simp] theorem isBo_t (x : List D) : isBo (.t x) = false := rfl
@[simp] theorem isBo_l (x : List D) : isBo (.l x) = false := rfl
@[simp] theorem isSt_n : isSt .n = false := rfl
@[simp] theorem isSt_b (x : Bool) : isSt (.b x) = false := rfl
@[simp] theorem isSt_i (x : Int) : isSt (.i x) = false := rfl
@[simp] theorem isSt_s (x : Str) : isSt (.s x) = true := rfl
@[simp] theorem isSt_t (x : List D) : isSt (.t x) = false := rfl
@[simp] theorem isSt_l (x : List D) : isSt (.l x) = false := rfl
@[simp] theorem mem_n : mem .n = [] := rfl
@[simp] theorem fromB_n (lo hi : Int) : fromB .n lo hi = false := rfl
@[simp] theorem longB_n (lo hi : Int) : longB .n lo hi = false := rfl
@[simp] theorem mem_b (x : Bool) : mem (.b x) = [] := rfl
@[simp] theorem fromB_b (x : Bool) (lo hi : Int) : fromB (.b x) lo hi = false := rfl
@[simp] theorem longB_b (x : Bool) (lo hi : Int) : longB (.b x) lo hi = false := rfl
@[simp] theorem mem_i (x : Int) : mem (.i x) = [] := rfl
@[simp] theorem longB_i (x : Int) (lo hi : Int) : longB (.i x) lo hi = false := rfl
@[simp] theorem mem_s (x : Str) : mem (.s x) = [] := rfl
@[simp] theorem fromB_s (x : Str) (lo hi : Int) : fromB (.s x) lo hi = false := rfl
@[simp] theorem longB_s (x : Str) (lo hi : Int) : longB (.s x) lo hi = false := rfl
@[simp] theorem mem_t (x : List D) : mem (.t x) = x := rfl
@[simp] theorem fromB_t (x : List D) (lo hi : Int) : fromB (.t x) lo hi = false := rfl
@[simp] theorem mem_l (x : List D) : mem (.l x) = x := rfl
@[simp] theorem fromB_l (x : List D) (lo hi : Int) : fromB (.l x) lo hi = false := rfl
@[simp] theorem fromB_i (x lo hi : Int) : fromB (.i x) lo hi = (decide (lo ≤ x) && decide (x ≤ hi)) := rfl
@[simp] theorem longB_t (x : List D) (lo hi : Int) : longB (.t x) lo hi = (decide (lo ≤ x.length) && decide ((x.length : Int) ≤ hi)) := rfl
@[simp] theorem longB_l (x : List D) (lo hi : Int) : longB (.l x) lo hi = (decide (lo ≤ x.length) && decide ((x.length : Int) ≤ hi)) := rfl
def ndx (d : D) (i : Nat) : D := (mem d).getD i .n
@[simp] theorem nth_t0 (a : D) (xs : List D) : ndx (.t (a :: xs)) 0 = a := rfl
@[simp] theorem nth_t1 (a b : D) (xs : List D) : ndx (.t (a :: b :: xs)) 1 = b := rfl
@[simp] theorem nth_t2 (a b c : D) (xs : List D) : ndx (.t (a :: b :: c :: xs)) 2 = c := rfl
@[simp] theorem nth_l0 (a : D) (xs : List D) : ndx (.l (a :: xs)) 0 = a := rfl
@[simp] theorem nth_l1 (a b : D) (xs : List D) : ndx (.l (a :: b :: xs)) 1 = b := rfl
@[simp] theorem nth_l2 (a b c : D) (xs : List D) : ndx (.l (a :: b :: c :: xs)) 2 = c := rfl
theorem longB_iff {d : D} {lo hi : Int} : longB d lo hi = true ↔ isSq d = true ∧ lo ≤ (mem d).length ∧ ((mem d).length : Int) ≤ hi := by
  rw [longB, Bool.and_eq_true, Bool.and_eq_true, decide_eq_true_eq, decide_eq_true_eq]
theorem long_n {d : D} {n : Nat} (h : longB d n n = true) : isSq d = true ∧ (mem d).length = n := by
  have := longB_iff.mp h
  exact ⟨this.1, by omega⟩
theorem long_2 {d : D} (h : longB d 2 2 = true) : isSq d = true ∧ (mem d).length = 2 := long_n (n := 2) h
theorem long_3 {d : D} (h : longB d 3 3 = true) : isSq d = true ∧ (mem d).length = 3 := long_n (n := 3) h
theorem fromB_iff {d : D} {lo hi : Int} : fromB d lo hi = true ↔ ∃ x, d = .i x ∧ lo ≤ x ∧ x ≤ hi := by
  cases d <;> simp [fromB]
theorem ixD_nth {d : D} {i : Nat} (h : isSq d = true) (hi : i < (mem d).length) : ixD d (.i i) = some (ndx d i) := by
  cases d <;> first
    | (cases h; done)
    | (simp only [ndx, mem] at hi ⊢; rw [ixD, atI_nat hi]; simp [List.getD, hi])
theorem ixD_n0 {d : D} (h : isSq d = true) (hi : 0 < (mem d).length) : ixD d (.i 0) = some (ndx d 0) := ixD_nth h hi
theorem ixD_n1 {d : D} (h : isSq d = true) (hi : 1 < (mem d).length) : ixD d (.i 1) = some (ndx d 1) := ixD_nth h hi
theorem ixD_n2 {d : D} (h : isSq d = true) (hi : 2 < (mem d).length) : ixD d (.i 2) = some (ndx d 2) := ixD_nth h hi
theorem walk_mem {d : D} (h : isSq d = true) : walkD d = some (mem d) := by
  cases d <;> first
    | (cases h; done)
    | rfl
theorem seq_mem {d : D} (h : isSq d = true) : seqD d = some (mem d) := by
  cases d <;> first
    | (cases h; done)
    | rfl
theorem len_mem {d : D} (h : isSq d = true) : lenD [d] = some (.i (mem d).length) := by
  cases d <;> first
    | (cases h; done)
    | rfl
@[simp] theorem isND_n : isND .n = true := rfl
@[simp] theorem isND_i (x : Int) : isND (.i x) = false := rfl
@[simp] theorem isND_b (x : Bool) : isND (.b x) = false := rfl
@[simp] theorem isND_s (x : Str) : isND (.s x) = false := rfl
@[simp] theorem isND_t (x : List D) : isND (.t x) = false := rfl
@[simp] theorem isND_l (x : List D) : isND (.l x) = false := rfl
section
variable {C : Cf} {k : Nat}
theorem seq_d (s : Sh C "is_seq" S_is_seq) {d : D} (h : calm d = true) : C (k + 1) "is_seq" [d] = some (.b (isSq d)) := s.run (by cases d <;> first | (cases h; done) | simp [S_is_seq])
theorem int_d (s : Sh C "is_int" S_is_int) {d : D} (h : calm d = true) : C (k + 1) "is_int" [d] = some (.b (isIn d)) := s.run (by cases d <;> first | (cases h; done) | simp [S_is_int])
theorem long_d (s : Sh C "is_seq" S_is_seq) (s2 : Sh C "is_long" S_is_long) {d : D} {lo hi : Int} (h : calm d = true) : C (k + 2) "is_long" [d, .i lo, .i hi] = some (.b (longB d lo hi)) := s2.run (by
  have e := seq_d (k := k) s h
  cases d <;> first
    | (cases h; done)
    | (simp only [isSq] at e; exact is_long_no e)
    | (simp only [isSq] at e; rw [is_long_t e]; rfl)
    | (simp only [isSq] at e; rw [is_long_l e]; rfl))
theorem from_d (s : Sh C "is_int" S_is_int) (s2 : Sh C "is_from" S_is_from) {d : D} {lo hi : Int} (h : calm d = true) : C (k + 2) "is_from" [d, .i lo, .i hi] = some (.b (fromB d lo hi)) := s2.run (by
  have e := int_d (k := k) s h
  cases d <;> first
    | (cases h; done)
    | (simp only [isIn] at e; exact is_from_no e)
    | (simp only [isIn] at e; rw [is_from_i e]; simp))
theorem need_d (s : Sh C "need" S_need) {d : D} : C (k + 1) "need" [.b true, d] = some .n := s.run need_t
end

/-! ### plain, listed -/
mutual
/-- lists made tuples -/
def plD : D → D
  | .t xs => .t (plDs xs)
  | .l xs => .t (plDs xs)
  | d => d
def plDs : List D → List D
  | [] => []
  | x :: xs => plD x :: plDs xs
end
mutual
/-- tuples made lists -/
def liD : D → D
  | .t xs => .l (liDs xs)
  | d => d
def liDs : List D → List D
  | [] => []
  | x :: xs => liD x :: liDs xs
end
theorem plDs_map : ∀ xs, plDs xs = xs.map plD
  | [] => rfl
  | x :: xs => by rw [plDs, plDs_map xs]; rfl
theorem liDs_map : ∀ xs, liDs xs = xs.map liD
  | [] => rfl
  | x :: xs => by rw [liDs, liDs_map xs]; rfl
/-- no range within, at most n deep, no sequence longer than a million -/
def fin : Nat → D → Bool
  | _, .r _ _ => false
  | _, .z _ => false
  | _, .d _ _ => false
  | 0, .t _ => false
  | 0, .l _ => false
  | n + 1, .t xs => xs.all (fin n) && decide (xs.length ≤ 1000000)
  | n + 1, .l xs => xs.all (fin n) && decide (xs.length ≤ 1000000)
  | _, .s x => PyData.canLay0 (.str x)
  | _, _ => true
theorem fin_calm {n : Nat} {d : D} (h : fin n d = true) : calm d = true := by
  cases d <;> first
    | rfl
    | (cases n <;> cases h)
theorem fin_t {n : Nat} {xs : List D} (h : fin (n + 1) (.t xs) = true) : (∀ x ∈ xs, fin n x = true) ∧ xs.length ≤ 1000000 := by
  have h : (xs.all (fin n) && decide (xs.length ≤ 1000000)) = true := h
  rw [Bool.and_eq_true, List.all_eq_true, decide_eq_true_eq] at h
  exact h
theorem fin_l {n : Nat} {xs : List D} (h : fin (n + 1) (.l xs) = true) : (∀ x ∈ xs, fin n x = true) ∧ xs.length ≤ 1000000 := fin_t (n := n) h
@[simp] theorem fin_i (n : Nat) (x : Int) : fin n (.i x) = true := by cases n <;> rfl
@[simp] theorem fin_b (n : Nat) (x : Bool) : fin n (.b x) = true := by cases n <;> rfl
@[simp] theorem fin_n (n : Nat) : fin n .n = true := by cases n <;> rfl
theorem fin_s {n : Nat} {x : Str} (h : PyData.canLay0 (.str x) = true) : fin n (.s x) = true := by cases n <;> exact h
theorem ok_fin : ∀ {n : Nat} {d : D}, fin n d = true → okD n d = true
  | n, .n, _ => by cases n <;> rfl
  | n, .b _, _ => by cases n <;> rfl
  | n, .i _, _ => by cases n <;> rfl
  | n, .s _, h => by cases n <;> exact h
  | n, .r _ _, h => by cases n <;> cases h
  | n, .z _, h => by cases n <;> cases h
  | n, .d _ _, h => by cases n <;> cases h
  | 0, .t _, h => by cases h
  | 0, .l _, h => by cases h
  | n + 1, .t xs, h => by
    have h := (fin_t h).1
    show xs.all (okD n) = true
    rw [List.all_eq_true]
    exact fun x hx => ok_fin (h x hx)
  | n + 1, .l xs, h => by
    have h := (fin_l h).1
    show xs.all (okD n) = true
    rw [List.all_eq_true]
    exact fun x hx => ok_fin (h x hx)
theorem fin_mono : ∀ {n : Nat} {d : D}, fin n d = true → fin (n + 1) d = true
  | n, .n, _ => by cases n <;> rfl
  | n, .b _, _ => by cases n <;> rfl
  | n, .i _, _ => by cases n <;> rfl
  | n, .s _, h => by cases n <;> exact h
  | n, .r _ _, h => by cases n <;> cases h
  | n, .z _, h => by cases n <;> cases h
  | n, .d _ _, h => by cases n <;> cases h
  | 0, .t _, h => by cases h
  | 0, .l _, h => by cases h
  | n + 1, .t xs, h => by
    obtain ⟨h1, h2⟩ := fin_t h
    show (xs.all (fin (n + 1)) && decide (xs.length ≤ 1000000)) = true
    rw [Bool.and_eq_true, List.all_eq_true, decide_eq_true_eq]
    exact ⟨fun x hx => fin_mono (h1 x hx), h2⟩
  | n + 1, .l xs, h => by
    obtain ⟨h1, h2⟩ := fin_l h
    show (xs.all (fin (n + 1)) && decide (xs.length ≤ 1000000)) = true
    rw [Bool.and_eq_true, List.all_eq_true, decide_eq_true_eq]
    exact ⟨fun x hx => fin_mono (h1 x hx), h2⟩
theorem fin_le {n m : Nat} {d : D} (h : fin n d = true) (l : n ≤ m) : fin m d = true := by
  obtain ⟨j, rfl⟩ := Nat.exists_eq_add_of_le l
  induction j with
  | zero => exact h
  | succ j ih => exact fin_mono (ih (by omega))
theorem ok_fin20 {n : Nat} {d : D} (h : fin n d = true) (l : n ≤ 20) : okD DP d = true := ok_fin (fin_le h l)
/-- == of any two -/
theorem eqE_f {n m : Nat} {x y : D} (hx : fin n x = true) (hy : fin m y = true) (hn : n ≤ 20) (hm : m ≤ 20) : eqE x y = some (.b (eqD x y)) := by
  rw [eqE, eqqD, ok_fin20 hx hn, ok_fin20 hy hm]; rfl
theorem neE_f {n m : Nat} {x y : D} (hx : fin n x = true) (hy : fin m y = true) (hn : n ≤ 20) (hm : m ≤ 20) : neE x y = some (.b (!eqD x y)) := by
  rw [neE, neqD, ok_fin20 hx hn, ok_fin20 hy hm]; rfl
theorem fin_mem {n : Nat} {d : D} (h : fin (n + 1) d = true) : ∀ x ∈ mem d, fin n x = true := by
  cases d <;> first
    | exact (fin_t h).1
    | exact (fin_l h).1
    | (intro x hx; exact (nomatch hx))
theorem fin_nth {n : Nat} {d : D} (h : fin (n + 1) d = true) (i : Nat) : fin n (ndx d i) = true := by
  unfold ndx
  rw [List.getD_eq_getElem?_getD]
  cases e : (mem d)[i]? with
  | none => simp
  | some x => exact fin_mem h x (List.mem_of_getElem? e)
theorem fin_len {n : Nat} {d : D} (h : fin (n + 1) d = true) : (mem d).length ≤ 1000000 := by
  cases d <;> first
    | exact (fin_t h).2
    | exact (fin_l h).2
    | exact Nat.zero_le _
section
variable {C : Cf}
theorem compD_id {t : Tg} {ft : List Cell → Option Bool} {f : EvF} {env : List Cell} (xs : List D) : compD t ft f env xs = compM (fun a => (bindT t a env).bind ft) (fun a => (bindT t a env).bind f) xs := by
  have := compD_M (t := t) (ft := ft) (f := f) (env := env) id xs
  rw [List.map_id] at this
  exact this
theorem plain_d (s : Sh C "is_seq" S_is_seq) (s2 : Sh C "plain" S_plain) : ∀ (n k : Nat) (d : D), fin n d = true → C (k + n + 2) "plain" [d] = some (plD d)
  | n, k, .n, _ => s2.run (plain_no (seq_d (k := k + n) s rfl))
  | n, k, .b _, _ => s2.run (plain_no (seq_d (k := k + n) s rfl))
  | n, k, .i _, _ => s2.run (plain_no (seq_d (k := k + n) s rfl))
  | n, k, .s _, _ => s2.run (plain_no (seq_d (k := k + n) s rfl))
  | n, _, .r _ _, h => by cases n <;> cases h
  | n, _, .z _, h => by cases n <;> cases h
  | n, _, .d _ _, h => by cases n <;> cases h
  | 0, _, .t _, h => by cases h
  | 0, _, .l _, h => by cases h
  | n + 1, k, .t xs, h => by
    obtain ⟨h1, h2⟩ := fin_t h
    have := plain_t (c := C (k + n + 2)) id plD (l := xs) (sz_le h2) (by rw [List.map_id]; exact seq_d (k := k + n + 1) s rfl) fun x hx => plain_d s s2 n k x (h1 x hx)
    rw [List.map_id] at this
    rw [plD, plDs_map]
    exact s2.run this
  | n + 1, k, .l xs, h => by
    obtain ⟨h1, h2⟩ := fin_l h
    have := plain_l (c := C (k + n + 2)) id plD (l := xs) (sz_le h2) (by rw [List.map_id]; exact seq_d (k := k + n + 1) s rfl) fun x hx => plain_d s s2 n k x (h1 x hx)
    rw [List.map_id] at this
    rw [plD, plDs_map]
    exact s2.run this
theorem listed_no {c : Str → List D → Option D} {d : D} (h : calm d = true) (h2 : isTu d = false) : S__law_listed c [d] = some d := by
  cases d <;> first
    | (cases h; done)
    | (cases h2; done)
    | simp [S__law_listed]
theorem listed_d (s2 : Sh C "_law_listed" S__law_listed) : ∀ (n k : Nat) (d : D), fin n d = true → C (k + n + 1) "_law_listed" [d] = some (liD d)
  | n, k, .n, _ => s2.run (listed_no rfl rfl)
  | n, k, .b _, _ => s2.run (listed_no rfl rfl)
  | n, k, .i _, _ => s2.run (listed_no rfl rfl)
  | n, k, .s _, _ => s2.run (listed_no rfl rfl)
  | n, k, .l _, _ => s2.run (listed_no rfl rfl)
  | n, _, .r _ _, h => by cases n <;> cases h
  | n, _, .z _, h => by cases n <;> cases h
  | n, _, .d _ _, h => by cases n <;> cases h
  | 0, _, .t _, h => by cases h
  | n + 1, k, .t xs, h => by
    obtain ⟨h1, h2⟩ := fin_t h
    have := law_listed_t (c := C (k + n + 1)) id liD (l := xs) (sz_le h2) fun x hx => listed_d s2 n k x (h1 x hx)
    rw [List.map_id] at this
    rw [liD, liDs_map]
    exact s2.run this
end

/-! ### same -/
/-- what _law_same may be asked of: tuples, strings that == may be asked of; at most n deep -/
def sam : Nat → D → Bool
  | _, .n => true
  | _, .b _ => true
  | _, .i _ => true
  | _, .s x => PyData.canLay0 (.str x)
  | 0, .t _ => false
  | n + 1, .t xs => xs.all (sam n) && decide (xs.length ≤ 1000)
  | _, _ => false
theorem sam_t {n : Nat} {xs : List D} (h : sam (n + 1) (.t xs) = true) : (∀ x ∈ xs, sam n x = true) ∧ xs.length ≤ 1000 := by
  have h : (xs.all (sam n) && decide (xs.length ≤ 1000)) = true := h
  rw [Bool.and_eq_true, List.all_eq_true, decide_eq_true_eq] at h
  exact h
theorem sam_s {n : Nat} {x : Str} (h : sam n (.s x) = true) : PyData.canLay0 (.str x) = true := by cases n <;> exact h
@[simp] theorem sam_i (n : Nat) (x : Int) : sam n (.i x) = true := by cases n <;> rfl
@[simp] theorem sam_b (n : Nat) (x : Bool) : sam n (.b x) = true := by cases n <;> rfl
@[simp] theorem sam_n (n : Nat) : sam n .n = true := by cases n <;> rfl
theorem sam_ts {n : Nat} {xs : List D} (h : ∀ x ∈ xs, sam n x = true) (hl : xs.length ≤ 1000) : sam (n + 1) (.t xs) = true := by
  show (xs.all (sam n) && decide (xs.length ≤ 1000)) = true
  rw [Bool.and_eq_true, List.all_eq_true, decide_eq_true_eq]
  exact ⟨h, hl⟩
theorem fin_ts {n : Nat} {xs : List D} (h : ∀ x ∈ xs, fin n x = true) (hl : xs.length ≤ 1000000) : fin (n + 1) (.t xs) = true := by
  show (xs.all (fin n) && decide (xs.length ≤ 1000000)) = true
  rw [Bool.and_eq_true, List.all_eq_true, decide_eq_true_eq]
  exact ⟨h, hl⟩
theorem fin_ls {n : Nat} {xs : List D} (h : ∀ x ∈ xs, fin n x = true) (hl : xs.length ≤ 1000000) : fin (n + 1) (.l xs) = true := fin_ts (xs := xs) h hl
section
variable {C : Cf}
theorem same_d (s : Sh C "_law_same" S__law_same) : ∀ (n k : Nat) (d : D), sam n d = true → C (k + n + 1) "_law_same" [d, d] = some (.b true)
  | n, k, .n, _ => s.run law_same_n
  | n, k, .b x, _ => s.run (by rw [law_same_b]; simp)
  | n, k, .i x, _ => s.run (law_same_i x)
  | n, k, .s x, h => s.run (law_same_s (sam_s h))
  | 0, _, .t _, h => by cases h
  | n + 1, k, .t xs, h => by
    obtain ⟨h1, h2⟩ := sam_t h
    exact s.run (law_same_t h2 fun x hx => same_d s n k x (h1 x hx))
  | n, _, .r _ _, h => by cases n <;> cases h
  | n, _, .z _, h => by cases n <;> cases h
  | n, _, .d _ _, h => by cases n <;> cases h
  | n, _, .l _, h => by cases n <;> cases h
/-- of two bools -/
theorem same_bb (s : Sh C "_law_same" S__law_same) {k : Nat} {x y : Bool} : C (k + 1) "_law_same" [.b x, .b y] = some (.b (x == y)) := s.run (law_same_b x y)
end
end PL
namespace PL
open PySem PySem.Spec PyProof.Rows L2
@[simp] theorem atI_0 {α : Type} (a : α) (xs : List α) : atI (a :: xs) 0 = some a := atI_nat (xs := a :: xs) (p := 0) (by simp)
@[simp] theorem atI_1 {α : Type} (a b : α) (xs : List α) : atI (a :: b :: xs) 1 = some b := atI_nat (xs := a :: b :: xs) (p := 1) (by simp)
@[simp] theorem atI_2 {α : Type} (a b c : α) (xs : List α) : atI (a :: b :: c :: xs) 2 = some c := atI_nat (xs := a :: b :: c :: xs) (p := 2) (by simp)
@[simp] theorem atI_3 {α : Type} (a b c d : α) (xs : List α) : atI (a :: b :: c :: d :: xs) 3 = some d := atI_nat (xs := a :: b :: c :: d :: xs) (p := 3) (by simp)
theorem fin_eq {n : Nat} {d d' : D} (h : fin n d = true) (e : d = d') : fin n d' = true := e ▸ h
theorem eqD_len {x : D} {xs : List D} : eqD (.l (x :: xs)) (.l []) = false := by
  rw [eqD, toPy, toPy, toPys, toPys]
  simp [PyData.eqv, PyData.eqvAll]
theorem eqE_nil {n : Nat} {xs : List D} (h : fin n (.l xs) = true) (hn : n ≤ 20) : eqE (.l xs) (.l []) = some (.b xs.isEmpty) := by
  rw [eqE_f (m := 1) h rfl hn (by omega)]
  cases xs with
  | nil => decide +kernel
  | cons x xs => rw [eqD_len]; rfl
theorem neE_nil {n : Nat} {xs : List D} (h : fin n (.l xs) = true) (hn : n ≤ 20) : neE (.l xs) (.l []) = some (.b (!xs.isEmpty)) := by
  rw [neE_f (m := 1) h rfl hn (by omega)]
  cases xs with
  | nil => decide +kernel
  | cons x xs => rw [eqD_len]; rfl
theorem fin_map {α : Type} {n : Nat} {g : α → D} {l : List α} (h : ∀ a ∈ l, fin n (g a) = true) (hl : l.length ≤ 1000000) : fin (n + 1) (.l (l.map g)) = true := fin_ls (fun x hx => by
  obtain ⟨a, ha, rfl⟩ := List.mem_map.mp hx
  exact h a ha) (by simpa using hl)
theorem fin_mapT {α : Type} {n : Nat} {g : α → D} {l : List α} (h : ∀ a ∈ l, fin n (g a) = true) (hl : l.length ≤ 1000000) : fin (n + 1) (.t (l.map g)) = true := fin_map (g := g) h hl
/-- [1 for a in l if p(a)] == [] -/
theorem ones_nil {α : Type} {p : α → Bool} {l : List α} (hl : l.length ≤ 1000000) : eqE (.l ((l.filter p).map fun _ => D.i 1)) (.l []) = some (.b (l.all fun a => !p a)) := by
  have h2 := List.length_filter_le p l
  rw [eqE_nil (n := 1) (fin_map (fun a _ => by simp) (by omega)) (by omega)]
  congr 2
  rw [Bool.eq_iff_iff]
  simp
theorem ones_ne {α : Type} {p : α → Bool} {l : List α} (hl : l.length ≤ 1000000) : neE (.l ((l.filter p).map fun _ => D.i 1)) (.l []) = some (.b (l.any p)) := by
  have h2 := List.length_filter_le p l
  rw [neE_nil (n := 1) (fin_map (fun a _ => by simp) (by omega)) (by omega)]
  congr 2
  rw [Bool.eq_iff_iff]
  simp
theorem atI_mapS {α β : Type} {f : α → β} {xs : List α} {p : Nat} (h : p < xs.length) : atI (xs.map f) (p : Int) = some (f xs[p]) := atI_map f h
/-- p of none -/
def Nope {α : Type} (p : α → Bool) (l : List α) : Prop := ∀ a ∈ l, p a = false
section
variable {α : Type} {p : α → Bool} {l m : List α} {a : α}
theorem nope_nil : Nope p [] := fun _ h => nomatch h
theorem Nope.snoc (h : Nope p l) (e : p a = false) : Nope p (l ++ [a]) := fun b hb => by
  rcases List.mem_append.mp hb with hb | hb
  · exact h b hb
  · rw [List.mem_singleton.mp hb]; exact e
theorem Nope.take {i : Nat} (h : Nope p (l.take i)) (hi : i < l.length) (e : p l[i] = false) : Nope p (l.take (i + 1)) := by
  rw [List.take_succ_eq_append_getElem hi]
  exact h.snoc e
theorem Nope.find (h : Nope p l) : l.find? p = none := List.find?_eq_none.mpr fun a ha => by rw [h a ha]; exact Bool.false_ne_true
theorem Nope.find_at (h : Nope p l) (e : p a = true) : (l ++ a :: m).find? p = some a := by rw [List.find?_append, h.find]; simp [e]
theorem Nope.idx (h : Nope p l) : l.findIdx? p = none := List.findIdx?_eq_none_iff.mpr h
theorem Nope.idx_at {i : Nat} (h : Nope p (l.take i)) (hi : i < l.length) (e : p l[i] = true) : l.findIdx? p = some i := by
  rw [List.findIdx?_eq_some_iff_getElem]
  exact ⟨hi, e, fun i' hi' => by
    have := h l[i'] (List.mem_take_iff_getElem.mpr ⟨i', by omega, rfl⟩)
    simp [this]⟩
theorem Nope.all (h : Nope p l) : l.all (fun a => !p a) = true := List.all_eq_true.mpr fun a ha => by rw [h a ha]; rfl
theorem Nope.any (h : Nope p l) : l.any p = false := by
  rw [← Bool.not_eq_true, List.any_eq_true]
  rintro ⟨a, ha, e⟩
  rw [h a ha] at e
  cases e
end
theorem enumD_id (xs : List D) : enumD 0 xs = xs.zipIdx.map fun p => D.t [.i p.2, p.1] := by
  have := enumD_map id xs 0
  rw [List.map_id] at this
  exact this
theorem zipIdx_split {α : Type} {l : List α} {pre post : List (α × Nat)} {p : α × Nat} (h : l.zipIdx = pre ++ p :: post) : p.2 = pre.length ∧ p.2 < l.length ∧ l[p.2]? = some p.1 := by
  have e : (l.zipIdx)[pre.length]? = some p := by rw [h]; simp
  rw [List.getElem?_zipIdx] at e
  cases e2 : l[pre.length]? with
  | none => rw [e2] at e; cases e
  | some a =>
    rw [e2] at e
    simp at e
    subst e
    have := (List.getElem?_eq_some_iff.mp e2).1
    exact ⟨by simp, by simpa using this, by simpa using e2⟩
/-- the j-th of ints -/
def gI (b : List Int) (j : Nat) : Int := b.getD j 0
theorem atI_gI {b : List Int} {j : Nat} (h : j < b.length) : atI (b.map D.i) (j : Int) = some (.i (gI b j)) := by rw [atI_mapS h]; simp [gI, List.getD, h]
theorem gI_get {b : List Int} {j : Nat} (h : j < b.length) : gI b j = b[j] := by simp [gI, List.getD, h]
theorem idx_filter {α : Type} (p : α → Bool) (l : List α) (q : Nat → Bool) (hq : ∀ i (h : i < l.length), q i = p l[i]) : ((List.range l.length).filter q).head? = l.findIdx? p := by
  cases e : l.findIdx? p with
  | none =>
    rw [List.findIdx?_eq_none_iff] at e
    have : (List.range l.length).filter q = [] := List.filter_eq_nil_iff.mpr fun i hi => by
      rw [List.mem_range] at hi
      rw [hq i hi, e l[i] (List.getElem_mem hi)]
      exact Bool.false_ne_true
    rw [this]; rfl
  | some i =>
    rw [List.findIdx?_eq_some_iff_getElem] at e
    obtain ⟨h, e1, e2⟩ := e
    have e3 : List.range l.length = List.range i ++ i :: (List.range (l.length - i - 1)).map (· + (i + 1)) := by
      have : l.length = i + (1 + (l.length - i - 1)) := by omega
      rw [this, List.range_add, List.range_add]
      simp [Nat.add_comm, Nat.add_left_comm]
    have e4 : (List.range i).filter q = [] := List.filter_eq_nil_iff.mpr fun j hj => by
      rw [List.mem_range] at hj
      rw [hq j (by omega)]
      have := e2 j hj
      simpa using this
    rw [e3, List.filter_append, e4, List.nil_append, List.filter_cons_of_pos (by rw [hq i h]; exact e1)]
    rfl
theorem rng1_nat {n : Nat} (h : n ≤ 1000000) : rng1 (.i n) = some ((List.range n).map fun i : Nat => D.i i) := by
  rw [rng1, if_pos (smI_nat (by omega)), Int.toNat_natCast, rngD_map]
  simp
theorem minL_foldl : ∀ (r : List Int) (m : Int), minL m r = r.foldl (fun m x => if x < m then x else m) m
  | [], _ => rfl
  | x :: r, m => by rw [minL, List.foldl_cons, minL_foldl r]
theorem minD_l {m : Int} {r : List Int} : minD [.l (D.i m :: r.map D.i)] = some (.i (minL m r)) := by
  have : intsD (D.i m :: r.map D.i) = some (m :: r) := by have := intsD_map (m :: r); simpa using this
  rw [minD, this]; rfl
theorem maxD_l {m : Int} {r : List Int} : maxD [.l (D.i m :: r.map D.i)] = some (.i (maxL m r)) := by
  have : intsD (D.i m :: r.map D.i) = some (m :: r) := by have := intsD_map (m :: r); simpa using this
  rw [maxD, this]; rfl
@[simp] theorem ity_n_tuple  : isTys (.n) [.tuple] = some false := rfl
@[simp] theorem ity_b_tuple (x : Bool) : isTys (.b x) [.tuple] = some false := rfl
@[simp] theorem ity_i_tuple (x : Int) : isTys (.i x) [.tuple] = some false := rfl
@[simp] theorem ity_s_tuple (x : Str) : isTys (.s x) [.tuple] = some false := rfl
@[simp] theorem ity_t_tuple (x : List D) : isTys (.t x) [.tuple] = some true := rfl
@[simp] theorem ity_l_tuple (x : List D) : isTys (.l x) [.tuple] = some false := rfl
@[simp] theorem ity_n_int  : isTys (.n) [.int] = some false := rfl
@[simp] theorem ity_b_int (x : Bool) : isTys (.b x) [.int] = some true := rfl
@[simp] theorem ity_i_int (x : Int) : isTys (.i x) [.int] = some true := rfl
@[simp] theorem ity_s_int (x : Str) : isTys (.s x) [.int] = some false := rfl
@[simp] theorem ity_t_int (x : List D) : isTys (.t x) [.int] = some false := rfl
@[simp] theorem ity_l_int (x : List D) : isTys (.l x) [.int] = some false := rfl
@[simp] theorem ity_n_bool  : isTys (.n) [.bool] = some false := rfl
@[simp] theorem ity_b_bool (x : Bool) : isTys (.b x) [.bool] = some true := rfl
@[simp] theorem ity_i_bool (x : Int) : isTys (.i x) [.bool] = some false := rfl
@[simp] theorem ity_s_bool (x : Str) : isTys (.s x) [.bool] = some false := rfl
@[simp] theorem ity_t_bool (x : List D) : isTys (.t x) [.bool] = some false := rfl
@[simp] theorem ity_l_bool (x : List D) : isTys (.l x) [.bool] = some false := rfl
@[simp] theorem ity_n_str  : isTys (.n) [.str] = some false := rfl
@[simp] theorem ity_b_str (x : Bool) : isTys (.b x) [.str] = some false := rfl
@[simp] theorem ity_i_str (x : Int) : isTys (.i x) [.str] = some false := rfl
@[simp] theorem ity_s_str (x : Str) : isTys (.s x) [.str] = some true := rfl
@[simp] theorem ity_t_str (x : List D) : isTys (.t x) [.str] = some false := rfl
@[simp] theorem ity_l_str (x : List D) : isTys (.l x) [.str] = some false := rfl
@[simp] theorem ity_n_list  : isTys (.n) [.list] = some false := rfl
@[simp] theorem ity_b_list (x : Bool) : isTys (.b x) [.list] = some false := rfl
@[simp] theorem ity_i_list (x : Int) : isTys (.i x) [.list] = some false := rfl
@[simp] theorem ity_s_list (x : Str) : isTys (.s x) [.list] = some false := rfl
@[simp] theorem ity_t_list (x : List D) : isTys (.t x) [.list] = some false := rfl
@[simp] theorem ity_l_list (x : List D) : isTys (.l x) [.list] = some true := rfl
@[simp] theorem ity_n_tuple_list  : isTys (.n) [.tuple, .list] = some false := rfl
@[simp] theorem ity_b_tuple_list (x : Bool) : isTys (.b x) [.tuple, .list] = some false := rfl
@[simp] theorem ity_i_tuple_list (x : Int) : isTys (.i x) [.tuple, .list] = some false := rfl
@[simp] theorem ity_s_tuple_list (x : Str) : isTys (.s x) [.tuple, .list] = some false := rfl
@[simp] theorem ity_t_tuple_list (x : List D) : isTys (.t x) [.tuple, .list] = some true := rfl
@[simp] theorem ity_l_tuple_list (x : List D) : isTys (.l x) [.tuple, .list] = some true := rfl
@[simp] theorem ity_n_int_str  : isTys (.n) [.int, .str] = some false := rfl
@[simp] theorem ity_b_int_str (x : Bool) : isTys (.b x) [.int, .str] = some true := rfl
@[simp] theorem ity_i_int_str (x : Int) : isTys (.i x) [.int, .str] = some true := rfl
@[simp] theorem ity_s_int_str (x : Str) : isTys (.s x) [.int, .str] = some true := rfl
@[simp] theorem ity_t_int_str (x : List D) : isTys (.t x) [.int, .str] = some false := rfl
@[simp] theorem ity_l_int_str (x : List D) : isTys (.l x) [.int, .str] = some false := rfl
theorem inst_t {d : D} (h : calm d = true) : isTys d [.tuple] = some (isTu d) := by cases d <;> first | (cases h; done) | simp
theorem inst_i {d : D} (h : calm d = true) : isTys d [.int] = some (isIn d || isBo d) := by cases d <;> first | (cases h; done) | simp
theorem inst_b {d : D} (h : calm d = true) : isTys d [.bool] = some (isBo d) := by cases d <;> first | (cases h; done) | simp
theorem sam_fin : ∀ {m : Nat} {d : D}, sam m d = true → fin m d = true
  | m, .n, _ => by simp
  | m, .b _, _ => by simp
  | m, .i _, _ => by simp
  | m, .s _, h => fin_s (sam_s h)
  | 0, .t _, h => by cases h
  | m + 1, .t xs, h => by
    obtain ⟨h1, h2⟩ := sam_t h
    exact fin_ts (fun x hx => sam_fin (h1 x hx)) (by omega)
  | m, .r _ _, h => by cases m <;> cases h
  | m, .z _, h => by cases m <;> cases h
  | m, .d _ _, h => by cases m <;> cases h
  | m, .l _, h => by cases m <;> cases h
theorem sam_mem {m : Nat} {d : D} (h : sam (m + 1) d = true) : ∀ x ∈ mem d, sam m x = true := by
  cases d <;> first
    | exact (sam_t h).1
    | (cases h; done)
    | (intro x hx; exact (nomatch hx))
theorem sam_nth {m : Nat} {d : D} (h : sam (m + 1) d = true) (i : Nat) : sam m (ndx d i) = true := by
  unfold ndx
  rw [List.getD_eq_getElem?_getD]
  cases e : (mem d)[i]? with
  | none => simp
  | some x => exact sam_mem h x (List.mem_of_getElem? e)
theorem sam_tu {m : Nat} {d : D} (h : sam m d = true) : isTu d = isSq d := by
  cases d <;> first
    | rfl
    | (cases m <;> cases h)
theorem all_zip {d : D} {p : D × Nat → Bool} : (mem d).zipIdx.all p = (List.range (mem d).length).all fun j => p (ndx d j, j) := by
  rw [Bool.eq_iff_iff, List.all_eq_true, List.all_eq_true]
  constructor
  · intro h j hj
    have hj := List.mem_range.mp hj
    exact h _ (by
      rw [List.mem_iff_getElem]
      exact ⟨j, by simpa using hj, by simp [ndx, List.getD, hj]⟩)
  · intro h q hq
    obtain ⟨j, hj, e⟩ := List.mem_iff_getElem.mp hq
    have hj' : j < (mem d).length := by simpa using hj
    have := h j (List.mem_range.mpr hj')
    simp at e
    subst e
    simpa [ndx, List.getD, hj'] using this
@[simp] theorem minE_2 (x y : Int) : minE [.i x, .i y] = some (.i (if y < x then y else x)) := rfl
theorem minE_l {m : Int} {r : List Int} : minE [.l (D.i m :: r.map D.i)] = some (.i (minL m r)) := by rw [minE, minD_l]; rfl
theorem minE_t {k : List Int} {r : List (List Int)} : minE [.l ((k :: r).map fun k => .t (k.map .i))] = some (.t ((minTL k r).map .i)) := by
  have e1 : minD [.l ((k :: r).map fun k => D.t (k.map .i))] = none := by rw [List.map_cons]; rfl
  have e2 : ∀ ks : List (List Int), tupsD (ks.map fun k => D.t (k.map .i)) = some ks := by
    intro ks
    induction ks with
    | nil => rfl
    | cons k ks ih => rw [List.map_cons, tupsD, intsD_map, ih]; rfl
  rw [minE, e1, minTD, e2]; rfl
theorem sumE_l {r : List Int} : sumE [.l (r.map D.i)] = some (.i r.sum) := by rw [sumE, sumD, intsD_map]; rfl
theorem sumE_t {r : List Int} : sumE [.t (r.map D.i)] = some (.i r.sum) := by
  have : sumD [.t (r.map D.i)] = none := rfl
  rw [sumE, this, sumTD, intsD_map]; rfl
theorem flat_le {α β : Type} (g : α → List β) (m : Nat) : ∀ l : List α, (∀ a ∈ l, (g a).length ≤ m) → (l.flatMap g).length ≤ m * l.length
  | [], _ => by simp
  | a :: l, h => by
    have h1 := h a List.mem_cons_self
    have h2 := flat_le g m l fun b hb => h b (List.mem_cons_of_mem _ hb)
    rw [List.flatMap_cons, List.length_append, List.length_cons, Nat.mul_add]
    omega
theorem maxD_map {α : Type} (f : α → Int) {a : α} {l : List α} : PL.maxD [.l ((a :: l).map fun a => D.i (f a))] = some (.i (maxL (f a) (l.map f))) := by
  have := maxD_l (m := f a) (r := l.map f)
  rw [List.map_map] at this
  exact this
theorem minE_map {α : Type} (f : α → Int) {a : α} {l : List α} : minE [.l ((a :: l).map fun a => D.i (f a))] = some (.i (minL (f a) (l.map f))) := by
  have := minE_l (m := f a) (r := l.map f)
  rw [List.map_map] at this
  exact this
/-- a slice of a sequence -/
theorem cut_seg {xs : List D} {f l : Nat} (h : f ≤ l) (hl : l ≤ xs.length) : PL.cutD xs (some (f : Int)) (some (l : Int)) = (xs.take l).drop f := by
  unfold cutD
  rw [HT.sIx_nat, HT.sIx_nat, List.drop_take]
  congr 2 <;> omega
end PL
namespace K37
open PySem PySem.Spec PyProof.Rows L2 PL
abbrev thP : Program := PySem.Challenge.pw_surelysound_k37_whole_places_or_a_full_d
def fn : Dfs := defsOf thP
def free : Fr := ⟨["isinstance", "tuple", "list", "len", "int", "bool", "all", "any", "zip", "min", "max", "sum", "abs", "enumerate", "range", "str", "im:combinations"], [("DAYS", .i 100)]⟩
end K37
namespace K37
open PySem PySem.Spec PyProof.Rows L2 PL 
/-- need(good, at); slots [good, at] -/
def S_need (c : Str → List D → Option D) : List D → Option D := runF 2 (
  (@sQ ⟨(ifF (notT (asT (vB 0)))
    (@sQ ⟨stk⟩
    ⟨nop⟩)
    nop)⟩
  ⟨nop⟩))

/-- is_seq(value); slots [value] -/
def S_is_seq (c : Str → List D → Option D) : List D → Option D := runF 1 (
  (@sQ ⟨(retF (instV [.tuple, .list] (vB 0)))⟩
  ⟨nop⟩))

/-- is_long(value, low, high); slots [value, low, high] -/
def S_is_long (c : Str → List D → Option D) : List D → Option D := runF 3 (
  (@sQ ⟨(retF (andV (callN (c "is_seq") fun m => (consL (vM m 0) a0)) (chainV fLe fLe (vB 1) (callV lenD (consL (vB 0) a0)) (vB 2))))⟩
  ⟨nop⟩))

/-- is_int(value); slots [value] -/
def S_is_int (c : Str → List D → Option D) : List D → Option D := runF 1 (
  (@sQ ⟨(retF (andV (instV [.int] (vB 0)) (notV (instV [.bool] (vB 0)))))⟩
  ⟨nop⟩))

/-- is_from(value, low, high); slots [value, low, high] -/
def S_is_from (c : Str → List D → Option D) : List D → Option D := runF 3 (
  (@sQ ⟨(retF (andV (callN (c "is_int") fun m => (consL (vM m 0) a0)) (chainV fLe fLe (vB 1) (vB 0) (vB 2))))⟩
  ⟨nop⟩))

/-- is_set(value, many); slots [value, many, last, number] -/
def S_is_set (c : Str → List D → Option D) : List D → Option D := runF 4 (
  (@sQ ⟨(ifF (notT (asT (callN (c "is_seq") fun m => (consL (vM m 0) a0))))
    (@sQ ⟨(retF (kB false))⟩
    ⟨nop⟩)
    nop)⟩
  ⟨(@sQ ⟨(asgF (.nm 2) (negV (kI 1)))⟩
  ⟨(@sQ ⟨(fr (itP (vV 0)) (.nm 3)
    (@sQ ⟨(ifF (notT (asT (callN (c "is_from") fun m => (consL (vM m 3) (consL (bind2 adE (vB 2) (kI 1)) (consL (bind2 subD (vB 1) (kI 1)) a0))))))
      (@sQ ⟨(retF (kB false))⟩
      ⟨nop⟩)
      nop)⟩
    ⟨(@sQ ⟨(asgF (.nm 2) (vV 3))⟩
    ⟨nop⟩)⟩))⟩
  ⟨(@sQ ⟨(retF (kB true))⟩
  ⟨nop⟩)⟩)⟩)⟩))

/-- plain(value); slots [value, .0, part] -/
def S_plain (c : Str → List D → Option D) : List D → Option D := runF 3 (
  (@sQ ⟨(ifF (asT (callN (c "is_seq") fun m => (consL (vM m 0) a0)))
    (@sQ ⟨(retF (callV tupleD (consL (lcW (itP (vB 0)) (.nm 2) tY (callN (c "plain") fun m => (consL (vM m 2) a0)) [1, 2]) a0)))⟩
    ⟨nop⟩)
    nop)⟩
  ⟨(@sQ ⟨(retF (vV 0))⟩
  ⟨nop⟩)⟩))

/-- is_stays(value); slots [value, .0, stay] -/
def S_is_stays (c : Str → List D → Option D) : List D → Option D := runF 3 (
  (@sQ ⟨(retF (andV (callN (c "is_long") fun m => (consL (vM m 0) (consL (kI 1) (consL (kI 12) a0)))) (callV allD (consL (lcW (itP (vB 0)) (.nm 2) tY (callN (c "is_stay") fun m => (consL (vM m 2) a0)) [1, 2]) a0))))⟩
  ⟨nop⟩))

/-- is_stay(value); slots [value] -/
def S_is_stay (c : Str → List D → Option D) : List D → Option D := runF 1 (
  (@sQ ⟨(ifF (orT (notT (asT (callN (c "is_long") fun m => (consL (vM m 0) (consL (kI 3) (consL (kI 3) a0)))))) (notT (asT (callN (c "is_from") fun m => (consL (bind2 ixD (vB 0) (kI 0)) (consL (kI 0) (consL (bind2 subD (kI 100) (kI 1)) a0)))))))
    (@sQ ⟨(retF (kB false))⟩
    ⟨nop⟩)
    nop)⟩
  ⟨(@sQ ⟨(retF (andV (callN (c "is_from") fun m => (consL (bind2 ixD (vB 0) (kI 1)) (consL (bind2 ixD (vB 0) (kI 0)) (consL (bind2 subD (kI 100) (kI 1)) a0)))) (callN (c "is_from") fun m => (consL (bind2 ixD (vB 0) (kI 2)) (consL (kI 1) (consL (kI 100) a0))))))⟩
  ⟨nop⟩)⟩))

/-- need_stays(value); slots [value] -/
def S_need_stays (c : Str → List D → Option D) : List D → Option D := runF 1 (
  (@sQ ⟨(dropF (callN (c "need") fun m => (consL (callN (c "is_stays") fun m => (consL (vM m 0) a0)) (consL (kI 1) a0))))⟩
  ⟨(@sQ ⟨(retF (callN (c "plain") fun m => (consL (vM m 0) a0)))⟩
  ⟨nop⟩)⟩))

/-- lying(stays, day); slots [stays, day] -/
def S_lying (c : Str → List D → Option D) : List D → Option D := runF 2 (
  (@sQ ⟨(asgF (.nm 0) (callN (c "need_stays") fun m => (consL (vM m 0) a0)))⟩
  ⟨(@sQ ⟨(dropF (callN (c "need") fun m => (consL (callN (c "is_from") fun m => (consL (vM m 1) (consL (kI 0) (consL (bind2 subD (kI 100) (kI 1)) a0)))) (consL (kI 2) a0))))⟩
  ⟨(@sQ ⟨(retF (callN (c "lying_on") fun m => (consL (vM m 0) (consL (vM m 1) a0))))⟩
  ⟨nop⟩)⟩)⟩))

/-- lying_on(stays, day); slots [stays, day, .0, herd, stay] -/
def S_lying_on (c : Str → List D → Option D) : List D → Option D := runF 5 (
  (@sQ ⟨(retF (callV tupleD (consL (lcW (itE (vB 0)) (.tp [(.nm 3), (.nm 4)]) (asB (chainV fLe fLe (bind2 ixD (vB 4) (kI 0)) (vB 1) (bind2 ixD (vB 4) (kI 1)))) (vV 3) [2, 3, 4]) a0)))⟩
  ⟨nop⟩))

/-- fullest(stays); slots [stays, best, day, many] -/
def S_fullest (c : Str → List D → Option D) : List D → Option D := runF 4 (
  (@sQ ⟨(asgF (.nm 0) (callN (c "need_stays") fun m => (consL (vM m 0) a0)))⟩
  ⟨(@sQ ⟨(asgF (.nm 1) (tupW (consL (kI 0) (consL (kI 0) a0))))⟩
  ⟨(@sQ ⟨(fr (itR1 (kI 100)) (.nm 2)
    (@sQ ⟨(asgF (.nm 3) (callV lenD (consL (callN (c "lying_on") fun m => (consL (vM m 0) (consL (vM m 2) a0))) a0)))⟩
    ⟨(@sQ ⟨(ifF (asB (bind2 (cmpI fGt) (vB 3) (bind2 ixD (vB 1) (kI 1))))
      (@sQ ⟨(asgF (.nm 1) (tupW (consL (vV 2) (consL (vV 3) a0))))⟩
      ⟨nop⟩)
      nop)⟩
    ⟨nop⟩)⟩))⟩
  ⟨(@sQ ⟨(retF (vV 1))⟩
  ⟨nop⟩)⟩)⟩)⟩))

/-- overlap(one, other); slots [one, other] -/
def S_overlap (c : Str → List D → Option D) : List D → Option D := runF 2 (
  (@sQ ⟨(retF (andV (bind2 (cmpI fLe) (bind2 ixD (vB 0) (kI 0)) (bind2 ixD (vB 1) (kI 1))) (bind2 (cmpI fLe) (bind2 ixD (vB 1) (kI 0)) (bind2 ixD (vB 0) (kI 1)))))⟩
  ⟨nop⟩))

/-- is_places(stays, many, value); slots [stays, many, value, herd, .0, pen] -/
def S_is_places (c : Str → List D → Option D) : List D → Option D := runF 6 (
  (@sQ ⟨(asgF (.nm 0) (callN (c "need_stays") fun m => (consL (vM m 0) a0)))⟩
  ⟨(@sQ ⟨(dropF (callN (c "need") fun m => (consL (callN (c "is_from") fun m => (consL (vM m 1) (consL (kI 1) (consL (kI 12) a0)))) (consL (kI 2) a0))))⟩
  ⟨(@sQ ⟨(ifF (orT (notT (asT (callN (c "is_long") fun m => (consL (vM m 2) (consL (callV lenD (consL (vB 0) a0)) (consL (callV lenD (consL (vB 0) a0)) a0)))))) (notT (asT (callV allD (consL (lcW (itP (vB 2)) (.nm 5) tY (callN (c "is_from") fun m => (consL (vM m 5) (consL (kI 0) (consL (bind2 subD (vB 1) (kI 1)) a0)))) [4, 5]) a0)))))
    (@sQ ⟨(retF (kB false))⟩
    ⟨nop⟩)
    nop)⟩
  ⟨(@sQ ⟨(fr (itR1 (callV lenD (consL (vB 0) a0))) (.nm 3)
    (@sQ ⟨(ifF (notT (asT (callN (c "is_free") fun m => (consL (vM m 0) (consL (sliceV (vB 2) p0 (partV (vV 3))) (consL (vM m 3) (consL (bind2 ixD (vB 2) (vB 3)) a0)))))))
      (@sQ ⟨(retF (kB false))⟩
      ⟨nop⟩)
      nop)⟩
    ⟨nop⟩))⟩
  ⟨(@sQ ⟨(retF (kB true))⟩
  ⟨nop⟩)⟩)⟩)⟩)⟩))

/-- is_free(stays, placed, herd, pen); slots [stays, placed, herd, pen, other] -/
def S_is_free (c : Str → List D → Option D) : List D → Option D := runF 5 (
  (@sQ ⟨(fr (itR1 (vB 2)) (.nm 4)
    (@sQ ⟨(ifF (andT (asB (bind2 eqE (bind2 ixD (vB 1) (vB 4)) (vB 3))) (asT (callN (c "overlap") fun m => (consL (bind2 ixD (vB 0) (vB 4)) (consL (bind2 ixD (vB 0) (vB 2)) a0)))))
      (@sQ ⟨(retF (kB false))⟩
      ⟨nop⟩)
      nop)⟩
    ⟨nop⟩))⟩
  ⟨(@sQ ⟨(retF (kB true))⟩
  ⟨nop⟩)⟩))

/-- places_of(stays, many); slots [stays, many] -/
def S_places_of (c : Str → List D → Option D) : List D → Option D := runF 2 (
  (@sQ ⟨(asgF (.nm 0) (callN (c "need_stays") fun m => (consL (vM m 0) a0)))⟩
  ⟨(@sQ ⟨(dropF (callN (c "need") fun m => (consL (callN (c "is_from") fun m => (consL (vM m 1) (consL (kI 1) (consL (kI 12) a0)))) (consL (kI 2) a0))))⟩
  ⟨(@sQ ⟨(ifF (asB (bind2 isntD (callN (c "first_crowd") fun m => (consL (vM m 0) (consL (vM m 1) a0))) kN))
    (@sQ ⟨(retF kN)⟩
    ⟨nop⟩)
    nop)⟩
  ⟨(@sQ ⟨(retF (callN (c "placed_on") fun m => (consL (vM m 0) (consL (vM m 1) (consL (tupW a0) a0)))))⟩
  ⟨nop⟩)⟩)⟩)⟩))

/-- placed_on(stays, many, placed); slots [stays, many, placed, herd, used, pen, found] -/
def S_placed_on (c : Str → List D → Option D) : List D → Option D := runF 7 (
  (@sQ ⟨(asgF (.nm 3) (callV lenD (consL (vB 2) a0)))⟩
  ⟨(@sQ ⟨(ifF (asB (bind2 eqE (vB 3) (callV lenD (consL (vB 0) a0))))
    (@sQ ⟨(retF (vV 2))⟩
    ⟨nop⟩)
    nop)⟩
  ⟨(@sQ ⟨(asgF (.nm 4) (bind2 adE (mxV (vB 2) (negV (kI 1))) (kI 1)))⟩
  ⟨(@sQ ⟨(fr (itR1 (callV minE (consL (bind2 adE (vB 4) (kI 1)) (consL (vB 1) a0)))) (.nm 5)
    (@sQ ⟨(ifF (asT (callN (c "is_free") fun m => (consL (vM m 0) (consL (vM m 2) (consL (vM m 3) (consL (vM m 5) a0))))))
      (@sQ ⟨(asgF (.nm 6) (callN (c "placed_on") fun m => (consL (vM m 0) (consL (vM m 1) (consL (bind2 adE (vB 2) (tupW (consL (vV 5) a0))) a0)))))⟩
      ⟨(@sQ ⟨(ifF (asB (bind2 isntD (vB 6) kN))
        (@sQ ⟨(retF (vV 6))⟩
        ⟨nop⟩)
        nop)⟩
      ⟨nop⟩)⟩)
      nop)⟩
    ⟨nop⟩))⟩
  ⟨(@sQ ⟨(retF kN)⟩
  ⟨nop⟩)⟩)⟩)⟩)⟩))

/-- crowd_of(stays, many); slots [stays, many] -/
def S_crowd_of (c : Str → List D → Option D) : List D → Option D := runF 2 (
  (@sQ ⟨(asgF (.nm 0) (callN (c "need_stays") fun m => (consL (vM m 0) a0)))⟩
  ⟨(@sQ ⟨(dropF (callN (c "need") fun m => (consL (callN (c "is_from") fun m => (consL (vM m 1) (consL (kI 1) (consL (kI 12) a0)))) (consL (kI 2) a0))))⟩
  ⟨(@sQ ⟨(retF (callN (c "first_crowd") fun m => (consL (vM m 0) (consL (vM m 1) a0))))⟩
  ⟨nop⟩)⟩)⟩))

/-- first_crowd(stays, many); slots [stays, many, day] -/
def S_first_crowd (c : Str → List D → Option D) : List D → Option D := runF 3 (
  (@sQ ⟨(fr (itR1 (kI 100)) (.nm 2)
    (@sQ ⟨(ifF (asB (bind2 (cmpI fGt) (callV lenD (consL (callN (c "lying_on") fun m => (consL (vM m 0) (consL (vM m 2) a0))) a0)) (vB 1)))
      (@sQ ⟨(retF (vV 2))⟩
      ⟨nop⟩)
      nop)⟩
    ⟨nop⟩))⟩
  ⟨(@sQ ⟨(retF kN)⟩
  ⟨nop⟩)⟩))

/-- is_choice(stays, many, value); slots [stays, many, value] -/
def S_is_choice (c : Str → List D → Option D) : List D → Option D := runF 3 (
  (@sQ ⟨(asgF (.nm 0) (callN (c "need_stays") fun m => (consL (vM m 0) a0)))⟩
  ⟨(@sQ ⟨(dropF (callN (c "need") fun m => (consL (callN (c "is_from") fun m => (consL (vM m 1) (consL (kI 1) (consL (kI 12) a0)))) (consL (kI 2) a0))))⟩
  ⟨(@sQ ⟨(retF (andV (callN (c "is_set") fun m => (consL (vM m 2) (consL (callV lenD (consL (vB 0) a0)) a0))) (callN (c "fits") fun m => (consL (vM m 0) (consL (vM m 1) (consL (vM m 2) a0))))))⟩
  ⟨nop⟩)⟩)⟩))

/-- fits(stays, many, herds); slots [stays, many, herds, herd, day, .0, other] -/
def S_fits (c : Str → List D → Option D) : List D → Option D := runF 7 (
  (@sQ ⟨(fr (itP (vV 2)) (.nm 3)
    (@sQ ⟨(asgF (.nm 4) (bind2 ixD (bind2 ixD (vB 0) (vB 3)) (kI 0)))⟩
    ⟨(@sQ ⟨(ifF (asB (bind2 (cmpI fGt) (callV lenD (consL (lcW (itP (vB 2)) (.nm 6) (asB (chainV fLe fLe (bind2 ixD (bind2 ixD (vB 0) (vB 6)) (kI 0)) (vB 4) (bind2 ixD (bind2 ixD (vB 0) (vB 6)) (kI 1)))) (vV 6) [5, 6]) a0)) (vB 1)))
      (@sQ ⟨(retF (kB false))⟩
      ⟨nop⟩)
      nop)⟩
    ⟨nop⟩)⟩))⟩
  ⟨(@sQ ⟨(retF (kB true))⟩
  ⟨nop⟩)⟩))

/-- worth(stays, herds); slots [stays, herds, .0, herd] -/
def S_worth (c : Str → List D → Option D) : List D → Option D := runF 4 (
  (@sQ ⟨(retF (callV sumE (consL (lcW (itP (vB 1)) (.nm 3) tY (bind2 ixD (bind2 ixD (vB 0) (vB 3)) (kI 2)) [2, 3]) a0)))⟩
  ⟨nop⟩))

/-- best_choice(stays, many); slots [stays, many] -/
def S_best_choice (c : Str → List D → Option D) : List D → Option D := runF 2 (
  (@sQ ⟨(asgF (.nm 0) (callN (c "need_stays") fun m => (consL (vM m 0) a0)))⟩
  ⟨(@sQ ⟨(dropF (callN (c "need") fun m => (consL (callN (c "is_from") fun m => (consL (vM m 1) (consL (kI 1) (consL (kI 12) a0)))) (consL (kI 2) a0))))⟩
  ⟨(@sQ ⟨(retF (callN (c "best_with") fun m => (consL (vM m 0) (consL (vM m 1) (consL (tupW a0) a0)))))⟩
  ⟨nop⟩)⟩)⟩))

/-- best_with(stays, many, forced_herds); slots [stays, many, forced_herds, best, size, herds, .0, herd] -/
def S_best_with (c : Str → List D → Option D) : List D → Option D := runF 8 (
  (@sQ ⟨(asgF (.nm 3) kN)⟩
  ⟨(@sQ ⟨(fr (itR2 (kI 1) (bind2 adE (callV lenD (consL (vB 0) a0)) (kI 1))) (.nm 4)
    (@sQ ⟨(fr (itC (rngv (callV lenD (consL (vB 0) a0))) (vB 4)) (.nm 5)
      (@sQ ⟨(ifF (notT (asT (callV allD (consL (lcW (itP (vB 2)) (.nm 7) tY (bind2 inE (vB 7) (vB 5)) [6, 7]) a0))))
        (@sQ ⟨cnt⟩
        ⟨nop⟩)
        nop)⟩
      ⟨(@sQ ⟨(ifF (andT (asB (bind2 isntD (vB 3) kN)) (asB (bind2 ltE (tupW (consL (negV (callN (c "worth") fun m => (consL (vM m 0) (consL (vM m 3) a0)))) (consL (vV 3) a0))) (tupW (consL (negV (callN (c "worth") fun m => (consL (vM m 0) (consL (vM m 5) a0)))) (consL (vV 5) a0))))))
        (@sQ ⟨cnt⟩
        ⟨nop⟩)
        nop)⟩
      ⟨(@sQ ⟨(ifF (asT (callN (c "fits") fun m => (consL (vM m 0) (consL (vM m 1) (consL (vM m 5) a0)))))
        (@sQ ⟨(asgF (.nm 3) (vV 5))⟩
        ⟨nop⟩)
        nop)⟩
      ⟨nop⟩)⟩)⟩))⟩
    ⟨nop⟩))⟩
  ⟨(@sQ ⟨(retF (vV 3))⟩
  ⟨nop⟩)⟩)⟩))

/-- worth_of_pen(stays, many); slots [stays, many] -/
def S_worth_of_pen (c : Str → List D → Option D) : List D → Option D := runF 2 (
  (@sQ ⟨(asgF (.nm 0) (callN (c "need_stays") fun m => (consL (vM m 0) a0)))⟩
  ⟨(@sQ ⟨(dropF (callN (c "need") fun m => (consL (callN (c "is_from") fun m => (consL (vM m 1) (consL (kI 1) (consL (kI 11) a0)))) (consL (kI 2) a0))))⟩
  ⟨(@sQ ⟨(retF (bind2 subD (callN (c "worth") fun m => (consL (vM m 0) (consL (callN (c "best_with") fun m => (consL (vM m 0) (consL (bind2 adE (vB 1) (kI 1)) (consL (tupW a0) a0)))) a0))) (callN (c "worth") fun m => (consL (vM m 0) (consL (callN (c "best_with") fun m => (consL (vM m 0) (consL (vM m 1) (consL (tupW a0) a0)))) a0)))))⟩
  ⟨nop⟩)⟩)⟩))

/-- forced(stays, many, herd); slots [stays, many, herd] -/
def S_forced (c : Str → List D → Option D) : List D → Option D := runF 3 (
  (@sQ ⟨(asgF (.nm 0) (callN (c "need_stays") fun m => (consL (vM m 0) a0)))⟩
  ⟨(@sQ ⟨(dropF (callN (c "need") fun m => (consL (callN (c "is_from") fun m => (consL (vM m 1) (consL (kI 1) (consL (kI 12) a0)))) (consL (kI 2) a0))))⟩
  ⟨(@sQ ⟨(dropF (callN (c "need") fun m => (consL (callN (c "is_from") fun m => (consL (vM m 2) (consL (kI 0) (consL (bind2 subD (callV lenD (consL (vB 0) a0)) (kI 1)) a0)))) (consL (kI 3) a0))))⟩
  ⟨(@sQ ⟨(retF (bind2 subD (callN (c "worth") fun m => (consL (vM m 0) (consL (callN (c "best_with") fun m => (consL (vM m 0) (consL (vM m 1) (consL (tupW a0) a0)))) a0))) (callN (c "worth") fun m => (consL (vM m 0) (consL (callN (c "best_with") fun m => (consL (vM m 0) (consL (vM m 1) (consL (tupW (consL (vV 2) a0)) a0)))) a0)))))⟩
  ⟨nop⟩)⟩)⟩)⟩))

/-- _law_power(base, many); slots [base, many, result, k] -/
def S__law_power (c : Str → List D → Option D) : List D → Option D := runF 4 (
  (@sQ ⟨(asgF (.nm 2) (kI 1))⟩
  ⟨(@sQ ⟨(fr (itR1 (vB 1)) (.nm 3)
    (@sQ ⟨(asgF (.nm 2) (bind2 muE (vB 2) (vB 0)))⟩
    ⟨nop⟩))⟩
  ⟨(@sQ ⟨(retF (vV 2))⟩
  ⟨nop⟩)⟩)⟩))

/-- _law_cell(script, place); slots [script, place] -/
def S__law_cell (c : Str → List D → Option D) : List D → Option D := runF 2 (
  (@sQ ⟨(ifF (asB (bind2 ltE (vB 1) (callV lenD (consL (vB 0) a0))))
    (@sQ ⟨(retF (callV intD (consL (bind2 ixD (vB 0) (vB 1)) a0)))⟩
    ⟨nop⟩)
    nop)⟩
  ⟨(@sQ ⟨(retF (kI 0))⟩
  ⟨nop⟩)⟩))

/-- _law_numbers(script, place, many); slots [script, place, many, cell, numbers, rest, k, twice] -/
def S__law_numbers (c : Str → List D → Option D) : List D → Option D := runF 8 (
  (@sQ ⟨(asgF (.nm 3) (callN (c "_law_cell") fun m => (consL (vM m 0) (consL (vM m 1) a0))))⟩
  ⟨(@sQ ⟨(ownF 4 (lstW a0))⟩
  ⟨(@sQ ⟨(asgF (.nm 5) (vV 3))⟩
  ⟨(@sQ ⟨(fr (itR1 (vB 2)) (.nm 6)
    (@sQ ⟨(ifF (asB (bind2 (cmpI fGe) (vB 3) (bind2 poE (kI 10) (kI 18))))
      (@sQ ⟨(appF 4 (bind2 moE (callV intD (consL (vB 5) a0)) (bind2 poE (kI 10) (kI 9))))⟩
      ⟨(@sQ ⟨(asgF (.nm 5) (bind2 fdE (vB 5) (bind2 poE (kI 10) (kI 9))))⟩
      ⟨nop⟩)⟩)
      (@sQ ⟨(asgF (.nm 7) (bind2 moE (callV intD (consL (bind2 adE (bind2 adE (bind2 muE (vB 3) (kI 48271)) (bind2 muE (bind2 adE (vB 6) (kI 1)) (kI 69621))) (vB 1)) a0)) (kI 2147483647)))⟩
      ⟨(@sQ ⟨(appF 4 (bind2 moE (bind2 moE (callV intD (consL (bind2 adE (bind2 muE (vB 7) (kI 16807)) (bind2 muE (bind2 adE (vB 6) (kI 3)) (kI 40692))) a0)) (kI 2147483399)) (bind2 poE (kI 10) (kI 9))))⟩
      ⟨nop⟩)⟩))⟩
    ⟨nop⟩))⟩
  ⟨(@sQ ⟨(retF (vV 4))⟩
  ⟨nop⟩)⟩)⟩)⟩)⟩))

/-- _law_same(one, other); slots [one, other, k] -/
def S__law_same (c : Str → List D → Option D) : List D → Option D := runF 3 (
  (@sQ ⟨(ifF (orT (asT (instV [.tuple] (vB 1))) (asT (instV [.tuple] (vB 0))))
    (@sQ ⟨(ifF (orT (notT (asT (instV [.tuple] (vB 0)))) (orT (notT (asT (instV [.tuple] (vB 1)))) (asB (bind2 neE (callV lenD (consL (vB 0) a0)) (callV lenD (consL (vB 1) a0))))))
      (@sQ ⟨(retF (kB false))⟩
      ⟨nop⟩)
      nop)⟩
    ⟨(@sQ ⟨(fr (itR1 (callV lenD (consL (vB 1) a0))) (.nm 2)
      (@sQ ⟨(ifF (notT (asT (callN (c "_law_same") fun m => (consL (bind2 ixD (vB 0) (vB 2)) (consL (bind2 ixD (vB 1) (vB 2)) a0)))))
        (@sQ ⟨(retF (kB false))⟩
        ⟨nop⟩)
        nop)⟩
      ⟨nop⟩))⟩
    ⟨(@sQ ⟨(retF (kB true))⟩
    ⟨nop⟩)⟩)⟩)
    nop)⟩
  ⟨(@sQ ⟨(ifF (orT (asB (bind2 isD (vB 0) kN)) (asB (bind2 isD (vB 1) kN)))
    (@sQ ⟨(retF (andV (bind2 isD (vB 0) kN) (bind2 isD (vB 1) kN)))⟩
    ⟨nop⟩)
    nop)⟩
  ⟨(@sQ ⟨(ifF (orT (asB (bind2 neE (instV [.bool] (vB 0)) (instV [.bool] (vB 1)))) (asB (bind2 neE (instV [.str] (vB 0)) (instV [.str] (vB 1)))))
    (@sQ ⟨(retF (kB false))⟩
    ⟨nop⟩)
    nop)⟩
  ⟨(@sQ ⟨(retF (andV (instV [.int, .str] (vB 0)) (andV (instV [.int, .str] (vB 1)) (bind2 eqE (vB 0) (vB 1)))))⟩
  ⟨nop⟩)⟩)⟩)⟩))

/-- _law_listed(value); slots [value, .0, part] -/
def S__law_listed (c : Str → List D → Option D) : List D → Option D := runF 3 (
  (@sQ ⟨(ifF (asT (instV [.tuple] (vB 0)))
    (@sQ ⟨(retF (lcW (itP (vB 0)) (.nm 2) tY (callN (c "_law_listed") fun m => (consL (vM m 2) a0)) [1, 2]))⟩
    ⟨nop⟩)
    nop)⟩
  ⟨(@sQ ⟨(retF (vV 0))⟩
  ⟨nop⟩)⟩))

/-- _law_stays(numbers); slots [numbers, rows, k, days, number, begins, .0] -/
def S__law_stays (c : Str → List D → Option D) : List D → Option D := runF 7 (
  (@sQ ⟨(ownF 1 (lstW a0))⟩
  ⟨(@sQ ⟨(asgF (.nm 3) (lcW (itR1 (kI 3)) (.nm 2) tY (bind2 moE (callV intD (consL (bind2 fdE (bind2 ixD (vB 0) (kI 0)) (callN (c "_law_power") fun m => (consL (kI 20) (consL (vM m 2) a0)))) a0)) (kI 9)) [6, 2]))⟩
  ⟨(@sQ ⟨(fr (itR1 (bind2 adE (kI 1) (bind2 moE (callV intD (consL (bind2 ixD (vB 0) (kI 1)) a0)) (kI 6)))) (.nm 2)
    (@sQ ⟨(asgF (.nm 4) (bind2 ixD (vB 0) (bind2 adE (kI 2) (vB 2))))⟩
    ⟨(@sQ ⟨(asgF (.nm 5) (bind2 ixD (vB 3) (bind2 moE (callV intD (consL (vB 4) a0)) (kI 3))))⟩
    ⟨(@sQ ⟨(appF 1 (tupW (consL (vV 5) (consL (bind2 adE (vB 5) (bind2 moE (callV intD (consL (bind2 fdE (vB 4) (kI 3)) a0)) (kI 6))) (consL (bind2 adE (kI 1) (bind2 moE (callV intD (consL (bind2 fdE (vB 4) (kI 18)) a0)) (kI 5))) a0)))))⟩
    ⟨nop⟩)⟩)⟩))⟩
  ⟨(@sQ ⟨(retF (callV tupleD (consL (vB 1) a0)))⟩
  ⟨nop⟩)⟩)⟩)⟩))

/-- _law_lying(stays, day); slots [stays, day, .0, k] -/
def S__law_lying (c : Str → List D → Option D) : List D → Option D := runF 4 (
  (@sQ ⟨(retF (lcW (itR1 (callV lenD (consL (vB 0) a0))) (.nm 3) (andT (asB (bind2 (cmpI fLe) (bind2 ixD (bind2 ixD (vB 0) (vB 3)) (kI 0)) (vB 1))) (asB (bind2 (cmpI fLe) (vB 1) (bind2 ixD (bind2 ixD (vB 0) (vB 3)) (kI 1))))) (vV 3) [2, 3]))⟩
  ⟨nop⟩))

/-- _law_is_choice(stays, many, herds); slots [stays, many, herds, day, .0, k] -/
def S__law_is_choice (c : Str → List D → Option D) : List D → Option D := runF 6 (
  (@sQ ⟨(fr (itR1 (kI 20)) (.nm 3)
    (@sQ ⟨(ifF (asB (bind2 (cmpI fGt) (callV lenD (consL (lcW (itP (callN (c "_law_lying") fun m => (consL (vM m 0) (consL (vM m 3) a0)))) (.nm 5) (asB (bind2 inE (vB 5) (vB 2))) (vV 5) [4, 5]) a0)) (vB 1)))
      (@sQ ⟨(retF (kB false))⟩
      ⟨nop⟩)
      nop)⟩
    ⟨nop⟩))⟩
  ⟨(@sQ ⟨(retF (kB true))⟩
  ⟨nop⟩)⟩))

/-- _law_set(number, many); slots [number, many, .0, k] -/
def S__law_set (c : Str → List D → Option D) : List D → Option D := runF 4 (
  (@sQ ⟨(retF (callV tupleD (consL (lcW (itR1 (vB 1)) (.nm 3) (asB (bind2 eqE (bind2 moE (callV intD (consL (bind2 fdE (vB 0) (callN (c "_law_power") fun m => (consL (kI 2) (consL (vM m 3) a0)))) a0)) (kI 2)) (kI 1))) (vV 3) [2, 3]) a0)))⟩
  ⟨nop⟩))

/-- _law_best(stays, many, herd); slots [stays, many, herd, best, number, herds, row, .0, k] -/
def S__law_best (c : Str → List D → Option D) : List D → Option D := runF 9 (
  (@sQ ⟨(asgF (.nm 3) kN)⟩
  ⟨(@sQ ⟨(fr (itR1 (callN (c "_law_power") fun m => (consL (kI 2) (consL (callV lenD (consL (vB 0) a0)) a0)))) (.nm 4)
    (@sQ ⟨(asgF (.nm 5) (callN (c "_law_set") fun m => (consL (vM m 4) (consL (callV lenD (consL (vB 0) a0)) a0))))⟩
    ⟨(@sQ ⟨(ifF (andT (asT (callN (c "_law_is_choice") fun m => (consL (vM m 0) (consL (vM m 1) (consL (vM m 5) a0))))) (orT (asB (bind2 isD (vB 2) kN)) (asB (bind2 inE (vB 2) (vB 5)))))
      (@sQ ⟨(asgF (.nm 6) (tupW (consL (bind2 subD (kI 0) (callV sumE (consL (lcW (itP (vB 5)) (.nm 8) tY (bind2 ixD (bind2 ixD (vB 0) (vB 8)) (kI 2)) [7, 8]) a0))) (consL (vV 5) a0))))⟩
      ⟨(@sQ ⟨(ifF (orT (asB (bind2 isD (vB 3) kN)) (asB (bind2 ltE (vB 6) (vB 3))))
        (@sQ ⟨(asgF (.nm 3) (vV 6))⟩
        ⟨nop⟩)
        nop)⟩
      ⟨nop⟩)⟩)
      nop)⟩
    ⟨nop⟩)⟩))⟩
  ⟨(@sQ ⟨(retF (vV 3))⟩
  ⟨nop⟩)⟩)⟩))

/-- _law_right(stays, many, value); slots [stays, many, value, day, there, .0, pen, k, place] -/
def S__law_right (c : Str → List D → Option D) : List D → Option D := runF 9 (
  (@sQ ⟨(ifF (orT (notT (asT (instV [.tuple] (vB 2)))) (asB (bind2 neE (callV lenD (consL (vB 2) a0)) (callV lenD (consL (vB 0) a0)))))
    (@sQ ⟨(retF (kB false))⟩
    ⟨nop⟩)
    nop)⟩
  ⟨(@sQ ⟨(ifF (asB (bind2 neE (lcW (itP (vB 2)) (.nm 6) (orT (notT (asT (instV [.int] (vB 6)))) (orT (asT (instV [.bool] (vB 6))) (orT (asB (bind2 ltE (vB 6) (kI 0))) (asB (bind2 (cmpI fGe) (vB 6) (vB 1)))))) (kI 1) [5, 6]) (lstW a0)))
    (@sQ ⟨(retF (kB false))⟩
    ⟨nop⟩)
    nop)⟩
  ⟨(@sQ ⟨(fr (itR1 (kI 20)) (.nm 3)
    (@sQ ⟨(asgF (.nm 4) (lcW (itP (callN (c "_law_lying") fun m => (consL (vM m 0) (consL (vM m 3) a0)))) (.nm 7) tY (bind2 ixD (vB 2) (vB 7)) [5, 7]))⟩
    ⟨(@sQ ⟨(ifF (asB (bind2 neE (lcW (itE (vB 4)) (.tp [(.nm 8), (.nm 6)]) (asB (bind2 inE (vB 6) (sliceV (vB 4) p0 (partV (vV 8))))) (kI 1) [5, 8, 6]) (lstW a0)))
      (@sQ ⟨(retF (kB false))⟩
      ⟨nop⟩)
      nop)⟩
    ⟨nop⟩)⟩))⟩
  ⟨(@sQ ⟨(retF (kB true))⟩
  ⟨nop⟩)⟩)⟩)⟩))

/-- _law_places(stays, many); slots [stays, many, rows, k, more, row, near, .0, j, pen] -/
def S__law_places (c : Str → List D → Option D) : List D → Option D := runF 10 (
  (@sQ ⟨(asgF (.nm 2) (lstW (consL (tupW a0) a0)))⟩
  ⟨(@sQ ⟨(fr (itR1 (callV lenD (consL (vB 0) a0))) (.nm 3)
    (@sQ ⟨(asgF (.nm 4) (lstW a0))⟩
    ⟨(@sQ ⟨(fr (itP (vV 2)) (.nm 5)
      (@sQ ⟨(asgF (.nm 6) (lcW (itR1 (vB 3)) (.nm 8) (andT (asB (bind2 (cmpI fLe) (bind2 ixD (bind2 ixD (vB 0) (vB 8)) (kI 0)) (bind2 ixD (bind2 ixD (vB 0) (vB 3)) (kI 1)))) (asB (bind2 (cmpI fLe) (bind2 ixD (bind2 ixD (vB 0) (vB 3)) (kI 0)) (bind2 ixD (bind2 ixD (vB 0) (vB 8)) (kI 1))))) (bind2 ixD (vB 5) (vB 8)) [7, 8]))⟩
      ⟨(@sQ ⟨(asgF (.nm 4) (bind2 adE (vB 4) (lcW (itR1 (vB 1)) (.nm 9) (asB (bind2 niE (vB 9) (vB 6))) (bind2 adE (vB 5) (tupW (consL (vV 9) a0))) [7, 9])))⟩
      ⟨nop⟩)⟩))⟩
    ⟨(@sQ ⟨(asgF (.nm 2) (vV 4))⟩
    ⟨nop⟩)⟩)⟩))⟩
  ⟨(@sQ ⟨(ifF (asB (bind2 eqE (vB 2) (lstW a0)))
    (@sQ ⟨(retF kN)⟩
    ⟨nop⟩)
    nop)⟩
  ⟨(@sQ ⟨(retF (callV minE (consL (vB 2) a0)))⟩
  ⟨nop⟩)⟩)⟩)⟩))

/-- law(script); slots [script, stays, many, value, day, sizes, due, crowd, number, herds, best, k, .0] -/
def S_law (c : Str → List D → Option D) : List D → Option D := runF 13 (
  (@sQ ⟨(asgF (.nm 1) (callN (c "_law_stays") fun m => (consL (callN (c "_law_numbers") fun m => (consL (vM m 0) (consL (kI 0) (consL (kI 8) a0)))) a0)))⟩
  ⟨(@sQ ⟨(asgF (.nm 2) (bind2 adE (kI 1) (bind2 moE (callV intD (consL (callN (c "_law_cell") fun m => (consL (vM m 0) (consL (kI 1) a0))) a0)) (kI 4))))⟩
  ⟨(@sQ ⟨(ifF (orT (asB (bind2 isntD (callN (c "is_stays") fun m => (consL (vM m 1) a0)) (kB true))) (orT (asB (bind2 isntD (callN (c "is_stays") fun m => (consL (callN (c "_law_listed") fun m => (consL (vM m 1) a0)) a0)) (kB true))) (asB (bind2 isntD (callN (c "is_stays") fun m => (consL (bind2 muE (tupW (consL (tupW (consL (kI 99) (consL (kI 99) (consL (kI 100) a0)))) a0)) (kI 12)) a0)) (kB true)))))
    (@sQ ⟨(retF (kB false))⟩
    ⟨nop⟩)
    nop)⟩
  ⟨(@sQ ⟨(fr (itP (lstW (consL kN (consL (kI 7) (consL (tupW a0) (consL (bind2 muE (vB 1) (kI 13)) (consL (tupW (consL (tupW (consL (kI 3) (consL (kI 2) (consL (kI 1) a0)))) a0)) (consL (tupW (consL (tupW (consL (kI 0) (consL (kI 100) (consL (kI 1) a0)))) a0)) (consL (tupW (consL (tupW (consL (kI 0) (consL (kI 0) (consL (kI 0) a0)))) a0)) (consL (tupW (consL (tupW (consL (kI 0) (consL (kI 0) (consL (kI 101) a0)))) a0)) (consL (tupW (consL (tupW (consL (negV (kI 1)) (consL (kI 0) (consL (kI 1) a0)))) a0)) (consL (tupW (consL (tupW (consL (kI 0) (consL (kI 0) a0))) a0)) (consL (tupW (consL (tupW (consL (kB true) (consL (kI 1) (consL (kI 1) a0)))) a0)) a0))))))))))))) (.nm 3)
    (@sQ ⟨(ifF (asB (bind2 isntD (callN (c "is_stays") fun m => (consL (vM m 3) a0)) (kB false)))
      (@sQ ⟨(retF (kB false))⟩
      ⟨nop⟩)
      nop)⟩
    ⟨nop⟩))⟩
  ⟨(@sQ ⟨(asgF (.nm 5) (lcW (itR1 (kI 20)) (.nm 4) tY (callV lenD (consL (callN (c "_law_lying") fun m => (consL (vM m 1) (consL (vM m 4) a0))) a0)) [12, 4]))⟩
  ⟨(@sQ ⟨(ifF (notT (asT (callN (c "_law_same") fun m => (consL (callN (c "fullest") fun m => (consL (vM m 1) a0)) (consL (tupW (consL (bind2 ixlD (vB 5) (callV maxD (consL (vB 5) a0))) (consL (callV maxD (consL (vB 5) a0)) a0))) a0)))))
    (@sQ ⟨(retF (kB false))⟩
    ⟨nop⟩)
    nop)⟩
  ⟨(@sQ ⟨(fr (itP (lstW (consL (kI 0) (consL (kI 3) (consL (kI 5) (consL (kI 8) (consL (kI 13) (consL (kI 99) a0)))))))) (.nm 4)
    (@sQ ⟨(ifF (notT (asT (callN (c "_law_same") fun m => (consL (callN (c "lying") fun m => (consL (vM m 1) (consL (vM m 4) a0))) (consL (callV tupleD (consL (callN (c "_law_lying") fun m => (consL (vM m 1) (consL (vM m 4) a0))) a0)) a0)))))
      (@sQ ⟨(retF (kB false))⟩
      ⟨nop⟩)
      nop)⟩
    ⟨nop⟩))⟩
  ⟨(@sQ ⟨(asgF (.nm 6) (callN (c "_law_places") fun m => (consL (vM m 1) (consL (vM m 2) a0))))⟩
  ⟨(@sQ ⟨(asgF (.nm 7) kN)⟩
  ⟨(@sQ ⟨(ifF (asB (bind2 (cmpI fGt) (callV maxD (consL (vB 5) a0)) (vB 2)))
    (@sQ ⟨(asgF (.nm 7) (bind2 ixD (lcW (itR1 (kI 20)) (.nm 4) (asB (bind2 (cmpI fGt) (bind2 ixD (vB 5) (vB 4)) (vB 2))) (vV 4) [12, 4]) (kI 0)))⟩
    ⟨nop⟩)
    nop)⟩
  ⟨(@sQ ⟨(ifF (orT (asB (bind2 neE (bind2 isD (vB 6) kN) (bind2 isntD (vB 7) kN))) (orT (notT (asT (callN (c "_law_same") fun m => (consL (callN (c "places_of") fun m => (consL (vM m 1) (consL (vM m 2) a0))) (consL (vM m 6) a0))))) (notT (asT (callN (c "_law_same") fun m => (consL (callN (c "crowd_of") fun m => (consL (callN (c "_law_listed") fun m => (consL (vM m 1) a0)) (consL (vM m 2) a0))) (consL (vM m 7) a0)))))))
    (@sQ ⟨(retF (kB false))⟩
    ⟨nop⟩)
    nop)⟩
  ⟨(@sQ ⟨(fr (itP (lstW (consL (vV 6) (consL (bind2 muE (tupW (consL (kI 0) a0)) (callV lenD (consL (vB 1) a0))) (consL (tgV (callV lenD (consL (vB 1) a0))) (consL (tupW a0) (consL kN (consL (kI 7) (consL (bind2 muE (tupW (consL (vV 2) a0)) (callV lenD (consL (vB 1) a0))) (consL (bind2 muE (tupW (consL (negV (kI 1)) a0)) (callV lenD (consL (vB 1) a0))) a0)))))))))) (.nm 3)
    (@sQ ⟨(ifF (notT (asT (callN (c "_law_same") fun m => (consL (callN (c "is_places") fun m => (consL (vM m 1) (consL (vM m 2) (consL (vM m 3) a0)))) (consL (callN (c "_law_right") fun m => (consL (vM m 1) (consL (vM m 2) (consL (vM m 3) a0)))) a0)))))
      (@sQ ⟨(retF (kB false))⟩
      ⟨nop⟩)
      nop)⟩
    ⟨nop⟩))⟩
  ⟨(@sQ ⟨(fr (itR1 (callN (c "_law_power") fun m => (consL (kI 2) (consL (callV lenD (consL (vB 1) a0)) a0)))) (.nm 8)
    (@sQ ⟨(asgF (.nm 9) (callN (c "_law_set") fun m => (consL (vM m 8) (consL (callV lenD (consL (vB 1) a0)) a0))))⟩
    ⟨(@sQ ⟨(ifF (notT (asT (callN (c "_law_same") fun m => (consL (callN (c "is_choice") fun m => (consL (vM m 1) (consL (vM m 2) (consL (vM m 9) a0)))) (consL (callN (c "_law_is_choice") fun m => (consL (vM m 1) (consL (vM m 2) (consL (vM m 9) a0)))) a0)))))
      (@sQ ⟨(retF (kB false))⟩
      ⟨nop⟩)
      nop)⟩
    ⟨nop⟩)⟩))⟩
  ⟨(@sQ ⟨(asgF (.nm 10) (callN (c "_law_best") fun m => (consL (vM m 1) (consL (vM m 2) (consL kN a0)))))⟩
  ⟨(@sQ ⟨(ifF (orT (notT (asT (callN (c "_law_same") fun m => (consL (callN (c "best_choice") fun m => (consL (vM m 1) (consL (vM m 2) a0))) (consL (bind2 ixD (vB 10) (kI 1)) a0))))) (notT (asT (callN (c "_law_same") fun m => (consL (callN (c "worth_of_pen") fun m => (consL (vM m 1) (consL (vM m 2) a0))) (consL (bind2 subD (bind2 ixD (vB 10) (kI 0)) (bind2 ixD (callN (c "_law_best") fun m => (consL (vM m 1) (consL (bind2 adE (vB 2) (kI 1)) (consL kN a0)))) (kI 0))) a0))))))
    (@sQ ⟨(retF (kB false))⟩
    ⟨nop⟩)
    nop)⟩
  ⟨(@sQ ⟨(fr (itR1 (callV lenD (consL (vB 1) a0))) (.nm 11)
    (@sQ ⟨(ifF (notT (asT (callN (c "_law_same") fun m => (consL (callN (c "forced") fun m => (consL (vM m 1) (consL (vM m 2) (consL (vM m 11) a0)))) (consL (bind2 subD (bind2 ixD (callN (c "_law_best") fun m => (consL (vM m 1) (consL (vM m 2) (consL (vM m 11) a0)))) (kI 0)) (bind2 ixD (vB 10) (kI 0))) a0)))))
      (@sQ ⟨(retF (kB false))⟩
      ⟨nop⟩)
      nop)⟩
    ⟨nop⟩))⟩
  ⟨(@sQ ⟨(retF (andV (bind2 isD (callN (c "is_choice") fun m => (consL (vM m 1) (consL (vM m 2) (consL (tupW (consL (kI 0) (consL (kI 0) a0))) a0)))) (kB false)) (andV (bind2 isD (callN (c "is_choice") fun m => (consL (vM m 1) (consL (vM m 2) (consL kN a0)))) (kB false)) (bind2 isD (callN (c "is_choice") fun m => (consL (vM m 1) (consL (vM m 2) (consL (tupW (consL (callV lenD (consL (vB 1) a0)) a0)) a0)))) (kB false)))))⟩
  ⟨nop⟩)⟩)⟩)⟩)⟩)⟩)⟩)⟩)⟩)⟩)⟩)⟩)⟩)⟩)⟩)⟩)⟩))


theorem sh_need (k : Nat) : callD fn free (k + 1) "need" = S_need (callD fn free k) := by kernel_rfl
theorem sh_is_seq (k : Nat) : callD fn free (k + 1) "is_seq" = S_is_seq (callD fn free k) := by kernel_rfl
theorem sh_is_long (k : Nat) : callD fn free (k + 1) "is_long" = S_is_long (callD fn free k) := by kernel_rfl
theorem sh_is_int (k : Nat) : callD fn free (k + 1) "is_int" = S_is_int (callD fn free k) := by kernel_rfl
theorem sh_is_from (k : Nat) : callD fn free (k + 1) "is_from" = S_is_from (callD fn free k) := by kernel_rfl
theorem sh_is_set (k : Nat) : callD fn free (k + 1) "is_set" = S_is_set (callD fn free k) := by kernel_rfl
theorem sh_plain (k : Nat) : callD fn free (k + 1) "plain" = S_plain (callD fn free k) := by kernel_rfl
theorem sh_is_stays (k : Nat) : callD fn free (k + 1) "is_stays" = S_is_stays (callD fn free k) := by kernel_rfl
theorem sh_is_stay (k : Nat) : callD fn free (k + 1) "is_stay" = S_is_stay (callD fn free k) := by kernel_rfl
theorem sh_need_stays (k : Nat) : callD fn free (k + 1) "need_stays" = S_need_stays (callD fn free k) := by kernel_rfl
theorem sh_lying (k : Nat) : callD fn free (k + 1) "lying" = S_lying (callD fn free k) := by kernel_rfl
theorem sh_lying_on (k : Nat) : callD fn free (k + 1) "lying_on" = S_lying_on (callD fn free k) := by kernel_rfl
theorem sh_fullest (k : Nat) : callD fn free (k + 1) "fullest" = S_fullest (callD fn free k) := by kernel_rfl
theorem sh_overlap (k : Nat) : callD fn free (k + 1) "overlap" = S_overlap (callD fn free k) := by kernel_rfl
theorem sh_is_places (k : Nat) : callD fn free (k + 1) "is_places" = S_is_places (callD fn free k) := by kernel_rfl
theorem sh_is_free (k : Nat) : callD fn free (k + 1) "is_free" = S_is_free (callD fn free k) := by kernel_rfl
theorem sh_places_of (k : Nat) : callD fn free (k + 1) "places_of" = S_places_of (callD fn free k) := by kernel_rfl
theorem sh_placed_on (k : Nat) : callD fn free (k + 1) "placed_on" = S_placed_on (callD fn free k) := by kernel_rfl
theorem sh_crowd_of (k : Nat) : callD fn free (k + 1) "crowd_of" = S_crowd_of (callD fn free k) := by kernel_rfl
theorem sh_first_crowd (k : Nat) : callD fn free (k + 1) "first_crowd" = S_first_crowd (callD fn free k) := by kernel_rfl
theorem sh_is_choice (k : Nat) : callD fn free (k + 1) "is_choice" = S_is_choice (callD fn free k) := by kernel_rfl
theorem sh_fits (k : Nat) : callD fn free (k + 1) "fits" = S_fits (callD fn free k) := by kernel_rfl
theorem sh_worth (k : Nat) : callD fn free (k + 1) "worth" = S_worth (callD fn free k) := by kernel_rfl
theorem sh_best_choice (k : Nat) : callD fn free (k + 1) "best_choice" = S_best_choice (callD fn free k) := by kernel_rfl
theorem sh_best_with (k : Nat) : callD fn free (k + 1) "best_with" = S_best_with (callD fn free k) := by kernel_rfl
theorem sh_worth_of_pen (k : Nat) : callD fn free (k + 1) "worth_of_pen" = S_worth_of_pen (callD fn free k) := by kernel_rfl
theorem sh_forced (k : Nat) : callD fn free (k + 1) "forced" = S_forced (callD fn free k) := by kernel_rfl
theorem sh__law_power (k : Nat) : callD fn free (k + 1) "_law_power" = S__law_power (callD fn free k) := by kernel_rfl
theorem sh__law_cell (k : Nat) : callD fn free (k + 1) "_law_cell" = S__law_cell (callD fn free k) := by kernel_rfl
theorem sh__law_numbers (k : Nat) : callD fn free (k + 1) "_law_numbers" = S__law_numbers (callD fn free k) := by kernel_rfl
theorem sh__law_same (k : Nat) : callD fn free (k + 1) "_law_same" = S__law_same (callD fn free k) := by kernel_rfl
theorem sh__law_listed (k : Nat) : callD fn free (k + 1) "_law_listed" = S__law_listed (callD fn free k) := by kernel_rfl
theorem sh__law_stays (k : Nat) : callD fn free (k + 1) "_law_stays" = S__law_stays (callD fn free k) := by kernel_rfl
theorem sh__law_lying (k : Nat) : callD fn free (k + 1) "_law_lying" = S__law_lying (callD fn free k) := by kernel_rfl
theorem sh__law_is_choice (k : Nat) : callD fn free (k + 1) "_law_is_choice" = S__law_is_choice (callD fn free k) := by kernel_rfl
theorem sh__law_set (k : Nat) : callD fn free (k + 1) "_law_set" = S__law_set (callD fn free k) := by kernel_rfl
theorem sh__law_best (k : Nat) : callD fn free (k + 1) "_law_best" = S__law_best (callD fn free k) := by kernel_rfl
theorem sh__law_right (k : Nat) : callD fn free (k + 1) "_law_right" = S__law_right (callD fn free k) := by kernel_rfl
theorem sh__law_places (k : Nat) : callD fn free (k + 1) "_law_places" = S__law_places (callD fn free k) := by kernel_rfl
theorem sh_law (k : Nat) : callD fn free (k + 1) "law" = S_law (callD fn free k) := by kernel_rfl
class All (C : Cf) : Prop where
  a_need : Sh C "need" S_need
  a_is_seq : Sh C "is_seq" S_is_seq
  a_is_long : Sh C "is_long" S_is_long
  a_is_int : Sh C "is_int" S_is_int
  a_is_from : Sh C "is_from" S_is_from
  a_is_set : Sh C "is_set" S_is_set
  a_plain : Sh C "plain" S_plain
  a_is_stays : Sh C "is_stays" S_is_stays
  a_is_stay : Sh C "is_stay" S_is_stay
  a_need_stays : Sh C "need_stays" S_need_stays
  a_lying : Sh C "lying" S_lying
  a_lying_on : Sh C "lying_on" S_lying_on
  a_fullest : Sh C "fullest" S_fullest
  a_overlap : Sh C "overlap" S_overlap
  a_is_places : Sh C "is_places" S_is_places
  a_is_free : Sh C "is_free" S_is_free
  a_places_of : Sh C "places_of" S_places_of
  a_placed_on : Sh C "placed_on" S_placed_on
  a_crowd_of : Sh C "crowd_of" S_crowd_of
  a_first_crowd : Sh C "first_crowd" S_first_crowd
  a_is_choice : Sh C "is_choice" S_is_choice
  a_fits : Sh C "fits" S_fits
  a_worth : Sh C "worth" S_worth
  a_best_choice : Sh C "best_choice" S_best_choice
  a_best_with : Sh C "best_with" S_best_with
  a_worth_of_pen : Sh C "worth_of_pen" S_worth_of_pen
  a_forced : Sh C "forced" S_forced
  a__law_power : Sh C "_law_power" S__law_power
  a__law_cell : Sh C "_law_cell" S__law_cell
  a__law_numbers : Sh C "_law_numbers" S__law_numbers
  a__law_same : Sh C "_law_same" S__law_same
  a__law_listed : Sh C "_law_listed" S__law_listed
  a__law_stays : Sh C "_law_stays" S__law_stays
  a__law_lying : Sh C "_law_lying" S__law_lying
  a__law_is_choice : Sh C "_law_is_choice" S__law_is_choice
  a__law_set : Sh C "_law_set" S__law_set
  a__law_best : Sh C "_law_best" S__law_best
  a__law_right : Sh C "_law_right" S__law_right
  a__law_places : Sh C "_law_places" S__law_places
  a_law : Sh C "law" S_law
section
variable {C : Cf} [All C]
theorem s_need : Sh C "need" S_need := All.a_need
theorem s_is_seq : Sh C "is_seq" S_is_seq := All.a_is_seq
theorem s_is_long : Sh C "is_long" S_is_long := All.a_is_long
theorem s_is_int : Sh C "is_int" S_is_int := All.a_is_int
theorem s_is_from : Sh C "is_from" S_is_from := All.a_is_from
theorem s_is_set : Sh C "is_set" S_is_set := All.a_is_set
theorem s_plain : Sh C "plain" S_plain := All.a_plain
theorem s_is_stays : Sh C "is_stays" S_is_stays := All.a_is_stays
theorem s_is_stay : Sh C "is_stay" S_is_stay := All.a_is_stay
theorem s_need_stays : Sh C "need_stays" S_need_stays := All.a_need_stays
theorem s_lying : Sh C "lying" S_lying := All.a_lying
theorem s_lying_on : Sh C "lying_on" S_lying_on := All.a_lying_on
theorem s_fullest : Sh C "fullest" S_fullest := All.a_fullest
theorem s_overlap : Sh C "overlap" S_overlap := All.a_overlap
theorem s_is_places : Sh C "is_places" S_is_places := All.a_is_places
theorem s_is_free : Sh C "is_free" S_is_free := All.a_is_free
theorem s_places_of : Sh C "places_of" S_places_of := All.a_places_of
theorem s_placed_on : Sh C "placed_on" S_placed_on := All.a_placed_on
theorem s_crowd_of : Sh C "crowd_of" S_crowd_of := All.a_crowd_of
theorem s_first_crowd : Sh C "first_crowd" S_first_crowd := All.a_first_crowd
theorem s_is_choice : Sh C "is_choice" S_is_choice := All.a_is_choice
theorem s_fits : Sh C "fits" S_fits := All.a_fits
theorem s_worth : Sh C "worth" S_worth := All.a_worth
theorem s_best_choice : Sh C "best_choice" S_best_choice := All.a_best_choice
theorem s_best_with : Sh C "best_with" S_best_with := All.a_best_with
theorem s_worth_of_pen : Sh C "worth_of_pen" S_worth_of_pen := All.a_worth_of_pen
theorem s_forced : Sh C "forced" S_forced := All.a_forced
theorem s__law_power : Sh C "_law_power" S__law_power := All.a__law_power
theorem s__law_cell : Sh C "_law_cell" S__law_cell := All.a__law_cell
theorem s__law_numbers : Sh C "_law_numbers" S__law_numbers := All.a__law_numbers
theorem s__law_same : Sh C "_law_same" S__law_same := All.a__law_same
theorem s__law_listed : Sh C "_law_listed" S__law_listed := All.a__law_listed
theorem s__law_stays : Sh C "_law_stays" S__law_stays := All.a__law_stays
theorem s__law_lying : Sh C "_law_lying" S__law_lying := All.a__law_lying
theorem s__law_is_choice : Sh C "_law_is_choice" S__law_is_choice := All.a__law_is_choice
theorem s__law_set : Sh C "_law_set" S__law_set := All.a__law_set
theorem s__law_best : Sh C "_law_best" S__law_best := All.a__law_best
theorem s__law_right : Sh C "_law_right" S__law_right := All.a__law_right
theorem s__law_places : Sh C "_law_places" S__law_places := All.a__law_places
theorem s_law : Sh C "law" S_law := All.a_law
end
theorem all_fn : All (fun k => callD fn free k) := ⟨sh_need, sh_is_seq, sh_is_long, sh_is_int, sh_is_from, sh_is_set, sh_plain, sh_is_stays, sh_is_stay, sh_need_stays, sh_lying, sh_lying_on, sh_fullest, sh_overlap, sh_is_places, sh_is_free, sh_places_of, sh_placed_on, sh_crowd_of, sh_first_crowd, sh_is_choice, sh_fits, sh_worth, sh_best_choice, sh_best_with, sh_worth_of_pen, sh_forced, sh__law_power, sh__law_cell, sh__law_numbers, sh__law_same, sh__law_listed, sh__law_stays, sh__law_lying, sh__law_is_choice, sh__law_set, sh__law_best, sh__law_right, sh__law_places, sh_law⟩
end K37
namespace K37
open PySem PySem.Spec PyProof.Rows L2 PL
abbrev St := Int × Int × Int
def sD (p : St) : D := .t [.i p.1, .i p.2.1, .i p.2.2]
def sL (p : St) : D := .l [.i p.1, .i p.2.1, .i p.2.2]
def ssD (S : List St) : D := .t (S.map sD)
def ssL (S : List St) : D := .l (S.map sL)
def ssQ (l : Bool) (S : List St) : D := if l = true then ssL S else ssD S
@[simp] theorem ssQ_f (S : List St) : ssQ false S = ssD S := rfl
@[simp] theorem ix_s0 (p : St) : ixD (sD p) (.i 0) = some (.i p.1) := by simp [sD]
@[simp] theorem ix_s1 (p : St) : ixD (sD p) (.i 1) = some (.i p.2.1) := by simp [sD]
@[simp] theorem ix_s2 (p : St) : ixD (sD p) (.i 2) = some (.i p.2.2) := by simp [sD]
@[simp] theorem len_ss (S : List St) : PL.lenD [ssD S] = some (.i S.length) := by simp [ssD]
@[simp] theorem seq_ss (S : List St) : PL.seqD (ssD S) = some (S.map sD) := rfl
@[simp] theorem walk_ss (S : List St) : PL.walkD (ssD S) = some (S.map sD) := rfl
def sk (S : List St) (k : Nat) : St := S.getD k (0, 0, 1)
theorem ix_ss {S : List St} {k : Nat} (h : k < S.length) : ixD (ssD S) (.i k) = some (sD (sk S k)) := by
  show ixD (.t (S.map sD)) _ = _
  rw [ixD_t, atI_mapS h, sk]
  simp [List.getD, h]
def stayB (d : D) : Bool := longB d 3 3 && (fromB (ndx d 0) 0 99 && (match ndx d 0 with
  | .i b => fromB (ndx d 1) b 99 && fromB (ndx d 2) 1 100
  | _ => false))
def staysB (d : D) : Bool := longB d 1 12 && (mem d).all stayB
structure So (S : List St) : Prop where
  n1 : 1 ≤ S.length
  n6 : S.length ≤ 6
  d : ∀ p ∈ S, (0 ≤ p.1 ∧ p.1 ≤ 8) ∧ (p.1 ≤ p.2.1 ∧ p.2.1 ≤ 13) ∧ 1 ≤ p.2.2 ∧ p.2.2 ≤ 5
theorem So.k {S : List St} (o : So S) {k : Nat} (h : k < S.length) : (0 ≤ (sk S k).1 ∧ (sk S k).1 ≤ 8) ∧ ((sk S k).1 ≤ (sk S k).2.1 ∧ (sk S k).2.1 ≤ 13) ∧ 1 ≤ (sk S k).2.2 ∧ (sk S k).2.2 ≤ 5 := by
  refine o.d _ ?_
  simp [sk, List.getD, h]
section
variable {C : Cf} [All C] {k : Nat}
theorem c_seq {d : D} (h : calm d = true) : C (k + 1) "is_seq" [d] = some (.b (isSq d)) := seq_d s_is_seq h
theorem c_int {d : D} (h : calm d = true) : C (k + 1) "is_int" [d] = some (.b (isIn d)) := int_d s_is_int h
theorem c_long {d : D} {lo hi : Int} (h : calm d = true) : C (k + 2) "is_long" [d, .i lo, .i hi] = some (.b (longB d lo hi)) := long_d s_is_seq s_is_long h
theorem c_from {d : D} {lo hi : Int} (h : calm d = true) : C (k + 2) "is_from" [d, .i lo, .i hi] = some (.b (fromB d lo hi)) := from_d s_is_int s_is_from h
theorem c_need {d : D} : C (k + 1) "need" [.b true, d] = some .n := need_d s_need
theorem c_stay {n : Nat} {d : D} (h : fin (n + 1) d = true) : C (k + 3) "is_stay" [d] = some (.b (stayB d)) := s_is_stay.run (by
  have e1 := c_long (C := C) (k := k) (lo := 3) (hi := 3) (fin_calm h)
  unfold stayB
  cases hb : longB d 3 3 with
  | false => simp -implicitDefEqProofs [-ixD, -seqD, -walkD, -allD, -anyD, -sumD, -maxD, -minD, -minTD, -rng1, -rng2, -rng3, -List.head?_filter, -isTys, -lenD, S_is_stay, e1, hb]
  | true =>
    obtain ⟨hs, hl⟩ := long_3 hb
    have e2 := ixD_n0 hs (by omega)
    have e3 := ixD_n1 hs (by omega)
    have e3' := ixD_n2 hs (by omega)
    have e4 := c_from (C := C) (k := k) (lo := 0) (hi := 99) (fin_calm (fin_nth h 0))
    cases h4 : fromB (ndx d 0) 0 99 with
    | false => simp -implicitDefEqProofs [-ixD, -seqD, -walkD, -allD, -anyD, -sumD, -maxD, -minD, -minTD, -rng1, -rng2, -rng3, -List.head?_filter, -isTys, -lenD, S_is_stay, e1, hb, e2, e3, e4, h4]
    | true =>
      obtain ⟨x, hx, _, _⟩ := fromB_iff.mp h4
      have e5 := c_from (C := C) (k := k) (lo := x) (hi := 99) (fin_calm (fin_nth h 1))
      have e6 := c_from (C := C) (k := k) (lo := 1) (hi := 100) (fin_calm (fin_nth h 2))
      rw [hx] at e4 h4 e2 ⊢
      cases h5 : fromB (ndx d 1) x 99 with
      | false => simp -implicitDefEqProofs [-ixD, -seqD, -walkD, -allD, -anyD, -sumD, -maxD, -minD, -minTD, -rng1, -rng2, -rng3, -List.head?_filter, -isTys, -lenD, S_is_stay, e1, hb, e2, e3, e3', e4, h4, e5, h5]
      | true => simp -implicitDefEqProofs [-ixD, -seqD, -walkD, -allD, -anyD, -sumD, -maxD, -minD, -minTD, -rng1, -rng2, -rng3, -List.head?_filter, -isTys, -lenD, S_is_stay, e1, hb, e2, e3, e3', e4, h4, e5, h5, e6])
theorem c_stays {n : Nat} {d : D} (h : fin (n + 2) d = true) : C (k + 4) "is_stays" [d] = some (.b (staysB d)) := s_is_stays.run (by
  have e1 := c_long (C := C) (k := k + 1) (lo := 1) (hi := 12) (fin_calm h)
  unfold staysB
  cases hb : longB d 1 12 with
  | false => simp -implicitDefEqProofs [-ixD, -seqD, -walkD, -allD, -anyD, -sumD, -maxD, -minD, -minTD, -rng1, -rng2, -rng3, -List.head?_filter, -isTys, -lenD, S_is_stays, e1, hb]
  | true =>
    have hs2 := (longB_iff.mp hb).1
    simp -implicitDefEqProofs [-ixD, -seqD, -walkD, -allD, -anyD, -sumD, -maxD, -minD, -minTD, -rng1, -rng2, -rng3, -List.head?_filter, -isTys, -lenD, S_is_stays, e1, hb, walk_mem hs2, compD_id]
    rw [compM_all (fun x => D.b (stayB x)) (fun _ _ => rfl) fun a ha => by have := c_stay (C := C) (k := k) (fin_mem h a ha); simpa using this]
    simp -implicitDefEqProofs [-ixD, -seqD, -walkD, -allD, -anyD, -sumD, -maxD, -minD, -minTD, -rng1, -rng2, -rng3, -List.head?_filter, -isTys, -lenD, mkL_map (sz_le (fin_len h)), allD_map])
variable {S : List St}
theorem fin_s3 (m : Nat) (p : St) : fin (m + 1) (sD p) = true := fin_ts (by simp) (by simp)
theorem fin_s3L (m : Nat) (p : St) : fin (m + 1) (sL p) = true := fin_ls (by simp) (by simp)
theorem fin_ssQ (m : Nat) (l : Bool) (h : S.length ≤ 1000) : fin (m + 2) (ssQ l S) = true := by
  cases l
  · exact fin_mapT (fun p _ => fin_s3 m p) (by omega)
  · exact fin_map (fun p _ => fin_s3L m p) (by omega)
theorem stays_ss (o : So S) (l : Bool) : staysB (ssQ l S) = true := by
  have h3 := o.n1; have h4 := o.n6
  cases l
  · simp [staysB, ssQ, ssD]
    refine ⟨by omega, fun a b c hp => ?_⟩
    have := o.d _ hp
    simp [stayB, sD]
    simp only at this
    omega
  · simp [staysB, ssQ, ssL]
    refine ⟨by omega, fun a b c hp => ?_⟩
    have := o.d _ hp
    simp [stayB, sL]
    simp only at this
    omega
theorem pl_ssQ (l : Bool) : plD (ssQ l S) = ssD S := by
  cases l
  · have : plDs (S.map sD) = S.map sD := by
      rw [plDs_map, List.map_map]
      exact List.map_congr_left fun p _ => by simp [sD, plD, plDs]
    simp [ssQ, ssD, plD, this]
  · have : plDs (S.map sL) = S.map sD := by
      rw [plDs_map, List.map_map]
      exact List.map_congr_left fun p _ => by simp [sD, sL, plD, plDs]
    simp [ssQ, ssD, ssL, plD, this]
theorem li_ss : liD (ssD S) = ssQ true S := by
  have : liDs (S.map sD) = S.map sL := by
    rw [liDs_map, List.map_map]
    exact List.map_congr_left fun p _ => by simp [sD, sL, liD, liDs]
  simp [ssQ, ssD, ssL, liD, this]
theorem c_ns (o : So S) (l : Bool) : C (k + 5) "need_stays" [ssQ l S] = some (ssD S) := s_need_stays.run (by
  have hn := o.n6
  have hf : fin 2 (ssQ l S) = true := fin_ssQ 0 l (by omega)
  have e1 := c_stays (C := C) (k := k) (n := 0) hf
  have e2 := plain_d (C := C) s_is_seq s_plain 2 k _ hf
  rw [stays_ss o l] at e1
  rw [pl_ssQ l] at e2
  rw [show k + 2 + 2 = k + 4 by omega] at e2
  simp -implicitDefEqProofs [-ixD, -seqD, -walkD, -allD, -anyD, -sumD, -maxD, -minD, -minTD, -rng1, -rng2, -rng3, -List.head?_filter, -isTys, -lenD, S_need_stays, e1, c_need (C := C), e2])
/-! ### who lies -/
def liB (p : St) (n : Int) : Bool := decide (p.1 ≤ n) && decide (n ≤ p.2.1)
def lyL (S : List St) (n : Int) : List Nat := (List.range S.length).filter fun k => liB (sk S k) n
def nD (r : List Nat) : D := .t (r.map fun k : Nat => D.i k)
theorem compM_map {α β : Type} {p : β → Option Bool} {g : β → Option D} (f : α → β) (l : List α) : compM p g (l.map f) = compM (fun a => p (f a)) (fun a => g (f a)) l := by
  induction l with
  | nil => rfl
  | cons a l ih => rw [List.map_cons, compM, compM, ih]
theorem zip_ss : (S.map sD).zipIdx = (List.range S.length).map fun k => (sD (sk S k), k) := by
  apply List.ext_getElem
  · simp
  · intro i h1 h2
    simp at h1
    simp [sk, List.getD, h1]
theorem ly_in {n : Int} {k : Nat} : k ∈ lyL S n ↔ k < S.length ∧ liB (sk S k) n = true := by rw [lyL, List.mem_filter, List.mem_range]
theorem ly_len (n : Int) : (lyL S n).length ≤ S.length := by
  have := List.length_filter_le (fun k => liB (sk S k) n) (List.range S.length)
  simpa [lyL] using this
theorem liB_iff {p : St} {n : Int} : liB p n = true ↔ p.1 ≤ n ∧ n ≤ p.2.1 := by simp [liB]
theorem liB_1 {p : St} {n : Int} (h : p.1 ≤ n) : liB p n = decide (n ≤ p.2.1) := by simp [liB, h]
theorem liB_0 {p : St} {n : Int} (h : ¬ p.1 ≤ n) : liB p n = false := by simp [liB, h]
theorem c_lyon (o : So S) (n : Int) : C (k + 1) "lying_on" [ssD S, .i n] = some (nD (lyL S n)) := s_lying_on.run (by
  have hn := o.n6
  have hl := ly_len (S := S) n
  simp -implicitDefEqProofs [-ixD, -seqD, -walkD, -allD, -anyD, -sumD, -maxD, -minD, -minTD, -rng1, -rng2, -rng3, -List.head?_filter, -isTys, -lenD, S_lying_on, enumD_id, compD_M]
  rw [zip_ss, compM_map, compM_eq (fun j => liB (sk S j) n) (fun j : Nat => .i j) (fun j _ => ?_) fun _ _ _ => rfl]
  · simp -implicitDefEqProofs [-ixD, -seqD, -walkD, -allD, -anyD, -sumD, -maxD, -minD, -minTD, -rng1, -rng2, -rng3, -List.head?_filter, -isTys, -lenD, mkL_ok (xs := ((List.range S.length).filter fun j => liB (sk S j) n).map fun j : Nat => D.i j) (sz_le (by simpa using (by have := hl; unfold lyL at this; omega)))]
    rfl
  · simp -implicitDefEqProofs [-ixD, -seqD, -walkD, -allD, -anyD, -sumD, -maxD, -minD, -minTD, -rng1, -rng2, -rng3, -List.head?_filter, -isTys, -lenD]
    by_cases h : (sk S j).1 ≤ n
    · simp [h, liB]
    · simp [h, liB])
theorem c_llying (o : So S) (n : Int) : C (k + 1) "_law_lying" [ssD S, .i n] = some (.l ((lyL S n).map fun k : Nat => D.i k)) := s__law_lying.run (by
  have hn := o.n6
  have hl := ly_len (S := S) n
  simp -implicitDefEqProofs [-ixD, -seqD, -walkD, -allD, -anyD, -sumD, -maxD, -minD, -minTD, -rng1, -rng2, -rng3, -List.head?_filter, -isTys, -lenD, S__law_lying, rng1_nat (n := S.length) (by omega), compD_M]
  rw [compM_eq (fun j => liB (sk S j) n) (fun j : Nat => .i j) (fun j hj => ?_) fun _ _ _ => rfl]
  · simp -implicitDefEqProofs [-ixD, -seqD, -walkD, -allD, -anyD, -sumD, -maxD, -minD, -minTD, -rng1, -rng2, -rng3, -List.head?_filter, -isTys, -lenD, mkL_ok (xs := ((List.range S.length).filter fun j => liB (sk S j) n).map fun j : Nat => D.i j) (sz_le (by simpa using (by have := hl; unfold lyL at this; omega)))]
    rfl
  · simp -implicitDefEqProofs [-ixD, -seqD, -walkD, -allD, -anyD, -sumD, -maxD, -minD, -minTD, -rng1, -rng2, -rng3, -List.head?_filter, -isTys, -lenD, ix_ss (List.mem_range.mp hj)]
    by_cases h : (sk S j).1 ≤ n
    · simp [h, liB]
    · simp [h, liB])
end
end K37
namespace K37
open PySem PySem.Spec PyProof.Rows L2 PL
/-! ### days -/
def cn (S : List St) (n : Nat) : Nat := (lyL S n).length
/-- the first fullest of the first n days -/
def bst (f : Nat → Nat) : Nat → Nat × Nat
  | 0 => (0, 0)
  | n + 1 => if (bst f n).2 < f n then (n, f n) else bst f n
theorem bst_ge (f : Nat → Nat) : ∀ n i, i < n → f i ≤ (bst f n).2
  | n + 1, i, h => by
    rw [bst]
    by_cases e : i = n
    · subst e
      split
      · exact Nat.le_refl _
      · omega
    · have := bst_ge f n i (by omega)
      split <;> omega
theorem bst_at (f : Nat → Nat) : ∀ n, 0 < n → (bst f n).1 < n ∧ f (bst f n).1 = (bst f n).2 ∨ (bst f n) = (0, 0)
  | n + 1, _ => by
    rw [bst]
    split
    · exact .inl ⟨by simp, rfl⟩
    · rcases Nat.eq_zero_or_pos n with e | e
      · subst e; exact .inr rfl
      · rcases bst_at f n e with h | h
        · exact .inl ⟨by omega, h.2⟩
        · exact .inr h
theorem bst_lt (f : Nat → Nat) : ∀ n i, i < (bst f n).1 → f i < (bst f n).2
  | 0, i, h => by simp [bst] at h
  | n + 1, i, h => by
    rw [bst] at h ⊢
    split at h
    · rename_i h2
      rw [if_pos h2]
      have := bst_ge f n i (by simpa using h)
      simp only
      omega
    · rename_i h2
      rw [if_neg h2]
      exact bst_lt f n i h
theorem bst_stop (f : Nat → Nat) {m : Nat} (h : ∀ i, m ≤ i → f i = 0) : ∀ j, bst f (m + j) = bst f m
  | 0 => rfl
  | j + 1 => by
    rw [← Nat.add_assoc, bst, bst_stop f h j, if_neg (by rw [h (m + j) (by omega)]; omega)]
def oD : Option Nat → D
  | none => .n
  | some n => .i n
section
variable {C : Cf} [All C] {k : Nat} {S : List St}
theorem ly_far (o : So S) {n : Nat} (h : 14 ≤ n) : lyL S n = [] := by
  rw [lyL, List.filter_eq_nil_iff]
  intro j hj
  have := o.k (List.mem_range.mp hj)
  rw [liB_iff]
  omega
theorem cn_far (o : So S) {n : Nat} (h : 14 ≤ n) : cn S n = 0 := by rw [cn, ly_far o h]; rfl
theorem cn_le (n : Nat) : cn S n ≤ S.length := ly_len _
@[simp] theorem len_n (r : List Nat) : PL.lenD [nD r] = some (.i r.length) := by simp [nD]
@[simp] theorem calm_nD (r : List Nat) : calm (nD r) = true := rfl
theorem c_full (o : So S) (l : Bool) : C (k + 6) "fullest" [ssQ l S] = some (.t [.i (bst (cn S) 100).1, .i (bst (cn S) 100).2]) := s_fullest.run (run_of (by
  have e0 := c_ns (C := C) (k := k) o l
  simp -implicitDefEqProofs [-ixD, -seqD, -walkD, -allD, -anyD, -sumD, -maxD, -minD, -minTD, -rng1, -rng2, -rng3, -List.head?_filter, -isTys, -lenD, -ixlD, -mxdD, -trgD, e0]
  refine Wf_frr 0 100 (fun i e => ∃ c1 c2, e = [.v (ssD S), .v (.t [.i (bst (cn S) i).1, .i (bst (cn S) i).2]), c1, c2]) (show rng1 (.i 100) = some (rngD 0 100) by decide +kernel) ⟨_, _, rfl⟩ ?_ ?_
  · rintro i hi e ⟨c1, c2, rfl⟩
    have e1 := c_lyon (C := C) (k := k + 4) o (i : Nat)
    simp -implicitDefEqProofs [-ixD, -seqD, -walkD, -allD, -anyD, -sumD, -maxD, -minD, -minTD, -rng1, -rng2, -rng3, -List.head?_filter, -isTys, -lenD, -ixlD, -mxdD, -trgD, e1]
    refine ⟨fun h => ?_, fun h => ?_⟩
    · rw [bst, if_pos (by rw [cn]; omega)]
      simp [cn]
    · rw [bst, if_neg (by rw [cn]; omega)]
      simp
  · rintro e ⟨c1, c2, rfl⟩
    simp -implicitDefEqProofs [-ixD, -seqD, -walkD, -allD, -anyD, -sumD, -maxD, -minD, -minTD, -rng1, -rng2, -rng3, -List.head?_filter, -isTys, -lenD, -ixlD, -mxdD, -trgD]))
theorem c_lying (o : So S) (l : Bool) {n : Int} (h0 : 0 ≤ n) (h1 : n ≤ 99) : C (k + 6) "lying" [ssQ l S, .i n] = some (nD (lyL S n)) := s_lying.run (run_of (by
  have e0 := c_ns (C := C) (k := k) o l
  have e1 := c_lyon (C := C) (k := k + 4) o n
  have e2 := c_from (C := C) (k := k + 3) (d := .i n) (lo := 0) (hi := 99) rfl
  have e3 : fromB (.i n) 0 99 = true := by simp; omega
  simp -implicitDefEqProofs [-ixD, -seqD, -walkD, -allD, -anyD, -sumD, -maxD, -minD, -minTD, -rng1, -rng2, -rng3, -List.head?_filter, -isTys, -lenD, -ixlD, -mxdD, -trgD, e0, e1, e2, e3, c_need (C := C), -fromB_i]))
def crowd (S : List St) (m : Nat) : Option Nat := (List.range 100).find? fun n => decide (m < cn S n)
theorem c_fc (o : So S) (m : Nat) : C (k + 2) "first_crowd" [ssD S, .i m] = some (oD (crowd S m)) := s_first_crowd.run (run_of (by
  simp -implicitDefEqProofs [-ixD, -seqD, -walkD, -allD, -anyD, -sumD, -maxD, -minD, -minTD, -rng1, -rng2, -rng3, -List.head?_filter, -isTys, -lenD, -ixlD, -mxdD, -trgD]
  refine Wf_frp [2] (fun i : Nat => D.i i) (List.range 100) (Nope fun n : Nat => decide (m < cn S n)) ?_ nope_nil ?_ ?_
  · exact rng1_nat (n := 100) (by omega)
  · intro pre x post e hno c
    have e1 := c_lyon (C := C) (k := k) o (x : Nat)
    cases hq : decide (m < cn S x) with
    | true =>
      have : crowd S m = some x := by rw [crowd, e]; exact hno.find_at hq
      have hq' : (m : Int) < (lyL S x).length := by have := of_decide_eq_true hq; unfold cn at this; omega
      simp -implicitDefEqProofs [-ixD, -seqD, -walkD, -allD, -anyD, -sumD, -maxD, -minD, -minTD, -rng1, -rng2, -rng3, -List.head?_filter, -isTys, -lenD, -ixlD, -mxdD, -trgD, e1, this, oD, hq']
    | false =>
      have h2 := hno.snoc hq
      have hq' : ¬ (m : Int) < (lyL S x).length := by have := of_decide_eq_false hq; unfold cn at this; omega
      simp -implicitDefEqProofs [-ixD, -seqD, -walkD, -allD, -anyD, -sumD, -maxD, -minD, -minTD, -rng1, -rng2, -rng3, -List.head?_filter, -isTys, -lenD, -ixlD, -mxdD, -trgD, e1, h2]
      intro h
      exact absurd h (by omega)
  · intro hno c
    have := hno.find
    simp -implicitDefEqProofs [-ixD, -seqD, -walkD, -allD, -anyD, -sumD, -maxD, -minD, -minTD, -rng1, -rng2, -rng3, -List.head?_filter, -isTys, -lenD, -ixlD, -mxdD, -trgD, crowd, this, oD]))
theorem c_many {m : Nat} {hi : Int} (h : 1 ≤ m) (h2 : (m : Int) ≤ hi) : C (k + 2) "is_from" [.i m, .i 1, .i hi] = some (.b true) := by
  rw [c_from (C := C) (k := k) (d := .i m) (lo := 1) (hi := hi) rfl]
  simp
  omega
theorem c_crowd (o : So S) (l : Bool) {m : Nat} (h : 1 ≤ m) (h2 : m ≤ 12) : C (k + 6) "crowd_of" [ssQ l S, .i m] = some (oD (crowd S m)) := s_crowd_of.run (run_of (by
  have e0 := c_ns (C := C) (k := k) o l
  have e1 := c_fc (C := C) (k := k + 3) o m
  have e2 := c_many (C := C) (k := k + 3) (m := m) (hi := 12) h (by omega)
  simp -implicitDefEqProofs [-ixD, -seqD, -walkD, -allD, -anyD, -sumD, -maxD, -minD, -minTD, -rng1, -rng2, -rng3, -List.head?_filter, -isTys, -lenD, -ixlD, -mxdD, -trgD, e0, e1, e2, c_need (C := C)]))
end
end K37
namespace K37
open PySem PySem.Spec PyProof.Rows L2 PL
/-! ### places -/
def ovB (p q : St) : Bool := decide (p.1 ≤ q.2.1) && decide (q.1 ≤ p.2.1)
def tD (vs : List Int) : D := .t (vs.map .i)
theorem nD_t (r : List Nat) : nD r = tD (r.map fun k : Nat => (k : Int)) := by rw [nD, tD, List.map_map]; rfl
def freeB (S : List St) (vs : List Int) (h : Nat) (pen : Int) : Bool := (List.range h).all fun j => !(decide (gI vs j = pen) && ovB (sk S j) (sk S h))
theorem freeB_iff {S : List St} {vs : List Int} {h : Nat} {pen : Int} : freeB S vs h pen = true ↔ ∀ j, j < h → ovB (sk S j) (sk S h) = true → gI vs j ≠ pen := by
  rw [freeB, List.all_eq_true]
  constructor
  · intro a j hj ho e
    have := a j (List.mem_range.mpr hj)
    rw [ho, decide_eq_true e] at this
    cases this
  · intro a j hj
    have := a j (List.mem_range.mp hj)
    by_cases e : gI vs j = pen
    · cases ho : ovB (sk S j) (sk S h) with
      | false => simp
      | true => exact absurd e (this ho)
    · simp [e]
def used : List Nat → Nat
  | [] => 0
  | m :: r => r.foldl max m + 1
def rowO : Option (List Nat) → D
  | none => .n
  | some r => nD r
def dfs (S : List St) (m : Nat) : Nat → List Nat → Option (List Nat)
  | 0, t => some t
  | n + 1, t => (List.range (min (used t + 1) m)).findSome? fun p : Nat => if freeB S (t.map fun k : Nat => (k : Int)) t.length p = true then dfs S m n (t ++ [p]) else none
theorem fs_at {α β : Type} {g : α → Option β} {pre post : List α} {a : α} (h : Nope (fun p => (g p).isSome) pre) (e : (g a).isSome = true) : (pre ++ a :: post).findSome? g = g a := by
  rw [List.findSome?_append, List.findSome?_eq_none_iff.mpr fun x hx => by simpa using h x hx]
  cases hg : g a with
  | none => rw [hg] at e; cases e
  | some b => simp [hg]
theorem fs_no {α β : Type} {g : α → Option β} {l : List α} (h : Nope (fun p => (g p).isSome) l) : l.findSome? g = none := List.findSome?_eq_none_iff.mpr fun x hx => by simpa using h x hx
theorem maxL_nat : ∀ (r : List Nat) (m : Nat), maxL (m : Int) (r.map fun k : Nat => (k : Int)) = ((r.foldl max m : Nat) : Int)
  | [], _ => rfl
  | x :: r, m => by
    rw [List.map_cons, maxL, List.foldl_cons]
    have : (if (m : Int) < (x : Int) then (x : Int) else m) = ((max m x : Nat) : Int) := by
      split <;> omega
    rw [this, maxL_nat r]
theorem mx_used (t : List Nat) : mxdD (nD t) (.i (-1)) = some (.i ((used t : Nat) - 1 : Int)) := by
  rw [nD_t, tD, mxdD, intsD_map]
  cases t with
  | nil => rfl
  | cons m r =>
    rw [List.map_cons, Option.map_some]
    simp only [maxL_nat, used]
    congr 2
    omega
@[simp] theorem isND_nD (r : List Nat) : isND (nD r) = false := rfl
section
variable {C : Cf} [All C] {k : Nat} {S : List St}
theorem c_ov (p q : St) : C (k + 1) "overlap" [sD p, sD q] = some (.b (ovB p q)) := s_overlap.run (by
  simp -implicitDefEqProofs [-ixD, -seqD, -walkD, -allD, -anyD, -sumD, -maxD, -minD, -minTD, -rng1, -rng2, -rng3, -List.head?_filter, -isTys, -lenD, -ixlD, -mxdD, -trgD, S_overlap]
  by_cases h : p.1 ≤ q.2.1
  · simp [h, ovB]
  · simp [h, ovB])
theorem ix_tD {vs : List Int} {j : Nat} (h : j < vs.length) : ixD (tD vs) (.i j) = some (.i (gI vs j)) := by rw [tD, ixD_t, atI_gI h]
theorem eq_ii (a b : Int) : eqE (.i a) (.i b) = some (.b (decide (a = b))) := by simp
theorem c_free (o : So S) {vs : List Int} {h : Nat} (hh : h < S.length) (hv : h ≤ vs.length) (pen : Int) : C (k + 2) "is_free" [ssD S, tD vs, .i h, .i pen] = some (.b (freeB S vs h pen)) := s_is_free.run (run_of (by
  have hn := o.n6
  simp -implicitDefEqProofs [-ixD, -seqD, -walkD, -allD, -anyD, -sumD, -maxD, -minD, -minTD, -rng1, -rng2, -rng3, -List.head?_filter, -isTys, -lenD, -ixlD, -mxdD, -trgD]
  refine Wf_frp [4] (fun i : Nat => D.i i) (List.range h) (Nope fun j : Nat => decide (gI vs j = pen) && ovB (sk S j) (sk S h)) ?_ nope_nil ?_ ?_
  · exact rng1_nat (by omega)
  · intro pre x post e hno c
    have hx : x < h := by
      have : x ∈ List.range h := by rw [e]; simp
      exact List.mem_range.mp this
    have e1 := c_ov (C := C) (k := k) (sk S x) (sk S h)
    have e2 := ix_tD (vs := vs) (j := x) (by omega)
    have e3 := ix_ss (S := S) (k := x) (by omega)
    have e4 := ix_ss (S := S) (k := h) hh
    cases hq : (decide (gI vs x = pen) && ovB (sk S x) (sk S h)) with
    | true =>
      have hf : freeB S vs h pen = false := by
        rw [freeB, ← Bool.not_eq_true, List.all_eq_true]
        intro a
        have := a x (by rw [e]; simp)
        rw [hq] at this
        cases this
      rw [Bool.and_eq_true, decide_eq_true_eq] at hq
      simp -implicitDefEqProofs [-ixD, -seqD, -walkD, -allD, -anyD, -sumD, -maxD, -minD, -minTD, -rng1, -rng2, -rng3, -List.head?_filter, -isTys, -lenD, -ixlD, -mxdD, -trgD, e1, e2, e3, e4, hf, hq.1, hq.2]
    | false =>
      have h2 := hno.snoc hq
      by_cases hp : gI vs x = pen
      · rw [decide_eq_true hp, Bool.true_and] at hq
        simp -implicitDefEqProofs [-ixD, -seqD, -walkD, -allD, -anyD, -sumD, -maxD, -minD, -minTD, -rng1, -rng2, -rng3, -List.head?_filter, -isTys, -lenD, -ixlD, -mxdD, -trgD, e1, e2, e3, e4, h2, hp, hq]
      · simp -implicitDefEqProofs [-ixD, -seqD, -walkD, -allD, -anyD, -sumD, -maxD, -minD, -minTD, -rng1, -rng2, -rng3, -List.head?_filter, -isTys, -lenD, -ixlD, -mxdD, -trgD, e1, e2, e3, e4, h2, hp]
  · intro hno c
    have hf : freeB S vs h pen = true := hno.all
    simp -implicitDefEqProofs [-ixD, -seqD, -walkD, -allD, -anyD, -sumD, -maxD, -minD, -minTD, -rng1, -rng2, -rng3, -List.head?_filter, -isTys, -lenD, -ixlD, -mxdD, -trgD, hf]))
theorem c_placed (o : So S) {m : Nat} (hm : m ≤ 1000) : ∀ (n k : Nat) (t : List Nat), t.length + n = S.length → C (k + n + 3) "placed_on" [ssD S, .i m, nD t] = some (rowO (dfs S m n t))
  | 0, k, t, h => s_placed_on.run (run_of (by
    simp -implicitDefEqProofs [-ixD, -seqD, -walkD, -allD, -anyD, -sumD, -maxD, -minD, -minTD, -rng1, -rng2, -rng3, -List.head?_filter, -isTys, -lenD, -ixlD, -mxdD, -trgD, show ((t.length : Nat) : Int) = S.length by omega]
    rfl))
  | n + 1, k, t, h => s_placed_on.run (run_of (by
    have hn := o.n6
    have hne : ¬ ((t.length : Nat) : Int) = S.length := by omega
    simp -implicitDefEqProofs [-ixD, -seqD, -walkD, -allD, -anyD, -sumD, -maxD, -minD, -minTD, -rng1, -rng2, -rng3, -List.head?_filter, -isTys, -lenD, -ixlD, -mxdD, -trgD, hne, mx_used]
    refine Wf_frp [5, 6] (fun i : Nat => D.i i) (List.range (min (used t + 1) m)) (Nope fun p : Nat => (if freeB S (t.map fun k : Nat => (k : Int)) t.length p = true then dfs S m n (t ++ [p]) else none).isSome) ?_ nope_nil ?_ ?_
    · have : (if (m : Int) < (used t : Int) + 1 then (m : Int) else (used t : Int) + 1) = ((min (used t + 1) m : Nat) : Int) := by split <;> omega
      simp -implicitDefEqProofs [-ixD, -seqD, -walkD, -allD, -anyD, -sumD, -maxD, -minD, -minTD, -rng1, -rng2, -rng3, -List.head?_filter, -isTys, -lenD, -ixlD, -mxdD, -trgD, this]
      exact rng1_nat (by omega)
    · intro pre x post e hno c
      have e1 : C (k + (n + 1) + 2) "is_free" [ssD S, nD t, .i t.length, .i x] = some (.b (freeB S (t.map fun k : Nat => (k : Int)) t.length x)) := by
        rw [nD_t]
        exact c_free (C := C) (k := k + n + 1) o (vs := t.map fun k : Nat => (k : Int)) (h := t.length) (by omega) (by simp) (x : Int)
      have e2 : C (k + (n + 1) + 2) "placed_on" [ssD S, .i m, nD (t ++ [x])] = some (rowO (dfs S m n (t ++ [x]))) := c_placed o hm n k (t ++ [x]) (by simp; omega)
      have e3 : adE (nD t) (.t [.i x]) = some (nD (t ++ [x])) := by
        rw [nD, adE_t' (by simp; omega), nD, List.map_append]; rfl
      cases hf : freeB S (t.map fun k : Nat => (k : Int)) t.length x with
      | false =>
        have h2 := hno.snoc (a := x) (by rw [if_neg (by rw [hf]; exact Bool.false_ne_true)]; rfl)
        simp -implicitDefEqProofs [-ixD, -seqD, -walkD, -allD, -anyD, -sumD, -maxD, -minD, -minTD, -rng1, -rng2, -rng3, -List.head?_filter, -isTys, -lenD, -ixlD, -mxdD, -trgD, e1, hf, h2]
      | true =>
        cases hd : dfs S m n (t ++ [x]) with
        | none =>
          have h2 := hno.snoc (a := x) (by rw [if_pos hf, hd]; rfl)
          simp -implicitDefEqProofs [-ixD, -seqD, -walkD, -allD, -anyD, -sumD, -maxD, -minD, -minTD, -rng1, -rng2, -rng3, -List.head?_filter, -isTys, -lenD, -ixlD, -mxdD, -trgD, e1, hf, h2, e2, e3, hd, rowO]
        | some r =>
          have h3 : dfs S m (n + 1) t = some r := by
            rw [dfs, e, fs_at hno (by rw [if_pos hf, hd]; rfl), if_pos hf, hd]
          simp -implicitDefEqProofs [-ixD, -seqD, -walkD, -allD, -anyD, -sumD, -maxD, -minD, -minTD, -rng1, -rng2, -rng3, -List.head?_filter, -isTys, -lenD, -ixlD, -mxdD, -trgD, e1, hf, e2, e3, hd, rowO, h3]
    · intro hno c
      have : dfs S m (n + 1) t = none := by rw [dfs, fs_no hno]
      simp -implicitDefEqProofs [-ixD, -seqD, -walkD, -allD, -anyD, -sumD, -maxD, -minD, -minTD, -rng1, -rng2, -rng3, -List.head?_filter, -isTys, -lenD, -ixlD, -mxdD, -trgD, this, rowO]))
end
end K37
namespace K37
open PySem PySem.Spec PyProof.Rows L2 PL
def placesOf (S : List St) (m : Nat) : D := match crowd S m with
  | none => rowO (dfs S m S.length [])
  | some _ => .n
def nearL (S : List St) (row : List Nat) (k : Nat) : List Nat := ((List.range k).filter fun j => ovB (sk S j) (sk S k)).map fun j => row.getD j 0
def stepR (S : List St) (m k : Nat) (row : List Nat) : List (List Nat) := ((List.range m).filter fun p => !decide (p ∈ nearL S row k)).map fun p => row ++ [p]
def rowsL (S : List St) (m : Nat) : Nat → List (List Nat)
  | 0 => [[]]
  | k + 1 => (rowsL S m k).flatMap (stepR S m k)
def mnO : List (List Nat) → D
  | [] => .n
  | r :: rs => tD (minTL (r.map fun k : Nat => (k : Int)) (rs.map fun r => r.map fun k : Nat => (k : Int)))
theorem step_len (S : List St) (m k : Nat) (row : List Nat) : (stepR S m k row).length ≤ m := by
  have := List.length_filter_le (fun p => !decide (p ∈ nearL S row k)) (List.range m)
  simpa [stepR] using this
theorem rows_len (S : List St) (m : Nat) : ∀ k, (rowsL S m k).length ≤ m ^ k
  | 0 => by simp [rowsL]
  | k + 1 => by
    have h1 := rows_len S m k
    have h2 := flat_le (stepR S m k) m (rowsL S m k) fun a _ => step_len S m k a
    rw [rowsL, Nat.pow_succ, Nat.mul_comm]
    exact Nat.le_trans h2 (Nat.mul_le_mul_left _ h1)
theorem rows_each (S : List St) (m : Nat) : ∀ k, ∀ r ∈ rowsL S m k, r.length = k
  | 0, r, h => by rw [rowsL, List.mem_singleton] at h; rw [h]; rfl
  | k + 1, r, h => by
    rw [rowsL, List.mem_flatMap] at h
    obtain ⟨a, ha, h⟩ := h
    rw [stepR, List.mem_map] at h
    obtain ⟨p, _, rfl⟩ := h
    simp [rows_each S m k a ha]
section
variable {C : Cf} [All C] {k : Nat} {S : List St}
theorem c_places (o : So S) (l : Bool) {m : Nat} (h : 1 ≤ m) (h2 : m ≤ 12) : C (k + 10) "places_of" [ssQ l S, .i m] = some (placesOf S m) := s_places_of.run (run_of (by
  have hn := o.n6
  have e0 := c_ns (C := C) (k := k + 4) o l
  have e1 := c_fc (C := C) (k := k + 7) o m
  have e2 := c_many (C := C) (k := k + 7) (m := m) (hi := 12) h (by omega)
  obtain ⟨q, hq⟩ := Nat.exists_eq_add_of_le hn
  have e3 := c_placed (C := C) o (m := m) (by omega) S.length (k + q) [] (by simp)
  rw [show k + q + S.length + 3 = k + 9 by omega] at e3
  have e4 : D.t [] = nD [] := rfl
  cases hc : crowd S m with
  | none => simp -implicitDefEqProofs [-ixD, -seqD, -walkD, -allD, -anyD, -sumD, -maxD, -minD, -minTD, -rng1, -rng2, -rng3, -List.head?_filter, -isTys, -lenD, -ixlD, -mxdD, -trgD, e0, e1, e2, c_need (C := C), hc, oD, placesOf, e4, e3]
  | some d => simp -implicitDefEqProofs [-ixD, -seqD, -walkD, -allD, -anyD, -sumD, -maxD, -minD, -minTD, -rng1, -rng2, -rng3, -List.head?_filter, -isTys, -lenD, -ixlD, -mxdD, -trgD, e0, e1, e2, c_need (C := C), hc, oD, placesOf]))
theorem nb_i (x : Int) (n : Nat) : nbD n (.i x) = true := by cases n <;> rfl
theorem ni_nat (p : Nat) (l : List Nat) : niE (.i p) (.l (l.map fun k : Nat => D.i k)) = some (.b (!decide (p ∈ l))) := by
  rw [niE_l (nb_i _ _) (by rw [List.all_eq_true]; intro x hx; obtain ⟨y, _, rfl⟩ := List.mem_map.mp hx; exact nb_i _ _)]
  congr 3
  rw [Bool.eq_iff_iff, decide_eq_true_eq, decide_eq_true_eq, List.mem_map]
  constructor
  · rintro ⟨y, hy, e⟩
    have : (y : Int) = p := D.i.inj e
    rwa [show p = y by omega]
  · intro h; exact ⟨p, h, rfl⟩
theorem in_nat (p : Nat) (l : List Nat) : inE (.i p) (nD l) = some (.b (decide (p ∈ l))) := by
  rw [nD, inE_t (nb_i _ _) (by rw [List.all_eq_true]; intro x hx; obtain ⟨y, _, rfl⟩ := List.mem_map.mp hx; exact nb_i _ _)]
  congr 2
  rw [Bool.eq_iff_iff, decide_eq_true_eq, decide_eq_true_eq, List.mem_map]
  constructor
  · rintro ⟨y, hy, e⟩
    have : (y : Int) = p := D.i.inj e
    rwa [show p = y by omega]
  · intro h; exact ⟨p, h, rfl⟩
theorem ix_nD {r : List Nat} {j : Nat} (h : j < r.length) : ixD (nD r) (.i j) = some (.i (r.getD j 0 : Nat)) := by
  rw [nD, ixD_t, atI_mapS h]; simp [List.getD, h]
theorem pow46 {m k : Nat} (hm : m ≤ 4) (hk : k ≤ 6) : m ^ k ≤ 4096 := Nat.le_trans (Nat.pow_le_pow_left hm k) (Nat.le_trans (Nat.pow_le_pow_right (n := 4) (by omega) hk) (by decide))
theorem ap_nD (r : List Nat) (p : Nat) (h : r.length ≤ 1000) : adE (nD r) (.t [.i p]) = some (nD (r ++ [p])) := by
  rw [nD, adE_t' (by simp; omega), nD, List.map_append]; rfl
theorem c_lplaces (o : So S) {m : Nat} (hm : m ≤ 4) : C (k + 1) "_law_places" [ssD S, .i m] = some (mnO (rowsL S m S.length)) := s__law_places.run (run_of (by
  have hn := o.n6
  simp -implicitDefEqProofs [-ixD, -seqD, -walkD, -allD, -anyD, -sumD, -maxD, -minD, -minTD, -rng1, -rng2, -rng3, -List.head?_filter, -isTys, -lenD, -ixlD, -mxdD, -trgD]
  refine Wf_frr 0 S.length (fun i e => ∃ c3 c4 c5 c6 c7 c8 c9, e = [.v (ssD S), .v (.i m), .v (.l ((rowsL S m i).map nD)), c3, c4, c5, c6, c7, c8, c9]) ?_ ⟨_, _, _, _, _, _, _, by rw [rowsL]; rfl⟩ ?_ ?_
  · simp -implicitDefEqProofs [-ixD, -seqD, -walkD, -allD, -anyD, -sumD, -maxD, -minD, -minTD, -rng1, -rng2, -rng3, -List.head?_filter, -isTys, -lenD, -ixlD, -mxdD, -trgD]
    rw [rng1_nat (n := S.length) (by omega), rngD_map]
    simp
  · rintro i hi e ⟨c3, c4, c5, c6, c7, c8, c9, rfl⟩
    simp -implicitDefEqProofs [-ixD, -seqD, -walkD, -allD, -anyD, -sumD, -maxD, -minD, -minTD, -rng1, -rng2, -rng3, -List.head?_filter, -isTys, -lenD, -ixlD, -mxdD, -trgD]
    have hr := Nat.le_trans (rows_len S m i) (pow46 hm (by omega))
    have hr' := Nat.le_trans (rows_len S m (i + 1)) (pow46 hm (by omega))
    refine Wf_fr nD (rowsL S m i) (fun pre e => ∃ c5 c6 c7 c8 c9, e = [.v (ssD S), .v (.i m), .v (.l ((rowsL S m i).map nD)), .v (.i i), .v (.l ((pre.flatMap (stepR S m i)).map nD)), c5, c6, c7, c8, c9]) (by simp -implicitDefEqProofs [-ixD, -seqD, -walkD, -allD, -anyD, -sumD, -maxD, -minD, -minTD, -rng1, -rng2, -rng3, -List.head?_filter, -isTys, -lenD, -ixlD, -mxdD, -trgD]) ⟨_, _, _, _, _, rfl⟩ ?_ ?_
    · rintro pre row post e he ⟨c5, c6, c7, c8, c9, rfl⟩
      have hrl := rows_each S m i row (by rw [he]; simp)
      have hpre : (pre.flatMap (stepR S m i)).length + (stepR S m i row).length ≤ 4096 := by
        have h2 := hr'
        rw [rowsL, he, List.flatMap_append, List.length_append, List.flatMap_cons, List.length_append] at h2
        omega
      simp -implicitDefEqProofs [-ixD, -seqD, -walkD, -allD, -anyD, -sumD, -maxD, -minD, -minTD, -rng1, -rng2, -rng3, -List.head?_filter, -isTys, -lenD, -ixlD, -mxdD, -trgD, rng1_nat (n := i) (by omega), compD_M]
      rw [compM_eq (fun j => ovB (sk S j) (sk S i)) (fun j : Nat => .i (row.getD j 0 : Nat)) (fun j hj => ?_) fun j hj _ => ?_]
      · have e1 : ((List.range i).filter fun j => ovB (sk S j) (sk S i)).map (fun j : Nat => D.i (row.getD j 0 : Nat)) = (nearL S row i).map fun k : Nat => D.i k := by rw [nearL, List.map_map]; rfl
        have e2 : (nearL S row i).length ≤ i := by
          have := List.length_filter_le (fun j => ovB (sk S j) (sk S i)) (List.range i)
          simpa [nearL] using this
        rw [e1]
        simp -implicitDefEqProofs [-ixD, -seqD, -walkD, -allD, -anyD, -sumD, -maxD, -minD, -minTD, -rng1, -rng2, -rng3, -List.head?_filter, -isTys, -lenD, -ixlD, -mxdD, -trgD, mkL_map' (g := fun k : Nat => D.i k) (l := nearL S row i) (by omega), rng1_nat (n := m) (by omega), compD_M, ni_nat]
        rw [compM_eq (fun p : Nat => !decide (p ∈ nearL S row i)) (fun p => nD (row ++ [p])) (fun p _ => by simp -implicitDefEqProofs [-ixD, -seqD, -walkD, -allD, -anyD, -sumD, -maxD, -minD, -minTD, -rng1, -rng2, -rng3, -List.head?_filter, -isTys, -lenD, -ixlD, -mxdD, -trgD]) fun p _ _ => ap_nD row p (by omega)]
        have e3 : ((List.range m).filter fun p => !decide (p ∈ nearL S row i)).map (fun p => nD (row ++ [p])) = (stepR S m i row).map nD := by rw [stepR, List.map_map]; rfl
        rw [e3]
        simp -implicitDefEqProofs [-ixD, -seqD, -walkD, -allD, -anyD, -sumD, -maxD, -minD, -minTD, -rng1, -rng2, -rng3, -List.head?_filter, -isTys, -lenD, -ixlD, -mxdD, -trgD, mkL_map' (g := nD) (l := stepR S m i row) (by omega), adE_l' (xs := (pre.flatMap (stepR S m i)).map nD) (ys := (stepR S m i row).map nD) (by simp only [List.length_map]; omega)]
      · have hj := List.mem_range.mp hj
        simp -implicitDefEqProofs [-ixD, -seqD, -walkD, -allD, -anyD, -sumD, -maxD, -minD, -minTD, -rng1, -rng2, -rng3, -List.head?_filter, -isTys, -lenD, -ixlD, -mxdD, -trgD, ix_ss (S := S) (k := j) (by omega), ix_ss (S := S) (k := i) hi]
        by_cases h : (sk S j).1 ≤ (sk S i).2.1
        · simp [h, ovB]
        · simp [h, ovB]
      · have hj := List.mem_range.mp hj
        simp -implicitDefEqProofs [-ixD, -seqD, -walkD, -allD, -anyD, -sumD, -maxD, -minD, -minTD, -rng1, -rng2, -rng3, -List.head?_filter, -isTys, -lenD, -ixlD, -mxdD, -trgD, ix_nD (r := row) (j := j) (by omega)]
    · rintro e ⟨c5, c6, c7, c8, c9, rfl⟩
      simp -implicitDefEqProofs [-ixD, -seqD, -walkD, -allD, -anyD, -sumD, -maxD, -minD, -minTD, -rng1, -rng2, -rng3, -List.head?_filter, -isTys, -lenD, -ixlD, -mxdD, -trgD, rowsL]
  · rintro e ⟨c3, c4, c5, c6, c7, c8, c9, rfl⟩
    have hr := Nat.le_trans (rows_len S m S.length) (pow46 hm hn)
    have e1 := eqE_nil (n := 2) (xs := (rowsL S m S.length).map nD) (fin_map (fun r hr => fin_mapT (fun _ _ => by simp) (by have := rows_each S m _ r hr; omega)) (by omega)) (by omega)
    cases hrows : rowsL S m S.length with
    | nil =>
      rw [hrows, List.map_nil] at e1
      simp -implicitDefEqProofs [-ixD, -seqD, -walkD, -allD, -anyD, -sumD, -maxD, -minD, -minTD, -rng1, -rng2, -rng3, -List.head?_filter, -isTys, -lenD, -ixlD, -mxdD, -trgD, hrows, mnO, e1]
    | cons r rs =>
      have e2 := minE_t (k := r.map fun k : Nat => (k : Int)) (r := rs.map fun r => r.map fun k : Nat => (k : Int))
      have e3 : ((r.map fun k : Nat => (k : Int)) :: rs.map fun r => r.map fun k : Nat => (k : Int)).map (fun k => D.t (k.map .i)) = (r :: rs).map nD := by
        rw [← List.map_cons (f := fun r : List Nat => r.map fun k : Nat => (k : Int)), List.map_map]
        exact List.map_congr_left fun r _ => by simp [nD]
      rw [e3] at e2
      rw [hrows] at e1
      rw [List.map_cons] at e1 e2
      simp -implicitDefEqProofs [-ixD, -seqD, -walkD, -allD, -anyD, -sumD, -maxD, -minD, -minTD, -rng1, -rng2, -rng3, -List.head?_filter, -isTys, -lenD, -ixlD, -mxdD, -trgD, e1, e2, mnO, tD]))
end
end K37
namespace K37
open PySem PySem.Spec PyProof.Rows L2 PL
/-! ### least rows -/
def g (r : List Nat) (i : Nat) : Nat := r.getD i 0
theorem g_get {r : List Nat} {i : Nat} (h : i < r.length) : g r i = r[i] := by simp [g, List.getD, h]
theorem g_lt {t u : List Nat} {i : Nat} (h : i < t.length) : g (t ++ u) i = g t i := by
  rw [g_get h, g_get (by simp; omega), List.getElem_append_left h]
theorem g_at (t u : List Nat) (p : Nat) : g (t ++ p :: u) t.length = p := by rw [g_get (by simp)]; simp
theorem g_take {t : List Nat} {i j : Nat} (h : i < j) (h2 : i < t.length) : g (t.take j) i = g t i := by
  rw [g_get h2, g_get (by simp; omega), List.getElem_take]
theorem take_snoc {r : List Nat} {i : Nat} (h : i < r.length) : r.take (i + 1) = r.take i ++ [g r i] := by
  rw [List.take_succ_eq_append_getElem h, g_get h]
def valid (S : List St) (m : Nat) (r : List Nat) : Prop := (∀ i, i < r.length → g r i < m) ∧ ∀ i j, i < j → j < r.length → ovB (sk S i) (sk S j) = true → g r i ≠ g r j
section
variable {S : List St} {m : Nat}
theorem valid_take {r : List Nat} (h : valid S m r) (i : Nat) : valid S m (r.take i) := by
  refine ⟨fun j hj => ?_, fun j j' h1 h2 ho => ?_⟩
  · rw [List.length_take] at hj
    rw [g_take (by omega) (by omega)]
    exact h.1 j (by omega)
  · rw [List.length_take] at h2
    rw [g_take (by omega) (by omega), g_take (by omega) (by omega)]
    exact h.2 j j' h1 (by omega) ho
theorem valid_snoc {t : List Nat} {p : Nat} : valid S m (t ++ [p]) ↔ valid S m t ∧ p < m ∧ ∀ j, j < t.length → ovB (sk S j) (sk S t.length) = true → g t j ≠ p := by
  constructor
  · intro h
    refine ⟨?_, ?_, fun j hj ho => ?_⟩
    · have := valid_take h t.length
      simpa using this
    · have := h.1 t.length (by simp)
      rwa [g_at] at this
    · have := h.2 j t.length hj (by simp) ho
      rwa [g_at, g_lt hj] at this
  · rintro ⟨h1, h2, h3⟩
    refine ⟨fun i hi => ?_, fun i j hij hj ho => ?_⟩
    · simp at hi
      by_cases e : i < t.length
      · rw [g_lt e]; exact h1.1 i e
      · rw [show i = t.length by omega, g_at]; exact h2
    · simp at hj
      by_cases e : j < t.length
      · rw [g_lt e, g_lt (show i < t.length by omega)]; exact h1.2 i j hij e ho
      · have ej : j = t.length := by omega
        subst ej
        rw [g_at, g_lt hij]
        exact h3 i hij ho
theorem mem_rows : ∀ {k : Nat} {r : List Nat}, r ∈ rowsL S m k ↔ r.length = k ∧ valid S m r
  | 0, r => by
    rw [rowsL, List.mem_singleton]
    constructor
    · rintro rfl
      exact ⟨rfl, fun i h => absurd h (Nat.not_lt_zero _), fun i j _ h => absurd h (Nat.not_lt_zero _)⟩
    · rintro ⟨h, _⟩; exact List.eq_nil_of_length_eq_zero h
  | k + 1, r => by
    rw [rowsL, List.mem_flatMap]
    have near : ∀ {row : List Nat} {p : Nat}, (p ∈ nearL S row k ↔ ∃ j, j < k ∧ ovB (sk S j) (sk S k) = true ∧ g row j = p) := by
      intro row p
      simp [nearL, g, and_assoc]
    constructor
    · rintro ⟨row, hr, h⟩
      obtain ⟨h1, h2⟩ := mem_rows.mp hr
      rw [stepR, List.mem_map] at h
      obtain ⟨p, hp, rfl⟩ := h
      rw [List.mem_filter, List.mem_range, Bool.not_eq_true', decide_eq_false_iff_not] at hp
      refine ⟨by simp [h1], valid_snoc.mpr ⟨h2, hp.1, fun j hj ho e => hp.2 (near.mpr ⟨j, by omega, by rw [← h1]; exact ho, e⟩)⟩⟩
    · rintro ⟨h1, h2⟩
      have e : r = r.take k ++ [g r k] := by rw [← take_snoc (by omega), ← h1, List.take_length]
      have hl : (r.take k).length = k := by rw [List.length_take]; omega
      rw [e] at h2
      obtain ⟨h3, h4, h5⟩ := valid_snoc.mp h2
      refine ⟨r.take k, mem_rows.mpr ⟨hl, h3⟩, ?_⟩
      rw [stepR, List.mem_map]
      refine ⟨g r k, ?_, e.symm⟩
      rw [List.mem_filter, List.mem_range, Bool.not_eq_true', decide_eq_false_iff_not]
      refine ⟨h4, fun hn => ?_⟩
      obtain ⟨j, hj, ho, e2⟩ := near.mp hn
      rw [hl] at h5
      exact h5 j hj ho e2
theorem minTL_mem : ∀ (r : List (List Int)) (k : List Int), minTL k r ∈ k :: r ∧ ∀ x ∈ k :: r, minTL k r ≤ x
  | [], k => ⟨by simp [minTL], fun x hx => by simp at hx; subst hx; simp [minTL, ← List.not_lt, List.lt_irrefl]⟩
  | y :: r, k => by
    have e : minTL k (y :: r) = minTL (if y < k then y else k) r := by
      unfold minTL
      rw [List.foldl_cons]
      congr 1
      by_cases h : y < k <;> simp [h]
    rw [e]
    split
    · rename_i h
      obtain ⟨h1, h2⟩ := minTL_mem r y
      refine ⟨List.mem_cons_of_mem _ h1, fun x hx => ?_⟩
      rcases List.mem_cons.mp hx with rfl | hx
      · exact List.le_trans (h2 y List.mem_cons_self) (List.not_lt.mp fun h' => List.lt_irrefl _ (List.lt_trans h h'))
      · exact h2 x hx
    · rename_i h
      obtain ⟨h1, h2⟩ := minTL_mem r k
      refine ⟨?_, fun x hx => ?_⟩
      · rcases List.mem_cons.mp h1 with e | h1
        · rw [e]; exact List.mem_cons_self
        · exact List.mem_cons_of_mem _ (List.mem_cons_of_mem _ h1)
      · rcases List.mem_cons.mp hx with rfl | hx
        · exact h2 x List.mem_cons_self
        · rcases List.mem_cons.mp hx with rfl | hx
          · exact List.le_trans (h2 k List.mem_cons_self) (List.not_lt.mp h)
          · exact h2 x (List.mem_cons_of_mem _ hx)
def up (r : List Nat) : List Int := r.map fun k : Nat => (k : Int)
theorem up_lt {r s : List Nat} : up r < up s ↔ r < s := by
  induction r generalizing s with
  | nil => cases s <;> simp [up]
  | cons a r ih =>
    cases s with
    | nil => simp [up]
    | cons b s =>
      have := @ih s
      simp only [up, List.map_cons] at this ⊢
      rw [List.cons_lt_cons_iff, List.cons_lt_cons_iff, this, Int.ofNat_lt, Int.ofNat_inj]
theorem up_le {r s : List Nat} : up r ≤ up s ↔ r ≤ s := by rw [← List.not_lt, ← List.not_lt, up_lt]
/-! ### the row told -/
theorem fold_ge : ∀ (r : List Nat) (m : Nat), m ≤ r.foldl max m ∧ ∀ x ∈ r, x ≤ r.foldl max m
  | [], m => ⟨Nat.le_refl _, fun _ h => nomatch h⟩
  | y :: r, m => by
    obtain ⟨h1, h2⟩ := fold_ge r (max m y)
    rw [List.foldl_cons]
    refine ⟨by omega, fun x hx => ?_⟩
    rcases List.mem_cons.mp hx with rfl | hx
    · omega
    · exact h2 x hx
theorem used_gt {t : List Nat} {x : Nat} (h : x ∈ t) : x < used t := by
  cases t with
  | nil => cases h
  | cons m r =>
    have := fold_ge r m
    rw [used]
    rcases List.mem_cons.mp h with rfl | h
    · omega
    · have := this.2 x h; omega
def cano (i0 : Nat) (r : List Nat) : Prop := ∀ i, i0 ≤ i → i < r.length → g r i ≤ used (r.take i)
theorem free_iff {t : List Nat} {p : Nat} : freeB S (t.map fun k : Nat => (k : Int)) t.length p = true ↔ ∀ j, j < t.length → ovB (sk S j) (sk S t.length) = true → g t j ≠ p := by
  rw [freeB_iff]
  have e : ∀ j, j < t.length → gI (t.map fun k : Nat => (k : Int)) j = (g t j : Nat) := fun j hj => by simp [gI, g, List.getD, hj]
  constructor
  · intro h j hj ho z
    exact h j hj ho (by rw [e j hj, z])
  · intro h j hj ho z
    rw [e j hj] at z
    exact h j hj ho (by omega)
theorem range_pre {K p : Nat} {l1 l2 : List Nat} (h : List.range K = l1 ++ p :: l2) : l1 = List.range p ∧ p < K := by
  have hl := congrArg List.length h
  simp at hl
  have e1 : (List.range K)[l1.length]? = some p := by rw [h]; simp
  rw [List.getElem?_range (by omega)] at e1
  have e2 : l1.length = p := Option.some.inj e1
  have e3 : l1 = (List.range K).take l1.length := by rw [h]; simp
  rw [List.take_range, e2, Nat.min_eq_left (by omega)] at e3
  exact ⟨e3, by omega⟩
def cand (S : List St) (m : Nat) (t : List Nat) (n : Nat) (r : List Nat) : Prop := r.length = t.length + n ∧ r.take t.length = t ∧ valid S m r ∧ cano t.length r
theorem cand_step {t r : List Nat} {n : Nat} (h : cand S m t (n + 1) r) : g r t.length < min (used t + 1) m ∧ freeB S (t.map fun k : Nat => (k : Int)) t.length (g r t.length) = true ∧ cand S m (t ++ [g r t.length]) n r := by
  obtain ⟨h1, h2, h3, h4⟩ := h
  have hlt : t.length < r.length := by omega
  have e : r.take (t.length + 1) = t ++ [g r t.length] := by rw [take_snoc hlt, h2]
  have h5 := h4 t.length (Nat.le_refl _) hlt
  rw [h2] at h5
  have h6 := h3.1 t.length hlt
  have h7 := valid_take h3 (t.length + 1)
  rw [e] at h7
  refine ⟨by omega, free_iff.mpr (valid_snoc.mp h7).2.2, by simp; omega, ?_, h3, fun i hi hl => h4 i ?_ hl⟩
  · rw [List.length_append, List.length_singleton, e]
  · simp at hi; omega
theorem dfs_spec : ∀ (n : Nat) (t : List Nat), valid S m t → (∀ r, dfs S m n t = some r → r.length = t.length + n ∧ r.take t.length = t ∧ valid S m r ∧ ∀ r', cand S m t n r' → r ≤ r') ∧ (dfs S m n t = none → ∀ r', ¬ cand S m t n r')
  | 0, t, ht => by
    refine ⟨fun r h => ?_, fun h => by cases h⟩
    cases h
    refine ⟨rfl, List.take_length, ht, fun r' h => ?_⟩
    obtain ⟨h1, h2, _, _⟩ := h
    have h1' : r'.length = t.length := h1
    rw [← h1', List.take_length] at h2
    rw [h2, ← List.not_lt]
    exact List.lt_irrefl _
  | n + 1, t, ht => by
    refine ⟨fun r h => ?_, fun h r' hc => ?_⟩
    · rw [dfs, List.findSome?_eq_some_iff] at h
      obtain ⟨l1, p, l2, e, hp, hl⟩ := h
      obtain ⟨e1, hpk⟩ := range_pre e
      subst e1
      split at hp
      rotate_left
      · cases hp
      rename_i hf
      have hv : valid S m (t ++ [p]) := valid_snoc.mpr ⟨ht, by omega, free_iff.mp hf⟩
      obtain ⟨h1, h2, h3, h4⟩ := (dfs_spec n (t ++ [p]) hv).1 r hp
      rw [List.length_append, List.length_singleton] at h1 h2
      have hlt : t.length < r.length := by omega
      have e3 : r.take t.length = t := by
        have := congrArg (List.take t.length) h2
        rwa [List.take_take, Nat.min_eq_left (by omega), List.take_left'] at this
        rfl
      have e4 : g r t.length = p := by
        have := g_take (t := r) (i := t.length) (j := t.length + 1) (by omega) hlt
        rw [h2, g_at] at this
        exact this.symm
      refine ⟨by omega, e3, h3, fun r' hc => ?_⟩
      obtain ⟨s1, s2, s3⟩ := cand_step hc
      rcases Nat.lt_trichotomy (g r' t.length) p with hlt' | heq | hgt
      · have := hl (g r' t.length) (List.mem_range.mpr hlt')
        rw [if_pos s2] at this
        exact absurd s3 ((dfs_spec n _ (valid_snoc.mpr ⟨ht, by omega, free_iff.mp s2⟩)).2 this r')
      · rw [heq] at s3
        exact h4 r' s3
      · have hlt2 : t.length < r'.length := by rw [hc.1]; omega
        have : r < r' := List.lt_iff_exists.mpr (.inr ⟨t.length, hlt, hlt2, fun j hj => ?_, ?_⟩)
        · exact List.not_lt.mp fun h' => List.lt_irrefl _ (List.lt_trans this h')
        · have a1 := g_take (t := r) (i := j) (j := t.length) hj (by omega)
          have a2 := g_take (t := r') (i := j) (j := t.length) hj (by omega)
          rw [e3] at a1
          rw [hc.2.1] at a2
          rw [← g_get (by omega), ← g_get (by omega), ← a1, ← a2]
        · rw [← g_get hlt, ← g_get hlt2, e4]
          exact hgt
    · obtain ⟨s1, s2, s3⟩ := cand_step hc
      rw [dfs, List.findSome?_eq_none_iff] at h
      have := h (g r' t.length) (List.mem_range.mpr s1)
      rw [if_pos s2] at this
      exact (dfs_spec n _ (valid_snoc.mpr ⟨ht, by omega, free_iff.mp s2⟩)).2 this r' s3
/-! ### the least row opens no pen too early -/
def swp (p q x : Nat) : Nat := if x = p then q else if x = q then p else x
theorem swp_inj {p q x y : Nat} (h : swp p q x = swp p q y) : x = y := by
  unfold swp at h
  repeat' split at h
  all_goals omega
theorem least_cano {r : List Nat} (h : valid S m r) (hmin : ∀ r', r'.length = r.length → valid S m r' → r ≤ r') : cano 0 r := by
  intro i _ hi
  rcases Nat.lt_or_ge (used (r.take i)) (g r i) with hlt | hge
  rotate_left
  · exact hge
  exfalso
  have gm : ∀ j, j < r.length → g (r.map (swp (g r i) (used (r.take i)))) j = swp (g r i) (used (r.take i)) (g r j) := fun j hj => by
    rw [g_get (by simpa using hj), g_get hj]; simp
  have hp := h.1 i hi
  have hv : valid S m (r.map (swp (g r i) (used (r.take i)))) := by
    refine ⟨fun j hj => ?_, fun j j' h1 h2 ho => ?_⟩
    · rw [List.length_map] at hj
      rw [gm j hj]
      have := h.1 j hj
      unfold swp
      split
      · omega
      · split <;> omega
    · rw [List.length_map] at h2
      rw [gm j (by omega), gm j' h2]
      exact fun z => h.2 j j' h1 h2 ho (swp_inj z)
  have hle := hmin _ (by simp) hv
  have : r.map (swp (g r i) (used (r.take i))) < r := List.lt_iff_exists.mpr (.inr ⟨i, by simpa using hi, hi, fun j hj => ?_, ?_⟩)
  · exact List.not_lt.mpr hle this
  · have hj' : j < r.length := by omega
    rw [List.getElem_map, ← g_get hj']
    have : g r j < used (r.take i) := used_gt (by
      rw [g_get hj', List.mem_iff_getElem]
      exact ⟨j, by simp; omega, by rw [List.getElem_take]⟩)
    unfold swp
    rw [if_neg (by omega), if_neg (by omega)]
  · rw [List.getElem_map, ← g_get hi]
    unfold swp
    rw [if_pos rfl]
    exact hlt
theorem dfs_least {n : Nat} {r0 : List Nat} {rs : List (List Nat)} (h : rowsL S m n = r0 :: rs) : rowO (dfs S m n []) = mnO (rowsL S m n) := by
  obtain ⟨h1, h2⟩ := minTL_mem (rs.map up) (up r0)
  rw [← List.map_cons] at h1
  obtain ⟨b, hb, e⟩ := List.mem_map.mp h1
  rw [← h] at hb
  obtain ⟨hbl, hbv⟩ := mem_rows.mp hb
  have hmin : ∀ r', r'.length = n → valid S m r' → b ≤ r' := fun r' h3 h4 => by
    have := mem_rows.mpr ⟨h3, h4⟩
    rw [h] at this
    have := h2 (up r') (by rw [← List.map_cons]; exact List.mem_map.mpr ⟨r', this, rfl⟩)
    rw [← e] at this
    exact up_le.mp this
  have hc : cand S m [] n b := ⟨by simpa using hbl, rfl, hbv, least_cano hbv fun r' h3 h4 => hmin r' (by omega) h4⟩
  have hv : valid S m [] := ⟨fun i h => absurd h (Nat.not_lt_zero _), fun i j _ h => absurd h (Nat.not_lt_zero _)⟩
  obtain ⟨s1, s2⟩ := dfs_spec (S := S) (m := m) n [] hv
  cases hd : dfs S m n [] with
  | none => exact absurd hc (s2 hd b)
  | some r =>
    obtain ⟨g1, g2, g3, g4⟩ := s1 r hd
    have : r = b := List.le_antisymm (g4 b hc) (hmin r (by simpa using g1) g3)
    rw [h, mnO]
    have e' : minTL (r0.map fun k : Nat => (k : Int)) (rs.map fun r => r.map fun k : Nat => (k : Int)) = up b := e.symm
    rw [e', rowO, this, nD_t]
    rfl
/-! ### crowds -/
theorem ov_day {p q : St} {d : Int} (h1 : liB p d = true) (h2 : liB q d = true) : ovB p q = true := by
  rw [liB_iff] at h1 h2
  simp [ovB]
  omega
theorem ly_pw (S : List St) (d : Int) : (lyL S d).Pairwise (· < ·) := List.Pairwise.filter _ List.pairwise_lt_range
theorem nodup_map {f : Nat → Nat} {l : List Nat} (h : l.Pairwise fun a b => f a ≠ f b) : (l.map f).Nodup := List.pairwise_map.mpr h
theorem crowd_none {d : Nat} (h : m < cn S d) : rowsL S m S.length = [] := by
  cases e : rowsL S m S.length with
  | nil => rfl
  | cons r rs =>
    exfalso
    obtain ⟨h1, h2⟩ := mem_rows.mp (show r ∈ rowsL S m S.length by rw [e]; exact List.mem_cons_self)
    have h3 : ((lyL S d).map (g r)).Nodup := nodup_map ((ly_pw S d).imp_of_mem fun {a b} ha hb hab => h2.2 a b hab (by rw [h1]; exact (ly_in.mp hb).1) (ov_day (ly_in.mp ha).2 (ly_in.mp hb).2))
    have h4 := h3.length_le_of_subset (l₂ := List.range m) fun x hx => by
      obtain ⟨a, ha, rfl⟩ := List.mem_map.mp hx
      exact List.mem_range.mpr (h2.1 a (by rw [h1]; exact (ly_in.mp ha).1))
    rw [List.length_map, List.length_range] at h4
    unfold cn at h
    omega
theorem ov_comm (p q : St) : ovB p q = ovB q p := by unfold ovB; rw [Bool.and_comm]
theorem latest : ∀ (A : List Nat), A ≠ [] → ∃ x ∈ A, ∀ y ∈ A, (sk S y).1 ≤ (sk S x).1
  | [a], _ => ⟨a, List.mem_cons_self, fun y hy => by simp at hy; rw [hy]; exact Int.le_refl _⟩
  | a :: b :: A, _ => by
    obtain ⟨x, hx, h⟩ := latest (b :: A) (by simp)
    by_cases e : (sk S x).1 ≤ (sk S a).1
    · refine ⟨a, List.mem_cons_self, fun y hy => ?_⟩
      rcases List.mem_cons.mp hy with rfl | hy
      · exact Int.le_refl _
      · exact Int.le_trans (h y hy) e
    · refine ⟨x, List.mem_cons_of_mem _ hx, fun y hy => ?_⟩
      rcases List.mem_cons.mp hy with rfl | hy
      · omega
      · exact h y hy
theorem colour : ∀ (n : Nat) (A : List Nat), A.length = n → A.Nodup → (∀ x ∈ A, (sk S x).1 ≤ (sk S x).2.1) → (∀ x ∈ A, (A.filter fun y => liB (sk S y) (sk S x).1).length ≤ m) →
    ∃ c : Nat → Nat, (∀ x ∈ A, c x < m) ∧ ∀ x ∈ A, ∀ y ∈ A, x ≠ y → ovB (sk S x) (sk S y) = true → c x ≠ c y
  | 0, A, hl, _, _, _ => by
    rw [List.eq_nil_of_length_eq_zero hl]
    exact ⟨id, (fun _ h => nomatch h), (fun _ h => nomatch h)⟩
  | n + 1, A, hl, hn, hb, hd => by
    obtain ⟨x, hx, hlat⟩ := latest (S := S) A (by intro e; rw [e] at hl; cases hl)
    have hsub : (A.erase x).Sublist A := List.erase_sublist
    obtain ⟨c, c1, c2⟩ := colour n (A.erase x) (by rw [List.length_erase_of_mem hx]; omega) (hn.sublist hsub) (fun y hy => hb y (hsub.subset hy)) fun y hy => Nat.le_trans (hsub.filter _).length_le (hd y (hsub.subset hy))
    have hmem : ∀ y, y ∈ A.erase x ↔ y ≠ x ∧ y ∈ A := fun y => hn.mem_erase_iff
    have hN : (((A.erase x).filter fun y => ovB (sk S y) (sk S x)).map c).length < m := by
      rw [List.length_map]
      have h1 : (x :: (A.erase x).filter fun y => ovB (sk S y) (sk S x)).Nodup := by
        rw [List.nodup_cons]
        refine ⟨fun h => ?_, (hn.sublist hsub).filter _⟩
        exact ((hmem x).mp (List.mem_filter.mp h).1).1 rfl
      have h2 := h1.length_le_of_subset (l₂ := A.filter fun y => liB (sk S y) (sk S x).1) fun y hy => by
        rw [List.mem_filter]
        rcases List.mem_cons.mp hy with rfl | hy
        · exact ⟨hx, liB_iff.mpr ⟨Int.le_refl _, hb y hx⟩⟩
        · rw [List.mem_filter] at hy
          have hyA := ((hmem y).mp hy.1).2
          have h3 := hy.2
          simp only [ovB, Bool.and_eq_true, decide_eq_true_eq] at h3
          exact ⟨hyA, liB_iff.mpr ⟨hlat y hyA, h3.2⟩⟩
      have := hd x hx
      rw [List.length_cons] at h2
      omega
    obtain ⟨p, hp, hpn⟩ : ∃ p, p < m ∧ p ∉ ((A.erase x).filter fun y => ovB (sk S y) (sk S x)).map c := by
      by_cases hex : ∃ p, p < m ∧ p ∉ ((A.erase x).filter fun y => ovB (sk S y) (sk S x)).map c
      · exact hex
      · exfalso
        have := List.nodup_range.length_le_of_subset (l₁ := List.range m) (l₂ := ((A.erase x).filter fun y => ovB (sk S y) (sk S x)).map c) fun p hp => by
          by_cases hin : p ∈ ((A.erase x).filter fun y => ovB (sk S y) (sk S x)).map c
          · exact hin
          · exact absurd ⟨p, List.mem_range.mp hp, hin⟩ hex
        rw [List.length_range] at this
        omega
    have key : ∀ y ∈ A, y ≠ x → ovB (sk S y) (sk S x) = true → c y ≠ p := fun y hy hne ho e => hpn (List.mem_map.mpr ⟨y, List.mem_filter.mpr ⟨(hmem y).mpr ⟨hne, hy⟩, ho⟩, e⟩)
    refine ⟨fun y => if y = x then p else c y, fun y hy => ?_, fun y hy z hz hyz ho => ?_⟩
    · by_cases e : y = x
      · simp [e, hp]
      · simp only [if_neg e]
        exact c1 y ((hmem y).mpr ⟨e, hy⟩)
    · by_cases e : y = x
      · subst e
        have e2 : z ≠ y := fun q => hyz q.symm
        simp only [if_true, if_neg e2]
        exact fun q => key z hz e2 (by rw [ov_comm]; exact ho) q.symm
      · by_cases e2 : z = x
        · subst e2
          simp only [if_true, if_neg e]
          exact key y hy e ho
        · simp only [if_neg e, if_neg e2]
          exact c2 y ((hmem y).mpr ⟨e, hy⟩) z ((hmem z).mpr ⟨e2, hz⟩) hyz ho
theorem no_crowd (o : So S) (h : ∀ d, d < 100 → cn S d ≤ m) : rowsL S m S.length ≠ [] := by
  obtain ⟨c, c1, c2⟩ := colour (S := S) (m := m) S.length (List.range S.length) (by simp) List.nodup_range (fun x hx => (o.k (List.mem_range.mp hx)).2.1.1) fun x hx => by
    have hk := o.k (List.mem_range.mp hx)
    have := h (sk S x).1.toNat (by omega)
    rw [cn, Int.toNat_of_nonneg (by omega)] at this
    exact this
  have gm : ∀ j, j < S.length → g ((List.range S.length).map c) j = c j := fun j hj => by rw [g_get (by simpa using hj)]; simp
  have hv : valid S m ((List.range S.length).map c) := by
    refine ⟨fun i hi => ?_, fun i j hij hj ho => ?_⟩
    · simp at hi
      rw [gm i hi]; exact c1 i (List.mem_range.mpr hi)
    · simp at hj
      rw [gm i (by omega), gm j hj]
      exact c2 i (List.mem_range.mpr (by omega)) j (List.mem_range.mpr hj) (by omega) ho
  intro e
  have := mem_rows.mpr ⟨show ((List.range S.length).map c).length = S.length by simp, hv⟩
  rw [e] at this
  cases this
theorem places_eq (o : So S) : placesOf S m = mnO (rowsL S m S.length) ∧ ((crowd S m).isSome = (rowsL S m S.length).isEmpty) := by
  unfold placesOf
  cases hc : crowd S m with
  | some d =>
    have h1 := List.find?_some hc
    rw [decide_eq_true_eq] at h1
    rw [crowd_none h1]
    exact ⟨rfl, rfl⟩
  | none =>
    rw [crowd, List.find?_eq_none] at hc
    have := no_crowd (m := m) o fun d hd => by
      have := hc d (List.mem_range.mpr hd)
      rw [decide_eq_true_eq] at this
      omega
    cases e : rowsL S m S.length with
    | nil => exact absurd e this
    | cons r rs => exact ⟨by rw [← e]; exact dfs_least e, rfl⟩
end
end K37
namespace K37
open PySem PySem.Spec PyProof.Rows L2 PL
def inB (m : Nat) (x : Int) : Bool := decide (0 ≤ x) && decide (x ≤ (m : Int) - 1)
def placesB (S : List St) (m : Nat) (vs : List Int) : Bool := decide (vs.length = S.length) && vs.all (inB m) && (List.range S.length).all fun h => freeB S vs h (gI vs h)
def thB (S : List St) (vs : List Int) (d : Int) : List Int := (lyL S d).map (gI vs)
def dupB (l : List Int) : Bool := l.zipIdx.any fun p => decide (p.1 ∈ l.take p.2)
def rightB (S : List St) (m : Nat) (vs : List Int) : Bool := decide (vs.length = S.length) && vs.all (inB m) && (List.range 20).all fun d => !dupB (thB S vs (d : Nat))
section
variable {C : Cf} [All C] {k : Nat} {S : List St}
theorem free_take {vs : List Int} {h : Nat} (pen : Int) (hv : h ≤ vs.length) : freeB S (vs.take h) h pen = freeB S vs h pen := by
  unfold freeB
  rw [Bool.eq_iff_iff, List.all_eq_true, List.all_eq_true]
  refine forall_congr' fun j => ⟨fun a hj => ?_, fun a hj => ?_⟩
  all_goals
    have := a hj
    rw [List.mem_range] at hj
    have e : gI (vs.take h) j = gI vs j := by rw [gI_get (by simp; omega), gI_get (by omega), List.getElem_take]
    first | rwa [e] at this | rwa [e]
theorem in_int (a : Int) (l : List Int) : inE (.i a) (.l (l.map D.i)) = some (.b (decide (a ∈ l))) := by
  rw [inE_l (nb_i _ _) (by rw [List.all_eq_true]; intro x hx; obtain ⟨y, _, rfl⟩ := List.mem_map.mp hx; exact nb_i _ _)]
  congr 2
  rw [Bool.eq_iff_iff, decide_eq_true_eq, decide_eq_true_eq, List.mem_map]
  constructor
  · rintro ⟨y, hy, e⟩
    have : y = a := D.i.inj e
    rwa [← this]
  · intro h; exact ⟨a, h, rfl⟩
theorem zip_i (T : List Int) : (T.map D.i).zipIdx = T.zipIdx.map fun p => (D.i p.1, p.2) := by
  rw [List.zipIdx_map]
  exact List.map_congr_left fun p _ => rfl
theorem c_isp (o : So S) {m : Nat} (h : 1 ≤ m) (h2 : m ≤ 12) {vs : List Int} (hv : vs.length ≤ 1000) : C (k + 7) "is_places" [ssD S, .i m, tD vs] = some (.b (placesB S m vs)) := s_is_places.run (run_of (by
  have hn := o.n6
  have e0 : C (k + 6) "need_stays" [ssD S] = some (ssD S) := c_ns (C := C) (k := k + 1) o false
  have e2 := c_many (C := C) (k := k + 4) (m := m) (hi := 12) h (by omega)
  have e3 := c_long (C := C) (k := k + 4) (d := tD vs) (lo := S.length) (hi := S.length) rfl
  unfold placesB
  by_cases hl : vs.length = S.length
  · have e4 : longB (tD vs) S.length S.length = true := by simp [tD, hl]
    rw [e4] at e3
    simp -implicitDefEqProofs [-ixD, -seqD, -walkD, -allD, -anyD, -sumD, -maxD, -minD, -minTD, -rng1, -rng2, -rng3, -List.head?_filter, -isTys, -lenD, -ixlD, -mxdD, -trgD, e0, e2, e3, c_need (C := C), hl]
    have e5 : PL.walkD (tD vs) = some (vs.map D.i) := rfl
    simp -implicitDefEqProofs [-ixD, -seqD, -walkD, -allD, -anyD, -sumD, -maxD, -minD, -minTD, -rng1, -rng2, -rng3, -List.head?_filter, -isTys, -lenD, -ixlD, -mxdD, -trgD, e5, compD_M]
    rw [compM_all (fun x : Int => D.b (inB m x)) (fun _ _ => rfl) fun x _ => by
      have := c_from (C := C) (k := k + 4) (d := .i x) (lo := 0) (hi := (m : Int) - 1) rfl
      simp -implicitDefEqProofs [-ixD, -seqD, -walkD, -allD, -anyD, -sumD, -maxD, -minD, -minTD, -rng1, -rng2, -rng3, -List.head?_filter, -isTys, -lenD, -ixlD, -mxdD, -trgD, this, inB]]
    rw [Option.bind_some, mkL_map' (g := fun x : Int => D.b (inB m x)) (l := vs) (by omega)]
    have e6 := allD_map (inB m) vs
    cases hall : vs.all (inB m) with
    | false =>
      rw [hall] at e6
      simp -implicitDefEqProofs [-ixD, -seqD, -walkD, -allD, -anyD, -sumD, -maxD, -minD, -minTD, -rng1, -rng2, -rng3, -List.head?_filter, -isTys, -lenD, -ixlD, -mxdD, -trgD, e6]
    | true =>
      rw [hall] at e6
      simp -implicitDefEqProofs [-ixD, -seqD, -walkD, -allD, -anyD, -sumD, -maxD, -minD, -minTD, -rng1, -rng2, -rng3, -List.head?_filter, -isTys, -lenD, -ixlD, -mxdD, -trgD, e6, -List.all_eq_true]
      refine Wf_frp [3] (fun i : Nat => D.i i) (List.range S.length) (Nope fun h : Nat => !freeB S vs h (gI vs h)) ?_ nope_nil ?_ ?_
      · simp -implicitDefEqProofs [-ixD, -seqD, -walkD, -allD, -anyD, -sumD, -maxD, -minD, -minTD, -rng1, -rng2, -rng3, -List.head?_filter, -isTys, -lenD, -ixlD, -mxdD, -trgD]
        exact rng1_nat (by omega)
      · intro pre x post e hno c
        have hx : x < S.length := by
          have : x ∈ List.range S.length := by rw [e]; simp
          exact List.mem_range.mp this
        have e8 : cutD (vs.map D.i) none (some (x : Int)) = (vs.map D.i).take x := cut_to (by simp; omega)
        have e9 := c_free (C := C) (k := k + 4) o (vs := vs.take x) (h := x) hx (by simp; omega) (gI vs x)
        have e10 := ix_tD (vs := vs) (j := x) (by omega)
        rw [free_take _ (by omega)] at e9
        have e11 : tD (vs.take x) = .t ((vs.take x).map D.i) := rfl
        rw [e11, List.map_take] at e9
        have e12 : tD vs = .t (vs.map D.i) := rfl
        rw [e12] at e10 ⊢
        cases hq : freeB S vs x (gI vs x) with
        | false =>
          have hf : ((List.range S.length).all fun h => freeB S vs h (gI vs h)) = false := by
            rw [← Bool.not_eq_true, List.all_eq_true]
            intro a
            have := a x (List.mem_range.mpr hx)
            rw [hq] at this
            cases this
          rw [hf]
          rw [hq] at e9
          simp -implicitDefEqProofs [-ixD, -seqD, -walkD, -allD, -anyD, -sumD, -maxD, -minD, -minTD, -rng1, -rng2, -rng3, -List.head?_filter, -isTys, -lenD, -ixlD, -mxdD, -trgD, e8, e9, e10]
        | true =>
          have h2 := hno.snoc (a := x) (by rw [hq]; rfl)
          rw [hq] at e9
          simp -implicitDefEqProofs [-ixD, -seqD, -walkD, -allD, -anyD, -sumD, -maxD, -minD, -minTD, -rng1, -rng2, -rng3, -List.head?_filter, -isTys, -lenD, -ixlD, -mxdD, -trgD, e8, e9, e10, h2]
      · intro hno c
        have hf : ((List.range S.length).all fun h => freeB S vs h (gI vs h)) = true := by
          have := hno.all
          simpa using this
        rw [hf]
        simp -implicitDefEqProofs [-ixD, -seqD, -walkD, -allD, -anyD, -sumD, -maxD, -minD, -minTD, -rng1, -rng2, -rng3, -List.head?_filter, -isTys, -lenD, -ixlD, -mxdD, -trgD]
  · have e4 : longB (tD vs) S.length S.length = false := by simp [tD]; omega
    rw [e4] at e3
    simp -implicitDefEqProofs [-ixD, -seqD, -walkD, -allD, -anyD, -sumD, -maxD, -minD, -minTD, -rng1, -rng2, -rng3, -List.head?_filter, -isTys, -lenD, -ixlD, -mxdD, -trgD, e0, e2, e3, c_need (C := C), hl]))
theorem c_isp_no (o : So S) {m : Nat} (h : 1 ≤ m) (h2 : m ≤ 12) {d : D} (hc : calm d = true) (hs : isSq d = false) : C (k + 7) "is_places" [ssD S, .i m, d] = some (.b false) := s_is_places.run (run_of (by
  have hn := o.n6
  have e0 : C (k + 6) "need_stays" [ssD S] = some (ssD S) := c_ns (C := C) (k := k + 1) o false
  have e2 := c_many (C := C) (k := k + 4) (m := m) (hi := 12) h (by omega)
  have e3 := c_long (C := C) (k := k + 4) (d := d) (lo := S.length) (hi := S.length) hc
  have e4 : longB d S.length S.length = false := by simp [longB, hs]
  rw [e4] at e3
  simp -implicitDefEqProofs [-ixD, -seqD, -walkD, -allD, -anyD, -sumD, -maxD, -minD, -minTD, -rng1, -rng2, -rng3, -List.head?_filter, -isTys, -lenD, -ixlD, -mxdD, -trgD, e0, e2, e3, c_need (C := C)]))
theorem c_right (o : So S) {m : Nat} {vs : List Int} (hv : vs.length ≤ 1000) : C (k + 2) "_law_right" [ssD S, .i m, tD vs] = some (.b (rightB S m vs)) := s__law_right.run (run_of (by
  have hn := o.n6
  unfold rightB
  have e5 : PL.walkD (tD vs) = some (vs.map D.i) := rfl
  have e6 : isTys (tD vs) [.tuple] = some true := rfl
  have e7 : PL.lenD [tD vs] = some (.i vs.length) := by simp [tD]
  by_cases hl : vs.length = S.length
  · simp -implicitDefEqProofs [-ixD, -seqD, -walkD, -allD, -anyD, -sumD, -maxD, -minD, -minTD, -rng1, -rng2, -rng3, -List.head?_filter, -isTys, -lenD, -ixlD, -mxdD, -trgD, e5, e6, e7, hl, compD_M]
    rw [compM_eq (fun x => !inB m x) (fun _ => .i 1) (fun x _ => by
      unfold inB
      by_cases h : x < 0
      · simp [h, show ¬ 0 ≤ x by omega]
      · by_cases h2 : (m : Int) ≤ x
        · simp [h, h2, show ¬ x ≤ (m : Int) - 1 by omega]
        · simp [h, h2, show 0 ≤ x by omega, show x ≤ (m : Int) - 1 by omega]) fun _ _ _ => rfl]
    have hlf := List.length_filter_le (fun x => !inB m x) vs
    rw [Option.bind_some, mkL_map' (by omega), Option.bind_some, ones_ne (by omega)]
    have ha : (vs.any fun x => !inB m x) = !vs.all (inB m) := by simp [List.any_eq_not_all_not]
    rw [ha]
    cases hall : vs.all (inB m) with
    | false => simp -implicitDefEqProofs [-ixD, -seqD, -walkD, -allD, -anyD, -sumD, -maxD, -minD, -minTD, -rng1, -rng2, -rng3, -List.head?_filter, -isTys, -lenD, -ixlD, -mxdD, -trgD]
    | true =>
      simp -implicitDefEqProofs [-ixD, -seqD, -walkD, -allD, -anyD, -sumD, -maxD, -minD, -minTD, -rng1, -rng2, -rng3, -List.head?_filter, -isTys, -lenD, -ixlD, -mxdD, -trgD]
      refine Wf_frp [3, 4] (fun i : Nat => D.i i) (List.range 20) (Nope fun d : Nat => dupB (thB S vs (d : Nat))) ?_ nope_nil ?_ ?_
      · exact rng1_nat (n := 20) (by omega)
      · intro pre x post e hno c
        have e8 := c_llying (C := C) (k := k) o (x : Nat)
        have hly := ly_len (S := S) (x : Nat)
        simp -implicitDefEqProofs [-ixD, -seqD, -walkD, -allD, -anyD, -sumD, -maxD, -minD, -minTD, -rng1, -rng2, -rng3, -List.head?_filter, -isTys, -lenD, -ixlD, -mxdD, -trgD, e8, compD_M]
        rw [compM_all (fun j : Nat => .i (gI vs j)) (fun _ _ => rfl) fun j hj => by
          have := (ly_in.mp hj).1
          simp -implicitDefEqProofs [-ixD, -seqD, -walkD, -allD, -anyD, -sumD, -maxD, -minD, -minTD, -rng1, -rng2, -rng3, -List.head?_filter, -isTys, -lenD, -ixlD, -mxdD, -trgD, ix_tD (vs := vs) (j := j) (by omega)]]
        rw [Option.bind_some, mkL_map' (by omega)]
        simp -implicitDefEqProofs [-ixD, -seqD, -walkD, -allD, -anyD, -sumD, -maxD, -minD, -minTD, -rng1, -rng2, -rng3, -List.head?_filter, -isTys, -lenD, -ixlD, -mxdD, -trgD, enumD_id, compD_M]
        have hT : (lyL S (x : Nat)).map (fun j => D.i (gI vs j)) = (thB S vs (x : Nat)).map D.i := by rw [thB, List.map_map]; rfl
        have hTl : (thB S vs (x : Nat)).length ≤ 1000 := by rw [thB, List.length_map]; omega
        rw [hT, zip_i, compM_map, compM_eq (fun p : Int × Nat => decide (p.1 ∈ (thB S vs (x : Nat)).take p.2)) (fun _ => .i 1) (fun p hp => by
          have := (List.mem_zipIdx hp).2.1
          rw [cut_to (by simp; omega), ← List.map_take, in_int]
          rfl) fun _ _ _ => rfl]
        have hlf2 := List.length_filter_le (fun p : Int × Nat => decide (p.1 ∈ (thB S vs (x : Nat)).take p.2)) (thB S vs (x : Nat)).zipIdx
        rw [List.length_zipIdx] at hlf2
        rw [Option.bind_some, mkL_map' (by omega), Option.bind_some, ones_ne (by rw [List.length_zipIdx]; omega)]
        have hd : ((thB S vs (x : Nat)).zipIdx.any fun p => decide (p.1 ∈ (thB S vs (x : Nat)).take p.2)) = dupB (thB S vs (x : Nat)) := rfl
        rw [hd]
        cases hq : dupB (thB S vs (x : Nat)) with
        | true =>
          have hf : ((List.range 20).all fun d : Nat => !dupB (thB S vs (d : Nat))) = false := by
            rw [← Bool.not_eq_true, List.all_eq_true]
            intro a
            have := a x (by rw [e]; simp)
            rw [hq] at this
            cases this
          rw [hf]
          simp -implicitDefEqProofs [-ixD, -seqD, -walkD, -allD, -anyD, -sumD, -maxD, -minD, -minTD, -rng1, -rng2, -rng3, -List.head?_filter, -isTys, -lenD, -ixlD, -mxdD, -trgD]
        | false =>
          have h2 := hno.snoc (a := x) hq
          simp -implicitDefEqProofs [-ixD, -seqD, -walkD, -allD, -anyD, -sumD, -maxD, -minD, -minTD, -rng1, -rng2, -rng3, -List.head?_filter, -isTys, -lenD, -ixlD, -mxdD, -trgD, h2]
      · intro hno c
        have hf : ((List.range 20).all fun d : Nat => !dupB (thB S vs (d : Nat))) = true := hno.all
        simp -implicitDefEqProofs [-ixD, -seqD, -walkD, -allD, -anyD, -sumD, -maxD, -minD, -minTD, -rng1, -rng2, -rng3, -List.head?_filter, -isTys, -lenD, -ixlD, -mxdD, -trgD, hf]
  · have hl' : ¬ ((vs.length : Nat) : Int) = S.length := by omega
    simp -implicitDefEqProofs [-ixD, -seqD, -walkD, -allD, -anyD, -sumD, -maxD, -minD, -minTD, -rng1, -rng2, -rng3, -List.head?_filter, -isTys, -lenD, -ixlD, -mxdD, -trgD, e5, e6, e7, hl, hl']))
theorem c_right_no {m : Nat} {d : D} (hc : calm d = true) (hs : isTu d = false) : C (k + 1) "_law_right" [ssD S, .i m, d] = some (.b false) := s__law_right.run (run_of (by
  have e := inst_t hc
  rw [hs] at e
  simp -implicitDefEqProofs [-ixD, -seqD, -walkD, -allD, -anyD, -sumD, -maxD, -minD, -minTD, -rng1, -rng2, -rng3, -List.head?_filter, -isTys, -lenD, -ixlD, -mxdD, -trgD, e]))
end
end K37
namespace K37
open PySem PySem.Spec PyProof.Rows L2 PL
theorem pw_get {α : Type} {R : Nat → Nat → Prop} {l : List Nat} (h : l.Pairwise R) (hs : l.Pairwise (· < ·)) {a b : Nat} (ha : a ∈ l) (hb : b ∈ l) (hab : a < b) : R a b := by
  obtain ⟨i, hi, rfl⟩ := List.mem_iff_getElem.mp ha
  obtain ⟨j, hj, rfl⟩ := List.mem_iff_getElem.mp hb
  rw [List.pairwise_iff_getElem] at h hs
  rcases Nat.lt_trichotomy i j with e | e | e
  · exact h i j hi hj e
  · subst e; omega
  · have := hs j i hj hi e; omega
theorem dup_iff {l : List Int} : dupB l = false ↔ l.Nodup := by
  rw [dupB, ← Bool.not_eq_true, List.any_eq_true, List.Nodup, List.pairwise_iff_getElem]
  constructor
  · intro h i j hi hj hij e
    refine h ⟨(l[j], j), List.mem_iff_getElem.mpr ⟨j, by simpa using hj, by simp⟩, ?_⟩
    rw [decide_eq_true_eq, List.mem_take_iff_getElem]
    exact ⟨i, by omega, e⟩
  · rintro h ⟨p, hp, e⟩
    obtain ⟨h1, h2, h3⟩ := List.mem_zipIdx hp
    rw [decide_eq_true_eq, List.mem_take_iff_getElem] at e
    obtain ⟨i, hi, e⟩ := e
    have h4 := h i p.2 (by omega) (by omega) (by omega)
    simp at h3
    exact h4 (by rw [e, h3])
section
variable {S : List St} {m : Nat}
theorem places_right (o : So S) (vs : List Int) : placesB S m vs = rightB S m vs := by
  unfold placesB rightB
  congr 1
  rw [Bool.eq_iff_iff, List.all_eq_true, List.all_eq_true]
  constructor
  · intro h d _
    rw [Bool.not_eq_true', dup_iff, thB, List.Nodup, List.pairwise_map]
    refine (ly_pw S d).imp_of_mem fun {a b} ha hb hab => ?_
    have := freeB_iff.mp (h b (List.mem_range.mpr (ly_in.mp hb).1))
    exact this a hab (ov_day (ly_in.mp ha).2 (ly_in.mp hb).2)
  · intro h j hj
    have hj := List.mem_range.mp hj
    refine freeB_iff.mpr fun i hi ho => ?_
    have k1 := o.k (show i < S.length by omega)
    have k2 := o.k hj
    simp only [ovB, Bool.and_eq_true, decide_eq_true_eq] at ho
    have hd := h (max (sk S i).1 (sk S j).1).toNat (List.mem_range.mpr (by omega))
    rw [Bool.not_eq_true', dup_iff, thB, List.Nodup, List.pairwise_map] at hd
    rw [Int.toNat_of_nonneg (by omega)] at hd
    refine pw_get (α := Nat) hd (ly_pw S _) (ly_in.mpr ⟨by omega, liB_iff.mpr ?_⟩) (ly_in.mpr ⟨hj, liB_iff.mpr ?_⟩) hi
    · omega
    · omega
/-! ### choices -/
def Rise (n : Nat) (s : List Nat) : Prop := s.Pairwise (· < ·) ∧ ∀ i ∈ s, i < n
def fitsB (S : List St) (m : Nat) (r : List Nat) : Bool := r.all fun h => decide ((r.filter fun o => liB (sk S o) (sk S h).1).length ≤ m)
def daysB (S : List St) (m : Nat) (r : List Nat) : Bool := (List.range 20).all fun d => decide (((lyL S (d : Nat)).filter fun k => decide (k ∈ r)).length ≤ m)
theorem same_len {a b : List Nat} (ha : a.Nodup) (hb : b.Nodup) (h : ∀ x, x ∈ a ↔ x ∈ b) : a.length = b.length := Nat.le_antisymm (ha.length_le_of_subset fun x hx => (h x).mp hx) (hb.length_le_of_subset fun x hx => (h x).mpr hx)
theorem lt_nodup {l : List Nat} (h : l.Pairwise (· < ·)) : l.Nodup := h.imp fun {a b} hab => Nat.ne_of_lt hab
theorem fits_days (o : So S) {r : List Nat} (hr : Rise S.length r) : fitsB S m r = daysB S m r := by
  have key : ∀ d : Nat, ((lyL S (d : Nat)).filter fun k => decide (k ∈ r)).length = (r.filter fun k => liB (sk S k) (d : Nat)).length := fun d =>
    same_len (lt_nodup ((ly_pw S d).filter _)) (lt_nodup (hr.1.filter _)) fun x => by
      rw [List.mem_filter, List.mem_filter, ly_in, decide_eq_true_eq]
      exact ⟨fun h => ⟨h.2, h.1.2⟩, fun h => ⟨⟨hr.2 x h.1, h.2⟩, h.1⟩⟩
  unfold fitsB daysB
  rw [Bool.eq_iff_iff, List.all_eq_true, List.all_eq_true]
  constructor
  · intro h d _
    rw [decide_eq_true_eq, key]
    by_cases hF : (r.filter fun k => liB (sk S k) (d : Nat)) = []
    · rw [hF]; exact Nat.zero_le _
    · obtain ⟨x, hx, hlat⟩ := latest (S := S) _ hF
      rw [List.mem_filter] at hx
      have h1 := h x hx.1
      rw [decide_eq_true_eq] at h1
      refine Nat.le_trans ((lt_nodup (hr.1.filter _)).length_le_of_subset fun y hy => ?_) h1
      have h2 := hlat y hy
      rw [List.mem_filter] at hy ⊢
      have h3 := liB_iff.mp hy.2
      have h4 := liB_iff.mp hx.2
      exact ⟨hy.1, liB_iff.mpr ⟨h2, by omega⟩⟩
  · intro h x hx
    have k1 := o.k (hr.2 x hx)
    have h1 := h (sk S x).1.toNat (List.mem_range.mpr (by omega))
    rw [decide_eq_true_eq, key, Int.toNat_of_nonneg (by omega)] at h1
    exact decide_eq_true h1
def setB (n : Nat) : Int → List Int → Bool
  | _, [] => true
  | last, x :: r => if (decide (last + 1 ≤ x) && decide (x ≤ (n : Int) - 1)) = true then setB n x r else false
theorem set_rise {n : Nat} : ∀ (r : List Nat) (last : Int), r.Pairwise (· < ·) → (∀ i ∈ r, i < n) → (∀ i ∈ r, last < i) → setB n last (up r) = true
  | [], _, _, _, _ => rfl
  | x :: r, last, h1, h2, h3 => by
    rw [List.pairwise_cons] at h1
    have a1 := h2 x List.mem_cons_self
    have a2 := h3 x List.mem_cons_self
    show (if (decide (last + 1 ≤ (x : Int)) && decide ((x : Int) ≤ (n : Int) - 1)) = true then setB n x (up r) else false) = true
    rw [if_pos (by simp; omega)]
    exact set_rise r x h1.2 (fun i hi => h2 i (List.mem_cons_of_mem _ hi)) fun i hi => by have := h1.1 i hi; omega
variable {C : Cf} [All C] {k : Nat}
theorem c_is_set {n : Nat} (vs : List Int) : C (k + 3) "is_set" [tD vs, .i n] = some (.b (setB n (-1) vs)) := s_is_set.run (run_of (by
  have e0 := c_seq (C := C) (k := k + 1) (d := tD vs) rfl
  have e5 : PL.walkD (tD vs) = some (vs.map D.i) := rfl
  have e6 : isSq (tD vs) = true := rfl
  rw [e6] at e0
  simp -implicitDefEqProofs [-ixD, -seqD, -walkD, -allD, -anyD, -sumD, -maxD, -minD, -minTD, -rng1, -rng2, -rng3, -List.head?_filter, -isTys, -lenD, -ixlD, -mxdD, -trgD, e0]
  refine Wf_fr (fun x : Int => D.i x) vs (fun pre e => ∃ (last : Int) (c : Cell), e = [.v (tD vs), .v (.i n), .v (.i last), c] ∧ setB n (-1) vs = setB n last (vs.drop pre.length)) (by simp -implicitDefEqProofs [-ixD, -seqD, -walkD, -allD, -anyD, -sumD, -maxD, -minD, -minTD, -rng1, -rng2, -rng3, -List.head?_filter, -isTys, -lenD, -ixlD, -mxdD, -trgD, e5]) ⟨-1, .no, rfl, rfl⟩ ?_ ?_
  · rintro pre x post env e ⟨last, c, rfl, hs⟩
    have e1 := c_from (C := C) (k := k) (d := .i x) (lo := last + 1) (hi := (n : Int) - 1) rfl
    rw [fromB_i] at e1
    have e2 : vs.drop pre.length = x :: post := by rw [e]; simp
    have e3 : vs.drop (pre ++ [x]).length = post := by rw [e]; simp
    rw [e2, setB] at hs
    cases hq : (decide (last + 1 ≤ x) && decide (x ≤ (n : Int) - 1)) with
    | false =>
      rw [hq] at e1
      rw [if_neg (by rw [hq]; exact Bool.false_ne_true)] at hs
      rw [hs]
      simp -implicitDefEqProofs [-ixD, -seqD, -walkD, -allD, -anyD, -sumD, -maxD, -minD, -minTD, -rng1, -rng2, -rng3, -List.head?_filter, -isTys, -lenD, -ixlD, -mxdD, -trgD, e1]
    | true =>
      rw [hq] at e1
      rw [if_pos hq] at hs
      rw [e3]
      simp -implicitDefEqProofs [-ixD, -seqD, -walkD, -allD, -anyD, -sumD, -maxD, -minD, -minTD, -rng1, -rng2, -rng3, -List.head?_filter, -isTys, -lenD, -ixlD, -mxdD, -trgD, e1]
      exact hs
  · rintro env ⟨last, c, rfl, hs⟩
    rw [List.drop_length, setB] at hs
    simp -implicitDefEqProofs [-ixD, -seqD, -walkD, -allD, -anyD, -sumD, -maxD, -minD, -minTD, -rng1, -rng2, -rng3, -List.head?_filter, -isTys, -lenD, -ixlD, -mxdD, -trgD, hs]))
theorem c_is_set_no {n : Nat} {d : D} (h : calm d = true) (hs : isSq d = false) : C (k + 3) "is_set" [d, .i n] = some (.b false) := s_is_set.run (run_of (by
  have e0 := c_seq (C := C) (k := k + 1) (d := d) h
  rw [hs] at e0
  simp -implicitDefEqProofs [-ixD, -seqD, -walkD, -allD, -anyD, -sumD, -maxD, -minD, -minTD, -rng1, -rng2, -rng3, -List.head?_filter, -isTys, -lenD, -ixlD, -mxdD, -trgD, e0]))
theorem walk_nD (r : List Nat) : PL.walkD (nD r) = some (r.map fun k : Nat => D.i k) := rfl
theorem c_fits (o : So S) {r : List Nat} (hr : ∀ i ∈ r, i < S.length) (hl : r.length ≤ 1000) : C (k + 1) "fits" [ssD S, .i m, nD r] = some (.b (fitsB S m r)) := s_fits.run (run_of (by
  have hn := o.n6
  simp -implicitDefEqProofs [-ixD, -seqD, -walkD, -allD, -anyD, -sumD, -maxD, -minD, -minTD, -rng1, -rng2, -rng3, -List.head?_filter, -isTys, -lenD, -ixlD, -mxdD, -trgD]
  refine Wf_frp [3, 4] (fun i : Nat => D.i i) r (Nope fun h : Nat => !decide ((r.filter fun o => liB (sk S o) (sk S h).1).length ≤ m)) (by simp -implicitDefEqProofs [-ixD, -seqD, -walkD, -allD, -anyD, -sumD, -maxD, -minD, -minTD, -rng1, -rng2, -rng3, -List.head?_filter, -isTys, -lenD, -ixlD, -mxdD, -trgD, walk_nD]) nope_nil ?_ ?_
  · intro pre x post e hno c
    have hx := hr x (by rw [e]; simp)
    simp -implicitDefEqProofs [-ixD, -seqD, -walkD, -allD, -anyD, -sumD, -maxD, -minD, -minTD, -rng1, -rng2, -rng3, -List.head?_filter, -isTys, -lenD, -ixlD, -mxdD, -trgD, ix_ss hx, walk_nD, compD_M]
    rw [compM_eq (fun j => liB (sk S j) (sk S x).1) (fun j : Nat => .i j) (fun j hj => by
      simp -implicitDefEqProofs [-ixD, -seqD, -walkD, -allD, -anyD, -sumD, -maxD, -minD, -minTD, -rng1, -rng2, -rng3, -List.head?_filter, -isTys, -lenD, -ixlD, -mxdD, -trgD, ix_ss (hr j hj)]
      by_cases h : (sk S j).1 ≤ (sk S x).1
      · simp [h, liB]
      · simp [h, liB]) fun _ _ _ => rfl]
    have hlf := List.length_filter_le (fun j => liB (sk S j) (sk S x).1) r
    rw [Option.bind_some, mkL_map' (by omega)]
    by_cases hq : (r.filter fun o => liB (sk S o) (sk S x).1).length ≤ m
    · have h2 := hno.snoc (a := x) (by simp [hq])
      have hq' : ¬ ((m : Int) < (r.filter fun o => liB (sk S o) (sk S x).1).length) := by omega
      simp -implicitDefEqProofs [-ixD, -seqD, -walkD, -allD, -anyD, -sumD, -maxD, -minD, -minTD, -rng1, -rng2, -rng3, -List.head?_filter, -isTys, -lenD, -ixlD, -mxdD, -trgD, hq', h2]
    · have hf : fitsB S m r = false := by
        rw [fitsB, ← Bool.not_eq_true, List.all_eq_true]
        intro a
        have := a x (by rw [e]; simp)
        rw [decide_eq_true_eq] at this
        exact hq this
      have hq' : ((m : Int) < (r.filter fun o => liB (sk S o) (sk S x).1).length) := by omega
      simp -implicitDefEqProofs [-ixD, -seqD, -walkD, -allD, -anyD, -sumD, -maxD, -minD, -minTD, -rng1, -rng2, -rng3, -List.head?_filter, -isTys, -lenD, -ixlD, -mxdD, -trgD, hq', hf]
  · intro hno c
    have hf : fitsB S m r = true := by
      have := hno.all
      simpa [fitsB] using this
    simp -implicitDefEqProofs [-ixD, -seqD, -walkD, -allD, -anyD, -sumD, -maxD, -minD, -minTD, -rng1, -rng2, -rng3, -List.head?_filter, -isTys, -lenD, -ixlD, -mxdD, -trgD, hf]))
end
end K37
namespace K37
open PySem PySem.Spec PyProof.Rows L2 PL
/-! ### rows of two, told apart -/
def lexN : List Nat → List Nat → Bool
  | [], [] => false
  | [], _ :: _ => true
  | _ :: _, [] => false
  | x :: xs, y :: ys => if x = y then lexN xs ys else decide (x < y)
theorem lexN_lt : ∀ {a b : List Nat}, lexN a b = true ↔ a < b
  | [], [] => by simp [lexN]
  | [], _ :: _ => by simp [lexN]
  | _ :: _, [] => by simp [lexN]
  | x :: xs, y :: ys => by
    rw [lexN, List.cons_lt_cons_iff]
    by_cases h : x = y
    · rw [if_pos h, lexN_lt]
      exact ⟨fun z => .inr ⟨h, z⟩, fun z => z.elim (fun q => by omega) fun q => q.2⟩
    · rw [if_neg h, decide_eq_true_eq]
      exact ⟨.inl, fun z => z.elim id fun q => absurd q.1 h⟩
theorem lexAt_shift (e r : Nat → Bool) (z : Bool) : ∀ (k i : Nat), Ob.lexAt e r z (i + 1) k = Ob.lexAt (fun j => e (j + 1)) (fun j => r (j + 1)) z i k
  | 0, _ => rfl
  | k + 1, i => by rw [Ob.lexAt_succ, Ob.lexAt_succ, lexAt_shift e r z k (i + 1)]
theorem eqD_i (a b : Int) : eqD (.i a) (.i b) = decide (a = b) := by
  have h := eqE_i a b
  have h2 : eqE (.i a) (.i b) = some (.b (eqD (.i a) (.i b))) := rfl
  rw [h2] at h
  exact D.b.inj (Option.some.inj h)
theorem ltD_i (n : Nat) (a b : Int) : ltD n (.i a) (.i b) = some (decide (a < b)) := by unfold ltD; cases n <;> rfl
theorem lex_mk (n : Nat) : ∀ xs ys : List Nat, Ob.lexAt (fun j => eqD ((xs.map fun k : Nat => D.i k).getD j .n) ((ys.map fun k : Nat => D.i k).getD j .n)) (fun j => (ltD n ((xs.map fun k : Nat => D.i k).getD j .n) ((ys.map fun k : Nat => D.i k).getD j .n)).getD false) (decide (xs.length < ys.length)) 0 (min xs.length ys.length) = lexN xs ys
  | [], [] => rfl
  | [], _ :: _ => by simp [lexN, Ob.lexAt]
  | _ :: _, [] => by simp [lexN, Ob.lexAt]
  | x :: xs, y :: ys => by
    have ih := lex_mk n xs ys
    rw [List.length_cons, List.length_cons, Nat.succ_min_succ, Ob.lexAt_succ, lexAt_shift]
    have e1 : decide (xs.length + 1 < ys.length + 1) = decide (xs.length < ys.length) := by rw [decide_eq_decide]; omega
    rw [e1, lexN]
    have e2 : eqD (((x :: xs).map fun k : Nat => D.i k).getD 0 .n) (((y :: ys).map fun k : Nat => D.i k).getD 0 .n) = decide (x = y) := by
      show eqD (.i x) (.i y) = _
      rw [eqD_i, decide_eq_decide]
      omega
    have e3 : ltD n (((x :: xs).map fun k : Nat => D.i k).getD 0 .n) (((y :: ys).map fun k : Nat => D.i k).getD 0 .n) = some (decide (x < y)) := by
      show ltD n (.i x) (.i y) = _
      rw [ltD_i]
      congr 1
      rw [decide_eq_decide]
      omega
    rw [e2, e3]
    by_cases q : x = y
    · rw [decide_eq_true q, if_pos rfl, if_pos q]
      exact ih
    · rw [decide_eq_false q, if_neg Bool.false_ne_true, if_neg q]
      rfl
theorem okn (n : Nat) (r : List Nat) (j : Nat) : okD n ((r.map fun k : Nat => D.i k).getD j .n) = true := by
  rw [List.getD_eq_getElem?_getD, List.getElem?_map]
  cases r[j]? with
  | none => cases n <;> rfl
  | some x => cases n <;> rfl
theorem lt_mk (n : Nat) (xs ys : List Nat) : ltD (n + 1) (nD xs) (nD ys) = some (lexN xs ys) := by
  unfold nD
  rw [ltD, if_pos, List.length_map, List.length_map, lex_mk]
  rw [List.all_eq_true]
  intro j hj
  rw [List.length_map, List.length_map] at hj
  have hj := List.mem_range.mp hj
  rw [okn, okn]
  have h1 : j < xs.length := by omega
  have h2 : j < ys.length := by omega
  have e1 : (xs.map fun k : Nat => D.i k).getD j .n = .i xs[j] := by simp [List.getD, h1]
  have e2 : (ys.map fun k : Nat => D.i k).getD j .n = .i ys[j] := by simp [List.getD, h2]
  rw [e1, e2, ltD_i]
  simp
theorem ok_mk (n : Nat) (r : List Nat) : okD (n + 1) (nD r) = true := by
  unfold nD
  rw [okD, List.all_eq_true]
  intro d hd
  obtain ⟨a, _, rfl⟩ := List.mem_map.mp hd
  cases n <;> rfl
theorem eqD_mk {a b : List Nat} : eqD (nD a) (nD b) = decide (a = b) := by
  have h := eqE_nb (x := nD a) (y := nD b) (by simp [nD]) (by simp [nD])
  have h2 : eqE (nD a) (nD b) = some (.b (eqD (nD a) (nD b))) := by
    rw [eqE, eqqD, ok_DP (d := nD a) (by simp [nD]), ok_DP (d := nD b) (by simp [nD])]; rfl
  rw [h2] at h
  rw [D.b.inj (Option.some.inj h), decide_eq_decide]
  constructor
  · intro h
    have h := D.t.inj h
    have : Function.Injective (fun k : Nat => D.i k) := fun x y e => by injection e with e; exact Int.ofNat.inj e
    exact List.map_inj_right (fun x y e => this e) |>.mp h
  · rintro rfl; rfl
theorem lexN_self : ∀ a, lexN a a = false
  | [] => rfl
  | x :: xs => by rw [lexN, if_pos rfl, lexN_self]
def prB (a b : Int) (s r : List Nat) : Bool := if a = b then lexN s r else decide (a < b)
theorem lt_row {a b : Int} {s r : List Nat} : ltE (.t [.i a, nD s]) (.t [.i b, nD r]) = some (.b (prB a b s r)) := by
  have e0 : ltD 4 (nD s) (nD r) = some (lexN s r) := lt_mk 3 s r
  have e1 : ltD 5 (.t [.i a, nD s]) (.t [.i b, nD r]) = some (prB a b s r) := by
    unfold prB
    rw [ltD, if_pos]
    · show some (if eqD (.i a) (.i b) = true then (if eqD (nD s) (nD r) = true then decide (2 < 2) else (ltD 4 (nD s) (nD r)).getD false) else (ltD 4 (.i a) (.i b)).getD false) = _
      rw [eqD_i, e0, ltD_i, eqD_mk]
      by_cases q : a = b
      · subst q
        by_cases q2 : s = r
        · subst q2
          simp [lexN_self]
        · simp [q2]
      · rw [decide_eq_false q, if_neg q]; rfl
    · show (([0, 1] : List Nat).all fun j => _) = true
      rw [List.all_cons, List.all_cons, List.all_nil]
      show ((true && true && (eqD (.i a) (.i b) || (ltD 4 (.i a) (.i b)).isSome)) && ((okD 8 (nD s) && okD 8 (nD r) && (eqD (nD s) (nD r) || (ltD 4 (nD s) (nD r)).isSome)) && true)) = true
      rw [ok_mk, ok_mk, e0, ltD_i]
      simp
  rw [ltE, e1]
  rfl
/-! ### the least of a list, in two ways -/
def wS (S : List St) (r : List Nat) : Int := (r.map fun h => (sk S h).2.2).sum
def kB (S : List St) (s r : List Nat) : Bool := prB (-wS S s) (-wS S r) s r
section
variable {S : List St}
theorem kB_iff {s r : List Nat} : kB S s r = true ↔ wS S r < wS S s ∨ wS S s = wS S r ∧ s < r := by
  unfold kB prB
  by_cases h : wS S s = wS S r
  · rw [if_pos (by omega), lexN_lt]
    exact ⟨fun z => .inr ⟨h, z⟩, fun z => z.elim (fun q => by omega) fun q => q.2⟩
  · rw [if_neg (by omega), decide_eq_true_eq]
    exact ⟨fun z => .inl (by omega), fun z => z.elim (fun q => by omega) fun q => absurd q.1 h⟩
theorem kB_irr {s : List Nat} : kB S s s = false := by rw [← Bool.not_eq_true, kB_iff]; rintro (h | h); omega; exact List.lt_irrefl _ h.2
theorem kB_trans {a b c : List Nat} (h1 : kB S a b = true) (h2 : kB S b c = true) : kB S a c = true := by
  rw [kB_iff] at h1 h2 ⊢
  rcases h1 with h1 | ⟨h1, h3⟩ <;> rcases h2 with h2 | ⟨h2, h4⟩
  · exact .inl (by omega)
  · exact .inl (by omega)
  · exact .inl (by omega)
  · exact .inr ⟨by omega, List.lt_trans h3 h4⟩
theorem kB_tri {a b : List Nat} (h : kB S a b = false) : a = b ∨ kB S b a = true := by
  rw [← Bool.not_eq_true, kB_iff] at h
  rw [kB_iff]
  by_cases e : wS S a = wS S b
  · have h1 : ¬ a < b := fun z => h (.inr ⟨e, z⟩)
    by_cases h2 : b < a
    · exact .inr (.inr ⟨e.symm, h2⟩)
    · exact .inl (List.le_antisymm (List.not_lt.mp h2) (List.not_lt.mp h1))
  · have h1 : ¬ wS S b < wS S a := fun z => h (.inl z)
    exact .inr (.inl (by omega))
def stL (S : List St) (P : List Nat → Bool) (best : Option (List Nat)) (h : List Nat) : Option (List Nat) := if P h = true then (match best with
  | none => some h
  | some b => if kB S h b = true then some h else some b) else best
def stP (S : List St) (F Q : List Nat → Bool) (best : Option (List Nat)) (h : List Nat) : Option (List Nat) := if F h = true then (match best with
  | none => if Q h = true then some h else none
  | some b => if kB S b h = true then some b else if Q h = true then some h else some b) else best
def LeastO (S : List St) (P : List Nat → Bool) (l : List (List Nat)) : Option (List Nat) → Prop
  | none => ∀ x ∈ l, P x = false
  | some b => b ∈ l ∧ P b = true ∧ ∀ x ∈ l, P x = true → x = b ∨ kB S b x = true
theorem least_snoc_no {P : List Nat → Bool} {l : List (List Nat)} {best : Option (List Nat)} {h : List Nat} (hb : LeastO S P l best) (hp : P h = false) : LeastO S P (l ++ [h]) best := by
  cases best with
  | none =>
    intro x hx
    rcases List.mem_append.mp hx with hx | hx
    · exact hb x hx
    · rw [List.mem_singleton.mp hx]; exact hp
  | some b =>
    refine ⟨List.mem_append_left _ hb.1, hb.2.1, fun x hx hpx => ?_⟩
    rcases List.mem_append.mp hx with hx | hx
    · exact hb.2.2 x hx hpx
    · rw [List.mem_singleton.mp hx, hp] at hpx; cases hpx
theorem least_keep {P : List Nat → Bool} {l : List (List Nat)} {b h : List Nat} (hb : LeastO S P l (some b)) (hk : h = b ∨ kB S b h = true) : LeastO S P (l ++ [h]) (some b) := by
  refine ⟨List.mem_append_left _ hb.1, hb.2.1, fun x hx hpx => ?_⟩
  rcases List.mem_append.mp hx with hx | hx
  · exact hb.2.2 x hx hpx
  · rw [List.mem_singleton.mp hx]; exact hk
theorem least_new {P : List Nat → Bool} {l : List (List Nat)} {b h : List Nat} (hb : LeastO S P l (some b)) (hp : P h = true) (hk : h = b ∨ kB S h b = true) : LeastO S P (l ++ [h]) (some h) := by
  refine ⟨by simp, hp, fun x hx hpx => ?_⟩
  rcases List.mem_append.mp hx with hx | hx
  · rcases hb.2.2 x hx hpx with rfl | h1
    · rcases hk with e | e
      · exact .inl e.symm
      · exact .inr e
    · rcases hk with rfl | e
      · exact .inr h1
      · exact .inr (kB_trans e h1)
  · rw [List.mem_singleton.mp hx]; exact .inl rfl
theorem least_first {P : List Nat → Bool} {l : List (List Nat)} {h : List Nat} (hb : LeastO S P l none) (hp : P h = true) : LeastO S P (l ++ [h]) (some h) := by
  refine ⟨by simp, hp, fun x hx hpx => ?_⟩
  rcases List.mem_append.mp hx with hx | hx
  · rw [hb x hx] at hpx; cases hpx
  · rw [List.mem_singleton.mp hx]; exact .inl rfl
theorem stL_ok {P : List Nat → Bool} {l : List (List Nat)} {best : Option (List Nat)} {h : List Nat} (hb : LeastO S P l best) : LeastO S P (l ++ [h]) (stL S P best h) := by
  unfold stL
  cases hp : P h with
  | false => exact least_snoc_no hb hp
  | true =>
    rw [if_pos rfl]
    cases best with
    | none => exact least_first hb hp
    | some b =>
      cases hk : kB S h b with
      | true => simp only [hk, if_true]; exact least_new hb hp (.inr hk)
      | false => simp only [hk]; exact least_keep hb (kB_tri hk)
theorem stP_ok {F Q : List Nat → Bool} {l : List (List Nat)} {best : Option (List Nat)} {h : List Nat} (hb : LeastO S (fun x => F x && Q x) l best) : LeastO S (fun x => F x && Q x) (l ++ [h]) (stP S F Q best h) := by
  unfold stP
  cases hf : F h with
  | false => exact least_snoc_no hb (by simp [hf])
  | true =>
    rw [if_pos rfl]
    cases best with
    | none =>
      cases hq : Q h with
      | false => exact least_snoc_no hb (by simp [hq])
      | true => exact least_first hb (by simp [hf, hq])
    | some b =>
      cases hk : kB S b h with
      | true => simp only [hk, if_true]; exact least_keep hb (.inr hk)
      | false =>
        simp only [hk]
        cases hq : Q h with
        | false => exact least_snoc_no hb (by simp [hq])
        | true => exact least_new hb (by simp [hf, hq]) ((kB_tri hk).imp Eq.symm id)
theorem fold_ok {P : List Nat → Bool} {st : Option (List Nat) → List Nat → Option (List Nat)} (hst : ∀ l best h, LeastO S P l best → LeastO S P (l ++ [h]) (st best h)) : ∀ (l pre : List (List Nat)) (best : Option (List Nat)), LeastO S P pre best → LeastO S P (pre ++ l) (l.foldl st best)
  | [], pre, best, h => by simpa using h
  | a :: l, pre, best, h => by
    have := fold_ok hst l (pre ++ [a]) (st best a) (hst _ _ _ h)
    simpa using this
theorem least_uniq {P P' : List Nat → Bool} {l l' : List (List Nat)} {b b' : List Nat} (h : LeastO S P l (some b)) (h' : LeastO S P' l' (some b')) (h1 : b' ∈ l ∧ P b' = true) (h2 : b ∈ l' ∧ P' b = true) : b = b' := by
  rcases h.2.2 b' h1.1 h1.2 with e | e
  · exact e.symm
  · rcases h'.2.2 b h2.1 h2.2 with e' | e'
    · exact e'
    · have := kB_trans e e'
      rw [kB_irr] at this
      cases this
end
/-! ### all sets -/
def bitsOf (num n : Nat) : List Nat := (List.range n).filter fun k => decide (num / 2 ^ k % 2 = 1)
def cbR (n r : Nat) : List (List Nat) := (cbIx n r).getD []
def combL (n : Nat) : List (List Nat) := (List.range n).flatMap fun i => cbR n (i + 1)
def setsL (n : Nat) : List (List Nat) := (List.range (2 ^ n)).map fun i => bitsOf i n
theorem comb_tab : ((List.range 7).all fun n => (combL n).all fun a => decide (a ∈ setsL n) && !decide (a = [])) = true := by decide +kernel
theorem sets_tab : ((List.range 7).all fun n => (setsL n).all fun a => decide (a = []) || decide (a ∈ combL n)) = true := by decide +kernel
def okIx (n r : Nat) : Bool := (cbIx n r).isSome && (cbR n r).all fun ix => ix.all fun i => decide (i < n)
theorem ok_ix : ((List.range 7).all fun n => (List.range 7).all fun r => okIx n r) = true := by decide +kernel
theorem single_tab : ((List.range 7).all fun n => (List.range n).all fun k => decide ([k] ∈ setsL n)) = true := by decide +kernel
theorem bits_len (num n : Nat) : (bitsOf num n).length ≤ n := by
  have := List.length_filter_le (fun k => decide (num / 2 ^ k % 2 = 1)) (List.range n)
  rw [List.length_range] at this
  exact this
theorem bits_lt {num n i : Nat} (h : i ∈ bitsOf num n) : i < n := List.mem_range.mp (List.mem_filter.mp h).1
theorem rise_bits (num n : Nat) : Rise n (bitsOf num n) := ⟨List.Pairwise.filter _ List.pairwise_lt_range, fun i hi => bits_lt hi⟩
theorem rise_sets {n : Nat} {r : List Nat} (h : r ∈ setsL n) : Rise n r := by
  obtain ⟨i, _, rfl⟩ := List.mem_map.mp h
  exact rise_bits i n
theorem comb_in {n : Nat} (hn : n ≤ 6) {r : List Nat} : r ∈ combL n ↔ r ∈ setsL n ∧ r ≠ [] := by
  constructor
  · intro h
    have := List.all_eq_true.mp (List.all_eq_true.mp comb_tab n (List.mem_range.mpr (by omega))) r h
    simpa using this
  · rintro ⟨h, h2⟩
    have := List.all_eq_true.mp (List.all_eq_true.mp sets_tab n (List.mem_range.mpr (by omega))) r h
    simpa [h2] using this
end K37
namespace K37
open PySem PySem.Spec PyProof.Rows L2 PL
section
variable {S : List St} {m : Nat} {C : Cf} [All C] {k : Nat}
theorem c_pow {j : Nat} (hj : j ≤ 60) : C (k + 1) "_law_power" [.i 2, .i j] = some (.i ((2 ^ j : Nat) : Int)) := s__law_power.run (by
  have := law_power_eq (c := C k) (b := 2) (n := j) (by decide +kernel) (smI_nat (by omega))
  exact Eq.trans this (by simp))
theorem pow_b {j : Nat} (hj : j ≤ 8) : 1 ≤ 2 ^ j ∧ 2 ^ j ≤ 256 := ⟨Nat.pos_of_ne_zero (by simp), by
  have : (2 : Nat) ^ j ≤ 2 ^ 8 := Nat.pow_le_pow_right (by omega) hj
  omega⟩
theorem c_set {num n : Nat} (hn : n ≤ 8) : C (k + 2) "_law_set" [.i num, .i n] = some (nD (bitsOf num n)) := s__law_set.run (run_of (by
  simp -implicitDefEqProofs [-ixD, -seqD, -walkD, -allD, -anyD, -sumD, -maxD, -minD, -minTD, -rng1, -rng2, -rng3, -List.head?_filter, -isTys, -lenD, -ixlD, -mxdD, -trgD, rng1_nat (show n ≤ 1000000 by omega), compD_M]
  rw [compM_eq (fun j : Nat => decide (num / 2 ^ j % 2 = 1)) (fun j : Nat => D.i j) (fun j hj => ?_) (fun j _ _ => by simp -implicitDefEqProofs [-ixD, -seqD, -walkD, -allD, -anyD, -sumD, -maxD, -minD, -minTD, -rng1, -rng2, -rng3, -List.head?_filter, -isTys, -lenD, -ixlD, -mxdD, -trgD])]
  · rw [Option.bind_some, mkL_map' (by have := bits_len num n; unfold bitsOf at this; omega)]
    simp -implicitDefEqProofs [-ixD, -seqD, -walkD, -allD, -anyD, -sumD, -maxD, -minD, -minTD, -rng1, -rng2, -rng3, -List.head?_filter, -isTys, -lenD, -ixlD, -mxdD, -trgD, bitsOf, nD]
  · have hj := List.mem_range.mp hj
    obtain ⟨p1, p2⟩ := pow_b (show j ≤ 8 by omega)
    have e1 : fdE (.i (num : Int)) (.i ((2 ^ j : Nat) : Int)) = some (.i ((num / 2 ^ j : Nat) : Int)) := by
      rw [fdE_ok (by omega) (by omega)]; rfl
    have e2 : moE (.i ((num / 2 ^ j : Nat) : Int)) (.i 2) = some (.i ((num / 2 ^ j % 2 : Nat) : Int)) := by
      rw [moE_ok (by omega)]; rfl
    simp -implicitDefEqProofs [-ixD, -seqD, -walkD, -allD, -anyD, -sumD, -maxD, -minD, -minTD, -rng1, -rng2, -rng3, -List.head?_filter, -isTys, -lenD, -ixlD, -mxdD, -trgD, -Int.natCast_pow, -Int.natCast_ediv, -Int.natCast_emod, c_pow (C := C) (k := k) (j := j) (by omega), e1, e2]
    omega))
theorem c_choice (o : So S) (h : 1 ≤ m) (h2 : m ≤ 12) {r : List Nat} (hr : Rise S.length r) (hl : r.length ≤ 1000) : C (k + 7) "is_choice" [ssD S, .i m, nD r] = some (.b (fitsB S m r)) := s_is_choice.run (run_of (by
  have e0 : C (k + 6) "need_stays" [ssD S] = some (ssD S) := c_ns (C := C) (k := k + 1) o false
  have e2 := c_many (C := C) (k := k + 4) (m := m) (hi := 12) h (by omega)
  have e3 := c_is_set (C := C) (k := k + 3) (n := S.length) (up r)
  rw [set_rise r (-1) hr.1 hr.2 (fun i _ => by omega)] at e3
  have e4 : tD (up r) = nD r := (nD_t r).symm
  rw [e4] at e3
  have e5 := c_fits (C := C) (k := k + 5) (m := m) o hr.2 hl
  simp -implicitDefEqProofs [-ixD, -seqD, -walkD, -allD, -anyD, -sumD, -maxD, -minD, -minTD, -rng1, -rng2, -rng3, -List.head?_filter, -isTys, -lenD, -ixlD, -mxdD, -trgD, e0, e2, e3, e5, c_need (C := C)]))
theorem c_choice_no (o : So S) (h : 1 ≤ m) (h2 : m ≤ 12) {d : D} (e3 : C (k + 6) "is_set" [d, .i S.length] = some (.b false)) : C (k + 7) "is_choice" [ssD S, .i m, d] = some (.b false) := s_is_choice.run (run_of (by
  have e0 : C (k + 6) "need_stays" [ssD S] = some (ssD S) := c_ns (C := C) (k := k + 1) o false
  have e2 := c_many (C := C) (k := k + 4) (m := m) (hi := 12) h (by omega)
  simp -implicitDefEqProofs [-ixD, -seqD, -walkD, -allD, -anyD, -sumD, -maxD, -minD, -minTD, -rng1, -rng2, -rng3, -List.head?_filter, -isTys, -lenD, -ixlD, -mxdD, -trgD, e0, e2, e3, c_need (C := C)]))
theorem c_lchoice (o : So S) {r : List Nat} (hl : r.length ≤ 1000) : C (k + 2) "_law_is_choice" [ssD S, .i m, nD r] = some (.b (daysB S m r)) := s__law_is_choice.run (run_of (by
  have hn := o.n6
  simp -implicitDefEqProofs [-ixD, -seqD, -walkD, -allD, -anyD, -sumD, -maxD, -minD, -minTD, -rng1, -rng2, -rng3, -List.head?_filter, -isTys, -lenD, -ixlD, -mxdD, -trgD]
  refine Wf_frp [3] (fun i : Nat => D.i i) (List.range 20) (Nope fun d : Nat => !decide (((lyL S (d : Nat)).filter fun k => decide (k ∈ r)).length ≤ m)) ?_ nope_nil ?_ ?_
  · exact rng1_nat (n := 20) (by omega)
  · intro pre x post e hno c
    have e8 := c_llying (C := C) (k := k) o (x : Nat)
    have hly := ly_len (S := S) (x : Nat)
    simp -implicitDefEqProofs [-ixD, -seqD, -walkD, -allD, -anyD, -sumD, -maxD, -minD, -minTD, -rng1, -rng2, -rng3, -List.head?_filter, -isTys, -lenD, -ixlD, -mxdD, -trgD, e8, compD_M, in_nat]
    rw [compM_eq (fun j => decide (j ∈ r)) (fun j : Nat => .i j) (fun j _ => rfl) fun _ _ _ => rfl]
    have hlf := List.length_filter_le (fun j => decide (j ∈ r)) (lyL S (x : Nat))
    rw [Option.bind_some, mkL_map' (by omega)]
    by_cases hq : ((lyL S (x : Nat)).filter fun k => decide (k ∈ r)).length ≤ m
    · have h2 := hno.snoc (a := x) (by simp [hq])
      have hq' : ¬ ((m : Int) < ((lyL S (x : Nat)).filter fun k => decide (k ∈ r)).length) := by omega
      simp -implicitDefEqProofs [-ixD, -seqD, -walkD, -allD, -anyD, -sumD, -maxD, -minD, -minTD, -rng1, -rng2, -rng3, -List.head?_filter, -isTys, -lenD, -ixlD, -mxdD, -trgD, hq', h2]
    · have hf : daysB S m r = false := by
        rw [daysB, ← Bool.not_eq_true, List.all_eq_true]
        intro a
        have := a x (by rw [e]; simp)
        rw [decide_eq_true_eq] at this
        exact hq this
      have hq' : ((m : Int) < ((lyL S (x : Nat)).filter fun k => decide (k ∈ r)).length) := by omega
      simp -implicitDefEqProofs [-ixD, -seqD, -walkD, -allD, -anyD, -sumD, -maxD, -minD, -minTD, -rng1, -rng2, -rng3, -List.head?_filter, -isTys, -lenD, -ixlD, -mxdD, -trgD, hq', hf]
  · intro hno c
    have hf : daysB S m r = true := by
      have := hno.all
      simpa [daysB] using this
    simp -implicitDefEqProofs [-ixD, -seqD, -walkD, -allD, -anyD, -sumD, -maxD, -minD, -minTD, -rng1, -rng2, -rng3, -List.head?_filter, -isTys, -lenD, -ixlD, -mxdD, -trgD, hf]))
theorem c_worth {r : List Nat} (hr : ∀ i ∈ r, i < S.length) (hl : r.length ≤ 1000) : C (k + 1) "worth" [ssD S, nD r] = some (.i (wS S r)) := s_worth.run (run_of (by
  simp -implicitDefEqProofs [-ixD, -seqD, -walkD, -allD, -anyD, -sumD, -maxD, -minD, -minTD, -rng1, -rng2, -rng3, -List.head?_filter, -isTys, -lenD, -ixlD, -mxdD, -trgD, walk_nD, compD_M]
  rw [compM_all (fun j : Nat => .i (sk S j).2.2) (fun _ _ => rfl) fun j hj => by simp -implicitDefEqProofs [-ixD, -seqD, -walkD, -allD, -anyD, -sumD, -maxD, -minD, -minTD, -rng1, -rng2, -rng3, -List.head?_filter, -isTys, -lenD, -ixlD, -mxdD, -trgD, ix_ss (hr j hj)]]
  rw [Option.bind_some, mkL_map' (by omega)]
  have e : r.map (fun j : Nat => D.i (sk S j).2.2) = (r.map fun j => (sk S j).2.2).map D.i := by rw [List.map_map]; rfl
  have e2 : sumE [.l (r.map fun j : Nat => D.i (sk S j).2.2)] = some (.i (wS S r)) := by rw [e, sumE_l]; rfl
  simp -implicitDefEqProofs [-ixD, -seqD, -walkD, -allD, -anyD, -sumD, -maxD, -minD, -minTD, -rng1, -rng2, -rng3, -List.head?_filter, -isTys, -lenD, -ixlD, -mxdD, -trgD, e2]))
def oR : Option (List Nat) → D
  | none => .n
  | some b => nD b
def rR (S : List St) : Option (List Nat) → D
  | none => .n
  | some b => .t [.i (-wS S b), nD b]
def inH (h : Option Nat) (r : List Nat) : Bool := match h with
  | none => true
  | some j => decide (j ∈ r)
def lbest (S : List St) (m : Nat) (h : Option Nat) : Option (List Nat) := (setsL S.length).foldl (stL S fun r => daysB S m r && inH h r) none
def pbest (S : List St) (m : Nat) (f : List Nat) : Option (List Nat) := (combL S.length).foldl (stP S (fun r => f.all fun j => decide (j ∈ r)) (fitsB S m)) none
theorem fold_in {st : Option (List Nat) → List Nat → Option (List Nat)} (hst : ∀ b h, st b h = b ∨ st b h = some h) : ∀ (l : List (List Nat)) (b : Option (List Nat)), l.foldl st b = b ∨ ∃ x ∈ l, l.foldl st b = some x
  | [], b => .inl rfl
  | a :: l, b => by
    rw [List.foldl_cons]
    rcases fold_in hst l (st b a) with e | ⟨x, hx, e⟩
    · rcases hst b a with e2 | e2
      · rw [e, e2]; exact .inl rfl
      · rw [e, e2]; exact .inr ⟨a, List.mem_cons_self, rfl⟩
    · exact .inr ⟨x, List.mem_cons_of_mem _ hx, e⟩
theorem isND_rR (b : List Nat) : isND (rR S (some b)) = false := rfl
theorem c_lbest (o : So S) (h : Option Nat) : C (k + 3) "_law_best" [ssD S, .i m, oD h] = some (rR S (lbest S m h)) := s__law_best.run (run_of (by
  have hn := o.n6
  obtain ⟨p1, p2⟩ := pow_b (show S.length ≤ 8 by omega)
  have ep := c_pow (C := C) (k := k + 1) (j := S.length) (by omega)
  simp -implicitDefEqProofs [-ixD, -seqD, -walkD, -allD, -anyD, -sumD, -maxD, -minD, -minTD, -rng1, -rng2, -rng3, -List.head?_filter, -isTys, -lenD, -ixlD, -mxdD, -trgD]
  refine Wf_fr (fun i : Nat => D.i i) (List.range (2 ^ S.length)) (fun pre e => ∃ c4 c5 c6 c7 c8, e = [.v (ssD S), .v (.i m), .v (oD h), .v (rR S ((pre.map fun i => bitsOf i S.length).foldl (stL S fun r => daysB S m r && inH h r) none)), c4, c5, c6, c7, c8]) ?_ ⟨_, _, _, _, _, rfl⟩ ?_ ?_
  · simp -implicitDefEqProofs [-ixD, -seqD, -walkD, -allD, -anyD, -sumD, -maxD, -minD, -minTD, -rng1, -rng2, -rng3, -List.head?_filter, -isTys, -lenD, -ixlD, -mxdD, -trgD, -Int.natCast_pow, ep]
    exact rng1_nat (by omega)
  · rintro pre i post env e ⟨c4, c5, c6, c7, c8, rfl⟩
    have hr := rise_bits i S.length
    have hl := bits_len i S.length
    generalize hrr : bitsOf i S.length = r at hr hl
    have e1 := c_set (C := C) (k := k + 0) (num := i) (n := S.length) (by omega)
    have e2 := c_lchoice (C := C) (k := k) (m := m) o (r := r) (by omega)
    rw [hrr] at e1
    rw [List.map_append, List.map_cons, List.map_nil, hrr, List.foldl_append, List.foldl_cons, List.foldl_nil]
    generalize hb : (pre.map fun i => bitsOf i S.length).foldl (stL S fun r => daysB S m r && inH h r) none = best
    have ec : compM (fun _ : Nat => some true) (fun j : Nat => (ixD (ssD S) (.i j)).bind fun x => ixD x (.i 2)) r = some (r.map fun j : Nat => D.i (sk S j).2.2) := compM_all _ (fun _ _ => rfl) fun j hj => by simp -implicitDefEqProofs [-ixD, -seqD, -walkD, -allD, -anyD, -sumD, -maxD, -minD, -minTD, -rng1, -rng2, -rng3, -List.head?_filter, -isTys, -lenD, -ixlD, -mxdD, -trgD, ix_ss (hr.2 j hj)]
    have em : mkL (r.map fun j : Nat => D.i (sk S j).2.2) = some (.l (r.map fun j : Nat => D.i (sk S j).2.2)) := mkL_map' (by omega)
    have es : sumE [.l (r.map fun j : Nat => D.i (sk S j).2.2)] = some (.i (wS S r)) := by
      have e : r.map (fun j : Nat => D.i (sk S j).2.2) = (r.map fun j => (sk S j).2.2).map D.i := by rw [List.map_map]; rfl
      rw [e, sumE_l]; rfl
    cases hd : daysB S m r with
    | false => simp -implicitDefEqProofs [-ixD, -seqD, -walkD, -allD, -anyD, -sumD, -maxD, -minD, -minTD, -rng1, -rng2, -rng3, -List.head?_filter, -isTys, -lenD, -ixlD, -mxdD, -trgD, e1, e2, hd, stL]
    | true =>
      cases h with
      | none =>
        cases best with
        | none => simp -implicitDefEqProofs [-ixD, -seqD, -walkD, -allD, -anyD, -sumD, -maxD, -minD, -minTD, -rng1, -rng2, -rng3, -List.head?_filter, -isTys, -lenD, -ixlD, -mxdD, -trgD, e1, e2, hd, stL, oD, inH, rR, walk_nD, compD_M, ec, em, es]
        | some b =>
          have el : ltE (.t [.i (-wS S r), nD r]) (.t [.i (-wS S b), nD b]) = some (.b (kB S r b)) := lt_row
          cases hk : kB S r b with
          | false => simp -implicitDefEqProofs [-ixD, -seqD, -walkD, -allD, -anyD, -sumD, -maxD, -minD, -minTD, -rng1, -rng2, -rng3, -List.head?_filter, -isTys, -lenD, -ixlD, -mxdD, -trgD, e1, e2, hd, stL, oD, inH, rR, walk_nD, compD_M, ec, em, es, el, hk]
          | true => simp -implicitDefEqProofs [-ixD, -seqD, -walkD, -allD, -anyD, -sumD, -maxD, -minD, -minTD, -rng1, -rng2, -rng3, -List.head?_filter, -isTys, -lenD, -ixlD, -mxdD, -trgD, e1, e2, hd, stL, oD, inH, rR, walk_nD, compD_M, ec, em, es, el, hk]
      | some j =>
        cases hj : decide (j ∈ r) with
        | false => simp -implicitDefEqProofs [-ixD, -seqD, -walkD, -allD, -anyD, -sumD, -maxD, -minD, -minTD, -rng1, -rng2, -rng3, -List.head?_filter, -isTys, -lenD, -ixlD, -mxdD, -trgD, e1, e2, hd, stL, oD, inH, rR, in_nat, hj, -decide_eq_true_eq]
        | true =>
          cases best with
          | none => simp -implicitDefEqProofs [-ixD, -seqD, -walkD, -allD, -anyD, -sumD, -maxD, -minD, -minTD, -rng1, -rng2, -rng3, -List.head?_filter, -isTys, -lenD, -ixlD, -mxdD, -trgD, e1, e2, hd, stL, oD, inH, rR, walk_nD, compD_M, ec, em, es, in_nat, hj]
          | some b =>
            have el : ltE (.t [.i (-wS S r), nD r]) (.t [.i (-wS S b), nD b]) = some (.b (kB S r b)) := lt_row
            cases hk : kB S r b with
            | false => simp -implicitDefEqProofs [-ixD, -seqD, -walkD, -allD, -anyD, -sumD, -maxD, -minD, -minTD, -rng1, -rng2, -rng3, -List.head?_filter, -isTys, -lenD, -ixlD, -mxdD, -trgD, e1, e2, hd, stL, oD, inH, rR, walk_nD, compD_M, ec, em, es, el, hk, in_nat, hj]
            | true => simp -implicitDefEqProofs [-ixD, -seqD, -walkD, -allD, -anyD, -sumD, -maxD, -minD, -minTD, -rng1, -rng2, -rng3, -List.head?_filter, -isTys, -lenD, -ixlD, -mxdD, -trgD, e1, e2, hd, stL, oD, inH, rR, walk_nD, compD_M, ec, em, es, el, hk, in_nat, hj]
  · rintro env ⟨c4, c5, c6, c7, c8, rfl⟩
    simp -implicitDefEqProofs [-ixD, -seqD, -walkD, -allD, -anyD, -sumD, -maxD, -minD, -minTD, -rng1, -rng2, -rng3, -List.head?_filter, -isTys, -lenD, -ixlD, -mxdD, -trgD]
    rfl))
end
end K37
namespace K37
open PySem PySem.Spec PyProof.Rows L2 PL
theorem rng2_1 {n : Nat} (h2 : n ≤ 1000) : PL.rng2 (.i 1) (.i ((n : Int) + 1)) = some ((List.range n).map fun i : Nat => D.i (1 + (i : Nat))) := by
  have e1 : smI 1 = true := absLe_of (by omega)
  have e2 : smI ((n : Int) + 1) = true := absLe_of (by omega)
  rw [PL.rng2, if_pos (by rw [e1, e2]; rfl), rngD_map]
  have : ((n : Int) + 1 - 1).toNat = n := by omega
  rw [this]
theorem cb_ix {n r : Nat} (hn : n ≤ 6) (hr : r ≤ 6) : cbIx n r = some (cbR n r) ∧ ∀ ix ∈ cbR n r, ∀ i ∈ ix, i < n := by
  have h1 := List.all_eq_true.mp (List.all_eq_true.mp ok_ix n (List.mem_range.mpr (by omega))) r (List.mem_range.mpr (by omega))
  unfold okIx at h1
  rw [Bool.and_eq_true, List.all_eq_true] at h1
  refine ⟨?_, fun ix hx i hi => ?_⟩
  · unfold cbR
    cases e : cbIx n r with
    | none => rw [e] at h1; cases h1.1
    | some l => rfl
  · have h2 := h1.2 ix hx
    rw [List.all_eq_true] at h2
    simpa using h2 i hi
theorem comb_r {n r : Nat} (hn : n ≤ 6) (hr : r ≤ 6) : combD (.r 0 (n : Int)) (.i r) = some ((cbR n r).map nD) := by
  obtain ⟨h, h2⟩ := cb_ix hn hr
  have hw : walkD (.r 0 (n : Int)) = some ((List.range n).map fun i : Nat => D.i i) := by
    rw [walkD, if_pos (by rw [smI_nat (by omega)]; rfl), rngD_map]
    simp
  have hd : combD (.r 0 (n : Int)) (.i r) = if 0 ≤ (r : Int) then (walkD (.r 0 (n : Int))).bind fun ds => (cbIx ds.length (r : Int).toNat).map fun rows => rows.map fun ix => .t (ix.map fun i => ds.getD i .n) else none := rfl
  rw [hd, if_pos (by omega), hw, Option.bind_some, List.length_map, List.length_range, Int.toNat_natCast, h]
  show some _ = some _
  congr 1
  refine List.map_congr_left fun ix hx => ?_
  show D.t _ = D.t _
  congr 1
  refine List.map_congr_left fun i hi => ?_
  have := h2 ix hx i hi
  simp [List.getD, this]
def preL (n i : Nat) : List (List Nat) := (List.range i).flatMap fun i => cbR n (i + 1)
theorem preL_succ (n i : Nat) : preL n (i + 1) = preL n i ++ cbR n (i + 1) := by rw [preL, List.range_succ, List.flatMap_append]; simp [preL]
theorem isND_oR (b : List Nat) : isND (oR (some b)) = false := rfl
section
variable {S : List St} {m : Nat} {C : Cf} [All C] {k : Nat}
theorem comb_rise {n : Nat} (hn : n ≤ 6) {i : Nat} (hi : i < n) {r : List Nat} (h : r ∈ cbR n (i + 1)) : Rise n r := by
  have : r ∈ combL n := List.mem_flatMap.mpr ⟨i, List.mem_range.mpr hi, h⟩
  exact rise_sets ((comb_in hn).mp this).1
theorem rise_len {n : Nat} {r : List Nat} (h : Rise n r) : r.length ≤ n := by
  have := (lt_nodup h.1).length_le_of_subset (l₂ := List.range n) fun x hx => List.mem_range.mpr (h.2 x hx)
  simpa using this
theorem fold_mem {n : Nat} (F Q : List Nat → Bool) (l : List (List Nat)) {b : List Nat} (h : l.foldl (stP S F Q) none = some b) : b ∈ l := by
  have := fold_in (st := stP S F Q) (fun b h => by
    cases b with
    | none =>
      unfold stP
      by_cases h1 : F h = true
      · by_cases h2 : Q h = true
        · right; simp [h1, h2]
        · left; simp [h1, h2]
      · left; simp [h1]
    | some b =>
      unfold stP
      by_cases h1 : F h = true
      · by_cases h3 : kB S b h = true
        · left; simp [h3]
        · by_cases h2 : Q h = true
          · right; simp [h1, h2, h3]
          · left; simp [h2]
      · left; simp [h1]) l none
  rw [h] at this
  rcases this with e | ⟨x, hx, e⟩
  · cases e
  · cases e; exact hx
def FB (S : List St) (m : Nat) (f : List Nat) (l : List (List Nat)) : Option (List Nat) := l.foldl (stP S (fun r => f.all fun j => decide (j ∈ r)) (fitsB S m)) none
theorem FB_snoc (f : List Nat) (l : List (List Nat)) (r : List Nat) : FB S m f (l ++ [r]) = stP S (fun r => f.all fun j => decide (j ∈ r)) (fitsB S m) (FB S m f l) r := by rw [FB, List.foldl_append]; rfl
theorem c_best (o : So S) {f : List Nat} (hf : f.length ≤ 1000) : C (k + 2) "best_with" [ssD S, .i m, nD f] = some (oR (pbest S m f)) := s_best_with.run (run_of (by
  have hn := o.n6
  simp -implicitDefEqProofs [-ixD, -seqD, -walkD, -allD, -anyD, -sumD, -maxD, -minD, -minTD, -rng1, -rng2, -rng3, -List.head?_filter, -isTys, -lenD, -ixlD, -mxdD, -trgD]
  refine Wf_fri (fun i : Nat => D.i (1 + (i : Nat))) (List.range S.length) (fun i e => ∃ c4 c5 c6 c7, e = [.v (ssD S), .v (.i m), .v (nD f), .v (oR (FB S m f (preL S.length i))), c4, c5, c6, c7]) ?_ ⟨_, _, _, _, rfl⟩ ?_ ?_
  · simp -implicitDefEqProofs [-ixD, -seqD, -walkD, -allD, -anyD, -sumD, -maxD, -minD, -minTD, -rng1, -rng2, -rng3, -List.head?_filter, -isTys, -lenD, -ixlD, -mxdD, -trgD]
    exact rng2_1 (by omega)
  · rintro i hi e ⟨c4, c5, c6, c7, rfl⟩
    rw [List.length_range] at hi
    rw [List.getElem_range]
    simp -implicitDefEqProofs [-ixD, -seqD, -walkD, -allD, -anyD, -sumD, -maxD, -minD, -minTD, -rng1, -rng2, -rng3, -List.head?_filter, -isTys, -lenD, -ixlD, -mxdD, -trgD]
    refine Wf_fr nD (cbR S.length (i + 1)) (fun pre e => ∃ c5 c6 c7, e = [.v (ssD S), .v (.i m), .v (nD f), .v (oR (FB S m f (preL S.length i ++ pre))), .v (.i (1 + (i : Nat))), c5, c6, c7]) ?_ ⟨_, _, _, by rw [List.append_nil]⟩ ?_ ?_
    · simp -implicitDefEqProofs [-ixD, -seqD, -walkD, -allD, -anyD, -sumD, -maxD, -minD, -minTD, -rng1, -rng2, -rng3, -List.head?_filter, -isTys, -lenD, -ixlD, -mxdD, -trgD, -combD]
      have := comb_r (n := S.length) (r := i + 1) hn (by omega)
      rw [show ((i + 1 : Nat) : Int) = 1 + (i : Int) by omega] at this
      exact this
    · rintro pre r post e he ⟨c5, c6, c7, rfl⟩
      have hr := comb_rise hn hi (r := r) (by rw [he]; simp)
      have hl := rise_len hr
      rw [← List.append_assoc, FB_snoc]
      have hmem : ∀ b, FB S m f (preL S.length i ++ pre) = some b → Rise S.length b := fun b hb => by
        have := fold_mem (n := S.length) _ _ _ hb
        rcases List.mem_append.mp this with h | h
        · obtain ⟨j, hj, h⟩ := List.mem_flatMap.mp h
          exact comb_rise hn (by have := List.mem_range.mp hj; omega) h
        · exact comb_rise hn hi (by rw [he]; simp [h])
      generalize hb : FB S m f (preL S.length i ++ pre) = best at hmem
      have e1 := c_fits (C := C) (k := k) (m := m) o hr.2 (by omega)
      have e2 := c_worth (C := C) (k := k) (S := S) hr.2 (by omega)
      have ec : compM (fun _ : Nat => some true) (fun j : Nat => inE (.i j) (nD r)) f = some (f.map fun j : Nat => D.b (decide (j ∈ r))) := compM_all _ (fun _ _ => rfl) fun j _ => in_nat j r
      have em : mkL (f.map fun j : Nat => D.b (decide (j ∈ r))) = some (.l (f.map fun j : Nat => D.b (decide (j ∈ r)))) := mkL_map' (by omega)
      have ea : allD [.l (f.map fun j : Nat => D.b (decide (j ∈ r)))] = some (.b (f.all fun j => decide (j ∈ r))) := allD_map (fun j : Nat => decide (j ∈ r)) f
      cases hfa : f.all (fun j => decide (j ∈ r)) with
      | false =>
        rw [hfa] at ea
        simp -implicitDefEqProofs [-ixD, -seqD, -walkD, -allD, -anyD, -sumD, -maxD, -minD, -minTD, -rng1, -rng2, -rng3, -List.head?_filter, -isTys, -lenD, -ixlD, -mxdD, -trgD, walk_nD, compD_M, ec, em, ea, stP, hfa, -List.all_eq_true]
      | true =>
        rw [hfa] at ea
        cases best with
        | none =>
          cases hq : fitsB S m r with
          | false => simp -implicitDefEqProofs [-ixD, -seqD, -walkD, -allD, -anyD, -sumD, -maxD, -minD, -minTD, -rng1, -rng2, -rng3, -List.head?_filter, -isTys, -lenD, -ixlD, -mxdD, -trgD, walk_nD, compD_M, ec, em, ea, stP, hfa, -List.all_eq_true, oR, e1, hq]
          | true => simp -implicitDefEqProofs [-ixD, -seqD, -walkD, -allD, -anyD, -sumD, -maxD, -minD, -minTD, -rng1, -rng2, -rng3, -List.head?_filter, -isTys, -lenD, -ixlD, -mxdD, -trgD, walk_nD, compD_M, ec, em, ea, stP, hfa, -List.all_eq_true, oR, e1, hq]
        | some b =>
          have hb2 := hmem b rfl
          have e3 := c_worth (C := C) (k := k) (S := S) hb2.2 (by have := rise_len hb2; omega)
          have el : ltE (.t [.i (-wS S b), nD b]) (.t [.i (-wS S r), nD r]) = some (.b (kB S b r)) := lt_row
          cases hk : kB S b r with
          | true => simp -implicitDefEqProofs [-ixD, -seqD, -walkD, -allD, -anyD, -sumD, -maxD, -minD, -minTD, -rng1, -rng2, -rng3, -List.head?_filter, -isTys, -lenD, -ixlD, -mxdD, -trgD, walk_nD, compD_M, ec, em, ea, stP, hfa, -List.all_eq_true, oR, e2, e3, el, hk]
          | false =>
            cases hq : fitsB S m r with
            | false => simp -implicitDefEqProofs [-ixD, -seqD, -walkD, -allD, -anyD, -sumD, -maxD, -minD, -minTD, -rng1, -rng2, -rng3, -List.head?_filter, -isTys, -lenD, -ixlD, -mxdD, -trgD, walk_nD, compD_M, ec, em, ea, stP, hfa, -List.all_eq_true, oR, e1, e2, e3, el, hk, hq]
            | true => simp -implicitDefEqProofs [-ixD, -seqD, -walkD, -allD, -anyD, -sumD, -maxD, -minD, -minTD, -rng1, -rng2, -rng3, -List.head?_filter, -isTys, -lenD, -ixlD, -mxdD, -trgD, walk_nD, compD_M, ec, em, ea, stP, hfa, -List.all_eq_true, oR, e1, e2, e3, el, hk, hq]
    · rintro e ⟨c5, c6, c7, rfl⟩
      simp -implicitDefEqProofs [-ixD, -seqD, -walkD, -allD, -anyD, -sumD, -maxD, -minD, -minTD, -rng1, -rng2, -rng3, -List.head?_filter, -isTys, -lenD, -ixlD, -mxdD, -trgD, preL_succ]
  · rintro e ⟨c4, c5, c6, c7, rfl⟩
    rw [List.length_range]
    simp -implicitDefEqProofs [-ixD, -seqD, -walkD, -allD, -anyD, -sumD, -maxD, -minD, -minTD, -rng1, -rng2, -rng3, -List.head?_filter, -isTys, -lenD, -ixlD, -mxdD, -trgD]
    rfl))
end
end K37
namespace K37
open PySem PySem.Spec PyProof.Rows L2 PL
section
variable {S : List St} {m : Nat} {C : Cf} [All C] {k : Nat}
theorem single_in {n j : Nat} (hn : n ≤ 6) (hj : j < n) : [j] ∈ setsL n := of_decide_eq_true (List.all_eq_true.mp (List.all_eq_true.mp single_tab n (List.mem_range.mpr (by omega))) j (List.mem_range.mpr hj))
theorem fits_single (j : Nat) (h : 1 ≤ m) : fitsB S m [j] = true := by
  rw [fitsB, List.all_eq_true]
  intro x _
  have := List.length_filter_le (fun o => liB (sk S o) (sk S x).1) [j]
  simp only [List.length_singleton] at this
  exact decide_eq_true (by omega)
theorem best_eq (o : So S) (h1 : 1 ≤ m) {h : Option Nat} {f : List Nat} (hf : ∀ r, inH h r = f.all fun j => decide (j ∈ r)) {j : Nat} (hj : j < S.length) (hin : inH h [j] = true) : ∃ b, pbest S m f = some b ∧ lbest S m h = some b ∧ Rise S.length b := by
  have hn := o.n6
  have L1 : LeastO S (fun r => daysB S m r && inH h r) (setsL S.length) (lbest S m h) := by
    have := fold_ok (S := S) (P := fun r => daysB S m r && inH h r) (fun l best x hb => stL_ok hb) (setsL S.length) [] none (fun x hx => nomatch hx)
    rwa [List.nil_append] at this
  have L2 : LeastO S (fun r => (f.all fun j => decide (j ∈ r)) && fitsB S m r) (combL S.length) (pbest S m f) := by
    have := fold_ok (S := S) (P := fun r => (f.all fun j => decide (j ∈ r)) && fitsB S m r) (fun l best x hb => stP_ok hb) (combL S.length) [] none (fun x hx => nomatch hx)
    rwa [List.nil_append] at this
  have heq : ∀ r, r ∈ setsL S.length → (daysB S m r && inH h r) = ((f.all fun j => decide (j ∈ r)) && fitsB S m r) := fun r hr => by
    rw [fits_days o (rise_sets hr), hf, Bool.and_comm]
  have x1 := single_in (n := S.length) hn hj
  have x2 : [j] ∈ combL S.length := (comb_in hn).mpr ⟨x1, by simp⟩
  have x3 : ((f.all fun i => decide (i ∈ [j])) && fitsB S m [j]) = true := by rw [← hf, hin, fits_single j h1]; rfl
  have x4 : (daysB S m [j] && inH h [j]) = true := by rw [heq _ x1]; exact x3
  cases hp : pbest S m f with
  | none => rw [hp] at L2; have := L2 _ x2; simp only [x3] at this; cases this
  | some b =>
    cases hl : lbest S m h with
    | none => rw [hl] at L1; have := L1 _ x1; simp only [x4] at this; cases this
    | some b' =>
      rw [hp] at L2
      rw [hl] at L1
      have hb1 := (comb_in hn).mp L2.1
      have hbne : b' ≠ [] := by
        rintro rfl
        rcases L1.2.2 [j] x1 x4 with e | e
        · cases e
        · rw [kB_iff] at e
          have := o.k hj
          simp [wS] at e
          omega
      have e : b = b' := least_uniq L2 L1 ⟨(comb_in hn).mpr ⟨L1.1, hbne⟩, (heq b' L1.1).symm.trans L1.2.1⟩ ⟨hb1.1, (heq b hb1.1).trans L2.2.1⟩
      subst e
      exact ⟨b, rfl, rfl, rise_sets hb1.1⟩
theorem c_bc (o : So S) (h : 1 ≤ m) (h2 : m ≤ 12) : C (k + 7) "best_choice" [ssD S, .i m] = some (oR (pbest S m [])) := s_best_choice.run (run_of (by
  have e0 : C (k + 6) "need_stays" [ssD S] = some (ssD S) := c_ns (C := C) (k := k + 1) o false
  have e2 := c_many (C := C) (k := k + 4) (m := m) (hi := 12) h (by omega)
  have e3 := c_best (C := C) (k := k + 4) (m := m) o (f := []) (by simp)
  have e4 : nD [] = .t [] := rfl
  rw [e4] at e3
  simp -implicitDefEqProofs [-ixD, -seqD, -walkD, -allD, -anyD, -sumD, -maxD, -minD, -minTD, -rng1, -rng2, -rng3, -List.head?_filter, -isTys, -lenD, -ixlD, -mxdD, -trgD, e0, e2, e3, c_need (C := C)]))
theorem c_pen (o : So S) (h : 1 ≤ m) (h2 : m ≤ 11) {b b' : List Nat} (hb : pbest S m [] = some b) (hb' : pbest S (m + 1) [] = some b') (hr : Rise S.length b) (hr' : Rise S.length b') : C (k + 7) "worth_of_pen" [ssD S, .i m] = some (.i (wS S b' - wS S b)) := s_worth_of_pen.run (run_of (by
  have hn := o.n6
  have e0 : C (k + 6) "need_stays" [ssD S] = some (ssD S) := c_ns (C := C) (k := k + 1) o false
  have e2 := c_many (C := C) (k := k + 4) (m := m) (hi := 11) h (by omega)
  have e3 := c_best (C := C) (k := k + 4) (m := m) o (f := []) (by simp)
  have e3' := c_best (C := C) (k := k + 4) (m := m + 1) o (f := []) (by simp)
  have e4 : nD [] = .t [] := rfl
  have e5 := c_worth (C := C) (k := k + 5) (S := S) hr.2 (by have := rise_len hr; omega)
  have e5' := c_worth (C := C) (k := k + 5) (S := S) hr'.2 (by have := rise_len hr'; omega)
  rw [e4, hb] at e3
  rw [e4, hb', show ((m + 1 : Nat) : Int) = (m : Int) + 1 by omega] at e3'
  simp -implicitDefEqProofs [-ixD, -seqD, -walkD, -allD, -anyD, -sumD, -maxD, -minD, -minTD, -rng1, -rng2, -rng3, -List.head?_filter, -isTys, -lenD, -ixlD, -mxdD, -trgD, e0, e2, e3, e3', e5, e5', oR, c_need (C := C)]))
theorem c_forced (o : So S) (h : 1 ≤ m) (h2 : m ≤ 12) {j : Nat} (hj : j < S.length) {b b' : List Nat} (hb : pbest S m [] = some b) (hb' : pbest S m [j] = some b') (hr : Rise S.length b) (hr' : Rise S.length b') : C (k + 7) "forced" [ssD S, .i m, .i j] = some (.i (wS S b - wS S b')) := s_forced.run (run_of (by
  have hn := o.n6
  have e0 : C (k + 6) "need_stays" [ssD S] = some (ssD S) := c_ns (C := C) (k := k + 1) o false
  have e2 := c_many (C := C) (k := k + 4) (m := m) (hi := 12) h (by omega)
  have e3 := c_best (C := C) (k := k + 4) (m := m) o (f := []) (by simp)
  have e3' := c_best (C := C) (k := k + 4) (m := m) o (f := [j]) (by simp)
  have e4 : nD [] = .t [] := rfl
  have e4' : nD [j] = .t [.i j] := rfl
  have e5 := c_worth (C := C) (k := k + 5) (S := S) hr.2 (by have := rise_len hr; omega)
  have e5' := c_worth (C := C) (k := k + 5) (S := S) hr'.2 (by have := rise_len hr'; omega)
  have e6 := c_from (C := C) (k := k + 4) (d := .i j) (lo := 0) (hi := (S.length : Int) - 1) rfl
  have e7 : fromB (.i j) 0 ((S.length : Int) - 1) = true := by simp; omega
  rw [e7] at e6
  rw [e4, hb] at e3
  rw [e4', hb'] at e3'
  simp -implicitDefEqProofs [-ixD, -seqD, -walkD, -allD, -anyD, -sumD, -maxD, -minD, -minTD, -rng1, -rng2, -rng3, -List.head?_filter, -isTys, -lenD, -ixlD, -mxdD, -trgD, e0, e2, e3, e3', e5, e5', e6, oR, c_need (C := C)]))
/-! ### the stays drawn -/
def dayI (xs : List Int) (r : Int) : Int := gI xs 0 / 20 ^ r.toNat % 9
def stO (xs : List Int) (j : Nat) : St := (dayI xs (gI xs (j + 2) % 3), dayI xs (gI xs (j + 2) % 3) + gI xs (j + 2) / 3 % 6, 1 + gI xs (j + 2) / 18 % 5)
def ssO (xs : List Int) (n : Nat) : List St := (List.range n).map (stO xs)
theorem so_of {xs : List Int} {n : Nat} (h1 : 1 ≤ n) (h2 : n ≤ 6) : So (ssO xs n) := by
  refine ⟨by simp [ssO]; omega, by simp [ssO]; omega, fun p hp => ?_⟩
  obtain ⟨j, _, rfl⟩ := List.mem_map.mp hp
  unfold stO dayI
  simp only
  omega
theorem c_pow20 {j : Nat} (hj : j ≤ 2) : C (k + 1) "_law_power" [.i 20, .i j] = some (.i (20 ^ j : Int)) := s__law_power.run (by
  have := law_power_eq (c := C k) (b := 20) (n := j) (by decide +kernel) (smI_nat (by omega))
  exact this)
theorem c_lstays {xs : List Int} (hl : xs.length = 8) {n : Nat} (hn : 1 + gI xs 1 % 6 = (n : Nat)) : C (k + 2) "_law_stays" [.l (xs.map .i)] = some (ssD (ssO xs n)) := s__law_stays.run (run_of (by
  have e0 : atI (xs.map D.i) 0 = some (D.i (gI xs 0)) := atI_gI (b := xs) (j := 0) (by omega)
  have e1 : atI (xs.map D.i) 1 = some (D.i (gI xs 1)) := atI_gI (b := xs) (j := 1) (by omega)
  have m6 : moE (.i (gI xs 1)) (.i 6) = some (.i (gI xs 1 % 6)) := moE_ok (by omega)
  have er : PL.rng1 (.i (1 + gI xs 1 % 6)) = some ((List.range n).map fun i : Nat => D.i i) := by
    rw [hn]
    exact rng1_nat (by omega)
  have er3 : PL.rng1 (.i 3) = some ((List.range 3).map fun i : Nat => D.i i) := rng1_nat (n := 3) (by omega)
  have ix0 : ixD (.l (xs.map D.i)) (.i 0) = some (.i (gI xs 0)) := by rw [ixD_l]; exact e0
  have ix1 : ixD (.l (xs.map D.i)) (.i 1) = some (.i (gI xs 1)) := by rw [ixD_l]; exact e1
  simp -implicitDefEqProofs [-ixD, -seqD, -walkD, -allD, -anyD, -sumD, -maxD, -minD, -minTD, -rng1, -rng2, -rng3, -List.head?_filter, -isTys, -lenD, -ixlD, -mxdD, -trgD, er3, compD_M]
  rw [compM_all (fun r : Nat => .i (dayI xs (r : Nat))) (fun _ _ => rfl) fun r hr => ?_]
  · simp -implicitDefEqProofs [-ixD, -seqD, -walkD, -allD, -anyD, -sumD, -maxD, -minD, -minTD, -rng1, -rng2, -rng3, -List.head?_filter, -isTys, -lenD, -ixlD, -mxdD, -trgD, mkL_map' (g := fun r : Nat => D.i (dayI xs (r : Nat))) (l := List.range 3) (by simp)]
    refine Wf_fr (fun i : Nat => D.i i) (List.range n) (fun pre e => ∃ c2 c4 c5 c6, e = [.v (.l (xs.map .i)), .o (.l (pre.map fun j => sD (stO xs j))), c2, .v (.l ((List.range 3).map fun r : Nat => D.i (dayI xs (r : Nat)))), c4, c5, c6]) ?_ ⟨_, _, _, _, rfl⟩ ?_ ?_
    · simp -implicitDefEqProofs [-ixD, -seqD, -walkD, -allD, -anyD, -sumD, -maxD, -minD, -minTD, -rng1, -rng2, -rng3, -List.head?_filter, -isTys, -lenD, -ixlD, -mxdD, -trgD, ix1, m6, er]
    · rintro pre j post env e ⟨c2, c4, c5, c6, rfl⟩
      have hj : j ∈ List.range n := by rw [e]; simp
      have hj := List.mem_range.mp hj
      have hpl : pre.length < n := by
        have := congrArg List.length e
        simp at this
        omega
      have e2 : ixD (.l (xs.map D.i)) (.i (2 + (j : Int))) = some (.i (gI xs (j + 2))) := by
        rw [ixD_l, Int.add_comm]
        exact atI_gI (b := xs) (j := j + 2) (by omega)
      have e3 : moE (.i (gI xs (j + 2))) (.i 3) = some (.i (gI xs (j + 2) % 3)) := moE_ok (by omega)
      have e4 : fdE (.i (gI xs (j + 2))) (.i 3) = some (.i (gI xs (j + 2) / 3)) := fdE_ok (by omega) (by omega)
      have e5 : moE (.i (gI xs (j + 2) / 3)) (.i 6) = some (.i (gI xs (j + 2) / 3 % 6)) := moE_ok (by omega)
      have e6 : fdE (.i (gI xs (j + 2))) (.i 18) = some (.i (gI xs (j + 2) / 18)) := fdE_ok (by omega) (by omega)
      have e7 : moE (.i (gI xs (j + 2) / 18)) (.i 5) = some (.i (gI xs (j + 2) / 18 % 5)) := moE_ok (by omega)
      have e8 : ixD (.l ((List.range 3).map fun r : Nat => D.i (dayI xs (r : Nat)))) (.i (gI xs (j + 2) % 3)) = some (.i (dayI xs (gI xs (j + 2) % 3))) := by
        obtain ⟨r, hr⟩ := Int.eq_ofNat_of_zero_le (show 0 ≤ gI xs (j + 2) % 3 by omega)
        rw [hr, ixD_l, atI_mapS (by simp; omega)]
        simp
      have hsz : pre.length < SZ := Nat.lt_of_lt_of_le (show pre.length < 1000000 by omega) (sz_le (Nat.le_refl _))
      simp -implicitDefEqProofs [-ixD, -seqD, -walkD, -allD, -anyD, -sumD, -maxD, -minD, -minTD, -rng1, -rng2, -rng3, -List.head?_filter, -isTys, -lenD, -ixlD, -mxdD, -trgD, e2, e3, e4, e5, e6, e7, e8, stO, sD, hsz]
    · rintro env ⟨c2, c4, c5, c6, rfl⟩
      simp -implicitDefEqProofs [-ixD, -seqD, -walkD, -allD, -anyD, -sumD, -maxD, -minD, -minTD, -rng1, -rng2, -rng3, -List.head?_filter, -isTys, -lenD, -ixlD, -mxdD, -trgD, ssD, ssO, Function.comp_def]
  · have hr := List.mem_range.mp hr
    have p := c_pow20 (C := C) (k := k) (j := r) (by omega)
    have hpos : (0 : Int) < 20 ^ r ∧ (20 : Int) ^ r < 1000000000000 := by
      rcases (show r = 0 ∨ r = 1 ∨ r = 2 by omega) with rfl | rfl | rfl <;> decide
    have h3 : fdE (.i (gI xs 0)) (.i (20 ^ r)) = some (.i (gI xs 0 / 20 ^ r)) := fdE_ok hpos.1 hpos.2
    have h4 : moE (.i (gI xs 0 / 20 ^ r)) (.i 9) = some (.i (gI xs 0 / 20 ^ r % 9)) := moE_ok (by omega)
    simp -implicitDefEqProofs [-ixD, -seqD, -walkD, -allD, -anyD, -sumD, -maxD, -minD, -minTD, -rng1, -rng2, -rng3, -List.head?_filter, -isTys, -lenD, -ixlD, -mxdD, -trgD, e0, p, h3, h4, dayI]))
end
end K37
namespace K37
open PySem PySem.Spec PyProof.Rows L2 PL
def bads (S : List St) : List D := [.n, .i 7, .t [], .t (List.replicate 13 (S.map sD)).flatten, .t [.t [.i 3, .i 2, .i 1]], .t [.t [.i 0, .i 100, .i 1]], .t [.t [.i 0, .i 0, .i 0]], .t [.t [.i 0, .i 0, .i 101]], .t [.t [.i (-1), .i 0, .i 1]], .t [.t [.i 0, .i 0]], .t [.t [.b true, .i 1, .i 1]]]
theorem len13 (l : List D) : (List.replicate 13 l).flatten.length = 13 * l.length := by simp; omega
theorem bads_ok {S : List St} (o : So S) : ∀ d ∈ bads S, fin 2 d = true ∧ staysB d = false := by
  have h1 := o.n1
  have h2 := o.n6
  intro d hd
  unfold bads at hd
  simp only [List.mem_cons, List.not_mem_nil, or_false] at hd
  rcases hd with rfl | rfl | rfl | rfl | rfl | rfl | rfl | rfl | rfl | rfl | rfl
  all_goals first
    | exact ⟨by decide +kernel, by decide +kernel⟩
    | skip
  refine ⟨fin_ts (fun x hx => ?_) ?_, ?_⟩
  · obtain ⟨l, hl, hx⟩ := List.mem_flatten.mp hx
    rw [List.mem_replicate] at hl
    obtain ⟨_, rfl⟩ := hl
    obtain ⟨p, _, rfl⟩ := List.mem_map.mp hx
    exact fin_s3 0 p
  · rw [len13, List.length_map]
    omega
  · have : longB (.t (List.replicate 13 (S.map sD)).flatten) 1 12 = false := by
      unfold longB
      rw [show mem (.t (List.replicate 13 (S.map sD)).flatten) = (List.replicate 13 (S.map sD)).flatten from rfl, len13, List.length_map]
      simp
      omega
    unfold staysB
    rw [this]
    rfl
theorem mu_ss {S : List St} (h : S.length ≤ 1000) (n : Nat) (hn : n ≤ 1000) : muE (ssD S) (.i n) = some (.t (List.replicate n (S.map sD)).flatten) := by
  rw [muE, ssD, mulD, if_pos ⟨by omega, absLe_of (by omega), by simpa using h⟩]
  rfl
theorem mu_one (x : Int) (n : Nat) (hn : n ≤ 1000) : muE (.t [.i x]) (.i n) = some (tD (List.replicate n x)) := by
  rw [muE, mulD, if_pos ⟨by omega, absLe_of (by omega), by simp⟩]
  have : ∀ n, (List.replicate n [D.i x]).flatten = (List.replicate n x).map D.i := by
    intro n
    induction n with
    | zero => rfl
    | succ n ih => rw [List.replicate_succ, List.replicate_succ, List.flatten_cons, ih]; rfl
  rw [Int.toNat_natCast, this]
  rfl
theorem bst_max {S : List St} (o : So S) : (bst (cn S) 100).1 < 20 ∧ cn S (bst (cn S) 100).1 = (bst (cn S) 100).2 ∧ (∀ i, cn S i ≤ (bst (cn S) 100).2) ∧ ∀ i, i < (bst (cn S) 100).1 → cn S i < (bst (cn S) 100).2 := by
  have e : bst (cn S) 100 = bst (cn S) 20 := bst_stop (cn S) (m := 20) (fun i hi => cn_far o (by omega)) 80
  rw [e]
  have h1 := bst_ge (cn S) 20
  refine ⟨?_, ?_, fun i => ?_, bst_lt (cn S) 20⟩
  · rcases bst_at (cn S) 20 (by omega) with h | h
    · exact h.1
    · rw [h]; decide
  · rcases bst_at (cn S) 20 (by omega) with h | h
    · exact h.2
    · rw [h]
      have := h1 0 (by omega)
      rw [h] at this
      exact Nat.le_zero.mp this
  · by_cases hi : i < 20
    · exact h1 i hi
    · rw [cn_far o (by omega)]; omega
def szL (S : List St) : List Int := (List.range 20).map fun d => ((cn S d : Nat) : Int)
theorem sz_get {S : List St} {d : Nat} (h : d < 20) : (szL S)[d]? = some ((cn S d : Nat) : Int) := by simp [szL, h]
theorem sz_D (S : List St) : (List.range 20).map (fun d : Nat => D.i (cn S d : Nat)) = (szL S).map D.i := by rw [szL, List.map_map]; rfl
theorem sz_max {S : List St} (o : So S) : maxD [.l ((szL S).map D.i)] = some (.i ((bst (cn S) 100).2 : Nat)) := by
  obtain ⟨b1, b2, b3, _⟩ := bst_max o
  have e : szL S = ((cn S 0 : Nat) : Int) :: ((List.range 19).map fun d => ((cn S (d + 1) : Nat) : Int)) := by
    unfold szL
    rw [List.range_succ_eq_map, List.map_cons, List.map_map]
    rfl
  have h := maxD_l (m := ((cn S 0 : Nat) : Int)) (r := (List.range 19).map fun d => ((cn S (d + 1) : Nat) : Int))
  rw [← List.map_cons, ← e] at h
  rw [h]
  obtain ⟨g1, g2, g3⟩ := maxL_ge ((List.range 19).map fun d => ((cn S (d + 1) : Nat) : Int)) ((cn S 0 : Nat) : Int)
  congr 2
  have up : maxL ((cn S 0 : Nat) : Int) ((List.range 19).map fun d => ((cn S (d + 1) : Nat) : Int)) ≤ ((bst (cn S) 100).2 : Nat) := by
    rcases g3 with e | e
    · rw [e]; have := b3 0; omega
    · obtain ⟨d, _, e2⟩ := List.mem_map.mp e
      rw [← e2]; have := b3 (d + 1); omega
  have dn : ((bst (cn S) 100).2 : Nat) ≤ maxL ((cn S 0 : Nat) : Int) ((List.range 19).map fun d => ((cn S (d + 1) : Nat) : Int)) := by
    rw [← b2]
    rcases Nat.eq_zero_or_pos (bst (cn S) 100).1 with e | e
    · rw [e]; exact g1
    · exact g2 _ (List.mem_map.mpr ⟨(bst (cn S) 100).1 - 1, List.mem_range.mpr (by omega), by rw [show (bst (cn S) 100).1 - 1 + 1 = (bst (cn S) 100).1 by omega]⟩)
  omega
theorem sz_idx {S : List St} (o : So S) : ixlD (.l ((szL S).map D.i)) (.i ((bst (cn S) 100).2 : Nat)) = some (.i ((bst (cn S) 100).1 : Nat)) := by
  obtain ⟨b1, b2, b3, b4⟩ := bst_max o
  rw [ixlD, intsD_map, Option.bind_some]
  have hl : (szL S).length = 20 := by simp [szL]
  have : (szL S).idxOf? ((bst (cn S) 100).2 : Int) = some (bst (cn S) 100).1 := by
    refine Nope.idx_at (p := fun x => x == ((bst (cn S) 100).2 : Int)) (l := szL S) (i := (bst (cn S) 100).1) (fun x hx => ?_) (by omega) ?_
    · obtain ⟨i, hi, rfl⟩ := List.mem_take_iff_getElem.mp hx
      have h1 := sz_get (S := S) (d := i) (by omega)
      rw [List.getElem?_eq_getElem (by omega)] at h1
      rw [Option.some.inj h1]
      have := b4 i (by omega)
      rw [beq_eq_false_iff_ne]
      omega
    · have h1 := sz_get (S := S) b1
      rw [List.getElem?_eq_getElem (by omega)] at h1
      rw [Option.some.inj h1, b2]
      exact BEq.rfl
  rw [this]
  rfl
theorem crowd_head {S : List St} (o : So S) (m : Nat) : ((List.range 20).filter fun d => decide (m < cn S d)).head? = crowd S m := by
  rw [List.head?_filter, crowd]
  have e : List.range 100 = List.range 20 ++ (List.range 80).map (20 + ·) := by decide +kernel
  rw [e, List.find?_append]
  have : ((List.range 80).map (20 + ·)).find? (fun d => decide (m < cn S d)) = none := by
    rw [List.find?_eq_none]
    intro d hd
    obtain ⟨j, _, rfl⟩ := List.mem_map.mp hd
    rw [cn_far o (by omega)]
    simp
  rw [this, Option.or_none]
theorem Wf_if2 {c : List Cell → Option Bool} {f : StF} {g : Bx StF} {env env' : List Cell} {Q : Fl → Prop} (b : Bool) (hc : c env = some b) (h1 : b = true → f env = some (.nx env')) (h2 : b = false → env' = env) (h : Wf (g.v env') Q) : Wf (@sQ ⟨ifF c f nop⟩ g env) Q := by
  rw [sq_if, hc, bd_some]
  cases b with
  | true =>
    show Wf (if true = true then @sQ ⟨f⟩ g env else @sQ ⟨nop⟩ g env) Q
    rw [if_pos rfl]
    show Wf ((f env).bind fun fl => match fl with
      | .nx e => g.v e
      | fl => some fl) Q
    rw [h1 rfl]
    exact h
  | false =>
    show Wf (if false = true then @sQ ⟨f⟩ g env else @sQ ⟨nop⟩ g env) Q
    rw [if_neg Bool.false_ne_true, sq_nop, ← h2 rfl]
    exact h
section
variable {S : List St} {m : Nat} {C : Cf} [All C] {k : Nat}
theorem bad_ss {d : D} (h : fin 2 d = true) (h2 : staysB d = false) : C 59 "is_stays" [d] = some (.b false) := by
  have := c_stays (C := C) (k := 55) (n := 0) h
  rw [h2] at this
  exact this
theorem c_same {n m : Nat} {d : D} (h : sam n d = true) (hm : n + 1 ≤ m) : C m "_law_same" [d, d] = some (.b true) := by
  obtain ⟨k, rfl⟩ := Nat.exists_eq_add_of_le hm
  have := same_d (C := C) s__law_same n k d h
  rwa [show k + n + 1 = n + 1 + k by omega] at this
theorem sam_t {vs : List Int} (h : vs.length ≤ 1000) : sam 1 (tD vs) = true := sam_ts (fun x hx => by obtain ⟨y, _, rfl⟩ := List.mem_map.mp hx; rfl) (by simpa [tD] using h)
theorem sam_nD {r : List Nat} (h : r.length ≤ 1000) : sam 1 (nD r) = true := by rw [nD_t]; exact sam_t (by simpa using h)
/-- what may be asked as places -/
def Ask (d : D) : Prop := (∃ vs : List Int, d = tD vs ∧ vs.length ≤ 1000) ∨ (calm d = true ∧ isSq d = false)
theorem ask_same (o : So S) (h1 : 1 ≤ m) (h2 : m ≤ 12) {d : D} (h : Ask d) : ∃ b, C 59 "is_places" [ssD S, .i m, d] = some (.b b) ∧ C 59 "_law_right" [ssD S, .i m, d] = some (.b b) := by
  rcases h with ⟨vs, rfl, hv⟩ | ⟨hc, hs⟩
  · exact ⟨placesB S m vs, c_isp (C := C) (k := 52) o h1 h2 hv, by rw [places_right o]; exact c_right (C := C) (k := 57) o hv⟩
  · exact ⟨false, c_isp_no (C := C) (k := 52) o h1 h2 hc hs, c_right_no (C := C) (k := 58) hc (by cases d <;> first | rfl | cases hs)⟩
theorem mn_ask (o : So S) : Ask (mnO (rowsL S m S.length)) ∧ sam 1 (mnO (rowsL S m S.length)) = true ∧ isND (mnO (rowsL S m S.length)) = (rowsL S m S.length).isEmpty := by
  have hn := o.n6
  cases e : rowsL S m S.length with
  | nil => exact ⟨.inr ⟨rfl, rfl⟩, rfl, rfl⟩
  | cons r rs =>
    obtain ⟨h1, _⟩ := minTL_mem (rs.map up) (up r)
    rw [← List.map_cons] at h1
    obtain ⟨b, hb, e2⟩ := List.mem_map.mp h1
    rw [← e] at hb
    have hl := (mem_rows.mp hb).1
    have e3 : mnO (r :: rs) = tD (up b) := by rw [e2]; rfl
    rw [e3]
    have hl2 : (up b).length ≤ 1000 := by simp [up]; omega
    exact ⟨.inl ⟨_, rfl, hl2⟩, sam_t hl2, rfl⟩
def asks (due : D) (n m : Nat) : List D := [due, tD (List.replicate n 0), nD (List.range n), .t [], .n, .i 7, tD (List.replicate n (m : Int)), tD (List.replicate n (-1))]
theorem asks_ok {due : D} (h : Ask due) {n m : Nat} (hn : n ≤ 1000) : ∀ d ∈ asks due n m, Ask d := by
  intro d hd
  simp only [asks, List.mem_cons, List.not_mem_nil, or_false] at hd
  rcases hd with rfl | rfl | rfl | rfl | rfl | rfl | rfl | rfl
  · exact h
  · exact .inl ⟨_, rfl, by simpa using hn⟩
  · exact .inl ⟨_, nD_t _, by simpa using hn⟩
  · exact .inl ⟨[], rfl, by simp⟩
  · exact .inr ⟨rfl, rfl⟩
  · exact .inr ⟨rfl, rfl⟩
  · exact .inl ⟨_, rfl, by simpa using hn⟩
  · exact .inl ⟨_, rfl, by simpa using hn⟩
end
end K37
namespace K37
open PySem PySem.Spec PyProof.Rows L2 PL
def S12 : List St := List.replicate 12 (99, 99, 100)
section
variable {C : Cf} [All C]
theorem law_eq (ns : List Int) : C 60 "law" [.z (ns.map .i)] = some (.b true) := s_law.run (run_of (by
  have hcell : ∀ (p m : Nat), 1 ≤ m → C m "_law_cell" [.z (ns.map .i), .i p] = some (.i (ns.getD p 0)) := fun p m hm => by
    obtain ⟨j, rfl⟩ : ∃ j, m = j + 1 := ⟨m - 1, by omega⟩
    exact s__law_cell.run (law_cell_eq (c := C j) ns p)
  obtain ⟨xs, hx1, hx2, hx3⟩ := law_numbers_ex (c := C 58) (ns := ns) (p := 0) (m := 8) (cell := ns.getD 0 0) (by omega) (hcell 0 58 (by omega))
  have hx : C 59 "_law_numbers" [.z (ns.map .i), .i 0, .i 8] = some (.l (xs.map .i)) := s__law_numbers.run hx1
  have c1 : C 59 "_law_cell" [.z (ns.map .i), .i 1] = some (.i (ns.getD 1 0)) := hcell 1 59 (by omega)
  obtain ⟨n, hn⟩ : ∃ n : Nat, 1 + gI xs 1 % 6 = (n : Nat) := ⟨(1 + gI xs 1 % 6).toNat, by omega⟩
  have hw := c_lstays (C := C) (k := 57) hx2 hn
  have o : So (ssO xs n) := so_of (by omega) (by omega)
  obtain ⟨m, hm⟩ : ∃ m : Nat, 1 + ns.getD 1 0 % 4 = m := ⟨(1 + ns.getD 1 0 % 4).toNat, by omega⟩
  generalize ns.getD 1 0 = v1 at *
  generalize ssO xs n = S at *
  have hm1 : 1 ≤ m := by omega
  have hm4 : m ≤ 4 := by omega
  have m4 : moE (.i v1) (.i 4) = some (.i ((m : Int) - 1)) := by rw [moE_ok (by omega)]; congr 2; omega
  have hlen := o.n6
  have hlen1 := o.n1
  have w1 : C 59 "is_stays" [ssD S] = some (.b true) := by
    have := c_stays (C := C) (k := 55) (n := 0) (fin_ssQ (S := S) 0 false (by omega))
    rw [stays_ss o false] at this
    exact this
  have w2 : C 59 "is_stays" [ssQ true S] = some (.b true) := by
    have := c_stays (C := C) (k := 55) (n := 0) (fin_ssQ (S := S) 0 true (by omega))
    rw [stays_ss o true] at this
    exact this
  have hli : C 59 "_law_listed" [ssD S] = some (ssQ true S) := by
    have := listed_d (C := C) s__law_listed 2 56 (ssD S) (fin_ssQ (S := S) 0 false (by omega))
    rw [li_ss] at this
    exact this
  have mu12 : muE (.t [.t [.i 99, .i 99, .i 100]]) (.i 12) = some (ssD S12) := by decide +kernel
  have w3 : C 59 "is_stays" [ssD S12] = some (.b true) := by
    have := c_stays (C := C) (k := 55) (n := 0) (d := ssD S12) (by decide +kernel)
    rw [show staysB (ssD S12) = true by decide +kernel] at this
    exact this
  have mu13 : muE (ssD S) (.i 13) = some (.t (List.replicate 13 (S.map sD)).flatten) := mu_ss (S := S) (by omega) 13 (by omega)
  have hbad := bads_ok o
  have hbd : bads S = [.n, .i 7, .t [], .t (List.replicate 13 (S.map sD)).flatten, .t [.t [.i 3, .i 2, .i 1]], .t [.t [.i 0, .i 100, .i 1]], .t [.t [.i 0, .i 0, .i 0]], .t [.t [.i 0, .i 0, .i 101]], .t [.t [.i (-1), .i 0, .i 1]], .t [.t [.i 0, .i 0]], .t [.t [.b true, .i 1, .i 1]]] := rfl
  have hbl : (bads S).length ≤ 1000000 := by simp [bads]
  generalize (List.replicate 13 (S.map sD)).flatten = zs at mu13 hbd
  have hmm : (1 : Int) + ((m : Int) - 1) = m := by omega
  simp -implicitDefEqProofs [-ixD, -seqD, -walkD, -allD, -anyD, -sumD, -maxD, -minD, -minTD, -rng1, -rng2, -rng3, -List.head?_filter, -isTys, -lenD, -ixlD, -mxdD, -trgD, hx, hw, hli, w1, w2, w3, mu12, c1, m4, hmm]
  refine Wf_frs [3] id (bads S) (by
    simp -implicitDefEqProofs [-ixD, -seqD, -walkD, -allD, -anyD, -sumD, -maxD, -minD, -minTD, -rng1, -rng2, -rng3, -List.head?_filter, -isTys, -lenD, -ixlD, -mxdD, -trgD, mu13]
    rw [← hbd, mkL_ok (sz_le hbl)]
    rfl) (fun d hdm c => ?_) (fun c => ?_)
  · obtain ⟨q1, q2⟩ := hbad d hdm
    simp -implicitDefEqProofs [-ixD, -seqD, -walkD, -allD, -anyD, -sumD, -maxD, -minD, -minTD, -rng1, -rng2, -rng3, -List.head?_filter, -isTys, -lenD, -ixlD, -mxdD, -trgD, bad_ss (C := C) q1 q2]
  · have hsz : compM (fun _ : Nat => some true) (fun d : Nat => ((C 59 "_law_lying" [ssD S, .i (d : Nat)]).bind fun x => some [x]).bind lenD) (List.range 20) = some ((List.range 20).map fun d : Nat => D.i (cn S d : Nat)) := compM_all _ (fun _ _ => rfl) fun d _ => by
      simp -implicitDefEqProofs [-ixD, -seqD, -walkD, -allD, -anyD, -sumD, -maxD, -minD, -minTD, -rng1, -rng2, -rng3, -List.head?_filter, -isTys, -lenD, -ixlD, -mxdD, -trgD, c_llying (C := C) (k := 58) o (d : Nat), cn]
    have r20 : PL.rng1 (.i 20) = some ((List.range 20).map fun i : Nat => D.i i) := rng1_nat (n := 20) (by omega)
    have msz := mkL_map' (g := D.i) (l := szL S) (by simp [szL])
    have xm := sz_max o
    have xi := sz_idx o
    have fu := c_full (C := C) (k := 53) o false
    rw [ssQ_f] at fu
    have fs : C 59 "_law_same" [.t [.i (bst (cn S) 100).1, .i (bst (cn S) 100).2], .t [.i (bst (cn S) 100).1, .i (bst (cn S) 100).2]] = some (.b true) := c_same (C := C) (n := 1) (m := 59) rfl (by omega)
    simp -implicitDefEqProofs [-ixD, -seqD, -walkD, -allD, -anyD, -sumD, -maxD, -minD, -minTD, -rng1, -rng2, -rng3, -List.head?_filter, -isTys, -lenD, -ixlD, -mxdD, -trgD, r20, compD_M, hsz, msz, sz_D, xm, xi, fu, fs]
    refine Wf_frs [4] (fun x : Nat => D.i x) [0, 3, 5, 8, 13, 99] (by simp -implicitDefEqProofs [-ixD, -seqD, -walkD, -allD, -anyD, -sumD, -maxD, -minD, -minTD, -rng1, -rng2, -rng3, -List.head?_filter, -isTys, -lenD, -ixlD, -mxdD, -trgD]) (fun x hxm c2 => ?_) (fun c2 => ?_)
    · have hx99 : x ≤ 99 := by
        simp only [List.mem_cons, List.not_mem_nil, or_false] at hxm
        omega
      have l1 := c_lying (C := C) (k := 53) o false (n := (x : Nat)) (by omega) (by omega)
      rw [ssQ_f] at l1
      have l2 := c_llying (C := C) (k := 58) o (x : Nat)
      have l3 : tupleD [.l ((lyL S (x : Nat)).map fun k : Nat => D.i k)] = some (nD (lyL S (x : Nat))) := rfl
      have l4 : C 59 "_law_same" [nD (lyL S (x : Nat)), nD (lyL S (x : Nat))] = some (.b true) := c_same (C := C) (n := 1) (m := 59) (sam_nD (by have := ly_len (S := S) (x : Nat); omega)) (by omega)
      simp -implicitDefEqProofs [-ixD, -seqD, -walkD, -allD, -anyD, -sumD, -maxD, -minD, -minTD, -rng1, -rng2, -rng3, -List.head?_filter, -isTys, -lenD, -ixlD, -mxdD, -trgD, -tupleD, l1, l2, l3, l4]
    · have pl := c_lplaces (C := C) (k := 58) (m := m) o hm4
      obtain ⟨k1, k2, k3⟩ := mn_ask (m := m) o
      obtain ⟨q1, q2⟩ := places_eq (m := m) o
      have ch := crowd_head o m
      obtain ⟨b1, b2, b3, b4⟩ := bst_max o
      have pof := c_places (C := C) (k := 49) o false (m := m) hm1 (by omega)
      rw [ssQ_f, q1] at pof
      have cof := c_crowd (C := C) (k := 53) o true (m := m) hm1 (by omega)
      generalize hdue : mnO (rowsL S m S.length) = due at *
      simp -implicitDefEqProofs [-ixD, -seqD, -walkD, -allD, -anyD, -sumD, -maxD, -minD, -minTD, -rng1, -rng2, -rng3, -List.head?_filter, -isTys, -lenD, -ixlD, -mxdD, -trgD, -sq_if, pl]
      refine Wf_if2 (env' := [.v (.z (ns.map .i)), .v (ssD S), .v (.i m), c 3, c2 4, .v (.l ((szL S).map D.i)), .v due, .v (oD (crowd S m)), .no, .no, .no, .no, .no]) (decide (m < (bst (cn S) 100).2)) ?_ (fun hb => ?_) (fun hb => ?_) ?_
      · simp -implicitDefEqProofs [-ixD, -seqD, -walkD, -allD, -anyD, -sumD, -maxD, -minD, -minTD, -rng1, -rng2, -rng3, -List.head?_filter, -isTys, -lenD, -ixlD, -mxdD, -trgD, xm]
      · have hb := of_decide_eq_true hb
        have hfd : ∃ d r, ((List.range 20).filter fun d => decide (m < cn S d)) = d :: r := by
          cases hf : (List.range 20).filter fun d => decide (m < cn S d) with
          | nil =>
            rw [List.filter_eq_nil_iff] at hf
            have := hf (bst (cn S) 100).1 (List.mem_range.mpr b1)
            rw [decide_eq_true_eq, b2] at this
            exact absurd hb this
          | cons d r => exact ⟨d, r, rfl⟩
        obtain ⟨d, r, hf⟩ := hfd
        have hcr : crowd S m = some d := by rw [← ch, hf]; rfl
        have hfl := List.length_filter_le (fun d => decide (m < cn S d)) (List.range 20)
        rw [hf, List.length_range] at hfl
        have ix0 : ixD (.l ((d :: r).map fun i : Nat => D.i i)) (.i 0) = some (.i d) := by rw [ixD_l]; exact atI_0 _ _
        have hat : ∀ a, a < 20 → atI ((szL S).map D.i) (a : Nat) = some (.i (cn S a : Nat)) := fun a ha => by
          have h1 := sz_get (S := S) ha
          rw [atI_gI (by simpa [szL] using ha), gI, List.getD_eq_getElem?_getD, h1]
          rfl
        simp -implicitDefEqProofs [-ixD, -seqD, -walkD, -allD, -anyD, -sumD, -maxD, -minD, -minTD, -rng1, -rng2, -rng3, -List.head?_filter, -isTys, -lenD, -ixlD, -mxdD, -trgD, r20, compD_M, hcr, oD]
        rw [compM_eq (fun d => decide (m < cn S d)) (fun d : Nat => .i d) (fun a ha => by simp -implicitDefEqProofs [-ixD, -seqD, -walkD, -allD, -anyD, -sumD, -maxD, -minD, -minTD, -rng1, -rng2, -rng3, -List.head?_filter, -isTys, -lenD, -ixlD, -mxdD, -trgD, hat a (List.mem_range.mp ha)]) (fun _ _ _ => rfl), hf, Option.bind_some, mkL_map' (by omega), Option.bind_some, ix0]
        rfl
      · have hb := of_decide_eq_false hb
        have hcr : crowd S m = none := by
          rw [crowd, List.find?_eq_none]
          intro d _
          have := b3 d
          rw [decide_eq_true_eq]
          omega
        rw [hcr]
        rfl
      · have hnd : isND (oD (crowd S m)) = !(rowsL S m S.length).isEmpty := by
          rw [← q2]
          cases crowd S m <;> rfl
        have sd : C 59 "_law_same" [due, due] = some (.b true) := c_same (C := C) (n := 1) (m := 59) k2 (by omega)
        have so : C 59 "_law_same" [oD (crowd S m), oD (crowd S m)] = some (.b true) := c_same (C := C) (n := 0) (m := 59) (by cases crowd S m <;> rfl) (by omega)
        simp -implicitDefEqProofs [-ixD, -seqD, -walkD, -allD, -anyD, -sumD, -maxD, -minD, -minTD, -rng1, -rng2, -rng3, -List.head?_filter, -isTys, -lenD, -ixlD, -mxdD, -trgD, pof, k3, hnd, sd, so, hli, cof]
        have ask := asks_ok (due := due) k1 (n := S.length) (m := m) (by omega)
        have u1 := mu_one 0 S.length (by omega)
        have u2 := mu_one (m : Int) S.length (by omega)
        have u3 := mu_one (-1) S.length (by omega)
        have u4 : trgD (.i (S.length : Nat)) = some (nD (List.range S.length)) := by
          rw [trgD, if_pos (absLe_of (by omega)), Int.toNat_natCast, rngD_map]
          simp [nD]
        have hal : (asks due S.length m).length ≤ 1000000 := by simp [asks]
        have hak : asks due S.length m = [due, tD (List.replicate S.length 0), nD (List.range S.length), .t [], .n, .i 7, tD (List.replicate S.length (m : Int)), tD (List.replicate S.length (-1))] := rfl
        refine Wf_frs [3] id (asks due S.length m) (by
          simp -implicitDefEqProofs [-ixD, -seqD, -walkD, -allD, -anyD, -sumD, -maxD, -minD, -minTD, -rng1, -rng2, -rng3, -List.head?_filter, -isTys, -lenD, -ixlD, -mxdD, -trgD, u1, u2, u3, u4]
          rw [← hak]) (fun d hd c3 => ?_) (fun c3 => ?_)
        · obtain ⟨b, e1, e2⟩ := ask_same (C := C) o hm1 (show m ≤ 12 by omega) (ask d hd)
          have e3 : C 59 "_law_same" [.b b, .b b] = some (.b true) := c_same (C := C) (n := 0) (m := 59) rfl (by omega)
          simp -implicitDefEqProofs [-ixD, -seqD, -walkD, -allD, -anyD, -sumD, -maxD, -minD, -minTD, -rng1, -rng2, -rng3, -List.head?_filter, -isTys, -lenD, -ixlD, -mxdD, -trgD, e1, e2, e3]
        · obtain ⟨p1, p2⟩ := pow_b (show S.length ≤ 8 by omega)
          have ep := c_pow (C := C) (k := 58) (j := S.length) (by omega)
          simp -implicitDefEqProofs [-ixD, -seqD, -walkD, -allD, -anyD, -sumD, -maxD, -minD, -minTD, -rng1, -rng2, -rng3, -List.head?_filter, -isTys, -lenD, -ixlD, -mxdD, -trgD]
          refine Wf_frs [8, 9] (fun i : Nat => D.i i) (List.range (2 ^ S.length)) (by
            simp -implicitDefEqProofs [-ixD, -seqD, -walkD, -allD, -anyD, -sumD, -maxD, -minD, -minTD, -rng1, -rng2, -rng3, -List.head?_filter, -isTys, -lenD, -ixlD, -mxdD, -trgD, -Int.natCast_pow, ep]
            exact rng1_nat (by omega)) (fun i hi c4 => ?_) (fun c4 => ?_)
          · have hr := rise_bits i S.length
            have hl := bits_len i S.length
            have e1 := c_set (C := C) (k := 57) (num := i) (n := S.length) (by omega)
            have e2 := c_choice (C := C) (k := 52) (m := m) o hm1 (by omega) hr (by omega)
            have e3 := c_lchoice (C := C) (k := 57) (m := m) o (r := bitsOf i S.length) (by omega)
            rw [fits_days o hr] at e2
            have e4 : C 59 "_law_same" [.b (daysB S m (bitsOf i S.length)), .b (daysB S m (bitsOf i S.length))] = some (.b true) := c_same (C := C) (n := 0) (m := 59) rfl (by omega)
            simp -implicitDefEqProofs [-ixD, -seqD, -walkD, -allD, -anyD, -sumD, -maxD, -minD, -minTD, -rng1, -rng2, -rng3, -List.head?_filter, -isTys, -lenD, -ixlD, -mxdD, -trgD, e1, e2, e3, e4]
          · have hz : ∀ r, inH none r = ([] : List Nat).all fun j => decide (j ∈ r) := fun r => rfl
            obtain ⟨b, f1, f2, f3⟩ := best_eq (m := m) o hm1 hz (j := 0) (by omega) rfl
            obtain ⟨b', f1', f2', f3'⟩ := best_eq (m := m + 1) o (by omega) hz (j := 0) (by omega) rfl
            have lb := c_lbest (C := C) (k := 56) (m := m) o none
            have lb' := c_lbest (C := C) (k := 56) (m := m + 1) o none
            have bc := c_bc (C := C) (k := 52) (m := m) o hm1 (by omega)
            have pe := c_pen (C := C) (k := 52) (m := m) o hm1 (by omega) f1 f1' f3 f3'
            rw [f2] at lb
            rw [f2', show ((m + 1 : Nat) : Int) = (m : Int) + 1 by omega] at lb'
            rw [f1] at bc
            have lb : C 59 "_law_best" [ssD S, .i m, .n] = some (.t [.i (-wS S b), nD b]) := lb
            have lb' : C 59 "_law_best" [ssD S, .i ((m : Int) + 1), .n] = some (.t [.i (-wS S b'), nD b']) := lb'
            have bc : C 59 "best_choice" [ssD S, .i m] = some (nD b) := bc
            have sb : C 59 "_law_same" [nD b, nD b] = some (.b true) := c_same (C := C) (n := 1) (m := 59) (sam_nD (by have := rise_len f3; omega)) (by omega)
            have si : ∀ x y : Int, x = y → C 59 "_law_same" [.i x, .i y] = some (.b true) := fun x y e => by
              subst e
              exact c_same (C := C) (n := 0) (m := 59) rfl (by omega)
            have s1 := si (wS S b' - wS S b) (-wS S b + wS S b') (by omega)
            simp -implicitDefEqProofs [-ixD, -seqD, -walkD, -allD, -anyD, -sumD, -maxD, -minD, -minTD, -rng1, -rng2, -rng3, -List.head?_filter, -isTys, -lenD, -ixlD, -mxdD, -trgD, lb, lb', bc, pe, sb, s1]
            refine Wf_frs [11] (fun i : Nat => D.i i) (List.range S.length) (by
              simp -implicitDefEqProofs [-ixD, -seqD, -walkD, -allD, -anyD, -sumD, -maxD, -minD, -minTD, -rng1, -rng2, -rng3, -List.head?_filter, -isTys, -lenD, -ixlD, -mxdD, -trgD]
              exact rng1_nat (by omega)) (fun j hj c5 => ?_) (fun c5 => ?_)
            · have hj := List.mem_range.mp hj
              have hz2 : ∀ r, inH (some j) r = ([j] : List Nat).all fun i => decide (i ∈ r) := fun r => by simp [inH]
              obtain ⟨b2, g1, g2, g3⟩ := best_eq (m := m) o hm1 hz2 (j := j) hj (by simp [inH])
              have lb2 := c_lbest (C := C) (k := 56) (m := m) o (some j)
              rw [g2] at lb2
              have lb2 : C 59 "_law_best" [ssD S, .i m, .i j] = some (.t [.i (-wS S b2), nD b2]) := lb2
              have fo := c_forced (C := C) (k := 52) (m := m) o hm1 (by omega) hj f1 g1 f3 g3
              have s2 := si (wS S b - wS S b2) (-wS S b2 + wS S b) (by omega)
              simp -implicitDefEqProofs [-ixD, -seqD, -walkD, -allD, -anyD, -sumD, -maxD, -minD, -minTD, -rng1, -rng2, -rng3, -List.head?_filter, -isTys, -lenD, -ixlD, -mxdD, -trgD, lb2, fo, s2]
            · have t1 : C 59 "is_choice" [ssD S, .i m, .t [.i 0, .i 0]] = some (.b false) := c_choice_no (C := C) (k := 52) (m := m) o hm1 (by omega) (by
                have := c_is_set (C := C) (k := 55) (n := S.length) [0, 0]
                have e : setB S.length (-1) [0, 0] = false := by simp [setB]
                rw [e] at this
                exact this)
              have t2 : C 59 "is_choice" [ssD S, .i m, .n] = some (.b false) := c_choice_no (C := C) (k := 52) (m := m) o hm1 (by omega) (c_is_set_no (C := C) (k := 55) rfl rfl)
              have t3 : C 59 "is_choice" [ssD S, .i m, .t [.i S.length]] = some (.b false) := c_choice_no (C := C) (k := 52) (m := m) o hm1 (by omega) (by
                have := c_is_set (C := C) (k := 55) (n := S.length) [(S.length : Int)]
                have e : setB S.length (-1) [(S.length : Int)] = false := by
                  simp [setB]
                  omega
                rw [e] at this
                exact this)
              simp -implicitDefEqProofs [-ixD, -seqD, -walkD, -allD, -anyD, -sumD, -maxD, -minD, -minTD, -rng1, -rng2, -rng3, -List.head?_filter, -isTys, -lenD, -ixlD, -mxdD, -trgD, t1, t2, t3]))
end
end K37
namespace K37
open PySem PySem.Spec PyProof.Rows L2 PL
abbrev R : PySem.W.OpenRow := PySem.W.OpenLaw.row PySem.Challenge.rw_surelysound_k37_whole_places_or_a_full_d
abbrev hk : PySem.W.Hook := hookM 4 free (faOf fn free.free) fn
def ob (s : PySem.W.SharedT) : AlM := obsMG 4 free (faOf fn free.free) fn (HandSHeadRun.getT s)
theorem ob_eq (s : PySem.W.SharedT) : ob s = hk.obs s.abs := obsMG_eq (HandSHeadRun.getT_eq s)
def lawIx : Nat := thP.main.body.length - 1
def boundN : List Str := (thP.main.body.filterMap fun st => match st with
  | .FunctionDef n .. => some n
  | .ClassDef n .. => some n
  | .Assign [.Name n _] _ _ => some n
  | _ => none).filter fun n => n != "law" && n != "__name__"
def impIx : List Nat := (List.range thP.main.body.length).filter fun i => match thP.main.body[i]? with
  | some (.Import ..) => true
  | some (.ImportFrom ..) => true
  | _ => false
abbrev vw : Program := PySem.W.view R.prog (impIx ++ [lawIx])
theorem run (w : World) : HandSHeadRun.RunEqI R vw hk ob 60000 boundN w := by
  unfold HandSHeadRun.RunEqI
  kernel_rfl
theorem allOk : fn.all okDef = true := by decide +kernel
def dLaw : He.DefD := (findD "law" fn).getD ⟨("", none), "", "", ⟨[], [], none, [], [], none, []⟩, [], ⟨.function, [], false, false, []⟩, [], []⟩
theorem dLaw_eq : findD "law" fn = some dLaw := by kernel_rfl
theorem dLaw_par : parsOf dLaw = [(("script" : Str))] := by kernel_rfl
end K37
open PySem PySem.W PySem.Calls PyProof.Rows
theorem PySem.Challenge.cw_surelysound_k37_whole_places_or_a_full_d_holds : PySem.Challenge.rw_surelysound_k37_whole_places_or_a_full_d.Holds := by
  w_on; o_law
  refine HandSHeadRun.head_imp (r := OpenLaw.row PySem.Challenge.rw_surelysound_k37_whole_places_or_a_full_d) (q := K37.vw) (H := K37.hk) (ob := K37.ob) (M := 60000) (loose := K37.boundN) (d := HandSHeadRun.topDef (OpenLaw.row PySem.Challenge.rw_surelysound_k37_whole_places_or_a_full_d).prog K37.lawIx) (kwd := []) K37.ob_eq
    K37.run (by kernel_rfl) (by kernel_rfl) (by kernel_rfl) (by rfl) (by first | assumption | decide +kernel) (by decide +kernel) ⟨rfl, rfl, rfl, rfl, rfl, by decide +kernel⟩ ?hw ?hc
  case hw => w_witness2
  case hc =>
    refine PL.walk_fin (l := PySem.Challenge.rw_surelysound_k37_whole_places_or_a_full_d) (n := 63) (k := 60) (x := "script") rfl (by decide) (by kernel_rfl) ⟨rfl, by decide, by decide⟩ ?F
    intro w mg fa h Y G hmg0
    obtain ⟨K, KX, c⟩ := Y
    have kn := PL.knownM_of KX G K37.allOk c
    have hd := (PL.findD_mem K37.dLaw_eq)
    obtain ⟨fd, F⟩ := kn.def_ _ hd.1
    have hmg : mg ("law" : PySem.Str) = some (.ref fa) := by
      have e : (HandSHeadRun.topDef (OpenLaw.row PySem.Challenge.rw_surelysound_k37_whole_places_or_a_full_d).prog K37.lawIx).name = ("law" : PySem.Str) := by kernel_rfl
      rw [← e]
      exact hmg0
    have hfa : fa = He.ga K K37.dLaw.name := by
      have e := kn.glo _ hd.1
      rw [hd.2, hmg] at e
      cases e
      rfl
    subst hfa
    refine ⟨K, fd, PL.spLaw K, KX, fun s u => ?_, fun H a ns hl hb hS => ⟨a, ns, rfl, hl, hb, hS, fun _ => rfl⟩, fun base KB GB => ?_⟩
    · have b := PL.bindsA_of (List.all_eq_true.mp K37.allOk _ hd.1) F s [u] (by rw [K37.dLaw_par]; rfl)
      rw [K37.dLaw_par] at b
      exact b
    · have o := PL.lawOk (P := (PySem.Challenge.rw_surelysound_k37_whole_places_or_a_full_d).prog) (w := w) (base := base) K37.allOk kn K37.dLaw_eq (by rw [K37.dLaw_par]; rfl) F (fun ns _ _ => (haveI := K37.all_fn; K37.law_eq (C := fun k => PL.callD K37.fn K37.free k) ns))
      rw [K37.dLaw_par] at o
      exact o
