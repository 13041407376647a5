import PyProof.Rows.All
import Wide.All
import OpenK.AllK
import Wide.FinOn
import HandS.ForMost
import HandS.Deep
import HandS.Walk
import HandS.Zip
import HandS.Conv
import HandS.Flow
import PyProof.NeData
import PyProof.P3In
import HandS.TupAny
import HandS.TupMul
import HandS.Style
import PyProof.DictMoreH
import PyProof.DictRoadsH
import HandS.SetKeys
import HandS.IsInst
import HandS.Defaults
import HandS.MapJoin
import HandS.NoneIn
import KE.GoesEnum
import HandS.Rev
import HandS.RevRange
import HandS.Codes
import HandS.Words
import HandS.Text
import HandS.SortRule
import HandS.TupLen
import KE.SortData
import HandS.Head0
import HandS.Head1
import HandS.Head2
import HandS.HeadEnd
import HandS.HeadHook1
import HandS.HeadHook2
import PySem.Challenge.RW_holdstill_k70_answers_added
set_option Elab.async false
set_option linter.all false
set_option maxRecDepth 100000
/-! Z0: pure values, stores, lifted readings. -/
namespace Z
open PySem PySem.Spec PyProof.Rows L2

/-- a value: plain data, tuples of values, the address of an object that can change -/
inductive D where
  | non | bl (b : Bool) | int (i : Int) | str (x : Str) | tup (xs : List D) | ref (a : Addr)
instance : Inhabited D := ⟨.non⟩

mutual
def D.beq : D → D → Bool
  | .non, .non => true
  | .bl a, .bl b => a == b
  | .int a, .int b => decide (a = b)
  | .str a, .str b => decide (a = b)
  | .tup a, .tup b => D.beqL a b
  | .ref a, .ref b => decide (a = b)
  | _, _ => false
def D.beqL : List D → List D → Bool
  | [], [] => true
  | x :: xs, y :: ys => D.beq x y && D.beqL xs ys
  | _, _ => false
end
mutual
theorem D.beq_eq : ∀ a b : D, D.beq a b = true → a = b
  | .non, b, h => by cases b <;> simp_all [D.beq]
  | .bl a, b, h => by cases b <;> simp_all [D.beq]
  | .int a, b, h => by cases b <;> simp_all [D.beq]
  | .str a, b, h => by cases b <;> simp_all [D.beq]
  | .ref a, b, h => by cases b <;> simp_all [D.beq]
  | .tup a, b, h => by
    cases b with
    | tup b => rw [D.beqL_eq a b (by simpa [D.beq] using h)]
    | _ => simp [D.beq] at h
theorem D.beqL_eq : ∀ a b : List D, D.beqL a b = true → a = b
  | [], b, h => by cases b <;> simp_all [D.beqL]
  | x :: xs, b, h => by
    cases b with
    | nil => simp [D.beqL] at h
    | cons y ys =>
      simp only [D.beqL, Bool.and_eq_true] at h
      rw [D.beq_eq x y h.1, D.beqL_eq xs ys h.2]
end
mutual
theorem D.beq_refl : ∀ a : D, D.beq a a = true
  | .non | .bl a | .int a | .str a | .ref a => by simp [D.beq]
  | .tup a => by simp only [D.beq]; exact D.beqL_refl a
theorem D.beqL_refl : ∀ a : List D, D.beqL a a = true
  | [] => rfl
  | x :: xs => by simp only [D.beqL, D.beq_refl x, D.beqL_refl xs, Bool.and_self]
end
instance : DecidableEq D := fun a b => decidable_of_iff (D.beq a b = true) ⟨D.beq_eq a b, fun e => by rw [e]; exact D.beq_refl b⟩

-- no bools, no addresses: where == is =
mutual
def D.plain : D → Bool
  | .tup xs => D.plainL xs
  | .ref _ => false
  | .bl _ => false
  | _ => true
def D.plainL : List D → Bool
  | [] => true
  | x :: r => x.plain && D.plainL r
end
mutual
def D.depth : D → Nat
  | .tup xs => D.depthL xs + 1
  | _ => 0
def D.depthL : List D → Nat
  | [] => 0
  | x :: r => max x.depth (D.depthL r)
end
mutual
def D.toP : D → PyData
  | .non => .none
  | .bl b => .bool b
  | .int i => .int i
  | .str x => .str x
  | .tup xs => .tuple (D.toPL xs)
  | .ref _ => .none
def D.toPL : List D → List PyData
  | [] => []
  | x :: r => x.toP :: D.toPL r
end
theorem D.plainL_iff : ∀ {xs : List D}, D.plainL xs = true ↔ ∀ x ∈ xs, x.plain = true
  | [] => by simp [D.plainL]
  | x :: r => by simp [D.plainL, D.plainL_iff (xs := r)]
theorem D.depthL_le : ∀ {xs : List D} {n : Nat}, D.depthL xs ≤ n ↔ ∀ x ∈ xs, x.depth ≤ n
  | [], n => by simp [D.depthL]
  | x :: r, n => by
    simp only [D.depthL, List.mem_cons, forall_eq_or_imp, ← D.depthL_le (xs := r)]
    omega
theorem D.toPL_eq : ∀ xs : List D, D.toPL xs = xs.map D.toP
  | [] => rfl
  | x :: r => by simp only [D.toPL, D.toPL_eq r, List.map_cons]

/-! ### what a machine's value stands for -/
mutual
inductive Rp (K : PySem.W.Frag) (H : Hp) : V → D → Prop
  | non : Rp K H .non .non
  | bl (b : Bool) : Rp K H (.bl b) (.bl b)
  | int (i : Int) : Rp K H (.int i) (.int i)
  | str (x : Str) : Rp K H (.str x) (.str x)
  | ref (a : Addr) : Rp K H (.ref a) (.ref a)
  | tup {a : Addr} {vs : List V} {ds : List D} : SqT K H a vs → RpA K H vs ds → Rp K H (.ref a) (.tup ds)
inductive RpA (K : PySem.W.Frag) (H : Hp) : List V → List D → Prop
  | nil : RpA K H [] []
  | cons {v : V} {vs : List V} {d : D} {ds : List D} : Rp K H v d → RpA K H vs ds → RpA K H (v :: vs) (d :: ds)
end
section
variable {K : PySem.W.Frag} {H H' : Hp} {v : V} {vs ws : List V} {d : D} {ds es : List D}
theorem RpA.length (r : RpA K H vs ds) : vs.length = ds.length := by
  induction ds generalizing vs with
  | nil => cases r; rfl
  | cons d ds ih => cases r with | cons a b => simp [ih b]
theorem RpA.get : ∀ {vs : List V} {ds : List D} {i : Nat} {d : D}, RpA K H vs ds → ds[i]? = some d → ∃ v, vs[i]? = some v ∧ Rp K H v d
  | _, [], _, _, _, e => by simp at e
  | _, x :: r, 0, d, h, e => by
    cases h with
    | cons a b => simp at e; subst e; exact ⟨_, rfl, a⟩
  | _, x :: r, i + 1, d, h, e => by
    cases h with
    | cons a b =>
      obtain ⟨v, e1, e2⟩ := RpA.get (i := i) b (by simpa using e)
      exact ⟨v, by simpa using e1, e2⟩
theorem RpA.getV : ∀ {vs : List V} {ds : List D} {i : Nat} {v : V}, RpA K H vs ds → vs[i]? = some v → ∃ d, ds[i]? = some d ∧ Rp K H v d
  | [], _, _, _, _, e => by simp at e
  | x :: r, _, 0, d, h, e => by
    cases h with
    | cons a b => simp at e; subst e; exact ⟨_, rfl, a⟩
  | x :: r, _, i + 1, d, h, e => by
    cases h with
    | cons a b =>
      obtain ⟨v, e1, e2⟩ := RpA.getV (i := i) b (by simpa using e)
      exact ⟨v, by simpa using e1, e2⟩
theorem RpA.append : ∀ {vs ws : List V} {ds es : List D}, RpA K H vs ds → RpA K H ws es → RpA K H (vs ++ ws) (ds ++ es)
  | _, _, [], _, h, g => by cases h; exact g
  | _, _, d :: ds, _, h, g => by
    cases h with
    | cons a b => exact .cons a (b.append g)
theorem RpA.take : ∀ {vs : List V} {ds : List D} (n : Nat), RpA K H vs ds → RpA K H (vs.take n) (ds.take n)
  | _, _, 0, h => by simp; exact .nil
  | _, [], n + 1, h => by cases h; exact .nil
  | _, d :: ds, n + 1, h => by
    cases h with
    | cons a b => exact .cons a (b.take n)
theorem RpA.drop : ∀ {vs : List V} {ds : List D} (n : Nat), RpA K H vs ds → RpA K H (vs.drop n) (ds.drop n)
  | _, _, 0, h => h
  | _, [], n + 1, h => by cases h; exact .nil
  | _, d :: ds, n + 1, h => by
    cases h with
    | cons a b => exact b.drop n
theorem RpA.set : ∀ {vs : List V} {ds : List D} {v : V} {d : D} (n : Nat), RpA K H vs ds → Rp K H v d → RpA K H (vs.set n v) (ds.set n d)
  | _, [], _, _, n, h, r => by cases h; exact .nil
  | _, _ :: _, _, _, 0, h, r => by
    cases h with
    | cons a b => exact .cons r b
  | _, _ :: _, _, _, n + 1, h, r => by
    cases h with
    | cons a b => exact .cons a (b.set n r)
theorem RpA.eraseIdx : ∀ {vs : List V} {ds : List D} (n : Nat), RpA K H vs ds → RpA K H (vs.eraseIdx n) (ds.eraseIdx n)
  | _, [], n, h => by cases h; exact .nil
  | _, _ :: _, 0, h => by
    cases h with
    | cons a b => exact b
  | _, _ :: _, n + 1, h => by
    cases h with
    | cons a b => exact .cons a (b.eraseIdx n)
theorem RpA.reverse {vs : List V} {ds : List D} (h : RpA K H vs ds) : RpA K H vs.reverse ds.reverse := by
  induction ds generalizing vs with
  | nil => cases h; exact .nil
  | cons d ds ih =>
    cases h with
    | cons a b => simp only [List.reverse_cons]; exact (ih b).append (.cons a .nil)
theorem RpA.replicate {v : V} {d : D} (h : Rp K H v d) : ∀ n : Nat, RpA K H (List.replicate n v) (List.replicate n d)
  | 0 => .nil
  | n + 1 => .cons h (RpA.replicate h n)
theorem RpA.flat {vs : List V} {ds : List D} (h : RpA K H vs ds) : ∀ n : Nat, RpA K H (List.replicate n vs).flatten (List.replicate n ds).flatten
  | 0 => .nil
  | n + 1 => by simp only [List.replicate_succ, List.flatten_cons]; exact h.append (RpA.flat h n)
theorem RpA.ints : ∀ ns : List Int, RpA K H (ns.map V.int) (ns.map D.int)
  | [] => .nil
  | n :: r => .cons (.int n) (RpA.ints r)
theorem RpA.of_ints : ∀ {ns : List Int} {vs : List V}, RpA K H vs (ns.map D.int) → vs = ns.map V.int
  | [], _, h => by cases h; rfl
  | n :: r, _, h => by
    cases h with
    | cons a b => cases a; rw [RpA.of_ints (ns := r) b]; rfl
theorem RpA.of_bls : ∀ {ns : List Bool} {vs : List V}, RpA K H vs (ns.map D.bl) → vs = ns.map V.bl
  | [], _, h => by cases h; rfl
  | n :: r, _, h => by
    cases h with
    | cons a b => cases a; rw [RpA.of_bls (ns := r) b]; rfl
theorem RpA.of_strs : ∀ {ns : List Str} {vs : List V}, RpA K H vs (ns.map D.str) → vs = ns.map V.str
  | [], _, h => by cases h; rfl
  | n :: r, _, h => by
    cases h with
    | cons a b => cases a; rw [RpA.of_strs (ns := r) b]; rfl
theorem RpA.strs : ∀ ns : List Str, RpA K H (ns.map V.str) (ns.map D.str)
  | [] => .nil
  | n :: r => .cons (.str n) (RpA.strs r)
mutual
/-- values stay where tuples stay -/
theorem Rp.mono (ht : ∀ a vs, SqT K H a vs → SqT K H' a vs) : ∀ (d : D) (v : V), Rp K H v d → Rp K H' v d
  | .non, _, h => by cases h; exact .non
  | .bl b, _, h => by cases h; exact .bl b
  | .int i, _, h => by cases h; exact .int i
  | .str x, _, h => by cases h; exact .str x
  | .ref a, _, h => by cases h; exact .ref a
  | .tup ds, _, h => by
    cases h with
    | tup s r => exact .tup (ht _ _ s) (RpA.mono ht ds _ r)
theorem RpA.mono (ht : ∀ a vs, SqT K H a vs → SqT K H' a vs) : ∀ (ds : List D) (vs : List V), RpA K H vs ds → RpA K H' vs ds
  | [], _, h => by cases h; exact .nil
  | d :: ds, _, h => by
    cases h with
    | cons a b => exact .cons (Rp.mono ht d _ a) (RpA.mono ht ds _ b)
end
mutual
theorem Rp.dp : ∀ (d : D) (v : V), d.plain = true → Rp K H v d → Dp K H v d.toP
  | .non, _, _, h => by cases h; exact .non
  | .bl b, _, p, h => by simp [D.plain] at p
  | .int i, _, _, h => by cases h; exact .int i
  | .str x, _, _, h => by cases h; exact .str x
  | .ref a, _, p, h => by simp [D.plain] at p
  | .tup ds, _, p, h => by
    cases h with
    | tup s r => exact .tup s (RpA.dp ds _ (by simpa [D.plain] using p) r)
theorem RpA.dp : ∀ (ds : List D) (vs : List V), D.plainL ds = true → RpA K H vs ds → DpAll K H vs (D.toPL ds)
  | [], _, _, h => by cases h; exact .nil
  | d :: ds, _, p, h => by
    simp only [D.plainL, Bool.and_eq_true] at p
    cases h with
    | cons a b => exact .cons (Rp.dp d _ p.1 a) (RpA.dp ds _ p.2 b)
end
mutual
theorem Rp.inj_of (h : ∀ a vs, SqT K H a vs → ∀ ws, SqT K H a ws → vs = ws) : ∀ (d : D) (v : V) (e : D), d.plain = true → e.plain = true → Rp K H v d → Rp K H v e → d = e
  | .non, _, _, _, _, a, b => by cases a; cases b; rfl
  | .bl _, _, _, p, _, _, _ => by simp [D.plain] at p
  | .int i, _, _, _, _, a, b => by cases a; cases b; rfl
  | .str i, _, _, _, _, a, b => by cases a; cases b; rfl
  | .ref _, _, _, p, _, _, _ => by simp [D.plain] at p
  | .tup ds, _, e, p, q, a, b => by
    cases a with
    | tup s r =>
      cases b with
      | ref _ => simp [D.plain] at q
      | tup s' r' =>
        have := h _ _ s _ s'
        subst this
        rw [RpA.inj_of h ds _ _ (by simpa [D.plain] using p) (by simpa [D.plain] using q) r r']
theorem RpA.inj_of (h : ∀ a vs, SqT K H a vs → ∀ ws, SqT K H a ws → vs = ws) : ∀ (ds : List D) (vs : List V) (es : List D), D.plainL ds = true → D.plainL es = true → RpA K H vs ds → RpA K H vs es → ds = es
  | [], _, _, _, _, a, b => by cases a; cases b; rfl
  | d :: ds, _, _, p, q, a, b => by
    cases a with
    | cons a1 a2 =>
      cases b with
      | cons b1 b2 =>
        simp only [D.plainL, Bool.and_eq_true] at p q
        rw [Rp.inj_of h d _ _ p.1 q.1 a1 b1, RpA.inj_of h ds _ _ p.2 q.2 a2 b2]
end
end
end Z
/-! Z2: plain data on the machine: ==, !=, in. -/
namespace Z
open PySem PySem.Spec PyProof.Rows L2
theorem Rp.bl_of {K : PySem.W.Frag} {H : Hp} {v : V} {c : Bool} (r : Rp K H v (.bl c)) : v = .bl c := by cases r; rfl
theorem Rp.int_of {K : PySem.W.Frag} {H : Hp} {v : V} {c : Int} (r : Rp K H v (.int c)) : v = .int c := by cases r; rfl
theorem Rp.str_of {K : PySem.W.Frag} {H : Hp} {v : V} {c : Str} (r : Rp K H v (.str c)) : v = .str c := by cases r; rfl
theorem Rp.non_of {K : PySem.W.Frag} {H : Hp} {v : V} (r : Rp K H v .non) : v = .non := by cases r; rfl
theorem Rp.ref_of {K : PySem.W.Frag} {H : Hp} {v : V} {c : Addr} (r : Rp K H v (.ref c)) : v = .ref c := by cases r; rfl
theorem Rp.tup_of {K : PySem.W.Frag} {H : Hp} {v : V} {ds : List D} (r : Rp K H v (.tup ds)) : ∃ a vs, v = .ref a ∧ SqT K H a vs ∧ RpA K H vs ds := by
  cases r with | tup s r => exact ⟨_, _, rfl, s, r⟩

mutual
inductive VR (h : Heap) : Value → D → Prop
  | non : VR h .none .non
  | int (i : Int) (t : Tok) : VR h (.int i t) (.int i)
  | str (x : Str) (t : Tok) : VR h (.str x t) (.str x)
  | tup {a : Addr} {vs : Array Value} {ds : List D} : h.IsTuple a vs → VRA h vs.toList ds → VR h (.ref a) (.tup ds)
inductive VRA (h : Heap) : List Value → List D → Prop
  | nil : VRA h [] []
  | cons {v : Value} {vs : List Value} {d : D} {ds : List D} : VR h v d → VRA h vs ds → VRA h (v :: vs) (d :: ds)
end
theorem tuple_inj {h : Heap} {a : Addr} {vs ws : Array Value} (x : h.IsTuple a vs) (y : h.IsTuple a ws) : vs = ws := by
  obtain ⟨o, e, _, n, d⟩ := x
  obtain ⟨o', e', _, n', d'⟩ := y
  rw [e] at e'; cases e'
  rw [d] at d'
  injection d'
mutual
theorem VR.uniq {h : Heap} : ∀ (d e : D) (v : Value), VR h v d → VR h v e → d = e
  | .non, _, _, a, b => by cases a; cases b; rfl
  | .bl _, _, _, a, _ => by cases a
  | .int _, _, _, a, b => by cases a; cases b; rfl
  | .str _, _, _, a, b => by cases a; cases b; rfl
  | .ref _, _, _, a, _ => by cases a
  | .tup ds, _, _, a, b => by
    cases a with
    | tup h1 h2 =>
      cases b with
      | tup k1 k2 =>
        have := tuple_inj h1 k1
        subst this
        rw [VRA.uniq ds _ _ h2 k2]
theorem VRA.uniq {h : Heap} : ∀ (ds es : List D) (vs : List Value), VRA h vs ds → VRA h vs es → ds = es
  | [], _, _, a, b => by cases a; cases b; rfl
  | d :: ds, _, _, a, b => by
    cases a with
    | cons h1 h2 =>
      cases b with
      | cons k1 k2 => rw [VR.uniq d _ _ h1 k1, VRA.uniq ds _ _ h2 k2]
end
theorem VRA.length {h : Heap} : ∀ {ds : List D} {vs : List Value}, VRA h vs ds → vs.length = ds.length
  | [], _, a => by cases a; rfl
  | d :: ds, _, a => by
    cases a with
    | cons _ r => simp [VRA.length r]
theorem VRA.get {h : Heap} : ∀ {ds : List D} {vs : List Value} (j : Nat) (h1 : j < vs.length) (h2 : j < ds.length), VRA h vs ds → VR h vs[j] ds[j]
  | [], _, j, _, h2, _ => absurd h2 (by simp)
  | d :: ds, _, 0, _, _, a => by
    cases a with
    | cons r _ => exact r
  | d :: ds, _, j + 1, h1, h2, a => by
    cases a with
    | cons _ r => exact VRA.get j (by simpa using h1) (by simpa using h2) r
section
variable {X : Cx} {pins : List (Addr × Obj)} {σ : L2.St} {H : Hp} {s : Shared}
mutual
theorem Rp.vr (I : L2.Inv X pins σ H s) : ∀ (d : D) (v : V) (u : Value), d.plain = true → Rp X.K H v d → L2.RelV v u → VR s.heap u d
  | .non, _, _, _, h, r => by cases h; cases r; exact .non
  | .bl _, _, _, p, _, _ => by simp [D.plain] at p
  | .int i, _, _, _, h, r => by cases h; obtain ⟨t, rfl⟩ := r; exact .int i t
  | .str i, _, _, _, h, r => by cases h; obtain ⟨t, rfl⟩ := r; exact .str i t
  | .ref _, _, _, p, _, _ => by simp [D.plain] at p
  | .tup ds, _, _, p, h, r => by
    obtain ⟨a, vs, rfl, s1, r1⟩ := h.tup_of
    cases r
    obtain ⟨its, rv, q, _⟩ := I.tuple s1
    exact .tup (show s.heap.IsTuple a its.toArray from q) (RpA.vr I ds _ its (by simpa [D.plain] using p) r1 rv)
theorem RpA.vr (I : L2.Inv X pins σ H s) : ∀ (ds : List D) (vs : List V) (us : List Value), D.plainL ds = true → RpA X.K H vs ds → Vals vs us → VRA s.heap us ds
  | [], _, _, _, h, r => by cases h; cases r; exact .nil
  | d :: ds, _, _, p, h, r => by
    simp only [D.plainL, Bool.and_eq_true] at p
    cases h with
    | cons a b =>
      cases r with
      | cons r1 r2 => exact .cons (Rp.vr I d _ _ p.1 a r1) (RpA.vr I ds _ _ p.2 b r2)
end
end
open PySem.SeqAt
theorem dec_cons (x y : D) (xs ys : List D) : decide (x :: xs = y :: ys) = (decide (x = y) && decide (xs = ys)) := by
  by_cases h1 : x = y <;> by_cases h2 : xs = ys <;> simp [h1, h2]
abbrev peq (xs ys : List D) (j : Nat) : Bool := decide (xs.getD j .non = ys.getD j .non)
theorem peq_all : ∀ xs ys : List D, ((List.range (min xs.length ys.length)).all (peq xs ys) && xs.length == ys.length) = decide (xs = ys)
  | [], [] => rfl
  | [], _ :: _ => by simp
  | _ :: _, [] => by simp
  | x :: xs, y :: ys => by
    have ih := peq_all xs ys
    have e1 : min (x :: xs).length (y :: ys).length = min xs.length ys.length + 1 := by simp only [List.length_cons]; omega
    have e2 : ((x :: xs).length == (y :: ys).length) = (xs.length == ys.length) := by simp
    have e3 : (List.range (min xs.length ys.length + 1)).all (peq (x :: xs) (y :: ys)) = (decide (x = y) && (List.range (min xs.length ys.length)).all (peq xs ys)) := by
      rw [List.range_succ_eq_map, List.all_cons, List.all_map]
      rfl
    rw [e1, e2, e3, dec_cons, ← ih, Bool.and_assoc]
theorem depth_tup {xs : List D} : (D.tup xs).depth = D.depthL xs + 1 := by simp [D.depth]
theorem dtt (xs ys : List D) : decide (D.tup xs = D.tup ys) = decide (xs = ys) := by
  by_cases h : xs = ys <;> simp [h]
theorem dii (a b : Int) : decide (D.int a = D.int b) = (a == b) := by by_cases h : a = b <;> simp [h]
theorem dss (a b : Str) : decide (D.str a = D.str b) = (a == b) := by by_cases h : a = b <;> simp [h]
mutual
theorem vr_eq : ∀ (d e : D) (A : Around) (s : Shared) (u v : Value), VR s.heap u d → VR s.heap v e → A.units + min d.depth e.depth < cLine → EqAt A s u v (decide (d = e))
  | .non, _, A, s, _, _, ra, rb, hu => by
    cases ra
    cases rb with
    | non => exact EqAt.same _
    | int y u => exact EqAt.none_int y u
    | str y u => exact EqAt.none_str y u
    | tup k1 k2 => exact EqAt.none_tuple k1 (room_here hu)
  | .bl _, _, _, _, _, _, ra, _, _ => by cases ra
  | .ref _, _, _, _, _, _, ra, _, _ => by cases ra
  | .int x, _, A, s, _, _, ra, rb, hu => by
    cases ra with
    | int _ t =>
      cases rb with
      | non => exact EqAt.int_none x t
      | int y u => rw [dii]; exact EqAt.int_int x t y u
      | str y u => exact EqAt.int_str x t y u
      | tup k1 k2 => exact EqAt.int_tuple x t k1 (room_here hu)
  | .str x, _, A, s, _, _, ra, rb, hu => by
    cases ra with
    | str _ t =>
      cases rb with
      | non => exact EqAt.str_none x t
      | int y u => exact EqAt.str_int x t y u
      | str y u => rw [dss]; exact EqAt.str_str x t y u
      | tup k1 k2 => exact EqAt.str_tuple x t k1 (room_here hu)
  | .tup ds, _, A, s, _, _, ra, rb, hu => by
    cases ra with
    | @tup l vs _ h1 h2 =>
      cases rb with
      | non => exact EqAt.tuple_none h1 (room_here hu)
      | int y u => exact EqAt.tuple_int y u h1 (room_here hu)
      | str y u => exact EqAt.tuple_str y u h1 (room_here hu)
      | @tup l' vs' es k1 k2 =>
        have n1 : vs.size = ds.length := by simpa using h2.length
        have n2 : vs'.size = es.length := by simpa using k2.length
        rw [dtt]
        by_cases hll : l = l'
        · subst hll
          have := tuple_inj h1 k1
          subst this
          rw [VRA.uniq ds es _ h2 k2, decide_eq_true rfl]
          exact EqAt.same _
        · rw [← peq_all ds es, ← n1, ← n2]
          rw [depth_tup, depth_tup] at hu
          refine EqAt.of_refs hll (RcAt.tuples h1 k1 (room_here hu) fun j j1 j2 => ?_)
          have := vr_eqA ds es A.in1 s vs.toList vs'.toList h2 k2 (room_in hu) j (by simpa using j1) (by simpa using j2)
          simpa using this
theorem vr_eqA : ∀ (ds es : List D) (A : Around) (s : Shared) (us vs : List Value), VRA s.heap us ds → VRA s.heap vs es → A.units + min (D.depthL ds) (D.depthL es) < cLine →
    ∀ j (h1 : j < us.length) (h2 : j < vs.length), EqAt A s us[j] vs[j] (peq ds es j)
  | [], _, _, _, _, _, ra, _, _, j, h1, _ => by cases ra; exact absurd h1 (Nat.not_lt_zero _)
  | _ :: _, [], _, _, _, _, _, rb, _, j, _, h2 => by cases rb; exact absurd h2 (Nat.not_lt_zero _)
  | x :: xs, y :: ys, A, s, _, _, ra, rb, hu, j, h1, h2 => by
    simp only [D.depthL] at hu
    cases ra with
    | cons r rs =>
      cases rb with
      | cons r' rs' =>
        cases j with
        | zero => exact vr_eq x y A s _ _ r r' (room_head hu)
        | succ j => exact vr_eqA xs ys A s _ _ rs rs' (room_tail hu) j (Nat.lt_of_succ_lt_succ h1) (Nat.lt_of_succ_lt_succ h2)
end
theorem vr_rc {d e : D} {A : Around} {s : Shared} {u v : Value} (ra : VR s.heap u d) (rb : VR s.heap v e) (hu : A.units + min d.depth e.depth < cLine) : RcAt A s u v (decide (d = e)) := by
  cases ra with
  | non =>
    cases rb with
    | non => exact RcAt.none_none
    | int y u => exact RcAt.none_int y u
    | str y u => exact RcAt.none_str y u
    | tup k1 k2 => exact RcAt.none_tuple k1 (room_here hu)
  | int x t =>
    cases rb with
    | non => exact RcAt.int_none x t
    | int y u => rw [dii]; exact RcAt.int_int x t y u
    | str y u => exact RcAt.int_str x t y u
    | tup k1 k2 => exact RcAt.int_tuple x t k1 (room_here hu)
  | str x t =>
    cases rb with
    | non => exact RcAt.str_none x t
    | int y u => exact RcAt.str_int x t y u
    | str y u => rw [dss]; exact RcAt.str_str x t y u
    | tup k1 k2 => exact RcAt.str_tuple x t k1 (room_here hu)
  | @tup l vs ds h1 h2 =>
    cases rb with
    | non => exact RcAt.tuple_none h1 (room_here hu)
    | int y u => exact RcAt.tuple_int y u h1 (room_here hu)
    | str y u => exact RcAt.tuple_str y u h1 (room_here hu)
    | @tup l' vs' es k1 k2 =>
      have n1 : vs.size = ds.length := by simpa using h2.length
      have n2 : vs'.size = es.length := by simpa using k2.length
      rw [dtt, ← peq_all ds es, ← n1, ← n2]
      rw [depth_tup, depth_tup] at hu
      refine RcAt.tuples h1 k1 (room_here hu) fun j j1 j2 => ?_
      have := vr_eqA ds es A.in1 s vs.toList vs'.toList h2 k2 (room_in hu) j (by simpa using j1) (by simpa using j2)
      simpa using this
end Z
/-! Zd: plain data as keys of dicts. -/
namespace Z
open PySem PySem.Spec PyProof.Rows L2 PySem.SeqAt
mutual
def D.hok : D → Bool
  | .int _ => true
  | .str _ => true
  | .tup xs => D.hokL xs
  | _ => false
def D.hokL : List D → Bool
  | [] => true
  | x :: r => x.hok && D.hokL r
end
mutual
def D.hash (w : World) : D → Int
  | .int i => hashInt i
  | .str x => hashStr w x
  | .tup xs => reduceHash (Builtin.Tuple.tupleHashOf (D.hashL w xs))
  | _ => 0
def D.hashL (w : World) : List D → List Int
  | [] => []
  | x :: r => x.hash w :: D.hashL w r
end
mutual
def D.draws : D → Nat
  | .tup xs => D.drawsL xs + 1
  | _ => 1
def D.drawsL : List D → Nat
  | [] => 0
  | x :: r => x.draws + D.drawsL r
end
mutual
theorem D.hok_plain : ∀ d : D, d.hok = true → d.plain = true
  | .non, h => by simp [D.hok] at h
  | .bl _, h => by simp [D.hok] at h
  | .int _, _ => rfl
  | .str _, _ => rfl
  | .ref _, h => by simp [D.hok] at h
  | .tup xs, h => by simp only [D.plain]; exact D.hokL_plain xs (by simpa [D.hok] using h)
theorem D.hokL_plain : ∀ d : List D, D.hokL d = true → D.plainL d = true
  | [], _ => rfl
  | x :: r, h => by
    simp only [D.hokL, Bool.and_eq_true] at h
    simp only [D.plainL, Bool.and_eq_true]
    exact ⟨D.hok_plain x h.1, D.hokL_plain r h.2⟩
end
section
variable {prog : Program} {w : World}
mutual
theorem vr_hash : ∀ (d : D) (A : Around) (s : Shared) (u : Value) (E : Value → Shared → Prop) (Q : Int → Shared → Prop), VR s.heap u d → d.hok = true → A.units + d.depth < cLine → Q (d.hash w) { s with toks := s.toks + d.draws } →
    wpAny (model prog w) A (PySem.pyHash u) Q E s
  | .non, _, _, _, _, _, _, h, _, _ => by simp [D.hok] at h
  | .bl _, _, _, _, _, _, _, h, _, _ => by simp [D.hok] at h
  | .ref _, _, _, _, _, _, _, h, _, _ => by simp [D.hok] at h
  | .int i, A, s, u, E, Q, r, _, _, q => by cases r; exact wpAny_pyHash_int q
  | .str i, A, s, u, E, Q, r, _, _, q => by cases r; exact wpAny_pyHash_str q
  | .tup ds, A, s, u, E, Q, r, hh, hu, h => by
    cases r with
    | @tup a vs _ hT hr =>
      have hTy : s.TypeIs (.ref a) "tuple" := let ⟨o, ho, hc, _⟩ := hT; ⟨o, ho, hc⟩
      obtain ⟨o, ho, _, n, hd⟩ := hT
      rw [depth_tup] at hu
      unfold pyHash
      first | unfold pyHashByItsType | skip
      first | refine wpAny_bind (wpAny_cRoomFor_or (.inr (by omega)) ?_) | skip
      refine wpAny_bind (wpAny_specialOf hTy F.slot_tuple_hash.lookup ?_)
      show wpAny _ _ (if (some (Value.builtin "tuple.__hash__") == some Value.none) = true then _ else _) Q E s
      rw [if_neg (by rw [beq_builtin_none]; exact Bool.false_ne_true)]
      refine wpAny_bind (wpAny_specialOf hTy F.slot_tuple_hash.lookup ?_)
      show wpAny _ _ (callSpecialIfBoundUnlessNone? (.ref a) "__hash__" _ >>= _) Q E s
      refine wpAny_bind (wpAny_callSpecialIfBoundUnlessNone?_slot hTy F.slot_tuple_hash (wpAny_call_entry F.slot_tuple_hash hTy F.entry_tuple_hash ?_ (F.args_tuple_hash_1 _)))
      show wpAny _ _ (Builtin.Tuple.tupleItemsOf (.ref a) >>= _) _ _ s
      refine wpAny_bind (wpAny_tupleItemsOf ho hd ?_)
      refine wpAny_bind ?_
      rw [← Array.forIn_toList]
      refine wpAny_forIn_list _
        (fun rest (b : Array Int) s' => ∃ done left, ds = done ++ left ∧ VRA s.heap rest left ∧ b.toList = D.hashL w done ∧ s' = { s with toks := s.toks + D.drawsL done })
        _ ?_ ?_ _ _ ⟨[], ds, rfl, hr, rfl, rfl⟩
      · rintro x rest b s' ⟨done, left, e, hl, hb, rfl⟩
        cases hl with
        | @cons _ _ k ks' h1 hl' =>
          have hm : k ∈ ds := by rw [e]; simp
          have hk : D.hok k = true := by
            have : ∀ (l : List D), D.hokL l = true → k ∈ l → k.hok = true := by
              intro l
              induction l with
              | nil => intro _ h; cases h
              | cons y r ih =>
                intro hl hm
                simp only [D.hokL, Bool.and_eq_true] at hl
                rcases List.mem_cons.mp hm with rfl | hm
                · exact hl.1
                · exact ih hl.2 hm
            exact this ds (by simpa [D.hok] using hh) hm
          have hdk : k.depth ≤ D.depthL ds := D.depthL_le.mp (Nat.le_refl _) k hm
          have hsz : sizeOf k < sizeOf ds := by have := List.sizeOf_lt_of_mem hm; omega
          refine wpAny_bind (vr_hash k _ _ _ _ _ (show VR s.heap x k from h1) hk (by show A.units + 1 + k.depth < cLine; omega) ?_)
          have e2 : ∀ (l : List D), D.hashL w (l ++ [k]) = D.hashL w l ++ [k.hash w] := by
            intro l
            induction l with
            | nil => rfl
            | cons y r ih => simp [D.hashL, ih]
          have e3 : ∀ (l : List D), D.drawsL (l ++ [k]) = D.drawsL l + k.draws := by
            intro l
            induction l with
            | nil => simp [D.drawsL]
            | cons y r ih => simp [D.drawsL, ih, Nat.add_assoc]
          first
            | exact wpAny_pure ⟨done ++ [k], ks', by simp [e], hl', by simp [hb, e2], by simp [e3, Nat.add_assoc]⟩
            | exact wpAny_bind (wpAny_pure (wpAny_pure ⟨done ++ [k], ks', by simp [e], hl', by simp [hb, e2], by simp [e3, Nat.add_assoc]⟩))
      · rintro b s' ⟨done, left, e, hl, hb, rfl⟩
        cases hl
        rw [List.append_nil] at e
        subst e
        show wpAny _ _ (retInt (Builtin.Tuple.tupleHashOf b.toList)) _ _ _
        rw [hb]
        refine wpAny_ret_mkInt ?_
        show wpAny _ _ (if (decide (-(2 : Int) ^ 63 ≤ Builtin.Tuple.tupleHashOf (D.hashL w ds)) && decide (Builtin.Tuple.tupleHashOf (D.hashL w ds) < 2 ^ 63)) = true then _ else _) Q E _
        simp only [D.hash, D.draws] at h
        unfold reduceHash at h
        by_cases hr : (decide (-(2 : Int) ^ 63 ≤ Builtin.Tuple.tupleHashOf (D.hashL w ds)) && decide (Builtin.Tuple.tupleHashOf (D.hashL w ds) < 2 ^ 63)) = true
        · rw [if_pos hr]
          rw [if_pos hr] at h
          exact wpAny_pure (by simpa [Nat.add_assoc] using h)
        · rw [if_neg hr]
          rw [if_neg hr] at h
          exact wpAny_bind (wpAny_rule (wpAny_pure (by simpa [Nat.add_assoc] using h)))
termination_by d => sizeOf d
end
end

section
variable {prog : Program} {w : World}
mutual
theorem vr_keep {h h' : Heap} {P : Addr → Prop} (hk : ∀ a vs, h.IsTuple a vs → h'.IsTuple a vs) : ∀ (d : D) (u : Value), VR h u d → VR h' u d
  | .non, _, r => by cases r; exact .non
  | .bl _, _, r => by cases r
  | .ref _, _, r => by cases r
  | .int _, _, r => by cases r; exact .int _ _
  | .str _, _, r => by cases r; exact .str _ _
  | .tup ds, _, r => by
    cases r with
    | tup h1 h2 => exact .tup (hk _ _ h1) (vra_keep (P := P) hk ds _ h2)
theorem vra_keep {h h' : Heap} {P : Addr → Prop} (hk : ∀ a vs, h.IsTuple a vs → h'.IsTuple a vs) : ∀ (d : List D) (u : List Value), VRA h u d → VRA h' u d
  | [], _, r => by cases r; exact .nil
  | d :: ds, _, r => by
    cases r with
    | cons a b => exact .cons (vr_keep (P := P) hk d _ a) (vra_keep (P := P) hk ds _ b)
end
theorem tuple_same {h h' : Heap} {d : Addr} {o : Obj} {es ep} (ho : h.get? d = some o) (hd : o.data = .dict es ep) (hs : Heap.SameBut d h h') (a : Addr) (vs : Array Value) (x : h.IsTuple a vs) : h'.IsTuple a vs := by
  obtain ⟨o', e, c, n, dt⟩ := x
  have hne : a ≠ d := by
    rintro rfl
    rw [ho] at e; cases e
    rw [hd] at dt; cases dt
  exact ⟨o', (hs.2 a hne).trans e, c, n, dt⟩
theorem vr_quiet : ∀ (k : Nat) (d : D) (A : Around) (s : Shared) (u : Value) (E : Value → Shared → Prop) (Q : Bool → Shared → Prop), VR s.heap u d → d.depth ≤ k → Q true s → wpAny (model prog w) A (eqIsQuiet k u) Q E s
  | k, .non, A, s, u, E, Q, r, _, h => by cases r; unfold eqIsQuiet; exact wpAny_pure h
  | k, .int _, A, s, u, E, Q, r, _, h => by cases r; unfold eqIsQuiet; exact wpAny_pure h
  | k, .str _, A, s, u, E, Q, r, _, h => by cases r; unfold eqIsQuiet; exact wpAny_pure h
  | k, .bl _, A, s, u, E, Q, r, _, h => by cases r
  | k, .ref _, A, s, u, E, Q, r, _, h => by cases r
  | 0, .tup ds, A, s, u, E, Q, r, hd, h => by simp [D.depth] at hd
  | k + 1, .tup ds, A, s, u, E, Q, r, hd, h => by
    cases r with
    | @tup a vs _ hT hr =>
      have hTy : s.TypeIs (.ref a) "tuple" := let ⟨o, ho, hc, _⟩ := hT; ⟨o, ho, hc⟩
      obtain ⟨o, ho, _, n, hdt⟩ := hT
      rw [depth_tup] at hd
      unfold eqIsQuiet
      refine wpAny_bind (wpAny_specialOf hTy F.slot_tuple_eq.lookup ?_)
      show wpAny _ _ (isInstance (.ref a) (.type "tuple") >>= _) _ _ s
      refine wpAny_bind (wpAny_isInstance hTy isSubtype_tuple_tuple ?_)
      simp only [Bool.not_true, Bool.false_eq_true, if_false]
      refine wpAny_bind (wpAny_seqItems ho hdt ?_)
      refine wpAny_bind ?_
      show wpAny _ _ (forIn vs _ _) _ _ s
      rw [← Array.forIn_toList]
      refine wpAny_forIn_list _ (fun rest r s' => r.1 = none ∧ s' = s ∧ ∃ ds', VRA s.heap rest ds' ∧ ∀ d ∈ ds', d.depth ≤ k) _ ?_ ?_ _ _ ⟨rfl, rfl, ds, hr, fun d hm => D.depthL_le.mp (by omega) d hm⟩
      · rintro v rest r s' ⟨hr, rfl, ds', hv, hall⟩
        cases hv with
        | @cons _ _ d' ds'' h1 h2 =>
          refine wpAny_bind (vr_quiet k d' A _ v _ _ h1 (hall d' (List.mem_cons_self ..)) ?_)
          simp only [Bool.not_true, Bool.false_eq_true, if_false]
          exact wpAny_pure ⟨rfl, rfl, ds'', h2, fun d hm => hall d (List.mem_cons_of_mem _ hm)⟩
      · rintro ⟨r1, r2⟩ s' ⟨hr1, rfl, _⟩
        have hr1' : r1 = none := hr1
        subst hr1'
        exact wpAny_pure h
/-- a key that is a tuple -/
structure KeyAt (h : Heap) (d : D) (a : Addr) : Prop where
  vr : VR h (.ref a) d
  ok : d.hok = true
  dp : d.depth ≤ 8
def dataKind (prog : Program) (w : World) : HeapKind prog w D where
  is := KeyAt
  hash := D.hash w
  draws := D.draws
  room := fun A => A.units + 8 < cLine
  inj := fun x y => VR.uniq _ _ _ x.vr y.vr
  keeps := fun x ho hd hs => ⟨vr_keep (P := fun _ => True) (tuple_same ho hd hs) _ _ x.vr, x.ok, x.dp⟩
  pyHash := fun hu x h => vr_hash _ _ _ _ _ _ x.vr x.ok (by have := x.dp; omega) h
  eqBool := fun hu x y h => vr_eq _ _ _ _ _ _ x.vr y.vr (by exact Nat.lt_of_le_of_lt (Nat.add_le_add_left (Nat.le_trans (Nat.min_le_left _ _) x.dp) _) hu) _ _ _ _ h
  quiet := fun x h => vr_quiet 8 _ _ _ _ _ _ x.vr x.dp h
end
end Z
namespace Z
open PySem PySem.Spec PyProof.Rows L2 PySem.SeqAt
/-- a dict whose keys are tuples of plain data: the keys, where they stand, the values -/
abbrev DKs := List (D × Addr × V)
def DRel (ks : DKs) (vs : List (D × Addr × Value)) : Prop := Paired (fun (p : D × Addr × V) (q : D × Addr × Value) => p.1 = q.1 ∧ p.2.1 = q.2.1 ∧ L2.RelV p.2.2 q.2.2) ks vs
def dEntry (w : World) (x : D × Addr × Value) : DictEntry := ⟨x.1.hash w, .ref x.2.1, x.2.2⟩
def DTok (w : World) (a : Addr) (ks : DKs) (h : Heap) : Prop :=
  ks.length ≤ sizeLine ∧ (a == sysModules) = false ∧ ∃ vs, DRel ks vs ∧ ∃ o es ep, h.get? a = some o ∧ o.ExactDict ∧ o.data = .dict es ep ∧ es.toList = vs.map (dEntry w) ∧ (vs.map (·.1)).Nodup
def DTO (w : World) (a : Addr) (ks : DKs) : HO := .ext (DTok w a ks)
theorem DTok.there {w : World} {a : Addr} {ks : DKs} {h : Heap} (x : DTok w a ks h) : ∃ o, h.get? a = some o := by
  obtain ⟨_, _, vs, _, o, es, ep, e, _⟩ := x
  exact ⟨o, e⟩
theorem DTok.stay {w : World} {a : Addr} {ks : DKs} {h1 h2 : Heap} (x : DTok w a ks h1) (k : ∀ o, h1.get? a = some o → h2.get? a = some o) : DTok w a ks h2 := by
  obtain ⟨h, h', vs, r, o, es, ep, e, q⟩ := x
  exact ⟨h, h', vs, r, o, es, ep, k _ e, q⟩
theorem dto_ok {P : Program} {w : World} {H : Hp} {h : Heap} {a : Addr} {ks : DKs} (x : DTok w a ks h) : ObjOk P w H h a (DTO w a ks) := ⟨x, x.there, fun _ _ y k => y.stay k⟩
end Z
/-! Z1: stores, lifted readings, the basic rules. -/
namespace Z
open PySem PySem.Spec PyProof.Rows L2

/-- what stands at an address -/
inductive ZO where
  | lst (xs : List D) | fls (xs : List D) | dct (kvs : List (D × D)) | fdc (ho : HO) (kvs : List (D × D)) | ins (C : Addr) (fs : List (Str × D))
abbrev Store := Addr → Option ZO
abbrev Env := List (Option D)
def zup (S : Store) (a : Addr) (o : ZO) : Store := fun b => if b = a then some o else S b
theorem zup_same {S : Store} {a : Addr} {o : ZO} : zup S a o a = some o := by unfold zup; rw [if_pos rfl]
theorem zup_ne {S : Store} {a b : Addr} {o : ZO} (h : b ≠ a) : zup S a o b = S b := by unfold zup; rw [if_neg h]
theorem zup_zup {S : Store} {a : Addr} {o u : ZO} : zup (zup S a o) a u = zup S a u := by
  funext b; unfold zup; split <;> rfl

def kD : Key → D
  | .inl i => .int i
  | .inr x => .str x
def KMatch (K : PySem.W.Frag) (H : Hp) (ks : List (Key × V)) (kvs : List (D × D)) : Prop := Paired (fun (p : Key × V) (q : D × D) => q.1 = kD p.1 ∧ Rp K H p.2 q.2) ks kvs
def TMatch (K : PySem.W.Frag) (H : Hp) (ks : DKs) (kvs : List (D × D)) : Prop := Paired (fun (p : D × Addr × V) (q : D × D) => (q.1 = p.1 ∧ Rp K H p.2.2 q.2) ∧ Rp K H (.ref p.2.1) p.1 ∧ p.1.hok = true ∧ p.1.depth ≤ 8) ks kvs
def FMatch (K : PySem.W.Frag) (H : Hp) (fs' : List (Str × V)) (fs : List (Str × D)) : Prop := Paired (fun (p : Str × V) (q : Str × D) => p.1 = q.1 ∧ Rp K H p.2 q.2) fs' fs
/-- what may be read as a dict -/
def RdD (K : PySem.W.Frag) (w : World) (H : Hp) (a : Addr) (kvs : List (D × D)) : Prop := (∃ ks, Rd H a (.dK ks) ∧ KMatch K H ks kvs) ∨ ∃ ks, Rd H a (DTO w a ks) ∧ TMatch K H ks kvs
def RO (K : PySem.W.Frag) (w : World) (H : Hp) (a : Addr) : ZO → Prop
  | .lst ds => ∃ vs, H a = some (.lst vs) ∧ RpA K H vs ds
  | .fls ds => ∃ vs, Rd H a (.lst vs) ∧ RpA K H vs ds
  | .dct kvs => (∃ ks, H a = some (.dK ks) ∧ KMatch K H ks kvs) ∨ ∃ ks, H a = some (DTO w a ks) ∧ TMatch K H ks kvs
  | .fdc ho kvs => H a = some ho ∧ RdD K w H a kvs
  | .ins C fs => ∃ dx fs', H a = some (.ins C dx fs') ∧ FMatch K H fs' fs
def RS (K : PySem.W.Frag) (w : World) (H : Hp) (S : Store) : Prop := ∀ a o, S a = some o → RO K w H a o
/-- a list of the module's own -/
def KS (K : PySem.W.Frag) (a : Addr) (ds : List D) : Prop := ∃ vs, (∀ H, SqL K H a vs) ∧ ∀ H, RpA K H vs ds
/-- what is not in the store stays -/
def Fr (S S' : Store) (H H' : Hp) : Prop := ∀ a o, H a = some o → S a = none → H' a = some o ∧ S' a = none
def EnvR (K : PySem.W.Frag) (H : Hp) (σ : L2.St) (δ : Env) : Prop := σ.length = δ.length ∧ ∀ (i : Nat) (d : D), δ[i]? = some (some d) → ∃ v, σ[i]? = some (some v) ∧ Rp K H v d

section
variable {K : PySem.W.Frag} {w : World} {H H' H1 H2 : Hp} {S S' S1 S2 : Store} {a p : Addr} {σ : L2.St} {δ : Env}
theorem Rd.inj {u u' : HO} (h : Rd H a u) (h' : H a = some u') : u' = u ∨ ∃ o, u' = .frz o u := by
  rcases h with h | ⟨o, h⟩
  · rw [h] at h'; cases h'; exact .inl rfl
  · rw [h] at h'; cases h'; exact .inr ⟨o, rfl⟩
theorem RO.some {z : ZO} (h : RO K w H a z) : H a ≠ none := by
  cases z with
  | lst ds => obtain ⟨vs, e, _⟩ := h; rw [e]; simp
  | fls ds => obtain ⟨vs, e | ⟨o, e⟩, _⟩ := h <;> rw [e] <;> simp
  | dct kvs => obtain ⟨ks, e, _⟩ | ⟨ks, e, _⟩ := h <;> rw [e] <;> simp
  | fdc ho kvs => rw [h.1]; simp
  | ins C fs => obtain ⟨dx, fs', e, _⟩ := h; rw [e]; simp
theorem RO.notup {z : ZO} {xs : List V} (h : RO K w H a z) (r : Rd H a (.tup xs)) : False := by
  rcases r with r | ⟨o', r⟩ <;> cases z with
  | lst ds => obtain ⟨vs, e, _⟩ := h; rw [r] at e; cases e
  | fls ds => obtain ⟨vs, e | ⟨o, e⟩, _⟩ := h <;> rw [r] at e <;> cases e
  | dct kvs => obtain ⟨ks, e, _⟩ | ⟨ks, e, _⟩ := h <;> rw [r] at e <;> cases e
  | fdc ho kvs => obtain ⟨_, ⟨ks, e | ⟨o, e⟩, _⟩ | ⟨ks, e | ⟨o, e⟩, _⟩⟩ := h <;> rw [r] at e <;> cases e
  | ins C fs => obtain ⟨dx, fs', e, _⟩ := h; rw [r] at e; cases e
theorem RS.none (rs : RS K w H S) (e : H a = .none) : S a = .none := by
  cases q : S a with
  | none => rfl
  | some z => exact absurd e (rs a z q).some
theorem RS.tup (rs : RS K w H S) (fr : Fr S S' H H') : ∀ a vs, SqT K H a vs → SqT K H' a vs := fun a vs h => by
  rcases h with h | h
  · have hs : S a = Option.none := by
      cases q : S a with
      | none => rfl
      | some z => exact ((rs a z q).notup h).elim
    rcases h with h | ⟨o, h⟩
    · exact .inl (.inl (fr a _ h hs).1)
    · exact .inl (.inr ⟨o, (fr a _ h hs).1⟩)
  · exact .inr h
theorem Fr.refl : Fr S S H H := fun _ _ e n => ⟨e, n⟩
theorem Fr.trans (f : Fr S S1 H H1) (g : Fr S1 S2 H1 H2) : Fr S S2 H H2 := fun a o e n => let ⟨e1, n1⟩ := f a o e n; g a o e1 n1
theorem KMatch.mono {ks : List (Key × V)} {kvs : List (D × D)} (ht : ∀ a vs, SqT K H a vs → SqT K H' a vs) (h : KMatch K H ks kvs) : KMatch K H' ks kvs := Paired.mapP h fun _ _ q => ⟨q.1, Rp.mono ht _ _ q.2⟩
theorem TMatch.mono {ks : DKs} {kvs : List (D × D)} (ht : ∀ a vs, SqT K H a vs → SqT K H' a vs) (h : TMatch K H ks kvs) : TMatch K H' ks kvs := Paired.mapP h fun _ _ q => ⟨⟨q.1.1, Rp.mono ht _ _ q.1.2⟩, Rp.mono ht _ _ q.2.1, q.2.2⟩
theorem FMatch.mono {ks : List (Str × V)} {kvs : List (Str × D)} (ht : ∀ a vs, SqT K H a vs → SqT K H' a vs) (h : FMatch K H ks kvs) : FMatch K H' ks kvs := Paired.mapP h fun _ _ q => ⟨q.1, Rp.mono ht _ _ q.2⟩
theorem RO.mono {z : ZO} (ht : ∀ a vs, SqT K H a vs → SqT K H' a vs) (e : H' a = H a) (h : RO K w H a z) : RO K w H' a z := by
  have er : ∀ u, Rd H a u → Rd H' a u := fun u r => by unfold Rd at *; rw [e]; exact r
  cases z with
  | lst ds => obtain ⟨vs, q, r⟩ := h; exact ⟨vs, by rw [e]; exact q, RpA.mono ht _ _ r⟩
  | fls ds => obtain ⟨vs, q, r⟩ := h; exact ⟨vs, er _ q, RpA.mono ht _ _ r⟩
  | dct kvs =>
    obtain ⟨ks, q, r⟩ | ⟨ks, q, r⟩ := h
    · exact .inl ⟨ks, by rw [e]; exact q, r.mono ht⟩
    · exact .inr ⟨ks, by rw [e]; exact q, r.mono ht⟩
  | fdc ho kvs =>
    obtain ⟨q0, ⟨ks, q, r⟩ | ⟨ks, q, r⟩⟩ := h
    · exact ⟨by rw [e]; exact q0, .inl ⟨ks, er _ q, r.mono ht⟩⟩
    · exact ⟨by rw [e]; exact q0, .inr ⟨ks, er _ q, r.mono ht⟩⟩
  | ins C fs => obtain ⟨dx, fs', q, r⟩ := h; exact ⟨dx, fs', by rw [e]; exact q, r.mono ht⟩
theorem EnvR.mono (ht : ∀ a vs, SqT K H a vs → SqT K H' a vs) (h : EnvR K H σ δ) : EnvR K H' σ δ :=
  ⟨h.1, fun i d e => let ⟨v, e1, e2⟩ := h.2 i d e; ⟨v, e1, Rp.mono ht _ _ e2⟩⟩
theorem EnvR.set {i : Nat} {v : V} {d : D} (h : EnvR K H σ δ) (r : Rp K H v d) : EnvR K H (σ.set i (some v)) (δ.set i (some d)) := by
  refine ⟨by simp [h.1], fun j e q => ?_⟩
  by_cases hj : i = j
  · subst hj
    by_cases hl : i < δ.length
    · rw [List.getElem?_set_self hl] at q
      cases q
      exact ⟨v, by rw [List.getElem?_set_self (by rw [h.1]; exact hl)], r⟩
    · rw [List.getElem?_eq_none (by simpa using hl)] at q; cases q
  · rw [List.getElem?_set_ne hj] at q ⊢
    exact h.2 j e q
/-- a tuple laid -/
theorem tup_free {vs : List V} (hp : H p = .none) {o : HO} : ∀ a ws, SqT K H a ws → SqT K (upd H p o) a ws := fun a ws h => by
  rcases h with h | h
  · rcases h with h | ⟨o, h⟩
    · exact .inl (.inl (by rw [upd_ne (ne_of_none h hp)]; exact h))
    · exact .inl (.inr ⟨o, by rw [upd_ne (ne_of_none h hp)]; exact h⟩)
  · exact .inr h
theorem Fr.new {o : HO} (hp : H p = .none) : Fr S S H (upd H p o) := fun a u e n => ⟨by rw [upd_ne (ne_of_none e hp)]; exact e, n⟩
theorem RS.new {o : HO} (rs : RS K w H S) (hp : H p = .none) : RS K w (upd H p o) S := fun a z e =>
  (rs a z e).mono (tup_free (vs := []) hp) (upd_ne fun q => by rw [q, rs.none hp] at e; cases e)
/-- an object laid and held -/
theorem Fr.laid {o : HO} {z : ZO} (hp : H p = .none) : Fr S (zup S p z) H (upd H p o) := fun a u e n =>
  have ne := ne_of_none e hp
  ⟨by rw [upd_ne ne]; exact e, by rw [zup_ne ne]; exact n⟩
theorem RS.laid {o : HO} {z : ZO} (rs : RS K w H S) (hp : H p = .none) (r : RO K w (upd H p o) p z) : RS K w (upd H p o) (zup S p z) := fun a u e => by
  by_cases ha : a = p
  · subst ha; rw [zup_same] at e; cases e; exact r
  · rw [zup_ne ha] at e
    exact (rs a u e).mono (tup_free (vs := []) hp) (upd_ne ha)
/-- an object written -/
theorem RS.tupw {o : HO} {z : ZO} (rs : RS K w H S) (e : S a = some z) : ∀ b ws, SqT K H b ws → SqT K (upd H a o) b ws := fun b ws h => by
  rcases h with h | h
  · have ne : b ≠ a := fun q => by subst q; exact (rs b z e).notup h
    rcases h with h | ⟨o, h⟩
    · exact .inl (.inl (by rw [upd_ne ne]; exact h))
    · exact .inl (.inr ⟨o, by rw [upd_ne ne]; exact h⟩)
  · exact .inr h
theorem Fr.write {o : HO} {z z' : ZO} (e : S a = some z) : Fr S (zup S a z') H (upd H a o) := fun b u q n =>
  have ne : b ≠ a := fun w => by rw [w, e] at n; cases n
  ⟨by rw [upd_ne ne]; exact q, by rw [zup_ne ne]; exact n⟩
theorem RS.write {o : HO} {z z' : ZO} (rs : RS K w H S) (e : S a = some z) (r : RO K w (upd H a o) a z') : RS K w (upd H a o) (zup S a z') := fun b u q => by
  by_cases hb : b = a
  · subst hb; rw [zup_same] at q; cases q; exact r
  · rw [zup_ne hb] at q
    exact (rs b u q).mono (rs.tupw e) (upd_ne hb)
/-- a part of the store -/
def Sub (S S' : Store) : Prop := ∀ a o, S a = some o → S' a = some o
theorem RS.sub (rs : RS K w H S') (h : Sub S S') : RS K w H S := fun a o e => rs a o (h a o e)
end

/-! ### readings -/
abbrev ZK := D → Store → Prop
abbrev ZTE := Env → Store → ZK → Prop
abbrev ZTT := Env → Store → (Bool → Store → Prop) → Prop
abbrev ZTA := Env → Store → (List D → Store → Prop) → Prop
structure ZEnds where
  nx : Env → Store → Prop
  rt : ZK
  bk : Env → Store → Prop
  ct : Env → Store → Prop
abbrev ZTS := ZEnds → Env → Store → Prop
def ZQ (K : PySem.W.Frag) (w : World) (S : Store) (H : Hp) (Qz : ZK) (Q : VK) : Prop := ∀ d S' v H', Qz d S' → Fr S S' H H' → Rp K H' v d → RS K w H' S' → Q v H'
def ZQT (K : PySem.W.Frag) (w : World) (S : Store) (H : Hp) (Qz : Bool → Store → Prop) (Q : Bool → Hp → Prop) : Prop := ∀ b S' H', Qz b S' → Fr S S' H H' → RS K w H' S' → Q b H'
def ZQA (K : PySem.W.Frag) (w : World) (S : Store) (H : Hp) (Qz : List D → Store → Prop) (Q : List V → Hp → Prop) : Prop := ∀ ds S' vs H', Qz ds S' → Fr S S' H H' → RpA K H' vs ds → RS K w H' S' → Q vs H'
def ZQN (K : PySem.W.Frag) (w : World) (S : Store) (H : Hp) (Qz : Env → Store → Prop) (Q : L2.St → Hp → Prop) : Prop := ∀ δ' S' σ' H', Qz δ' S' → Fr S S' H H' → EnvR K H' σ' δ' → RS K w H' S' → Q σ' H'
structure ZD (K : PySem.W.Frag) (w : World) (S : Store) (H : Hp) (E : ZEnds) (F : Ends) : Prop where
  nx : ZQN K w S H E.nx F.nx
  rt : ZQ K w S H E.rt F.rt
  bk : ZQN K w S H E.bk F.bk
  ct : ZQN K w S H E.ct F.ct
section
variable {K : PySem.W.Frag} {w : World} {H H1 : Hp} {S S1 : Store}
theorem ZQ.aft {Qz : ZK} {Q : VK} (h : ZQ K w S H Qz Q) (f : Fr S S1 H H1) : ZQ K w S1 H1 Qz Q := fun d S' v H' a b c e => h d S' v H' a (f.trans b) c e
theorem ZQT.aft {Qz : Bool → Store → Prop} {Q : Bool → Hp → Prop} (h : ZQT K w S H Qz Q) (f : Fr S S1 H H1) : ZQT K w S1 H1 Qz Q := fun d S' H' a b e => h d S' H' a (f.trans b) e
theorem ZQN.aft {Qz : Env → Store → Prop} {Q : L2.St → Hp → Prop} (h : ZQN K w S H Qz Q) (f : Fr S S1 H H1) : ZQN K w S1 H1 Qz Q := fun d S' v H' a b c e => h d S' v H' a (f.trans b) c e
theorem ZQA.aft {Qz : List D → Store → Prop} {Q : List V → Hp → Prop} (h : ZQA K w S H Qz Q) (f : Fr S S1 H H1) : ZQA K w S1 H1 Qz Q := fun d S' v H' a b c e => h d S' v H' a (f.trans b) c e
theorem ZD.aft {E : ZEnds} {F : Ends} (h : ZD K w S H E F) (f : Fr S S1 H H1) : ZD K w S1 H1 E F := ⟨h.nx.aft f, h.rt.aft f, h.bk.aft f, h.ct.aft f⟩
end
def liE (K : PySem.W.Frag) (w : World) (z : ZTE) : TE := fun σ H Q => ∃ δ S Qz, EnvR K H σ δ ∧ RS K w H S ∧ z δ S Qz ∧ ZQ K w S H Qz Q
def liT (K : PySem.W.Frag) (w : World) (z : ZTT) : TT := fun σ H Q => ∃ δ S Qz, EnvR K H σ δ ∧ RS K w H S ∧ z δ S Qz ∧ ZQT K w S H Qz Q
def liA (K : PySem.W.Frag) (w : World) (z : ZTA) : TA := fun σ H Q => ∃ δ S Qz, EnvR K H σ δ ∧ RS K w H S ∧ z δ S Qz ∧ ZQA K w S H Qz Q
def liS (K : PySem.W.Frag) (w : World) (z : ZTS) : TS := fun F σ H => ∃ δ S E, EnvR K H σ δ ∧ RS K w H S ∧ z E δ S ∧ ZD K w S H E F
abbrev ZE (X : Cx) (e : Expr) (z : ZTE) : Prop := PE X e (liE X.K X.w z)
abbrev ZT (X : Cx) (e : Expr) (z : ZTT) : Prop := PT X e (liT X.K X.w z)
abbrev ZW (X : Cx) (e : Expr) (z : ZTT) : Prop := PW X e (liT X.K X.w z)
abbrev ZA (X : Cx) (es : List Expr) (z : ZTA) : Prop := PA X es (liA X.K X.w z)
abbrev ZS (X : Cx) (st : Stmt) (z : ZTS) : Prop := PS X st (liS X.K X.w z)
abbrev ZSs (X : Cx) (st : List Stmt) (z : ZTS) : Prop := PSs X st (liS X.K X.w z)
theorem _root_.L2.PE.im {X : Cx} {e : Expr} {t t' : TE} (h : PE X e t) (w : ∀ σ H Q, t' σ H Q → t σ H Q) : PE X e t' := ⟨fun pins s σ H Q I q => h.run pins s σ H Q I (w σ H Q q)⟩
theorem _root_.L2.PT.im {X : Cx} {e : Expr} {t t' : TT} (h : PT X e t) (w : ∀ σ H Q, t' σ H Q → t σ H Q) : PT X e t' := ⟨fun pins s σ H Q I q => h.run pins s σ H Q I (w σ H Q q)⟩
theorem _root_.L2.PW.im {X : Cx} {e : Expr} {t t' : TT} (h : PW X e t) (w : ∀ σ H Q, t' σ H Q → t σ H Q) : PW X e t' := ⟨fun wh pins s σ H Q I q => h.run wh pins s σ H Q I (w σ H Q q)⟩
theorem _root_.L2.PA.im {X : Cx} {e : List Expr} {t t' : TA} (h : PA X e t) (w : ∀ σ H Q, t' σ H Q → t σ H Q) : PA X e t' := ⟨fun pos pins s σ H Q I q => h.run pos pins s σ H Q I (w σ H Q q)⟩
theorem _root_.L2.PS.im {X : Cx} {e : Stmt} {t t' : TS} (h : PS X e t) (w : ∀ F σ H, t' F σ H → t F σ H) : PS X e t' := ⟨fun pins s σ H F I q => h.run pins s σ H F I (w F σ H q)⟩
theorem _root_.L2.PSs.im {X : Cx} {e : List Stmt} {t t' : TS} (h : PSs X e t) (w : ∀ F σ H, t' F σ H → t F σ H) : PSs X e t' := ⟨fun pins s σ H F I q => h.run pins s σ H F I (w F σ H q)⟩

/-! ### names, constants -/
def zVar (i : Nat) : ZTE := fun δ S Q => ∃ d, δ[i]? = some (some d) ∧ Q d S
def zC (d : D) : ZTE := fun _ S Q => Q d S
section
variable {X : Cx} {pos : Pos}
theorem ze_var {i : Nat} {x : Str} (hN : X.N[i]? = some x) (hv : Vis X.env.scope x) (hd : (x == ("__debug__" : Str)) = false := by decide) (hcd : (x == ("__classdict__" : Str)) = false := by decide) : ZE X (.Name x pos) (zVar i) :=
  (pe_var hN hv hd hcd).im fun σ H Q ⟨δ, S, Qz, he, hs, ⟨d, hd, hz⟩, hq⟩ => by
    obtain ⟨v, e1, e2⟩ := he.2 i d hd
    exact ⟨v, e1, hq d S v H hz Fr.refl e2 hs⟩
theorem ze_c {e : Expr} {v : V} {d : D} (h : PE X e (tC v)) (r : ∀ H, Rp X.K H v d) : ZE X e (zC d) :=
  h.im fun σ H Q ⟨δ, S, Qz, he, hs, hz, hq⟩ => hq d S v H hz Fr.refl (r H) hs
theorem ze_int {i j} : ZE X (.Constant (.int i) j pos) (zC (.int i)) := ze_c pe_int fun _ => .int i
theorem ze_bl {b j} : ZE X (.Constant (.bool b) j pos) (zC (.bl b)) := ze_c pe_bl fun _ => .bl b
theorem ze_non {j} : ZE X (.Constant .none j pos) (zC .non) := ze_c pe_non fun _ => .non
theorem ze_str {x j} : ZE X (.Constant (.str x) j pos) (zC (.str x)) := ze_c pe_str fun _ => .str x
end

/-! ### operators by values -/
abbrev ZR2 := D → D → Store → ZK → Prop
abbrev ZR1 := D → Store → ZK → Prop
abbrev ZRn := List D → Store → ZK → Prop
def li2 (K : PySem.W.Frag) (w : World) (z : ZR2) : R2 := fun x y H Q => ∃ d e S Qz, Rp K H x d ∧ Rp K H y e ∧ RS K w H S ∧ z d e S Qz ∧ ZQ K w S H Qz Q
def li1 (K : PySem.W.Frag) (w : World) (z : ZR1) : V → Hp → VK → Prop := fun x H Q => ∃ d S Qz, Rp K H x d ∧ RS K w H S ∧ z d S Qz ∧ ZQ K w S H Qz Q
def lin (K : PySem.W.Frag) (w : World) (z : ZRn) : List V → Hp → VK → Prop := fun xs H Q => ∃ ds S Qz, RpA K H xs ds ∧ RS K w H S ∧ z ds S Qz ∧ ZQ K w S H Qz Q
def li1n (K : PySem.W.Frag) (w : World) (z : D → ZRn) : V → List V → Hp → VK → Prop := fun x xs H Q => ∃ d ds S Qz, Rp K H x d ∧ RpA K H xs ds ∧ RS K w H S ∧ z d ds S Qz ∧ ZQ K w S H Qz Q
def zOp (r : ZR2) (a b : ZTE) : ZTE := fun δ S Q => a δ S fun d S1 => b δ S1 fun e S2 => r d e S2 Q
def zUn (r : ZR1) (a : ZTE) : ZTE := fun δ S Q => a δ S fun d S1 => r d S1 Q
def zNil : ZTA := fun _ S Q => Q [] S
def zCons (a : ZTE) (r : ZTA) : ZTA := fun δ S Q => a δ S fun d S1 => r δ S1 fun ds S2 => Q (d :: ds) S2
def zAp (r : ZRn) (t : ZTA) : ZTE := fun δ S Q => t δ S fun ds S1 => r ds S1 Q
def zMt (r : D → ZRn) (a : ZTE) (t : ZTA) : ZTE := fun δ S Q => a δ S fun d S1 => t δ S1 fun ds S2 => r d ds S2 Q
section
variable {K : PySem.W.Frag} {w : World} {σ : L2.St} {H : Hp} {Q : VK}
theorem op_im {r : ZR2} {a b : ZTE} (h : liE K w (zOp r a b) σ H Q) : tOp (li2 K w r) (liE K w a) (liE K w b) σ H Q := by
  obtain ⟨δ, S, Qz, he, hs, hz, hq⟩ := h
  refine ⟨δ, S, _, he, hs, hz, fun d S1 v H1 h1 f1 r1 s1 => ?_⟩
  refine ⟨δ, S1, _, he.mono (hs.tup f1), s1, h1, fun e S2 u H2 h2 f2 r2 s2 => ?_⟩
  exact ⟨d, e, S2, Qz, Rp.mono (s1.tup f2) _ _ r1, r2, s2, h2, (hq.aft f1).aft f2⟩
theorem un_im {r : ZR1} {a : ZTE} (h : liE K w (zUn r a) σ H Q) : tUn (li1 K w r) (liE K w a) σ H Q := by
  obtain ⟨δ, S, Qz, he, hs, hz, hq⟩ := h
  exact ⟨δ, S, _, he, hs, hz, fun d S1 v H1 h1 f1 r1 s1 => ⟨d, S1, Qz, r1, s1, h1, hq.aft f1⟩⟩
theorem ap_im {r : ZRn} {t : ZTA} (h : liE K w (zAp r t) σ H Q) : liA K w t σ H fun vs H1 => lin K w r vs H1 Q := by
  obtain ⟨δ, S, Qz, he, hs, hz, hq⟩ := h
  exact ⟨δ, S, _, he, hs, hz, fun ds S1 vs H1 h1 f1 r1 s1 => ⟨ds, S1, Qz, r1, s1, h1, hq.aft f1⟩⟩
theorem mt_im {r : D → ZRn} {a : ZTE} {t : ZTA} (h : liE K w (zMt r a t) σ H Q) : liE K w a σ H fun x H1 => liA K w t σ H1 fun vs H2 => li1n K w r x vs H2 Q := by
  obtain ⟨δ, S, Qz, he, hs, hz, hq⟩ := h
  refine ⟨δ, S, _, he, hs, hz, fun d S1 v H1 h1 f1 r1 s1 => ?_⟩
  exact ⟨δ, S1, _, he.mono (hs.tup f1), s1, h1, fun ds S2 vs H2 h2 f2 r2 s2 => ⟨d, ds, S2, Qz, Rp.mono (s1.tup f2) _ _ r1, r2, s2, h2, (hq.aft f1).aft f2⟩⟩
end
section
variable {X : Cx} {pos : Pos} {a b e : Expr} {es : List Expr} {za zb : ZTE} {zt : ZTA}
theorem za_nil : ZA X [] zNil := pa_nil.im fun σ H Q ⟨δ, S, Qz, he, hs, hz, hq⟩ => hq [] S [] H hz Fr.refl .nil hs
theorem za_cons (ha : ZE X e za) (hr : ZA X es zt) (hs : starEach (e :: es) X.env = (false, eval e X.env) :: starEach es X.env := by rfl) : ZA X (e :: es) (zCons za zt) :=
  (pa_cons ha hr hs).im fun σ H Q ⟨δ, S, Qz, he, hs, hz, hq⟩ => by
    refine ⟨δ, S, _, he, hs, hz, fun d S1 v H1 h1 f1 r1 s1 => ?_⟩
    exact ⟨δ, S1, _, he.mono (hs.tup f1), s1, h1, fun ds S2 vs H2 h2 f2 r2 s2 => hq (d :: ds) S2 (v :: vs) H2 h2 (f1.trans f2) (.cons (Rp.mono (s1.tup f2) _ _ r1) r2) s2⟩
theorem ze_op {op : Operator} {r : ZR2} (ho : OpR X (binaryOp op) (li2 X.K X.w r)) (ha : ZE X a za) (hb : ZE X b zb) : ZE X (.BinOp a op b pos) (zOp r za zb) := (pe_op ho ha hb).im fun _ _ _ => op_im
theorem ze_cmp {op : CmpOp} {r : ZR2} (ho : OpR X (compareOp op) (li2 X.K X.w r)) (ha : ZE X a za) (hb : ZE X b zb) (hm : behindInMarks op b = false) : ZE X (.Compare a [op] [b] pos) (zOp r za zb) := (pe_cmpR ho ha hb hm).im fun _ _ _ => op_im
theorem ze_un {op : UnaryOp} {r : ZR1} (ho : UnR X (unaryOp op) (li1 X.K X.w r)) (ha : ZE X a za) : ZE X (.UnaryOp op a pos) (zUn r za) := (pe_un ho ha).im fun _ _ _ => un_im
end

/-! ### tests -/
def zB (z : ZTE) : ZTT := fun δ S Q => z δ S fun d S1 => ∃ c, d = .bl c ∧ Q c S1
def zTr (d : D) (S : Store) (Q : Bool → Store → Prop) : Prop := match d with
  | .non => Q false S
  | .bl b => Q b S
  | .int i => Q (i != 0) S
  | .str y => y.length ≤ sizeLine ∧ Q ((y.length : Int) != 0) S
  | .tup xs => Q (!xs.isEmpty) S
  | .ref a => match S a with
    | some (.lst xs) => Q (!xs.isEmpty) S
    | some (.fls xs) => Q (!xs.isEmpty) S
    | _ => False
def zTruth (z : ZTE) : ZTT := fun δ S Q => z δ S fun d S1 => zTr d S1 Q
def zAnd (t u : ZTT) : ZTT := fun δ S Q => t δ S fun c S1 => if c = true then u δ S1 Q else Q false S1
def zOr (t u : ZTT) : ZTT := fun δ S Q => t δ S fun c S1 => if c = true then Q true S1 else u δ S1 Q
def zNot (t : ZTT) : ZTT := fun δ S Q => t δ S fun c S1 => Q (!c) S1
def zAndV (a b : ZTE) : ZTE := fun δ S Q => a δ S fun d S1 => ∃ c, d = .bl c ∧ if c = true then b δ S1 Q else Q (.bl false) S1
def zOrV (a b : ZTE) : ZTE := fun δ S Q => a δ S fun d S1 => ∃ c, d = .bl c ∧ if c = true then Q (.bl true) S1 else b δ S1 Q
def zNotV (a : ZTE) : ZTE := fun δ S Q => a δ S fun d S1 => ∃ c, d = .bl c ∧ Q (.bl (!c)) S1
def zIf (t : ZTT) (a b : ZTE) : ZTE := fun δ S Q => t δ S fun c S1 => if c = true then a δ S1 Q else b δ S1 Q
theorem RpA.isEmpty {K : PySem.W.Frag} {H : Hp} {vs : List V} {ds : List D} (r : RpA K H vs ds) : vs.isEmpty = ds.isEmpty := by cases r <;> rfl
section
variable {X : Cx} {pos : Pos} {a b e c : Expr} {rest : List Expr} {za zb : ZTE} {ta tb : ZTT}
theorem zt_val (h : ZE X e za) (he : ∀ whole, isTrue e X.env whole = (do let v ← whole; standAt e.pos; holding [v] (truthy v)) := by intro _; rfl) : ZT X e (zB za) :=
  (pt_val h he).im fun σ H Q ⟨δ, S, Qz, he, hs, hz, hq⟩ => ⟨δ, S, _, he, hs, hz, fun d S1 v H1 ⟨c, ec, h1⟩ f1 r1 s1 => by
    subst ec
    exact ⟨c, r1.bl_of, hq c S1 H1 h1 f1 s1⟩⟩
theorem zt_cmp {op : CmpOp} {r : ZR2} (ho : OpR X (compareOp op) (li2 X.K X.w r)) (ha : ZE X a za) (hb : ZE X b zb) (hm : behindInMarks op b = false) : ZT X (.Compare a [op] [b] pos) (zB (zOp r za zb)) :=
  (pt_cmpR ho ha hb hm).im fun σ H Q ⟨δ, S, Qz, he, hs, hz, hq⟩ => by
    refine op_im (Q := fun x H' => ∃ k, x = .bl k ∧ Q k H') ⟨δ, S, _, he, hs, hz, fun d S1 v H1 ⟨c, ec, h1⟩ f1 r1 s1 => ?_⟩
    subst ec
    exact ⟨c, r1.bl_of, hq c S1 H1 h1 f1 s1⟩
theorem tr_im {K : PySem.W.Frag} {H : Hp} {S : Store} {d : D} {v : V} {Qz : Bool → Store → Prop} {Q : Bool → Hp → Prop} (rs : RS K w H S) (r : Rp K H v d) (h : zTr d S Qz) (hq : ZQT K w S H Qz Q) : ∃ k, TruV K v H k ∧ Q k H := by
  have fin : ∀ k, Qz k S → Q k H := fun k q => hq k S H q Fr.refl rs
  cases d with
  | non => cases r; exact ⟨_, rfl, fin _ h⟩
  | bl b => cases r; exact ⟨_, rfl, fin _ h⟩
  | int i => cases r; exact ⟨_, rfl, fin _ h⟩
  | str y => cases r; exact ⟨_, ⟨h.1, rfl⟩, fin _ h.2⟩
  | tup xs =>
    obtain ⟨p, vs, rfl, s, rv⟩ := r.tup_of
    exact ⟨_, .inr (.inl ⟨vs, s, rfl⟩), fin _ (by rw [rv.isEmpty]; exact h)⟩
  | ref p =>
    cases r
    have h' : (match S p with
      | some (.lst xs) => Qz (!xs.isEmpty) S
      | some (.fls xs) => Qz (!xs.isEmpty) S
      | _ => False) := h
    cases q : S p with
    | none => rw [q] at h'; exact h'.elim
    | some z =>
      rw [q] at h'
      have ro := rs p z q
      cases z with
      | lst ds => obtain ⟨vs, e1, e2⟩ := ro; exact ⟨_, .inl ⟨vs, .inl (.inl e1), rfl⟩, fin _ (by rw [e2.isEmpty]; exact h')⟩
      | fls ds => obtain ⟨vs, e1, e2⟩ := ro; exact ⟨_, .inl ⟨vs, .inl e1, rfl⟩, fin _ (by rw [e2.isEmpty]; exact h')⟩
      | dct kvs => exact h'.elim
      | fdc ho kvs => exact h'.elim
      | ins C fs => exact h'.elim
theorem zt_truth (h : ZE X e za) (he : ∀ whole, isTrue e X.env whole = (do let v ← whole; standAt e.pos; holding [v] (truthy v)) := by intro _; rfl) : ZT X e (zTruth za) :=
  (pt_truth h he).im fun σ H Q ⟨δ, S, Qz, he, hs, hz, hq⟩ => ⟨δ, S, _, he, hs, hz, fun d S1 v H1 h1 f1 r1 s1 => tr_im s1 r1 h1 (hq.aft f1)⟩
theorem zw_and1 (ha : ZT X a ta) : ZW X (.BoolOp .And [a] pos) ta := pw_and1 ha
theorem zw_or1 (ha : ZT X a ta) : ZW X (.BoolOp .Or [a] pos) ta := pw_or1 ha
theorem zw_and (ha : ZT X a ta) (hb : ZW X (.BoolOp .And (b :: rest) pos) tb) : ZW X (.BoolOp .And (a :: b :: rest) pos) (zAnd ta tb) :=
  (pw_and ha hb).im fun σ H Q ⟨δ, S, Qz, he, hs, hz, hq⟩ => ⟨δ, S, _, he, hs, hz, fun c S1 H1 h1 f1 s1 => by
    cases c with
    | true => exact ⟨δ, S1, Qz, he.mono (hs.tup f1), s1, h1, hq.aft f1⟩
    | false => exact hq false S1 H1 h1 f1 s1⟩
theorem zw_or (ha : ZT X a ta) (hb : ZW X (.BoolOp .Or (b :: rest) pos) tb) : ZW X (.BoolOp .Or (a :: b :: rest) pos) (zOr ta tb) :=
  (pw_or ha hb).im fun σ H Q ⟨δ, S, Qz, he, hs, hz, hq⟩ => ⟨δ, S, _, he, hs, hz, fun c S1 H1 h1 f1 s1 => by
    cases c with
    | false => exact ⟨δ, S1, Qz, he.mono (hs.tup f1), s1, h1, hq.aft f1⟩
    | true => exact hq true S1 H1 h1 f1 s1⟩
theorem zt_w (h : ZW X e ta) : ZT X e ta := h.pt
theorem zt_not (ha : ZT X a ta) : ZT X (.UnaryOp .Not a pos) (zNot ta) :=
  (pt_not ha).im fun σ H Q ⟨δ, S, Qz, he, hs, hz, hq⟩ => ⟨δ, S, _, he, hs, hz, fun c S1 H1 h1 f1 s1 => hq _ S1 H1 h1 f1 s1⟩
theorem ze_one {op} (h : ZE X a za) : ZE X (.BoolOp op [a] pos) za := pe_one h
theorem ze_and (ha : ZE X a za) (hb : ZE X (.BoolOp .And (b :: rest) pos) zb) : ZE X (.BoolOp .And (a :: b :: rest) pos) (zAndV za zb) :=
  (pe_and ha hb).im fun σ H Q ⟨δ, S, Qz, he, hs, hz, hq⟩ => ⟨δ, S, _, he, hs, hz, fun d S1 v H1 ⟨c, ec, h1⟩ f1 r1 s1 => by
    subst ec
    refine ⟨c, r1.bl_of, ?_⟩
    cases c with
    | true => exact ⟨δ, S1, Qz, he.mono (hs.tup f1), s1, h1, hq.aft f1⟩
    | false => exact hq (.bl false) S1 _ H1 h1 f1 (.bl false) s1⟩
theorem ze_or (ha : ZE X a za) (hb : ZE X (.BoolOp .Or (b :: rest) pos) zb) : ZE X (.BoolOp .Or (a :: b :: rest) pos) (zOrV za zb) :=
  (pe_or ha hb).im fun σ H Q ⟨δ, S, Qz, he, hs, hz, hq⟩ => ⟨δ, S, _, he, hs, hz, fun d S1 v H1 ⟨c, ec, h1⟩ f1 r1 s1 => by
    subst ec
    refine ⟨c, r1.bl_of, ?_⟩
    cases c with
    | false => exact ⟨δ, S1, Qz, he.mono (hs.tup f1), s1, h1, hq.aft f1⟩
    | true => exact hq (.bl true) S1 _ H1 h1 f1 (.bl true) s1⟩
theorem ze_not (ha : ZE X a za) : ZE X (.UnaryOp .Not a pos) (zNotV za) :=
  (pe_not ha).im fun σ H Q ⟨δ, S, Qz, he, hs, hz, hq⟩ => ⟨δ, S, _, he, hs, hz, fun d S1 v H1 ⟨c, ec, h1⟩ f1 r1 s1 => by
    subst ec
    exact ⟨c, r1.bl_of, hq _ S1 _ H1 h1 f1 (.bl _) s1⟩⟩
theorem ze_if (hc : ZT X c ta) (ha : ZE X a za) (hb : ZE X b zb) : ZE X (.IfExp c a b pos) (zIf ta za zb) :=
  (pe_ifExp hc ha hb).im fun σ H Q ⟨δ, S, Qz, he, hs, hz, hq⟩ => ⟨δ, S, _, he, hs, hz, fun c S1 H1 h1 f1 s1 => by
    cases c with
    | false => exact ⟨δ, S1, Qz, he.mono (hs.tup f1), s1, h1, hq.aft f1⟩
    | true => exact ⟨δ, S1, Qz, he.mono (hs.tup f1), s1, h1, hq.aft f1⟩⟩
end

/-! ### displays -/
def zTup (t : ZTA) : ZTE := fun δ S Q => t δ S fun ds S1 => ds.length ≤ sizeLine ∧ Q (.tup ds) S1
def zLst (t : ZTA) : ZTE := fun δ S Q => t δ S fun ds S1 => ds.length ≤ sizeLine ∧ ∀ p, S1 p = none → Q (.ref p) (zup S1 p (.lst ds))
section
variable {X : Cx} {pos : Pos} {es : List Expr} {t : ZTA}
theorem rp_new {K : PySem.W.Frag} {H : Hp} {p : Addr} {vs : List V} {ds : List D} (hp : H p = none) (r : RpA K H vs ds) : Rp K (upd H p (.tup vs)) (.ref p) (.tup ds) :=
  .tup (.inl (.inl upd_same)) (RpA.mono (tup_free (vs := []) hp) _ _ r)
theorem ze_tup {x1} (h : ZA X es t) : ZE X (.Tuple es x1 pos) (zTup t) :=
  (pe_tup h).im fun σ H Q ⟨δ, S, Qz, he, hs, hz, hq⟩ => ⟨δ, S, _, he, hs, hz, fun ds S1 vs H1 ⟨hl, h1⟩ f1 r1 s1 => by
    refine ⟨by rw [r1.length]; exact hl, fun p hp => ?_⟩
    exact hq (.tup ds) S1 _ _ h1 (f1.trans (Fr.new hp)) (rp_new hp r1) (s1.new hp)⟩
theorem ze_lst (h : ZA X es t) : ZE X (.List es pos) (zLst t) :=
  (pe_lst h).im fun σ H Q ⟨δ, S, Qz, he, hs, hz, hq⟩ => ⟨δ, S, _, he, hs, hz, fun ds S1 vs H1 ⟨hl, h1⟩ f1 r1 s1 => by
    refine ⟨by rw [r1.length]; exact hl, fun p hp => ?_⟩
    exact hq (.ref p) _ _ _ (h1 p (s1.none hp)) (f1.trans (Fr.laid hp)) (.ref p) (s1.laid hp ⟨vs, upd_same, RpA.mono (tup_free (vs := []) hp) _ _ r1⟩)⟩
end

/-! ### statements -/
def zNext : ZTS := fun E δ S => E.nx δ S
def zSeq (t u : ZTS) : ZTS := fun E δ S => ∃ M : Env → Store → Prop, t { E with nx := M } δ S ∧ ∀ δ' S', M δ' S' → u E δ' S'
theorem zseq_go {t u : ZTS} {E : ZEnds} {δ : Env} {S : Store} (h : t { E with nx := u E } δ S) : zSeq t u E δ S := ⟨_, h, fun _ _ h => h⟩
theorem zseq (M : Env → Store → Prop) {t u : ZTS} {E : ZEnds} {δ : Env} {S : Store} (h : t { E with nx := M } δ S) (h2 : ∀ δ' S', M δ' S' → u E δ' S') : zSeq t u E δ S := ⟨M, h, h2⟩
def zBreak : ZTS := fun E δ S => E.bk δ S
def zCont : ZTS := fun E δ S => E.ct δ S
def zDrop (a : ZTE) : ZTS := fun E δ S => a δ S fun _ S1 => E.nx δ S1
def zRet (a : ZTE) : ZTS := fun E δ S => a δ S E.rt
def zRetN : ZTS := fun E _ S => E.rt .non S
def zIfS (c : ZTT) (t u : ZTS) : ZTS := fun E δ S => c δ S fun b S1 => if b = true then t E δ S1 else u E δ S1
def zNever : ZTS := fun _ _ _ => False
section
variable {X : Cx} {pos : Pos} {e c : Expr} {za : ZTE} {tc : ZTT} {st : Stmt} {rest sa sb : List Stmt} {t u : ZTS}
theorem zss_nil : ZSs X [] zNext := pss_nil.im fun F σ H ⟨δ, S, E, he, hs, hz, hd⟩ => hd.nx δ S σ H hz Fr.refl he hs
theorem zss_cons (h1 : ZS X st t) (h2 : ZSs X rest u) : ZSs X (st :: rest) (zSeq t u) :=
  (pss_cons h1 h2).im fun F σ H ⟨δ, S, E, he, hs, ⟨M, hz, hm⟩, hd⟩ => ⟨δ, S, { E with nx := M }, he, hs, hz,
    ⟨fun δ' S' σ' H' q f e r => ⟨δ', S', E, e, r, hm _ _ q, hd.aft f⟩, hd.rt, hd.bk, hd.ct⟩⟩
theorem zss_one (h1 : ZS X st t) : ZSs X [st] t := pss_one h1
theorem zs_pass : ZS X (.Pass pos) zNext := ps_pass.im fun F σ H ⟨δ, S, E, he, hs, hz, hd⟩ => hd.nx δ S σ H hz Fr.refl he hs
theorem zs_break : ZS X (.Break pos) zBreak := ps_break.im fun F σ H ⟨δ, S, E, he, hs, hz, hd⟩ => hd.bk δ S σ H hz Fr.refl he hs
theorem zs_continue : ZS X (.Continue pos) zCont := ps_continue.im fun F σ H ⟨δ, S, E, he, hs, hz, hd⟩ => hd.ct δ S σ H hz Fr.refl he hs
theorem zs_expr (h : ZE X e za) (hs : swapsWith e none pos.line X.env = pure false := by rfl) : ZS X (.Expr e pos) (zDrop za) :=
  (ps_expr h hs).im fun F σ H ⟨δ, S, E, he, hs, hz, hd⟩ => ⟨δ, S, _, he, hs, hz, fun d S1 v H1 h1 f1 r1 s1 => hd.nx δ S1 σ H1 h1 f1 (he.mono (hs.tup f1)) s1⟩
theorem zs_ret (h : ZE X e za) : ZS X (.Return (some e) pos) (zRet za) :=
  (ps_ret h).im fun F σ H ⟨δ, S, E, he, hs, hz, hd⟩ => ⟨δ, S, _, he, hs, hz, hd.rt⟩
theorem zs_retN : ZS X (.Return none pos) zRetN :=
  ps_retN.im fun F σ H ⟨δ, S, E, he, hs, hz, hd⟩ => hd.rt .non S .non H hz Fr.refl .non hs
theorem zs_if (hc : ZT X c tc) (ha : ZSs X sa t) (hb : ZSs X sb u) : ZS X (.If c sa sb pos) (zIfS tc t u) :=
  (ps_if hc ha hb).im fun F σ H ⟨δ, S, E, he, hs, hz, hd⟩ => ⟨δ, S, _, he, hs, hz, fun b S1 H1 h1 f1 s1 => by
    cases b with
    | true => exact ⟨δ, S1, E, he.mono (hs.tup f1), s1, h1, hd.aft f1⟩
    | false => exact ⟨δ, S1, E, he.mono (hs.tup f1), s1, h1, hd.aft f1⟩⟩
theorem zs_never : ZS X st zNever := ps_never.im fun F σ H ⟨δ, S, E, he, hs, hz, hd⟩ => hz
theorem zss_never : ZSs X rest zNever := pss_never.im fun F σ H ⟨δ, S, E, he, hs, hz, hd⟩ => hz
end
end Z
/-! Z3: operators and comparisons by values. -/
namespace Z
open PySem PySem.Spec PyProof.Rows L2 PySem.SeqAt

def zAdd : ZR2 := fun d e S Q => match d, e with
  | .int i, .int j => Q (.int (i + j)) S
  | .str a, .str b => a.length + b.length ≤ sizeLine ∧ Q (.str (a ++ b)) S
  | .tup a, .tup b => a.length + b.length ≤ sizeLine ∧ Q (.tup (a ++ b)) S
  | .ref a, .ref b => ∃ xs ys, S a = some (.lst xs) ∧ S b = some (.lst ys) ∧ xs.length + ys.length ≤ sizeLine ∧ ∀ p, S p = none → Q (.ref p) (zup S p (.lst (xs ++ ys)))
  | _, _ => False
def zSub : ZR2 := fun d e S Q => match d, e with
  | .int i, .int j => Q (.int (i - j)) S
  | _, _ => False
def zMul : ZR2 := fun d e S Q => match d, e with
  | .int i, .int j => CMul i j ∧ Q (.int (i * j)) S
  | .ref a, .int k => ∃ xs, S a = some (.lst xs) ∧ 0 ≤ k ∧ k ≤ 100000 ∧ xs.length * k.toNat ≤ sizeLine ∧ ∀ p, S p = none → Q (.ref p) (zup S p (.lst (List.replicate k.toNat xs).flatten))
  | .tup xs, .int k => xs ≠ [] ∧ 2 ≤ k ∧ k ≤ 1000 ∧ xs.length ≤ 1000 ∧ Q (.tup (List.replicate k.toNat xs).flatten) S
  | _, _ => False
def zMod : ZR2 := fun d e S Q => match d, e with
  | .int i, .int j => 0 < j ∧ Q (.int (i % j)) S
  | _, _ => False
def zDiv : ZR2 := fun d e S Q => match d, e with
  | .int i, .int j => CDiv i j ∧ Q (.int (i / j)) S
  | _, _ => False
def zPow : ZR2 := fun d e S Q => match d, e with
  | .int i, .int j => CPow i j ∧ Q (.int (i ^ j.toNat)) S
  | _, _ => False
def zShl : ZR2 := fun d e S Q => match d, e with
  | .int i, .int j => CPow i j ∧ Q (.int (i * 2 ^ j.toNat)) S
  | _, _ => False
def zCmpI (f : Int → Int → Bool) : ZR2 := fun d e S Q => match d, e with
  | .int i, .int j => Q (.bl (f i j)) S
  | _, _ => False
abbrev zLt : ZR2 := zCmpI fun i j => decide (i < j)
abbrev zLe : ZR2 := zCmpI fun i j => decide (i ≤ j)
abbrev zGt : ZR2 := zCmpI fun i j => decide (j < i)
abbrev zGe : ZR2 := zCmpI fun i j => decide (j ≤ i)
def zNeg : ZR1 := fun d S Q => match d with
  | .int i => Q (.int (-i)) S
  | _ => False
/-- == of a bool with a bool, None, a text -/
def scalD : D → D → Bool
  | .bl _, .bl _ => true | .non, .bl _ => true | .bl _, .non => true | .bl _, .str _ => true | .str _, .bl _ => true
  | _, _ => false
def zEqN (neg : Bool) : ZR2 := fun d e S Q => ((d.plain = true ∧ e.plain = true ∧ (d.depth ≤ 64 ∨ e.depth ≤ 64)) ∨ scalD d e = true) ∧ Q (.bl (if neg = true then !decide (d = e) else decide (d = e))) S
abbrev zEq : ZR2 := zEqN false
abbrev zNe : ZR2 := zEqN true
def zIsN (neg : Bool) : ZR2 := fun d e S Q => match e with
  | .non => Q (.bl (if neg = true then !decide (d = .non) else decide (d = .non))) S
  | .bl b => match d with
    | .bl a => Q (.bl (if neg = true then !decide (a = b) else decide (a = b))) S
    | _ => False
  | _ => False
abbrev zIs : ZR2 := zIsN false
abbrev zIsNot : ZR2 := zIsN true
section
variable {X : Cx} {K : PySem.W.Frag} {w : World} {H : Hp} {S : Store}
theorem ZQ.here {Qz : ZK} {Q : VK} (hq : ZQ K w S H Qz Q) (rs : RS K w H S) {d : D} {v : V} (r : Rp K H v d) (h : Qz d S) : Q v H := hq d S v H h Fr.refl r rs
/-- a new list -/
theorem ZQ.lst {Qz : ZK} {Q : VK} (hq : ZQ K w S H Qz Q) (rs : RS K w H S) {ds : List D} {vs : List V} (r : RpA K H vs ds) (h : ∀ p, S p = none → Qz (.ref p) (zup S p (.lst ds))) : ∀ p, H p = none → Q (.ref p) (upd H p (.lst vs)) := fun p hp =>
  hq _ _ _ _ (h p (rs.none hp)) (Fr.laid hp) (.ref p) (rs.laid hp ⟨vs, upd_same, RpA.mono (tup_free (vs := []) hp) _ _ r⟩)
/-- a new tuple -/
theorem ZQ.tup {Qz : ZK} {Q : VK} (hq : ZQ K w S H Qz Q) (rs : RS K w H S) {ds : List D} {vs : List V} (r : RpA K H vs ds) (h : Qz (.tup ds) S) : ∀ p, H p = none → Q (.ref p) (upd H p (.tup vs)) := fun p hp =>
  hq _ _ _ _ h (Fr.new hp) (rp_new hp r) (rs.new hp)
theorem RS.lst_at {a : Addr} {ds : List D} (rs : RS K w H S) (e : S a = some (.lst ds)) : ∃ vs, H a = some (.lst vs) ∧ RpA K H vs ds := rs a _ e
theorem RpA.nil_iff {vs : List V} {ds : List D} (r : RpA K H vs ds) : vs = [] ↔ ds = [] := by cases r <;> simp
theorem op_zAdd : OpR X (binaryOp .Add) (li2 X.K X.w zAdd) := by
  rintro pins s σ H x y v u Q I rx ry ⟨d, e, S, Qz, r1, r2, rs, hz, hq⟩
  cases d with
  | int i => cases e with
    | int j => cases r1; cases r2; exact op_add pins s σ H _ _ v u Q I rx ry ⟨i, j, rfl, rfl, hq.here rs (.int _) hz⟩
    | _ => exact hz.elim
  | str i => cases e with
    | str j => cases r1; cases r2; exact op_add_str pins s σ H _ _ v u Q I rx ry ⟨i, j, rfl, rfl, hz.1, hq.here rs (.str _) hz.2⟩
    | _ => exact hz.elim
  | tup ds => cases e with
    | tup es =>
      obtain ⟨a, vs, rfl, s1, q1⟩ := r1.tup_of
      obtain ⟨b, ws, rfl, s2, q2⟩ := r2.tup_of
      refine op_catA pins s σ H _ _ v u Q I rx ry ⟨a, b, vs, ws, rfl, rfl, s1, s2, by rw [q1.length, q2.length]; exact hz.1, fun h => ?_, fun h h' => ?_, fun h h' => hq.tup rs (q1.append q2) hz.2⟩
      · have e1 := q1.nil_iff.mp h
        subst e1
        exact hq.here rs (.tup s2 q2) hz.2
      · have e1 := q2.nil_iff.mp h'
        subst e1
        exact hq.here rs (.tup s1 q1) (by simpa using hz.2)
    | _ => exact hz.elim
  | ref a => cases e with
    | ref b =>
      cases r1; cases r2
      obtain ⟨xs, ys, h1, h2, hl, k⟩ := hz
      obtain ⟨vs, e1, q1⟩ := rs.lst_at h1
      obtain ⟨ws, e2, q2⟩ := rs.lst_at h2
      exact op_cat pins s σ H _ _ v u Q I rx ry ⟨a, b, vs, ws, rfl, rfl, e1, e2, by rw [q1.length, q2.length]; exact hl, hq.lst rs (q1.append q2) k⟩
    | _ => exact hz.elim
  | _ => exact hz.elim
theorem op_zI {f : Value → Value → Sem Value} {C : Int → Int → Prop} {g : Int → Int → D} {gv : Int → Int → V} {z : ZR2} (h : OpR X f (rI C gv)) (hg : ∀ i j H, Rp X.K H (gv i j) (g i j))
    (e1 : ∀ d e S Q, z d e S Q → ∃ i j, d = .int i ∧ e = .int j ∧ C i j ∧ Q (g i j) S) : OpR X f (li2 X.K X.w z) := by
  rintro pins s σ H x y v u Q I rx ry ⟨d, e, S, Qz, r1, r2, rs, hz, hq⟩
  obtain ⟨i, j, rfl, rfl, hc, k⟩ := e1 _ _ _ _ hz
  cases r1; cases r2
  exact h pins s σ H _ _ v u Q I rx ry ⟨i, j, rfl, rfl, hc, hq.here rs (hg _ _ _) k⟩
theorem op_zI0 {f : Value → Value → Sem Value} {g : Int → Int → D} {gv : Int → Int → V} {z : ZR2} (h : OpR X f (rI0 gv)) (hg : ∀ i j H, Rp X.K H (gv i j) (g i j))
    (e1 : ∀ d e S Q, z d e S Q → ∃ i j, d = .int i ∧ e = .int j ∧ Q (g i j) S) : OpR X f (li2 X.K X.w z) := by
  rintro pins s σ H x y v u Q I rx ry ⟨d, e, S, Qz, r1, r2, rs, hz, hq⟩
  obtain ⟨i, j, rfl, rfl, k⟩ := e1 _ _ _ _ hz
  cases r1; cases r2
  exact h pins s σ H _ _ v u Q I rx ry ⟨i, j, rfl, rfl, hq.here rs (hg _ _ _) k⟩
theorem op_zSub : OpR X (binaryOp .Sub) (li2 X.K X.w zSub) := op_zI0 op_sub (fun _ _ _ => .int _) fun d e S Q h => by
  cases d <;> cases e <;> first | exact ⟨_, _, rfl, rfl, h⟩ | exact h.elim
theorem op_zMul : OpR X (binaryOp .Mult) (li2 X.K X.w zMul) := by
  rintro pins s σ H x y v u Q I rx ry ⟨d, e, S, Qz, r1, r2, rs, hz, hq⟩
  cases d with
  | int i => cases e with
    | int j => cases r1; cases r2; exact op_mul pins s σ H _ _ v u Q I rx ry ⟨i, j, rfl, rfl, hz.1, hq.here rs (.int _) hz.2⟩
    | _ => exact hz.elim
  | tup ds => cases e with
    | int k =>
      cases r2
      obtain ⟨a, vs, rfl, s1, q1⟩ := r1.tup_of
      obtain ⟨h1, h2, h3, h4, k5⟩ := hz
      exact op_repT pins s σ H _ _ v u Q I rx ry ⟨a, k, vs, rfl, rfl, s1, fun e => h1 (q1.nil_iff.mp e), h2, h3, by rw [q1.length]; exact h4, hq.tup rs (q1.flat _) k5⟩
    | _ => exact hz.elim
  | ref a => cases e with
    | int k =>
      cases r1; cases r2
      obtain ⟨xs, h1, h2, h3, h4, k5⟩ := hz
      obtain ⟨vs, e1, q1⟩ := rs.lst_at h1
      exact op_rep pins s σ H _ _ v u Q I rx ry ⟨a, k, vs, rfl, rfl, e1, by omega, by omega, by rw [q1.length]; exact h4, hq.lst rs (q1.flat _) k5⟩
    | _ => exact hz.elim
  | _ => exact hz.elim
theorem op_zMod : OpR X (binaryOp .Mod) (li2 X.K X.w zMod) := op_zI op_mod (fun _ _ _ => .int _) fun d e S Q h => by
  cases d <;> cases e <;> first | exact ⟨_, _, rfl, rfl, h.1, h.2⟩ | exact h.elim
theorem op_zDiv : OpR X (binaryOp .FloorDiv) (li2 X.K X.w zDiv) := op_zI op_fdiv (fun _ _ _ => .int _) fun d e S Q h => by
  cases d <;> cases e <;> first | exact ⟨_, _, rfl, rfl, h.1, h.2⟩ | exact h.elim
theorem op_zPow : OpR X (binaryOp .Pow) (li2 X.K X.w zPow) := op_zI op_pow (fun _ _ _ => .int _) fun d e S Q h => by
  cases d <;> cases e <;> first | exact ⟨_, _, rfl, rfl, h.1, h.2⟩ | exact h.elim
theorem op_zShl : OpR X (binaryOp .LShift) (li2 X.K X.w zShl) := op_zI op_shl (fun _ _ _ => .int _) fun d e S Q h => by
  cases d <;> cases e <;> first | exact ⟨_, _, rfl, rfl, h.1, h.2⟩ | exact h.elim
theorem op_zLt : OpR X (compareOp .Lt) (li2 X.K X.w zLt) := op_zI0 op_lt (fun _ _ _ => .bl _) fun d e S Q h => by
  cases d <;> cases e <;> first | exact ⟨_, _, rfl, rfl, h⟩ | exact h.elim
theorem op_zLe : OpR X (compareOp .LtE) (li2 X.K X.w zLe) := op_zI0 op_le (fun _ _ _ => .bl _) fun d e S Q h => by
  cases d <;> cases e <;> first | exact ⟨_, _, rfl, rfl, h⟩ | exact h.elim
theorem op_zGt : OpR X (compareOp .Gt) (li2 X.K X.w zGt) := op_zI0 op_gt (fun _ _ _ => .bl _) fun d e S Q h => by
  cases d <;> cases e <;> first | exact ⟨_, _, rfl, rfl, h⟩ | exact h.elim
theorem op_zGe : OpR X (compareOp .GtE) (li2 X.K X.w zGe) := op_zI0 op_ge (fun _ _ _ => .bl _) fun d e S Q h => by
  cases d <;> cases e <;> first | exact ⟨_, _, rfl, rfl, h⟩ | exact h.elim
theorem un_zNeg : UnR X (unaryOp .USub) (li1 X.K X.w zNeg) := by
  rintro pins s σ H x v Q I rx ⟨d, S, Qz, r1, rs, hz, hq⟩
  cases d with
  | int i => cases r1; exact un_neg pins s σ H _ v Q I rx ⟨i, rfl, hq.here rs (.int _) hz⟩
  | _ => exact hz.elim
/-- room for data of depth 64 -/
theorem room64 {A : Around} {d e : D} (hu : A.units + 65 < cLine) (h : d.depth ≤ 64 ∨ e.depth ≤ 64) : A.units + 1 + min d.depth e.depth < cLine := by
  have : min d.depth e.depth ≤ 64 := by rcases h with h | h <;> omega
  omega
theorem op_zEq (hu : X.A.units + 65 < cLine) : OpR X (compareOp .Eq) (li2 X.K X.w zEq) := by
  rintro pins s σ H x y v u Q I rx ry ⟨d, e, S, Qz, r1, r2, rs, ⟨h, hz⟩, hq⟩
  rcases h with ⟨p1, p2, hd⟩ | h
  · have a := Rp.vr I d x v p1 r1 rx
    have b := Rp.vr I e y u p2 r2 ry
    have hr := room64 hu hd
    exact vr_rc a b (by omega) _ _ _ _ ⟨.bl _, H, I, rfl, hq.here rs (.bl _) hz⟩
  · have fin : ∀ {x y : V}, decide (d = e) = decide (x = y) → Rp X.K H x d → Rp X.K H y e → Q (.bl (decide (x = y))) H := fun ed _ _ => by rw [← ed]; exact hq.here rs (.bl _) hz
    cases d with
    | bl a => cases e with
      | bl b =>
        cases r1; cases r2
        exact op_eq pins s σ H _ _ v u Q I rx ry ⟨rfl, fin (by simp) (.bl _) (.bl _)⟩
      | non =>
        cases r1; cases r2
        exact op_eq pins s σ H _ _ v u Q I rx ry ⟨rfl, fin (by simp) (.bl _) .non⟩
      | str b =>
        cases r1; cases r2
        exact op_eq pins s σ H _ _ v u Q I rx ry ⟨rfl, fin (by simp) (.bl _) (.str _)⟩
      | _ => cases h
    | non => cases e with
      | bl b =>
        cases r1; cases r2
        exact op_eq pins s σ H _ _ v u Q I rx ry ⟨rfl, fin (by simp) .non (.bl _)⟩
      | _ => cases h
    | str a => cases e with
      | bl b =>
        cases r1; cases r2
        exact op_eq pins s σ H _ _ v u Q I rx ry ⟨rfl, fin (by simp) (.str _) (.bl _)⟩
      | _ => cases h
    | _ => cases h
theorem vr_rcn {d e : D} {A : Around} {s : Shared} {u v : Value} (ra : VR s.heap u d) (rb : VR s.heap v e) (hu : A.units + min d.depth e.depth < cLine) : RcNeAt A s u v (!decide (d = e)) := by
  cases ra with
  | non =>
    cases rb with
    | non => exact RcNeAt.none_none
    | int y u => exact RcNeAt.none_int y u
    | str y u => exact RcNeAt.none_str y u
    | tup k1 k2 => exact RcNeAt.none_tuple k1 (room_here hu)
  | int x t =>
    cases rb with
    | non => exact RcNeAt.int_none x t
    | int y u => rw [dii]; exact RcNeAt.int_int x t y u
    | str y u => exact RcNeAt.int_str x t y u
    | tup k1 k2 => exact RcNeAt.int_tuple x t k1 (room_here hu)
  | str x t =>
    cases rb with
    | non => exact RcNeAt.str_none x t
    | int y u => exact RcNeAt.str_int x t y u
    | str y u => rw [dss]; exact RcNeAt.str_str x t y u
    | tup k1 k2 => exact RcNeAt.str_tuple x t k1 (room_here hu)
  | @tup l vs ds h1 h2 =>
    cases rb with
    | non => exact RcNeAt.tuple_none h1 (room_here hu)
    | int y u => exact RcNeAt.tuple_int y u h1 (room_here hu)
    | str y u => exact RcNeAt.tuple_str y u h1 (room_here hu)
    | @tup l' vs' es k1 k2 =>
      have n1 : vs.size = ds.length := by simpa using h2.length
      have n2 : vs'.size = es.length := by simpa using k2.length
      rw [dtt, ← peq_all ds es, ← n1, ← n2]
      rw [depth_tup, depth_tup] at hu
      refine RcNeAt.tuples h1 k1 (room_here hu) fun j j1 j2 => ?_
      have := vr_eqA ds es A.in1 s vs.toList vs'.toList h2 k2 (room_in hu) j (by simpa using j1) (by simpa using j2)
      simpa using this
theorem op_zNe (hu : X.A.units + 65 < cLine) : OpR X (compareOp .NotEq) (li2 X.K X.w zNe) := by
  rintro pins s σ H x y v u Q I rx ry ⟨d, e, S, Qz, r1, r2, rs, ⟨h, hz⟩, hq⟩
  rcases h with ⟨p1, p2, hd⟩ | h
  · have a := Rp.vr I d x v p1 r1 rx
    have b := Rp.vr I e y u p2 r2 ry
    have hr := room64 hu hd
    exact vr_rcn a b (by omega) _ _ _ _ ⟨.bl _, H, I, rfl, hq.here rs (.bl _) hz⟩
  · have fin : ∀ {x y : V}, decide (d = e) = decide (x = y) → Rp X.K H x d → Rp X.K H y e → Q (.bl (!decide (x = y))) H := fun ed _ _ => by rw [← ed]; exact hq.here rs (.bl _) hz
    cases d with
    | bl a => cases e with
      | bl b =>
        cases r1; cases r2
        exact op_ne pins s σ H _ _ v u Q I rx ry ⟨rfl, fin (by simp) (.bl _) (.bl _)⟩
      | non =>
        cases r1; cases r2
        exact op_ne pins s σ H _ _ v u Q I rx ry ⟨rfl, fin (by simp) (.bl _) .non⟩
      | str b =>
        cases r1; cases r2
        exact op_ne pins s σ H _ _ v u Q I rx ry ⟨rfl, fin (by simp) (.bl _) (.str _)⟩
      | _ => cases h
    | non => cases e with
      | bl b =>
        cases r1; cases r2
        exact op_ne pins s σ H _ _ v u Q I rx ry ⟨rfl, fin (by simp) .non (.bl _)⟩
      | _ => cases h
    | str a => cases e with
      | bl b =>
        cases r1; cases r2
        exact op_ne pins s σ H _ _ v u Q I rx ry ⟨rfl, fin (by simp) (.str _) (.bl _)⟩
      | _ => cases h
    | _ => cases h
theorem isnon {x : V} {d : D} (r : Rp K H x d) : decide (x = .non) = decide (d = .non) := by cases r <;> simp
theorem op_zIs : OpR X (compareOp .Is) (li2 X.K X.w zIs) := by
  rintro pins s σ H x y v u Q I rx ry ⟨d, e, S, Qz, r1, r2, rs, hz, hq⟩
  cases e with
  | non => cases r2; exact op_isN pins s σ H _ _ v u Q I rx ry ⟨rfl, by rw [isnon r1]; exact hq.here rs (.bl _) hz⟩
  | bl b => cases d with
    | bl a => cases r1; cases r2; exact op_isBl pins s σ H _ _ v u Q I rx ry ⟨a, b, rfl, rfl, hq.here rs (.bl _) hz⟩
    | _ => exact hz.elim
  | _ => exact hz.elim
theorem op_zIsNot : OpR X (compareOp .IsNot) (li2 X.K X.w zIsNot) := by
  rintro pins s σ H x y v u Q I rx ry ⟨d, e, S, Qz, r1, r2, rs, hz, hq⟩
  cases e with
  | non => cases r2; exact op_notN pins s σ H _ _ v u Q I rx ry ⟨rfl, by rw [isnon r1]; exact hq.here rs (.bl _) hz⟩
  | bl b => cases d with
    | bl a => cases r1; cases r2; exact op_notBl pins s σ H _ _ v u Q I rx ry ⟨a, b, rfl, rfl, hq.here rs (.bl _) hz⟩
    | _ => exact hz.elim
  | _ => exact hz.elim
end
end Z
/-! Zc: dicts by values. -/
namespace Z
open PySem PySem.Spec PyProof.Rows L2 PySem.SeqAt

def zget (kvs : List (D × D)) (k : D) : Option D := (kvs.find? fun p => decide (p.1 = k)).map (·.2)
def zhas (kvs : List (D × D)) (k : D) : Bool := kvs.any fun p => decide (p.1 = k)
def zput (kvs : List (D × D)) (k v : D) : List (D × D) := if zhas kvs k = true then kvs.map (fun p => if p.1 = k then (p.1, v) else p) else kvs ++ [(k, v)]
def zdel (kvs : List (D × D)) (k : D) : List (D × D) := kvs.filter fun p => decide (p.1 ≠ k)
def D.isK : D → Bool
  | .int _ => true
  | .str _ => true
  | _ => false
def D.isT : D → Bool
  | .tup _ => true
  | _ => false
/-- the key fits the dict's kind: ints and texts, or tuples -/
def KF (kvs : List (D × D)) (k : D) : Prop := (k.isK = true ∧ ∀ p ∈ kvs, p.1.isK = true) ∨ (k.isT = true ∧ k.hok = true ∧ k.depth ≤ 8 ∧ ∀ p ∈ kvs, p.1.isT = true)
theorem zhas_get (kvs : List (D × D)) (k : D) : zhas kvs k = (zget kvs k).isSome := by
  unfold zhas zget
  induction kvs with
  | nil => rfl
  | cons p r ih =>
    by_cases h : p.1 = k
    · simp [List.find?_cons, h]
    · simp only [List.any_cons, List.find?_cons, h, decide_false, Bool.false_or]; exact ih
theorem kD_inj {a b : Key} (h : kD a = kD b) : a = b := by
  cases a <;> cases b <;> simp_all [kD]
theorem isK_kD : ∀ {k : D}, k.isK = true → ∃ q, k = kD q
  | .int i, _ => ⟨.inl i, rfl⟩
  | .str i, _ => ⟨.inr i, rfl⟩
  | .non, h | .bl _, h | .ref _, h | .tup _, h => by simp [D.isK] at h

section
variable {K : PySem.W.Frag} {w : World} {P : Program} {H : Hp} {h : Heap} {a : Addr} {kvs : List (D × D)}
def ValR (K : PySem.W.Frag) (H : Hp) (d : D) (u : Value) : Prop := ∃ v, Rp K H v d ∧ L2.RelV v u
def KR (K : PySem.W.Frag) (H : Hp) (kvs : List (D × D)) (vs : List (Key × Value)) : Prop := Paired (fun (p : D × D) (q : Key × Value) => p.1 = kD q.1 ∧ ValR K H p.2 q.2) kvs vs
def TR (K : PySem.W.Frag) (H : Hp) (kvs : List (D × D)) (vs : List (D × Addr × Value)) : Prop := Paired (fun (p : D × D) (q : D × Addr × Value) => (p.1 = q.1 ∧ ValR K H p.2 q.2.2) ∧ Rp K H (.ref q.2.1) q.1 ∧ q.1.hok = true ∧ q.1.depth ≤ 8) kvs vs
def KView (P : Program) (w : World) (K : PySem.W.Frag) (H : Hp) (h : Heap) (a : Addr) (kvs : List (D × D)) : Prop := ∃ vs, KR K H kvs vs ∧ h.DictOf (mixKind P w) a vs
def TView (P : Program) (w : World) (K : PySem.W.Frag) (H : Hp) (h : Heap) (a : Addr) (kvs : List (D × D)) : Prop := ∃ vs, TR K H kvs vs ∧ h.DictOfH (dataKind P w) a vs
theorem KMatch.kr {ks : List (Key × V)} {vs : List (Key × Value)} : ∀ {kvs : List (D × D)} {ks : List (Key × V)} {vs : List (Key × Value)}, KMatch K H ks kvs → KV ks vs → KR K H kvs vs
  | _, _, _, .nil, r => by cases r; exact .nil
  | _, _, _, .cons a t, r => by
    cases r with
    | cons b t' => exact .cons ⟨by rw [a.1, b.1], _, a.2, b.2⟩ (KMatch.kr (ks := ks) (vs := vs) t t')
theorem TMatch.tr : ∀ {kvs : List (D × D)} {ks : DKs} {vs : List (D × Addr × Value)}, TMatch K H ks kvs → DRel ks vs → TR K H kvs vs
  | _, _, _, .nil, r => by cases r; exact .nil
  | _, _, _, .cons a t, r => by
    cases r with
    | cons b t' =>
      obtain ⟨b1, b2, b3⟩ := b
      refine .cons ⟨⟨by rw [a.1.1, b1], _, a.1.2, b3⟩, by rw [← b2, ← b1]; exact a.2.1, by rw [← b1]; exact a.2.2.1, by rw [← b1]; exact a.2.2.2⟩ (TMatch.tr t t')
theorem KR.keys : ∀ {kvs : List (D × D)} {vs : List (Key × Value)}, KR K H kvs vs → ∀ p ∈ kvs, p.1.isK = true
  | _, _, .nil, p, hp => nomatch hp
  | _, _, .cons (b := q) a t, p, hp => by
    rcases List.mem_cons.mp hp with rfl | hp
    · rw [a.1]; cases q.1 <;> rfl
    · exact KR.keys t p hp
theorem TR.keys : ∀ {kvs : List (D × D)} {vs : List (D × Addr × Value)}, TR K H kvs vs → ∀ p ∈ kvs, p.1.isT = true
  | _, _, .nil, p, hp => nomatch hp
  | _, _, .cons (b := q) a t, p, hp => by
    rcases List.mem_cons.mp hp with rfl | hp
    · have h2 := a.2.1
      have h3 := a.2.2.1
      rw [a.1.1]
      cases e : q.1 with
      | tup _ => rfl
      | non => rw [e] at h2; cases h2
      | bl _ => rw [e] at h2; cases h2
      | int _ => rw [e] at h2; cases h2
      | str _ => rw [e] at h2; cases h2
      | ref _ => rw [e] at h3; simp [D.hok] at h3
    · exact TR.keys t p hp
theorem KR.get : ∀ {kvs : List (D × D)} {vs : List (Key × Value)}, KR K H kvs vs → ∀ k : Key, (zget kvs (kD k) = none ∧ valueAt vs k = none) ∨ ∃ d u, zget kvs (kD k) = some d ∧ valueAt vs k = some u ∧ ValR K H d u
  | _, _, .nil, k => .inl ⟨rfl, rfl⟩
  | p :: ps, q :: qs, .cons a t, k => by
    by_cases e : q.1 = k
    · refine .inr ⟨p.2, q.2, ?_, ?_, a.2⟩
      · simp [zget, List.find?_cons, a.1, e]
      · simp [valueAt, List.find?_cons, e]
    · have e' : ¬ p.1 = kD k := fun z => e (kD_inj (by rw [← a.1]; exact z))
      have h1 : zget (p :: ps) (kD k) = zget ps (kD k) := by simp only [zget, List.find?_cons, e', decide_false]
      have h2 : valueAt (q :: qs) k = valueAt qs k := by simp only [valueAt, List.find?_cons, e, decide_false]
      rw [h1, h2]
      exact KR.get t k
theorem TR.get : ∀ {kvs : List (D × D)} {vs : List (D × Addr × Value)}, TR K H kvs vs → ∀ k : D, (zget kvs k = none ∧ atKey vs k = none) ∨ ∃ d u, zget kvs k = some d ∧ atKey vs k = some u ∧ ValR K H d u.2
  | _, _, .nil, k => .inl ⟨rfl, rfl⟩
  | p :: ps, q :: qs, .cons a t, k => by
    by_cases e : q.1 = k
    · refine .inr ⟨p.2, q.2, ?_, ?_, a.1.2⟩
      · simp [zget, List.find?_cons, a.1.1, e]
      · simp [atKey, List.find?_cons, e]
    · have e' : ¬ p.1 = k := fun z => e (by rw [← a.1.1]; exact z)
      have h1 : zget (p :: ps) k = zget ps k := by simp only [zget, List.find?_cons, e', decide_false]
      have h2 : atKey (q :: qs) k = atKey qs k := by simp only [atKey, List.find?_cons, e, decide_false]
      rw [h1, h2]
      exact TR.get t k
theorem Paired.snoc' {α β : Type} {F : α → β → Prop} : ∀ {l₁ : List α} {l₂ : List β} {x : α} {y : β}, Paired F l₁ l₂ → F x y → Paired F (l₁ ++ [x]) (l₂ ++ [y])
  | _, _, _, _, .nil, h => .cons h .nil
  | _, _, _, _, .cons a t, h => .cons a (Paired.snoc' t h)
theorem Paired.mapBoth {α β γ δ : Type} {F : α → β → Prop} {G : γ → δ → Prop} {f : α → γ} {g : β → δ} (hfg : ∀ a b, F a b → G (f a) (g b)) : ∀ {l₁ : List α} {l₂ : List β}, Paired F l₁ l₂ → Paired G (l₁.map f) (l₂.map g)
  | _, _, .nil => .nil
  | _, _, .cons a t => .cons (hfg _ _ a) (Paired.mapBoth hfg t)
theorem Paired.filterBoth {α β : Type} {F : α → β → Prop} {f : α → Bool} {g : β → Bool} (hfg : ∀ a b, F a b → f a = g b) : ∀ {l₁ : List α} {l₂ : List β}, Paired F l₁ l₂ → Paired F (l₁.filter f) (l₂.filter g)
  | _, _, .nil => .nil
  | _, _, .cons (a := x) (b := y) a t => by
    have e := hfg _ _ a
    cases h : f x with
    | true => rw [List.filter_cons_of_pos h, List.filter_cons_of_pos (e ▸ h)]; exact .cons a (Paired.filterBoth hfg t)
    | false => rw [List.filter_cons_of_neg (by simp [h]), List.filter_cons_of_neg (by simp [← e, h])]; exact Paired.filterBoth hfg t
theorem KR.has {vs : List (Key × Value)} (r : KR K H kvs vs) (k : Key) : zhas kvs (kD k) = vs.any fun kv => decide (kv.1 = k) := by
  induction r with
  | nil => rfl
  | @cons p q ps qs a t ih =>
    have : decide (p.1 = kD k) = decide (q.1 = k) := by
      by_cases e : q.1 = k
      · simp [a.1, e]
      · have e' : ¬ p.1 = kD k := fun z => e (kD_inj (by rw [← a.1]; exact z))
        simp [e, e']
    unfold zhas at ih ⊢
    rw [List.any_cons, List.any_cons, ih, this]
theorem KR.put {vs : List (Key × Value)} (r : KR K H kvs vs) (k : Key) {d : D} {u : Value} (ru : ValR K H d u) : KR K H (zput kvs (kD k) d) (stored vs k u) := by
  unfold zput stored
  rw [r.has k]
  by_cases e : (vs.any fun kv => decide (kv.1 = k)) = true
  · rw [if_pos e, if_pos e]
    refine Paired.mapBoth (fun p q a => ?_) r
    by_cases e : q.1 = k
    · rw [if_pos (by rw [a.1, e]), if_pos e]; exact ⟨a.1, ru⟩
    · rw [if_neg (fun z => e (kD_inj (by rw [← a.1]; exact z))), if_neg e]; exact a
  · rw [if_neg e, if_neg e]; exact Paired.snoc' r ⟨rfl, ru⟩
theorem KR.del {vs : List (Key × Value)} (r : KR K H kvs vs) (k : Key) : KR K H (zdel kvs (kD k)) (without vs k) := by
  refine Paired.filterBoth (fun p q a => ?_) r
  by_cases e : q.1 = k
  · simp [a.1, e]
  · have e' : ¬ p.1 = kD k := fun z => e (kD_inj (by rw [← a.1]; exact z))
    simp [e, e']
theorem TR.has {vs : List (D × Addr × Value)} (r : TR K H kvs vs) (k : D) : zhas kvs k = (atKey vs k).isSome := by
  rw [zhas_get]
  rcases r.get k with ⟨a, b⟩ | ⟨d, u, a, b, _⟩ <;> rw [a, b] <;> rfl
theorem TR.put {vs : List (D × Addr × Value)} (r : TR K H kvs vs) {k d : D} {b : Addr} {u : Value} (ru : ValR K H d u) (rk : Rp K H (.ref b) k) (hk : k.hok = true) (hd : k.depth ≤ 8) : TR K H (zput kvs k d) (storedH vs k b u) := by
  unfold zput storedH
  rw [r.has k]
  by_cases e : (atKey vs k).isSome = true
  · rw [if_pos e, if_pos e]
    refine Paired.mapBoth (fun p q a => ?_) r
    unfold putAt
    by_cases e : q.1 = k
    · rw [if_pos (by rw [a.1.1, e]), if_pos e]; exact ⟨⟨a.1.1, ru⟩, a.2⟩
    · rw [if_neg (fun z => e (by rw [← a.1.1]; exact z)), if_neg e]; exact a
  · rw [if_neg e, if_neg e]; exact Paired.snoc' r ⟨⟨rfl, ru⟩, rk, hk, hd⟩
theorem TR.del {vs : List (D × Addr × Value)} (r : TR K H kvs vs) (k : D) : TR K H (zdel kvs k) (withoutH vs k) := by
  refine Paired.filterBoth (fun p q a => ?_) r
  rw [a.1.1]
theorem KR.mono {H' : Hp} {vs : List (Key × Value)} (ht : ∀ a vs, SqT K H a vs → SqT K H' a vs) (r : KR K H kvs vs) : KR K H' kvs vs := Paired.mapP r fun _ _ ⟨a, v, b, c⟩ => ⟨a, v, Rp.mono ht _ _ b, c⟩
theorem TR.mono {H' : Hp} {vs : List (D × Addr × Value)} (ht : ∀ a vs, SqT K H a vs → SqT K H' a vs) (r : TR K H kvs vs) : TR K H' kvs vs := Paired.mapP r fun _ _ ⟨⟨a, v, b, c⟩, d, e⟩ => ⟨⟨a, v, Rp.mono ht _ _ b, c⟩, Rp.mono ht _ _ d, e⟩
/-- from the views back -/
theorem KR.back : ∀ {kvs : List (D × D)} {vs : List (Key × Value)}, KR K H kvs vs → ∃ ks, KMatch K H ks kvs ∧ KV ks vs
  | _, _, .nil => ⟨[], .nil, .nil⟩
  | _, _, .cons (b := q) ⟨a, v, b, c⟩ t => let ⟨ks, h1, h2⟩ := KR.back t; ⟨(q.1, v) :: ks, .cons ⟨a, b⟩ h1, .cons ⟨rfl, c⟩ h2⟩
theorem TR.back : ∀ {kvs : List (D × D)} {vs : List (D × Addr × Value)}, TR K H kvs vs → ∃ ks, TMatch K H ks kvs ∧ DRel ks vs
  | _, _, .nil => ⟨[], .nil, .nil⟩
  | _, _, .cons (b := q) ⟨⟨a, v, b, c⟩, d, e⟩ t => let ⟨ks, h1, h2⟩ := TR.back t; ⟨(q.1, q.2.1, v) :: ks, .cons ⟨⟨a, b⟩, d, e⟩ h1, .cons ⟨rfl, rfl, c⟩ h2⟩
end

section
variable {X : Cx} {pins : List (Addr × Obj)} {σ : L2.St} {H : Hp} {s : Shared} {a : Addr} {kvs : List (D × D)}
theorem RdD.of_dct {K : PySem.W.Frag} {w : World} (h : RO K w H a (.dct kvs)) : RdD K w H a kvs := by
  rcases h with ⟨ks, e, r⟩ | ⟨ks, e, r⟩
  · exact .inl ⟨ks, .inl e, r⟩
  · exact .inr ⟨ks, .inl e, r⟩
theorem dto_rd {w : World} {ks : DKs} (I : L2.Inv X pins σ H s) (e : Rd H a (DTO w a ks)) : DTok w a ks s.heap := by
  have q := e.ok I.hok
  exact q.1
theorem RdD.views (I : L2.Inv X pins σ H s) (r : RdD X.K X.w H a kvs) : kvs.length ≤ sizeLine ∧ (a == sysModules) = false ∧ (KView X.prog X.w X.K H s.heap a kvs ∨ TView X.prog X.w X.K H s.heap a kvs) := by
  rcases r with ⟨ks, e, r⟩ | ⟨ks, e, r⟩
  · obtain ⟨z, y, vs, rv, dd⟩ := dk_rd I.hok e
    have kr : KR X.K H kvs vs := KMatch.kr (ks := ks) (vs := vs) r rv
    exact ⟨by rw [← Paired.length r]; exact z, y, .inl ⟨vs, kr, dd⟩⟩
  · obtain ⟨z, y, vs, rv, o, es, ep, h1, h2, h3, h4, h5⟩ := dto_rd I e
    have tr : TR X.K H kvs vs := r.tr rv
    refine ⟨by rw [← Paired.length r]; exact z, y, .inr ⟨vs, tr, o, es, ep, h1, h2, h3, h4, fun x hx => ?_, h5⟩⟩
    have : ∀ {kvs : List (D × D)} {vs : List (D × Addr × Value)}, TR X.K H kvs vs → ∀ x ∈ vs, KeyAt s.heap x.1 x.2.1 := by
      intro kvs vs t
      induction t with
      | nil => intro x hx; cases hx
      | @cons p q ps qs b t ih =>
        intro x hx
        rcases List.mem_cons.mp hx with rfl | hx
        · exact ⟨Rp.vr I _ _ _ (D.hok_plain _ b.2.2.1) b.2.1 rfl, b.2.2.1, b.2.2.2⟩
        · exact ih x hx
    exact this tr x hx
theorem RdD.k (I : L2.Inv X pins σ H s) (r : RdD X.K X.w H a kvs) (hk : ∀ p ∈ kvs, p.1.isK = true) : KView X.prog X.w X.K H s.heap a kvs := by
  rcases (r.views I).2.2 with h | ⟨vs, tr, dd⟩
  · exact h
  · have : kvs = [] := by
      cases kvs with
      | nil => rfl
      | cons p r =>
        have h1 := hk p (List.mem_cons_self ..)
        have h2 := tr.keys p (List.mem_cons_self ..)
        revert h1 h2
        cases p.1 <;> simp [D.isK, D.isT]
    subst this
    cases tr
    obtain ⟨o, es, ep, h1, h2, h3, h4, _, _⟩ := dd
    have : es = #[] := by
      have : es.toList = [] := by simpa using h4
      simpa using this
    subst this
    exact ⟨[], .nil, o, #[], ep, h1, h2, h3, fun e he => by simp at he, by first | exact .nil | trivial | simp [Pairs], List.nodup_nil⟩
theorem RdD.t (I : L2.Inv X pins σ H s) (r : RdD X.K X.w H a kvs) (hk : ∀ p ∈ kvs, p.1.isT = true) : TView X.prog X.w X.K H s.heap a kvs := by
  rcases (r.views I).2.2 with ⟨vs, kr, dd⟩ | h
  · have : kvs = [] := by
      cases kvs with
      | nil => rfl
      | cons p r =>
        have h1 := hk p (List.mem_cons_self ..)
        have h2 := kr.keys p (List.mem_cons_self ..)
        revert h1 h2
        cases p.1 <;> simp [D.isK, D.isT]
    subst this
    cases kr
    obtain ⟨o, es, ep, h1, h2, h3, h4, h5, _⟩ := dd
    have : es.toList = [] := by
      cases q : es.toList with
      | nil => rfl
      | cons x r => rw [q] at h5; cases h5
    exact ⟨[], .nil, o, es, ep, h1, h2, h3, by rw [this]; rfl, (fun x hx => nomatch hx), List.nodup_nil⟩
  · exact h
end
end Z
/-! Z4: dict operations on the machine. -/
namespace Z
open PySem PySem.Spec PyProof.Rows L2 PySem.SeqAt
section
variable {X : Cx} {pins : List (Addr × Obj)} {σ : L2.St} {H : Hp} {s : Shared} {a : Addr} {kvs : List (D × D)} {k d : D} {y : V} {u r : Value} {A : Around} {E : Value → Shared → Prop}
theorem key_k (rk : Rp X.K H y k) (rv : L2.RelV y u) {q : Key} (e : k = kD q) : (mixKind X.prog X.w).is q u = true ∧ y = kV q := by
  subst e
  cases q with
  | inl i => cases rk; exact ⟨kV_is (k := .inl i) rv, rfl⟩
  | inr i => cases rk; exact ⟨kV_is (k := .inr i) rv, rfl⟩
theorem key_t (I : L2.Inv X pins σ H s) (rk : Rp X.K H y k) (rv : L2.RelV y u) (ht : k.isT = true) (hk : k.hok = true) (hd : k.depth ≤ 8) : ∃ b, y = .ref b ∧ u = .ref b ∧ KeyAt s.heap k b := by
  cases k with
  | tup ds =>
    obtain ⟨b, vs, rfl, _, _⟩ := rk.tup_of
    cases (show u = Value.ref b from rv)
    exact ⟨b, rfl, rfl, Rp.vr I _ _ _ (D.hok_plain _ hk) rk rfl, hk, hd⟩
  | _ => simp [D.isT] at ht
theorem room_t (hu : A.units + 9 < cLine) : (dataKind X.prog X.w).room A.in1 := show A.units + 1 + 8 < cLine by omega
theorem dd_get {Q : Value → Shared → Prop} (hu : A.units + 9 < cLine) (I : L2.Inv X pins σ H s) (rd : RdD X.K X.w H a kvs) (kf : KF kvs k) (rk : Rp X.K H y k) (rv : L2.RelV y u) (hz : zget kvs k = some d)
    (h : ∀ v w' s', L2.Inv X pins σ H s' → Rp X.K H v d → L2.RelV v w' → Q w' s') : wpAny (model X.prog X.w) A (getItem (.ref a) u) Q E s := by
  rcases kf with ⟨h1, h2⟩ | ⟨h1, h2, h3, h4⟩
  · obtain ⟨q, e⟩ := isK_kD h1
    obtain ⟨vs, kr, dd⟩ := rd.k I h2
    obtain ⟨hi, _⟩ := key_k rk rv e
    subst e
    rcases kr.get q with ⟨a1, _⟩ | ⟨d', u', a1, a2, v, b1, b2⟩
    · rw [a1] at hz; cases hz
    · rw [a1] at hz; cases hz
      exact wpAny_getItem_of hi dd.mapOf a2 (h v _ _ (I.tok _) b1 b2)
  · obtain ⟨b, _, rfl, ka⟩ := key_t I rk rv h1 h2 h3
    obtain ⟨vs, tr, dd⟩ := rd.t I h4
    rcases tr.get k with ⟨a1, _⟩ | ⟨d', u', a1, a2, v, b1, b2⟩
    · rw [a1] at hz; cases hz
    · rw [a1] at hz; cases hz
      exact wpAny_getItem_heap (room_t hu) ka dd a2 (h v _ _ (I.tok _) b1 b2)
theorem dd_in {Q : Value → Shared → Prop} (hu : A.units + 9 < cLine) (I : L2.Inv X pins σ H s) (rd : RdD X.K X.w H a kvs) (kf : KF kvs k) (rk : Rp X.K H y k) (rv : L2.RelV y u)
    (h : ∀ s', L2.Inv X pins σ H s' → Q (.bool (zhas kvs k)) s') : wpAny (model X.prog X.w) A (compareOp .In u (.ref a)) Q E s := by
  have hS := (rd.views I).2.1
  rcases kf with ⟨h1, h2⟩ | ⟨h1, h2, h3, h4⟩
  · obtain ⟨q, e⟩ := isK_kD h1
    obtain ⟨vs, kr, dd⟩ := rd.k I h2
    obtain ⟨hi, _⟩ := key_k rk rv e
    subst e
    refine wpAny_in_of hi hS dd.mapOf ?_
    have : (valueAt vs q).isSome = zhas kvs (kD q) := by
      rw [zhas_get]
      rcases kr.get q with ⟨a1, a2⟩ | ⟨d', u', a1, a2, _⟩ <;> rw [a1, a2] <;> rfl
    rw [this]
    exact h _ (I.tok _)
  · obtain ⟨b, _, rfl, ka⟩ := key_t I rk rv h1 h2 h3
    obtain ⟨vs, tr, dd⟩ := rd.t I h4
    refine wpAny_in_heap (room_t hu) ka hS dd ?_
    rw [← tr.has]
    exact h _ (I.tok _)
theorem dd_notIn {Q : Value → Shared → Prop} (hu : A.units + 9 < cLine) (I : L2.Inv X pins σ H s) (rd : RdD X.K X.w H a kvs) (kf : KF kvs k) (rk : Rp X.K H y k) (rv : L2.RelV y u)
    (h : ∀ s', L2.Inv X pins σ H s' → Q (.bool (!zhas kvs k)) s') : wpAny (model X.prog X.w) A (compareOp .NotIn u (.ref a)) Q E s := by
  have hS := (rd.views I).2.1
  rcases kf with ⟨h1, h2⟩ | ⟨h1, h2, h3, h4⟩
  · obtain ⟨q, e⟩ := isK_kD h1
    obtain ⟨vs, kr, dd⟩ := rd.k I h2
    obtain ⟨hi, _⟩ := key_k rk rv e
    subst e
    refine wpAny_notIn_of hi hS dd.mapOf ?_
    have : (valueAt vs q).isSome = zhas kvs (kD q) := by
      rw [zhas_get]
      rcases kr.get q with ⟨a1, a2⟩ | ⟨d', u', a1, a2, _⟩ <;> rw [a1, a2] <;> rfl
    rw [this]
    exact h _ (I.tok _)
  · obtain ⟨b, _, rfl, ka⟩ := key_t I rk rv h1 h2 h3
    obtain ⟨vs, tr, dd⟩ := rd.t I h4
    refine wpAny_notIn_heap (room_t hu) ka hS dd ?_
    rw [← tr.has]
    exact h _ (I.tok _)
theorem dd_get1 {Q : Value → Shared → Prop} (hu : A.units + 9 < cLine) (I : L2.Inv X pins σ H s) (rd : RdD X.K X.w H a kvs) (kf : KF kvs k) (rk : Rp X.K H y k) (rv : L2.RelV y u)
    (h : ∀ v w' s', L2.Inv X pins σ H s' → Rp X.K H v ((zget kvs k).getD .non) → L2.RelV v w' → Q w' s') : wpAny (model X.prog X.w) A (call (.builtin "dict.get") [.ref a, u]) Q E s := by
  have hS := (rd.views I).2.1
  rcases kf with ⟨h1, h2⟩ | ⟨h1, h2, h3, h4⟩
  · obtain ⟨q, e⟩ := isK_kD h1
    obtain ⟨vs, kr, dd⟩ := rd.k I h2
    obtain ⟨hi, _⟩ := key_k rk rv e
    subst e
    refine call_meetsIn PySem.F.slot_dict_get dd.typeIs PySem.F.entry_dict_get (PySem.F.args_dict_get_2 _ _) (meets_dict_get (mixKind X.prog X.w) a hi hS) ⟨_, dd.mapOf, ?_⟩
    rcases kr.get q with ⟨a1, a2⟩ | ⟨d', u', a1, a2, v, b1, b2⟩
    · rw [a2]; exact h .non _ _ (I.tok _) (by rw [a1]; exact .non) rfl
    · rw [a2]; exact h v _ _ (I.tok _) (by rw [a1]; exact b1) b2
  · obtain ⟨b, _, rfl, ka⟩ := key_t I rk rv h1 h2 h3
    obtain ⟨vs, tr, dd⟩ := rd.t I h4
    refine call_meetsIn PySem.F.slot_dict_get dd.typeIs PySem.F.entry_dict_get (PySem.F.args_dict_get_2 _ _) (meetsH_dict_get (dataKind X.prog X.w) a b hS) ⟨room_t hu, k, vs, ka, dd, ?_⟩
    rcases tr.get k with ⟨a1, a2⟩ | ⟨d', u', a1, a2, v, b1, b2⟩
    · rw [a2]; exact h .non _ _ (I.tok _) (by rw [a1]; exact .non) rfl
    · rw [a2]; exact h v _ _ (I.tok _) (by rw [a1]; exact b1) b2
theorem dd_get2 {Q : Value → Shared → Prop} {z : V} {e : D} (hu : A.units + 9 < cLine) (I : L2.Inv X pins σ H s) (rd : RdD X.K X.w H a kvs) (kf : KF kvs k) (rk : Rp X.K H y k) (rv : L2.RelV y u) (re : Rp X.K H z e) (rz : L2.RelV z r)
    (h : ∀ v w' s', L2.Inv X pins σ H s' → Rp X.K H v ((zget kvs k).getD e) → L2.RelV v w' → Q w' s') : wpAny (model X.prog X.w) A (call (.builtin "dict.get") [.ref a, u, r]) Q E s := by
  have hS := (rd.views I).2.1
  rcases kf with ⟨h1, h2⟩ | ⟨h1, h2, h3, h4⟩
  · obtain ⟨q, e⟩ := isK_kD h1
    obtain ⟨vs, kr, dd⟩ := rd.k I h2
    obtain ⟨hi, _⟩ := key_k rk rv e
    subst e
    refine call_meetsIn PySem.F.slot_dict_get dd.typeIs PySem.F.entry_dict_get (PySem.F.args_dict_get_3 _ _ _) (meets_dict_get_default (mixKind X.prog X.w) a hi hS r) ⟨_, dd.mapOf, ?_⟩
    rcases kr.get q with ⟨a1, a2⟩ | ⟨d', u', a1, a2, v, b1, b2⟩
    · rw [a2]; exact h z _ _ (I.tok _) (by rw [a1]; exact re) rz
    · rw [a2]; exact h v _ _ (I.tok _) (by rw [a1]; exact b1) b2
  · obtain ⟨b, _, rfl, ka⟩ := key_t I rk rv h1 h2 h3
    obtain ⟨vs, tr, dd⟩ := rd.t I h4
    refine call_meetsIn PySem.F.slot_dict_get dd.typeIs PySem.F.entry_dict_get (PySem.F.args_dict_get_3 _ _ _) (meetsH_dict_get_default (dataKind X.prog X.w) a b hS r) ⟨room_t hu, k, vs, ka, dd, ?_⟩
    rcases tr.get k with ⟨a1, a2⟩ | ⟨d', u', a1, a2, v, b1, b2⟩
    · rw [a2]; exact h z _ _ (I.tok _) (by rw [a1]; exact re) rz
    · rw [a2]; exact h v _ _ (I.tok _) (by rw [a1]; exact b1) b2
/-! ### writing -/
theorem dct_mut {K : PySem.W.Frag} {w : World} (h : RO K w H a (.dct kvs)) : Mut (H a) := by
  rcases h with ⟨ks, e, _⟩ | ⟨ks, e, _⟩ <;> rw [e] <;> trivial
theorem tup_upd {K : PySem.W.Frag} {w : World} {z : ZO} {o : HO} (h : RO K w H a z) : ∀ b ws, SqT K H b ws → SqT K (upd H a o) b ws := fun b ws q => by
  rcases q with q | q
  · have ne : b ≠ a := fun e => by subst e; exact h.notup q
    rcases q with q | ⟨o, q⟩
    · exact .inl (.inl (by rw [upd_ne ne]; exact q))
    · exact .inl (.inr ⟨o, by rw [upd_ne ne]; exact q⟩)
  · exact .inr q
/-- a dict behind a write, its keys ints and texts -/
theorem dk_back {h' : Heap} {t' : Nat} {kvs' : List (D × D)} {vs : List (Key × Value)} (I : L2.Inv X pins σ H s) (ro : RO X.K X.w H a (.dct kvs)) (hS : (a == sysModules) = false) (kr : KR X.K H kvs' vs) (dd : h'.DictOf (mixKind X.prog X.w) a vs)
    (hs : Heap.SameBut a s.heap h') (hl : kvs'.length ≤ sizeLine) : ∃ ho, L2.Inv X pins σ (upd H a ho) { s with heap := h', toks := t' } ∧ RO X.K X.w (upd H a ho) a (.dct kvs') := by
  obtain ⟨ks, km, kv⟩ := kr.back
  have he : ∃ q, h'.get? a = some q := let ⟨q, _, _, hq, _⟩ := dd; ⟨q, hq⟩
  refine ⟨.dK ks, d_write I (dct_mut ro) hs he (dk_new (by rw [Paired.length km]; exact hl) hS kv dd), .inl ⟨ks, upd_same, km.mono (tup_upd ro)⟩⟩
theorem dt_back {h' : Heap} {t' : Nat} {kvs' : List (D × D)} {vs : List (D × Addr × Value)} (I : L2.Inv X pins σ H s) (ro : RO X.K X.w H a (.dct kvs)) (hS : (a == sysModules) = false) (tr : TR X.K H kvs' vs) (dd : h'.DictOfH (dataKind X.prog X.w) a vs)
    (hs : Heap.SameBut a s.heap h') (hl : kvs'.length ≤ sizeLine) : ∃ ho, L2.Inv X pins σ (upd H a ho) { s with heap := h', toks := t' } ∧ RO X.K X.w (upd H a ho) a (.dct kvs') := by
  obtain ⟨ks, tm, dr⟩ := tr.back
  have he : ∃ q, h'.get? a = some q := let ⟨q, _, _, hq, _⟩ := dd; ⟨q, hq⟩
  obtain ⟨o, es, ep, q1, q2, q3, q4, _, q6⟩ := dd
  have tok : DTok X.w a ks h' := ⟨by rw [Paired.length tm]; exact hl, hS, vs, dr, o, es, ep, q1, q2, q3, q4, q6⟩
  exact ⟨DTO X.w a ks, d_write I (dct_mut ro) hs he (dto_ok tok), .inr ⟨ks, upd_same, tm.mono (tup_upd ro)⟩⟩
theorem zput_len (kvs : List (D × D)) (k v : D) : (zput kvs k v).length ≤ kvs.length + 1 := by
  unfold zput
  split
  · simp
  · simp
theorem zdel_len (kvs : List (D × D)) (k : D) : (zdel kvs k).length ≤ kvs.length := List.length_filter_le _ _
theorem dd_set {Q : Unit → Shared → Prop} {z : V} (hu : A.units + 9 < cLine) (I : L2.Inv X pins σ H s) (ro : RO X.K X.w H a (.dct kvs)) (kf : KF kvs k) (rk : Rp X.K H y k) (rv : L2.RelV y u) (re : Rp X.K H z d) (rz : L2.RelV z r) (hl : kvs.length < sizeLine)
    (h : ∀ ho s', L2.Inv X pins σ (upd H a ho) s' → RO X.K X.w (upd H a ho) a (.dct (zput kvs k d)) → Q () s') : wpAny (model X.prog X.w) A (setItem (.ref a) u r) Q E s := by
  have rd := RdD.of_dct ro
  obtain ⟨hL, hS, _⟩ := rd.views I
  have hl2 : (zput kvs k d).length ≤ sizeLine := by have := zput_len kvs k d; omega
  rcases kf with ⟨h1, h2⟩ | ⟨h1, h2, h3, h4⟩
  · obtain ⟨q, e⟩ := isK_kD h1
    obtain ⟨vs, kr, dd⟩ := rd.k I h2
    obtain ⟨hi, _⟩ := key_k rk rv e
    subst e
    have hz : vs.length ≤ sizeLine := by rw [← Paired.length kr]; exact hL
    refine wpAny_setItem_pairs (hsz := hz) hi dd fun h' dd' hs => ?_
    obtain ⟨ho, I', ro'⟩ := dk_back (t' := s.toks + 1) I ro hS (kr.put q (d := d) ⟨z, re, rz⟩) dd' hs hl2
    exact h ho _ I' ro'
  · obtain ⟨b, rfl, rfl, ka⟩ := key_t I rk rv h1 h2 h3
    obtain ⟨vs, tr, dd⟩ := rd.t I h4
    have hz : vs.length ≤ sizeLine := by rw [← Paired.length tr]; exact hL
    refine wpAny_setItem_heap (hsz := hz) (room_t hu) ka dd fun h' dd' hs => ?_
    obtain ⟨ho, I', ro'⟩ := dt_back (t' := s.toks + (dataKind X.prog X.w).draws k) I ro hS (tr.put (d := d) ⟨z, re, rz⟩ rk h2 h3) dd' hs hl2
    exact h ho _ I' ro'
theorem dd_del {Q : Unit → Shared → Prop} (hu : A.units + 9 < cLine) (I : L2.Inv X pins σ H s) (ro : RO X.K X.w H a (.dct kvs)) (kf : KF kvs k) (rk : Rp X.K H y k) (rv : L2.RelV y u) (hz : zhas kvs k = true)
    (h : ∀ ho s', L2.Inv X pins σ (upd H a ho) s' → RO X.K X.w (upd H a ho) a (.dct (zdel kvs k)) → Q () s') : wpAny (model X.prog X.w) A (delItem (.ref a) u) Q E s := by
  have rd := RdD.of_dct ro
  obtain ⟨hL, hS, _⟩ := rd.views I
  have hl2 : (zdel kvs k).length ≤ sizeLine := Nat.le_trans (zdel_len kvs k) hL
  rcases kf with ⟨h1, h2⟩ | ⟨h1, h2, h3, h4⟩
  · obtain ⟨q, e⟩ := isK_kD h1
    obtain ⟨vs, kr, dd⟩ := rd.k I h2
    obtain ⟨hi, _⟩ := key_k rk rv e
    subst e
    have hzl : vs.length ≤ sizeLine := by rw [← Paired.length kr]; exact hL
    have hv : (valueAt vs q).isSome = true := by
      rw [zhas_get] at hz
      rcases kr.get q with ⟨a1, a2⟩ | ⟨d', u', a1, a2, _⟩
      · rw [a1] at hz; cases hz
      · rw [a2]; rfl
    refine wpAny_delItem_slot dd.typeIs (by decide) PySem.F.slot_dict_delitem
      (call_meetsIn PySem.F.slot_dict_delitem dd.typeIs PySem.F.entry_dict_delitem (PySem.F.args_dict_delitem_2 _ _) (meets_dict_delitem_pairs (mixKind X.prog X.w) a hi) ⟨vs, dd, hzl, hv, fun h' dd' hs => ?_⟩)
    obtain ⟨ho, I', ro'⟩ := dk_back (t' := s.toks + 1) I ro hS (kr.del q) dd' hs hl2
    exact h ho _ I' ro'
  · obtain ⟨b, rfl, rfl, ka⟩ := key_t I rk rv h1 h2 h3
    obtain ⟨vs, tr, dd⟩ := rd.t I h4
    have hzl : vs.length ≤ sizeLine := by rw [← Paired.length tr]; exact hL
    rcases tr.get k with ⟨a1, a2⟩ | ⟨d', u', a1, a2, v, b1, b2⟩
    · rw [zhas_get, a1] at hz; cases hz
    · refine wpAny_delItem_heap (hsz := hzl) (room_t hu) ka hS dd a2 fun h' dd' hs => ?_
      obtain ⟨ho, I', ro'⟩ := dt_back (t' := s.toks + (dataKind X.prog X.w).draws k) I ro hS (tr.del k) dd' hs hl2
      exact h ho _ I' ro'
theorem dd_setd {Q : Value → Shared → Prop} {z : V} (hu : A.units + 9 < cLine) (I : L2.Inv X pins σ H s) (ro : RO X.K X.w H a (.dct kvs)) (kf : KF kvs k) (rk : Rp X.K H y k) (rv : L2.RelV y u) (re : Rp X.K H z d) (rz : L2.RelV z r) (hl : kvs.length < sizeLine)
    (h1' : ∀ e v w' s', zget kvs k = some e → L2.Inv X pins σ H s' → Rp X.K H v e → L2.RelV v w' → Q w' s')
    (h2' : zget kvs k = none → ∀ ho s', L2.Inv X pins σ (upd H a ho) s' → RO X.K X.w (upd H a ho) a (.dct (zput kvs k d)) → Q r s') : wpAny (model X.prog X.w) A (call (.builtin "dict.setdefault") [.ref a, u, r]) Q E s := by
  have rd := RdD.of_dct ro
  obtain ⟨hL, hS, _⟩ := rd.views I
  have hl2 : (zput kvs k d).length ≤ sizeLine := by have := zput_len kvs k d; omega
  rcases kf with ⟨h1, h2⟩ | ⟨h1, h2, h3, h4⟩
  · obtain ⟨q, e⟩ := isK_kD h1
    obtain ⟨vs, kr, dd⟩ := rd.k I h2
    obtain ⟨hi, _⟩ := key_k rk rv e
    subst e
    have hz : vs.length ≤ sizeLine := by rw [← Paired.length kr]; exact hL
    refine call_meetsIn PySem.F.slot_dict_setdefault dd.typeIs PySem.F.entry_dict_setdefault (PySem.F.args_dict_setdefault_3 _ _ _) (kt_meets_setdefault (mixKind X.prog X.w) a hi hS r) ⟨vs, dd, hz, fun v hv => ?_, fun hn h' dd' hs => ?_⟩
    · rcases kr.get q with ⟨a1, a2⟩ | ⟨d', u', a1, a2, v', b1, b2⟩
      · rw [a2] at hv; cases hv
      · rw [a2] at hv; cases hv; exact h1' _ v' _ _ a1 (I.tok _) b1 b2
    · rcases kr.get q with ⟨a1, a2⟩ | ⟨d', u', a1, a2, v', b1, b2⟩
      · obtain ⟨ho, I', ro'⟩ := dk_back (t' := s.toks + 1) I ro hS (kr.put q (d := d) ⟨z, re, rz⟩) dd' hs hl2
        exact h2' a1 ho _ I' ro'
      · rw [a2] at hn; cases hn
  · obtain ⟨b, rfl, rfl, ka⟩ := key_t I rk rv h1 h2 h3
    obtain ⟨vs, tr, dd⟩ := rd.t I h4
    have hz : vs.length ≤ sizeLine := by rw [← Paired.length tr]; exact hL
    refine call_setdefault_heap (hsz := hz) (room_t hu) ka hS dd (fun p hp => ?_) fun hn h' dd' hs => ?_
    · rcases tr.get k with ⟨a1, a2⟩ | ⟨d', u', a1, a2, v', b1, b2⟩
      · rw [a2] at hp; cases hp
      · rw [a2] at hp; cases hp; exact h1' _ v' _ _ a1 (I.tok _) b1 b2
    · rcases tr.get k with ⟨a1, a2⟩ | ⟨d', u', a1, a2, v', b1, b2⟩
      · obtain ⟨ho, I', ro'⟩ := dt_back (t' := s.toks + (dataKind X.prog X.w).draws k) I ro hS (tr.put (d := d) ⟨z, re, rz⟩ rk h2 h3) dd' hs hl2
        exact h2' a1 ho _ I' ro'
      · rw [a2] at hn; cases hn
theorem key_part {q : Key} {u : Value} (h : (mixKind X.prog X.w).is q u = true) : (keyPart u).isSome = true := by
  rcases keyIs_shape h with ⟨i, t, _, e⟩ | ⟨i, t, _, e⟩ <;> subst e <;> rfl
/-- d.pop(k), d.pop(k, x), the key there -/
theorem dd_pop {Q : Value → Shared → Prop} {more : List Value} (hu : A.units + 9 < cLine) (I : L2.Inv X pins σ H s) (ro : RO X.K X.w H a (.dct kvs)) (kf : KF kvs k) (rk : Rp X.K H y k) (rv : L2.RelV y u) (hz : zget kvs k = some d) (hm : more = [] ∨ ∃ x, more = [x])
    (h : ∀ ho v w' s', L2.Inv X pins σ (upd H a ho) s' → RO X.K X.w (upd H a ho) a (.dct (zdel kvs k)) → Rp X.K H v d → L2.RelV v w' → Q w' s') : wpAny (model X.prog X.w) A (call (.builtin "dict.pop") (.ref a :: u :: more)) Q E s := by
  have rd := RdD.of_dct ro
  obtain ⟨hL, hS, _⟩ := rd.views I
  have hl2 : (zdel kvs k).length ≤ sizeLine := Nat.le_trans (zdel_len kvs k) hL
  have ha : argsOk "dict.pop" ⟨.ref a :: u :: more, []⟩ := by
    rcases hm with q | ⟨x, q⟩
    · subst q; exact PySem.F.args_dict_pop_2 _ _
    · subst q; exact PySem.F.args_dict_pop_3 _ _ _
  rcases kf with ⟨h1, h2⟩ | ⟨h1, h2, h3, h4⟩
  · obtain ⟨q, e⟩ := isK_kD h1
    obtain ⟨vs, kr, dd⟩ := rd.k I h2
    obtain ⟨hi, _⟩ := key_k rk rv e
    subst e
    have hzl : vs.length ≤ sizeLine := by rw [← Paired.length kr]; exact hL
    rcases kr.get q with ⟨a1, a2⟩ | ⟨d', u', a1, a2, v', b1, b2⟩
    · rw [a1] at hz; cases hz
    · rw [a1] at hz; cases hz
      refine call_meetsIn PySem.F.slot_dict_pop dd.typeIs PySem.F.entry_dict_pop ha (meets_dict_pop_there (mixKind X.prog X.w) a hi more hm (key_part hi)) ⟨vs, u', dd, hzl, a2, fun h' dd' hs => ?_⟩
      obtain ⟨ho, I', ro'⟩ := dk_back (t' := s.toks + 1) I ro hS (kr.del q) dd' hs hl2
      exact h ho v' _ _ I' ro' b1 b2
  · obtain ⟨b, rfl, rfl, ka⟩ := key_t I rk rv h1 h2 h3
    obtain ⟨vs, tr, dd⟩ := rd.t I h4
    have hzl : vs.length ≤ sizeLine := by rw [← Paired.length tr]; exact hL
    rcases tr.get k with ⟨a1, a2⟩ | ⟨d', u', a1, a2, v', b1, b2⟩
    · rw [a1] at hz; cases hz
    · rw [a1] at hz; cases hz
      refine call_pop_heap (hsz := hzl) hm ha (room_t hu) ka hS dd a2 fun h' dd' hs => ?_
      obtain ⟨ho, I', ro'⟩ := dt_back (t' := s.toks + (dataKind X.prog X.w).draws k) I ro hS (tr.del k) dd' hs hl2
      exact h ho v' _ _ I' ro' b1 b2
/-- d.pop(k, x), the key not there -/
theorem dd_popD {Q : Value → Shared → Prop} (hu : A.units + 9 < cLine) (I : L2.Inv X pins σ H s) (rd : RdD X.K X.w H a kvs) (kf : KF kvs k) (rk : Rp X.K H y k) (rv : L2.RelV y u) (hz : zget kvs k = none)
    (h : ∀ s', L2.Inv X pins σ H s' → Q r s') : wpAny (model X.prog X.w) A (call (.builtin "dict.pop") [.ref a, u, r]) Q E s := by
  obtain ⟨hL, hS, _⟩ := rd.views I
  rcases kf with ⟨h1, h2⟩ | ⟨h1, h2, h3, h4⟩
  · obtain ⟨q, e⟩ := isK_kD h1
    obtain ⟨vs, kr, dd⟩ := rd.k I h2
    obtain ⟨hi, _⟩ := key_k rk rv e
    subst e
    rcases kr.get q with ⟨a1, a2⟩ | ⟨d', u', a1, a2, v', b1, b2⟩
    · exact call_meetsIn PySem.F.slot_dict_pop dd.typeIs PySem.F.entry_dict_pop (PySem.F.args_dict_pop_3 _ _ _) (meets_dict_pop_default (mixKind X.prog X.w) a hi hS (key_part hi) r) ⟨vs, dd, a2, h _ (I.tok _)⟩
    · rw [a1] at hz; cases hz
  · obtain ⟨b, rfl, rfl, ka⟩ := key_t I rk rv h1 h2 h3
    obtain ⟨vs, tr, dd⟩ := rd.t I h4
    have hzl : vs.length ≤ sizeLine := by rw [← Paired.length tr]; exact hL
    rcases tr.get k with ⟨a1, a2⟩ | ⟨d', u', a1, a2, v', b1, b2⟩
    · exact call_pop_default_heap (hsz := hzl) (room_t hu) ka hS dd a2 fun tk => h _ (I.tok _)
    · rw [a1] at hz; cases hz
end
end Z
/-! Z5: in, subscripts, slices, stores, len, list(), tuple(). -/
namespace Z
open PySem PySem.Spec PyProof.Rows L2 PySem.SeqAt

/-- what may be walked or asked as a row of values -/
def ZSeq (K : PySem.W.Frag) (d : D) (S : Store) (xs : List D) : Prop := match d with
  | .tup ys => xs = ys
  | .ref a => S a = some (.lst xs) ∨ S a = some (.fls xs) ∨ KS K a xs
  | _ => False
def zInN (neg : Bool) : ZR2 := fun d e S Q => match e with
  | .tup xs => (d.plain = true ∧ D.plainL xs = true ∧ d.depth ≤ 64) ∧ Q (.bl (if neg = true then !decide (d ∈ xs) else decide (d ∈ xs))) S
  | .ref a => match S a with
    | some (.lst xs) => (d.plain = true ∧ D.plainL xs = true ∧ d.depth ≤ 64) ∧ Q (.bl (if neg = true then !decide (d ∈ xs) else decide (d ∈ xs))) S
    | some (.dct kvs) => KF kvs d ∧ Q (.bl (if neg = true then !zhas kvs d else zhas kvs d)) S
    | some (.fdc _ kvs) => KF kvs d ∧ Q (.bl (if neg = true then !zhas kvs d else zhas kvs d)) S
    | _ => False
  | .str z => ∃ c, d = .str ⟨#[c]⟩ ∧ Q (.bl (if neg = true then !decide (c ∈ z.cps.toList) else decide (c ∈ z.cps.toList))) S
  | _ => False
abbrev zIn : ZR2 := zInN false
abbrev zNotIn : ZR2 := zInN true
def zIx : ZR2 := fun d e S Q => match d with
  | .tup xs => ∃ i x, e = .int i ∧ atI xs i = some x ∧ Q x S
  | .str z => ∃ i c, e = .int i ∧ z.length ≤ sizeLine ∧ atI z.cps.toList i = some c ∧ Q (.str ⟨#[c]⟩) S
  | .ref a => match S a with
    | some (.lst xs) => ∃ i x, e = .int i ∧ atI xs i = some x ∧ Q x S
    | some (.fls xs) => ∃ i x, e = .int i ∧ atI xs i = some x ∧ Q x S
    | some (.dct kvs) => KF kvs e ∧ ∃ x, zget kvs e = some x ∧ Q x S
    | some (.fdc _ kvs) => KF kvs e ∧ ∃ x, zget kvs e = some x ∧ Q x S
    | _ => False
  | _ => False
noncomputable def rdV (h : Heap) (u : Value) : D := open Classical in if hx : ∃ d, VR h u d then hx.choose else .non
theorem rdV_eq {h : Heap} {u : Value} {d : D} (r : VR h u d) : rdV h u = d := by
  have hx : ∃ d, VR h u d := ⟨d, r⟩
  unfold rdV
  rw [dif_pos hx]
  exact VR.uniq _ _ _ hx.choose_spec r
theorem vra_mem {h : Heap} : ∀ {ds : List D} {us : List Value}, VRA h us ds → ∀ u ∈ us, ∃ d ∈ ds, VR h u d
  | _, _, .nil, u, hu => nomatch hu
  | _, _, .cons a t, u, hu => by
    rcases List.mem_cons.mp hu with rfl | hu
    · exact ⟨_, List.mem_cons_self .., a⟩
    · obtain ⟨d, h1, h2⟩ := vra_mem t u hu
      exact ⟨d, List.mem_cons_of_mem _ h1, h2⟩
theorem vra_any {h : Heap} {d : D} : ∀ {ds : List D} {us : List Value}, VRA h us ds → us.any (fun u => decide (rdV h u = d)) = decide (d ∈ ds)
  | _, _, .nil => rfl
  | _, _, .cons (d := x) (ds := xs) a t => by
    rw [List.any_cons, vra_any t, rdV_eq a]
    by_cases h1 : x = d <;> by_cases h2 : d ∈ xs <;> simp [h1, h2, eq_comm]
    · rintro rfl; exact h1 rfl
section
variable {X : Cx}
theorem items_eq {A : Around} {s : Shared} {us : Array Value} {ds : List D} {u : Value} {d : D} (rs : VRA s.heap us.toList ds) (r : VR s.heap u d) (hd : d.depth ≤ 64) (hu : A.units + 65 < cLine) :
    ∀ y, y ∈ us → EqAt A.in1 s y u (decide (rdV s.heap y = d)) := fun y hy => by
  obtain ⟨e, he, re⟩ := vra_mem rs y (by simpa using hy)
  rw [rdV_eq re]
  refine vr_eq e d A.in1 s y u re r ?_
  have : min e.depth d.depth ≤ 64 := by omega
  show A.units + 1 + min e.depth d.depth < cLine
  omega
theorem any_arr {h : Heap} {us : Array Value} {ds : List D} {d : D} (rs : VRA h us.toList ds) : us.any (fun u => decide (rdV h u = d)) = decide (d ∈ ds) := by
  rw [← Array.any_toList]; exact vra_any rs
theorem occ_sign {X : Cx} (neg : Bool) : True := trivial
theorem op_zIn (hu : X.A.units + 65 < cLine) : OpR X (compareOp .In) (li2 X.K X.w zIn) := by
  rintro pins s σ H x y v u Q I rx ry ⟨d, e, S, Qz, r1, r2, rs, hz, hq⟩
  have fin : ∀ {b : Bool} {s' : Shared}, L2.Inv X pins σ H s' → Qz (.bl b) S → EP X pins σ Q (.bool b) s' := fun I' h => ⟨.bl _, H, I', rfl, hq.here rs (.bl _) h⟩
  cases e with
  | tup xs =>
    obtain ⟨⟨p1, p2, p3⟩, h⟩ := hz
    obtain ⟨a, vs, rfl, s1, q1⟩ := r2.tup_of
    cases ry
    obtain ⟨its, rv, q, _⟩ := I.tuple s1
    have vr := RpA.vr I xs vs its p2 q1 rv
    refine in_tupleAt _ (show s.heap.IsTuple a its.toArray from q) (items_eq (us := its.toArray) (ds := xs) vr (Rp.vr I d x v p1 r1 rx) p3 hu) ?_
    rw [any_arr (us := its.toArray) vr]
    exact fin I h
  | ref a =>
    cases r2
    cases ry
    have hz' : (match S a with
      | some (.lst xs) => (d.plain = true ∧ D.plainL xs = true ∧ d.depth ≤ 64) ∧ Qz (.bl (if false = true then !decide (d ∈ xs) else decide (d ∈ xs))) S
      | some (.dct kvs) => KF kvs d ∧ Qz (.bl (if false = true then !zhas kvs d else zhas kvs d)) S
      | some (.fdc _ kvs) => KF kvs d ∧ Qz (.bl (if false = true then !zhas kvs d else zhas kvs d)) S
      | _ => False) := hz
    cases q : S a with
    | none => rw [q] at hz'; exact hz'.elim
    | some z =>
      rw [q] at hz'
      have ro := rs a z q
      cases z with
      | lst xs =>
        obtain ⟨⟨p1, p2, p3⟩, h⟩ := hz'
        obtain ⟨vs, e1, q1⟩ := ro
        obtain ⟨its, rv, pl, _⟩ := I.list (.inl (.inl e1))
        have vr := RpA.vr I xs vs its p2 q1 rv
        refine in_listAt _ pl.isList (items_eq (us := its.toArray) (ds := xs) vr (Rp.vr I d x v p1 r1 rx) p3 hu) ?_
        rw [any_arr (us := its.toArray) vr]
        exact fin I h
      | fls xs => exact hz'.elim
      | dct kvs => exact dd_in (by omega) I (RdD.of_dct ro) hz'.1 r1 rx fun s' I' => fin I' hz'.2
      | fdc ho kvs => exact dd_in (by omega) I ro.2 hz'.1 r1 rx fun s' I' => fin I' hz'.2
      | ins C fs => exact hz'.elim
  | str z =>
    obtain ⟨c, rfl, h⟩ := hz
    cases r1; cases r2
    exact op_in_sign pins s σ H _ _ v u Q I rx ry ⟨c, z, rfl, rfl, hq.here rs (.bl _) h⟩
  | _ => exact hz.elim
theorem op_zNotIn (hu : X.A.units + 65 < cLine) : OpR X (compareOp .NotIn) (li2 X.K X.w zNotIn) := by
  rintro pins s σ H x y v u Q I rx ry ⟨d, e, S, Qz, r1, r2, rs, hz, hq⟩
  have fin : ∀ {b : Bool} {s' : Shared}, L2.Inv X pins σ H s' → Qz (.bl b) S → EP X pins σ Q (.bool b) s' := fun I' h => ⟨.bl _, H, I', rfl, hq.here rs (.bl _) h⟩
  cases e with
  | tup xs =>
    obtain ⟨⟨p1, p2, p3⟩, h⟩ := hz
    obtain ⟨a, vs, rfl, s1, q1⟩ := r2.tup_of
    cases ry
    obtain ⟨its, rv, q, _⟩ := I.tuple s1
    have vr := RpA.vr I xs vs its p2 q1 rv
    refine notIn_tupleAt _ (show s.heap.IsTuple a its.toArray from q) (items_eq (us := its.toArray) (ds := xs) vr (Rp.vr I d x v p1 r1 rx) p3 hu) ?_
    rw [any_arr (us := its.toArray) vr]
    exact fin I h
  | ref a =>
    cases r2
    cases ry
    have hz' : (match S a with
      | some (.lst xs) => (d.plain = true ∧ D.plainL xs = true ∧ d.depth ≤ 64) ∧ Qz (.bl (if true = true then !decide (d ∈ xs) else decide (d ∈ xs))) S
      | some (.dct kvs) => KF kvs d ∧ Qz (.bl (if true = true then !zhas kvs d else zhas kvs d)) S
      | some (.fdc _ kvs) => KF kvs d ∧ Qz (.bl (if true = true then !zhas kvs d else zhas kvs d)) S
      | _ => False) := hz
    cases q : S a with
    | none => rw [q] at hz'; exact hz'.elim
    | some z =>
      rw [q] at hz'
      have ro := rs a z q
      cases z with
      | lst xs =>
        obtain ⟨⟨p1, p2, p3⟩, h⟩ := hz'
        obtain ⟨vs, e1, q1⟩ := ro
        obtain ⟨its, rv, pl, _⟩ := I.list (.inl (.inl e1))
        have vr := RpA.vr I xs vs its p2 q1 rv
        refine notIn_listAt _ pl.isList (items_eq (us := its.toArray) (ds := xs) vr (Rp.vr I d x v p1 r1 rx) p3 hu) ?_
        rw [any_arr (us := its.toArray) vr]
        exact fin I h
      | fls xs => exact hz'.elim
      | dct kvs => exact dd_notIn (by omega) I (RdD.of_dct ro) hz'.1 r1 rx fun s' I' => fin I' hz'.2
      | fdc ho kvs => exact dd_notIn (by omega) I ro.2 hz'.1 r1 rx fun s' I' => fin I' hz'.2
      | ins C fs => exact hz'.elim
  | str z =>
    obtain ⟨c, rfl, h⟩ := hz
    cases r1; cases r2
    exact op_notIn_sign pins s σ H _ _ v u Q I rx ry ⟨c, z, rfl, rfl, hq.here rs (.bl _) h⟩
  | _ => exact hz.elim
theorem atI_rp {K : PySem.W.Frag} {H : Hp} {vs : List V} {ds : List D} {i : Int} {d : D} (r : RpA K H vs ds) (h : atI ds i = some d) : ∃ v, atI vs i = some v ∧ Rp K H v d := by
  unfold atI at h ⊢
  rw [r.length]
  cases e : ixN ds.length i with
  | none => rw [e] at h; cases h
  | some j =>
    rw [e] at h
    exact r.get h
theorem dict_ty {pins : List (Addr × Obj)} {σ : L2.St} {H : Hp} {s : Shared} {a : Addr} {kvs : List (D × D)} (I : L2.Inv X pins σ H s) (rd : RdD X.K X.w H a kvs) : s.TypeIs (.ref a) "dict" := by
  rcases (rd.views I).2.2 with ⟨vs, _, dd⟩ | ⟨vs, _, dd⟩
  · exact dd.typeIs
  · exact dd.typeIs
theorem ix_z (hu : X.A.units + 9 < cLine) : IxR X (li2 X.K X.w zIx) := by
  rintro value slice pins s σ H x y v u Q I rx ry ⟨d, e, S, Qz, r1, r2, rs, hz, hq⟩ hs
  cases d with
  | tup xs =>
    obtain ⟨i, z, rfl, h1, h2⟩ := hz
    obtain ⟨a, vs, rfl, s1, q1⟩ := r1.tup_of
    cases r2
    obtain ⟨w', e1, e2⟩ := atI_rp q1 h1
    exact ix_tup value slice pins s σ H _ _ v u Q I rx ry ⟨a, vs, i, w', rfl, rfl, s1, e1, hq.here rs e2 h2⟩ hs
  | str z =>
    obtain ⟨i, c, rfl, h0, h1, h2⟩ := hz
    cases r1; cases r2
    exact ix_str value slice pins s σ H _ _ v u Q I rx ry ⟨z, i, c, rfl, rfl, h0, h1, hq.here rs (.str _) h2⟩ hs
  | ref a =>
    cases r1
    have hz' : (match S a with
      | some (.lst xs) => ∃ i x, e = .int i ∧ atI xs i = some x ∧ Qz x S
      | some (.fls xs) => ∃ i x, e = .int i ∧ atI xs i = some x ∧ Qz x S
      | some (.dct kvs) => KF kvs e ∧ ∃ x, zget kvs e = some x ∧ Qz x S
      | some (.fdc _ kvs) => KF kvs e ∧ ∃ x, zget kvs e = some x ∧ Qz x S
      | _ => False) := hz
    cases q : S a with
    | none => rw [q] at hz'; exact hz'.elim
    | some z =>
      rw [q] at hz'
      have ro := rs a z q
      have dcase : ∀ kvs, RdD X.K X.w H a kvs → (KF kvs e ∧ ∃ x, zget kvs e = some x ∧ Qz x S) → wpAny (model X.prog X.w) X.A (subscriptTail value slice v u) (EP X pins σ Q) X.xe s := fun kvs rd ⟨kf, x, h1, h2⟩ => by
        cases rx
        exact tail_any (dict_ty I rd) PySem.F.slot_dict_getitem.lookup (dd_get hu I rd kf r2 ry h1 fun v' w' s' I' rp rl => ⟨v', H, I', rl, hq.here rs rp h2⟩) hs
      cases z with
      | lst xs =>
        obtain ⟨i, z, rfl, h1, h2⟩ := hz'
        cases r2
        obtain ⟨vs, e1, q1⟩ := ro
        obtain ⟨w', e3, e2⟩ := atI_rp q1 h1
        exact ix_list value slice pins s σ H _ _ v u Q I rx ry ⟨a, vs, i, w', rfl, rfl, .inl (.inl e1), e3, hq.here rs e2 h2⟩ hs
      | fls xs =>
        obtain ⟨i, z, rfl, h1, h2⟩ := hz'
        cases r2
        obtain ⟨vs, e1, q1⟩ := ro
        obtain ⟨w', e3, e2⟩ := atI_rp q1 h1
        exact ix_list value slice pins s σ H _ _ v u Q I rx ry ⟨a, vs, i, w', rfl, rfl, .inl e1, e3, hq.here rs e2 h2⟩ hs
      | dct kvs => exact dcase kvs (RdD.of_dct ro) hz'
      | fdc ho kvs => exact dcase kvs ro.2 hz'
      | ins C fs => exact hz'.elim
  | _ => exact hz.elim
theorem ze_ix {a b : Expr} {za zb : ZTE} {pos : Pos} (hu : X.A.units + 9 < cLine) (ha : ZE X a za) (hb : ZE X b zb) (hs : PlainIx b) : ZE X (.Subscript a b pos) (zOp zIx za zb) := (pe_ix (ix_z hu) ha hb hs).im fun _ _ _ => op_im
end

/-! ### slices -/
abbrev ZTO := Env → Store → (Option Int → Store → Prop) → Prop
def zNoPart : ZTO := fun _ S Q => Q none S
def zPart (z : ZTE) : ZTO := fun δ S Q => z δ S fun d S1 => ∃ i, d = .int i ∧ Q (some i) S1
def cutD (xs : List D) (lo hi : Option Int) : List D := (xs.drop (HT.sIx xs.length 0 lo)).take (HT.sIx xs.length xs.length hi - HT.sIx xs.length 0 lo)
def zSl (d : D) (lo hi : Option Int) (S : Store) (Q : ZK) : Prop := match d with
  | .tup xs => Q (.tup (cutD xs lo hi)) S
  | .str z => z.length ≤ sizeLine ∧ Q (.str (cutS z lo hi)) S
  | .ref a => ∃ xs, S a = some (.lst xs) ∧ ∀ p, S p = none → Q (.ref p) (zup S p (.lst (cutD xs lo hi)))
  | _ => False
def zSlice (z : ZTE) (lo hi : ZTO) : ZTE := fun δ S Q => z δ S fun d S1 => lo δ S1 fun l S2 => hi δ S2 fun h S3 => zSl d l h S3 Q
theorem RpA.cut {K : PySem.W.Frag} {H : Hp} {vs : List V} {ds : List D} (r : RpA K H vs ds) (lo hi : Option Int) : RpA K H (cutV vs lo hi) (cutD ds lo hi) := by
  unfold cutV cutD
  rw [r.length]
  exact (r.drop _).take _
section
variable {X : Cx}
def ZQO (K : PySem.W.Frag) (w : World) (S : Store) (H : Hp) (Qz : Option Int → Store → Prop) (Q : Option Int → Hp → Prop) : Prop := ∀ o S' H', Qz o S' → Fr S S' H H' → RS K w H' S' → Q o H'
def liO (K : PySem.W.Frag) (w : World) (z : ZTO) : TO := fun σ H Q => ∃ δ S Qz, EnvR K H σ δ ∧ RS K w H S ∧ z δ S Qz ∧ ZQO K w S H Qz Q
abbrev ZPO (X : Cx) (e : Option Expr) (z : ZTO) : Prop := PO X e (liO X.K X.w z)
theorem PO.im {X : Cx} {e : Option Expr} {t t' : TO} (h : PO X e t) (w : ∀ σ H Q, t' σ H Q → t σ H Q) : PO X e t' := ⟨fun pins s σ H Q I q => h.run pins s σ H Q I (w σ H Q q)⟩
theorem zpo_none : ZPO X none zNoPart := PO.im po_none fun σ H Q ⟨δ, S, Qz, he, hs, hz, hq⟩ => hq none S H hz Fr.refl hs
theorem zpo_some {e : Expr} {z : ZTE} (h : ZE X e z) : ZPO X (some e) (zPart z) := PO.im (po_some h) fun σ H Q ⟨δ, S, Qz, he, hs, hz, hq⟩ => ⟨δ, S, _, he, hs, hz, fun d S1 v H1 ⟨i, ei, h1⟩ f1 r1 s1 => by
  subst ei
  exact ⟨i, r1.int_of, hq (some i) S1 H1 h1 f1 s1⟩⟩
def liSl (K : PySem.W.Frag) (w : World) : V → Option Int → Option Int → Hp → VK → Prop := fun x lo hi H Q => ∃ d S Qz, Rp K H x d ∧ RS K w H S ∧ zSl d lo hi S Qz ∧ ZQ K w S H Qz Q
theorem sl_z : SlR X (liSl X.K X.w) := by
  rintro pins s σ H x v vl vu lo hi sl Q I rx hs pl pu ⟨d, S, Qz, r1, rs, hz, hq⟩
  cases d with
  | tup xs =>
    obtain ⟨a, vs, rfl, s1, q1⟩ := r1.tup_of
    refine sl_tupA pins s σ H _ v vl vu lo hi sl Q I rx hs pl pu ⟨a, vs, rfl, s1, fun hw => ?_, fun _ => hq.tup rs (q1.cut lo hi) hz⟩
    have e : cutD xs lo hi = xs := by
      unfold cutD
      rw [← q1.length, hw.1, hw.2]
      simp [q1.length]
    exact hq.here rs (.tup s1 q1) (by rw [← e]; exact hz)
  | str z =>
    cases r1
    exact sl_str pins s σ H _ v vl vu lo hi sl Q I rx hs pl pu ⟨z, rfl, hz.1, hq.here rs (.str _) hz.2⟩
  | ref a =>
    cases r1
    obtain ⟨xs, h1, h2⟩ := hz
    obtain ⟨vs, e1, q1⟩ := rs.lst_at h1
    exact sl_list pins s σ H _ v vl vu lo hi sl Q I rx hs pl pu ⟨a, vs, rfl, .inl (.inl e1), hq.lst rs (q1.cut lo hi) h2⟩
  | _ => exact hz.elim
theorem ze_slice {e : Expr} {lo hi : Option Expr} {z : ZTE} {zl zh : ZTO} {pos p2 : Pos} (he : ZE X e z) (hl : ZPO X lo zl) (hh : ZPO X hi zh) : ZE X (.Subscript e (.Slice lo hi none p2) pos) (zSlice z zl zh) :=
  (pe_slice sl_z he hl hh).im fun σ H Q ⟨δ, S, Qz, he, hs, hz, hq⟩ => by
    refine ⟨δ, S, _, he, hs, hz, fun d S1 v H1 h1 f1 r1 s1 => ?_⟩
    refine ⟨δ, S1, _, he.mono (hs.tup f1), s1, h1, fun l S2 H2 h2 f2 s2 => ?_⟩
    refine ⟨δ, S2, _, (he.mono (hs.tup f1)).mono (s1.tup f2), s2, h2, fun h S3 H3 h3 f3 s3 => ?_⟩
    exact ⟨d, S3, Qz, Rp.mono (s2.tup f3) _ _ (Rp.mono (s1.tup f2) _ _ r1), s3, h3, ((hq.aft f1).aft f2).aft f3⟩
def zRevL (z : ZTE) : ZTE := fun δ S Q => z δ S fun d S1 => ∃ a xs, d = .ref a ∧ S1 a = some (.lst xs) ∧ ∀ p, S1 p = none → Q (.ref p) (zup S1 p (.lst xs.reverse))
theorem ze_revL {e : Expr} {z : ZTE} {k : Nat} {p1 p2 p3 pos : Pos} (he : ZE X e z) : ZE X (.Subscript e (.Slice none none (some (.UnaryOp .USub (.Constant (.int 1) k p1) p2)) p3) pos) (zRevL z) :=
  (pe_revL he).im fun σ H Q ⟨δ, S, Qz, he, hs, hz, hq⟩ => ⟨δ, S, _, he, hs, hz, fun d S1 v H1 ⟨a, xs, ed, e1, h1⟩ f1 r1 s1 => by
    subst ed
    cases r1
    obtain ⟨vs, e2, q2⟩ := s1.lst_at e1
    exact ⟨a, vs, rfl, .inl (.inl e2), (hq.aft f1).lst s1 q2.reverse h1⟩⟩
end

/-! ### a[i] = v -/
abbrev ZTSet := D → D → D → Store → (Store → Prop) → Prop
def zSet : ZTSet := fun o i v S Q => match o with
  | .ref a => match S a with
    | some (.lst xs) => ∃ k j, i = .int k ∧ ixN xs.length k = some j ∧ Q (zup S a (.lst (xs.set j v)))
    | some (.dct kvs) => KF kvs i ∧ kvs.length < sizeLine ∧ Q (zup S a (.dct (zput kvs i v)))
    | _ => False
  | _ => False
def ZQU (K : PySem.W.Frag) (w : World) (S : Store) (H : Hp) (Qz : Store → Prop) (Q : Hp → Prop) : Prop := ∀ S' H', Qz S' → Fr S S' H H' → RS K w H' S' → Q H'
def liSet (K : PySem.W.Frag) (w : World) (z : ZTSet) : TSet := fun x y u H Q => ∃ d e f S Qz, Rp K H x d ∧ Rp K H y e ∧ Rp K H u f ∧ RS K w H S ∧ z d e f S Qz ∧ ZQU K w S H Qz Q
section
variable {X : Cx}
theorem set_z (hu : X.A.units + 9 < cLine) : PSet X (liSet X.K X.w zSet) := by
  rintro pins s σ H o i v ov iv u Q I r1 r2 r3 ⟨d, e, f, S, Qz, p1, p2, p3, rs, hz, hq⟩
  cases d with
  | ref a =>
    cases p1
    have hz' : (match S a with
      | some (.lst xs) => ∃ k j, e = .int k ∧ ixN xs.length k = some j ∧ Qz (zup S a (.lst (xs.set j f)))
      | some (.dct kvs) => KF kvs e ∧ kvs.length < sizeLine ∧ Qz (zup S a (.dct (zput kvs e f)))
      | _ => False) := hz
    cases q : S a with
    | none => rw [q] at hz'; exact hz'.elim
    | some z =>
      rw [q] at hz'
      have ro := rs a z q
      cases z with
      | lst xs =>
        obtain ⟨k, j, rfl, hj, h⟩ := hz'
        cases p2
        obtain ⟨vs, e1, q1⟩ := ro
        refine set_list pins s σ H _ _ v ov iv u Q I r1 r2 r3 ⟨a, vs, k, j, rfl, rfl, e1, by rw [q1.length]; exact hj, hq _ _ h (Fr.write q) (rs.write q ⟨_, upd_same, RpA.mono (rs.tupw q) _ _ (q1.set j p3)⟩)⟩
      | dct kvs =>
        cases r1
        exact dd_set hu I ro hz'.1 p2 r2 p3 r3 hz'.2.1 fun ho s' I' ro' => ⟨_, I', hq _ _ hz'.2.2 (Fr.write q) (rs.write q ro')⟩
      | _ => exact hz'.elim
  | _ => exact hz.elim
end
end Z
/-! Z6: targets, stores. -/
namespace Z
open PySem PySem.Spec PyProof.Rows L2 PySem.SeqAt

/-! ### targets -/
abbrev ZTG := D → Env → Store → (Env → Store → Prop) → Prop
abbrev ZTGs := List D → Env → Store → (Env → Store → Prop) → Prop
def liG (K : PySem.W.Frag) (w : World) (z : ZTG) : TG := fun x σ H Q => ∃ d δ S Qz, Rp K H x d ∧ EnvR K H σ δ ∧ RS K w H S ∧ z d δ S Qz ∧ ZQN K w S H Qz Q
def liGs (K : PySem.W.Frag) (w : World) (z : ZTGs) : TGs := fun xs σ H Q => ∃ ds δ S Qz, RpA K H xs ds ∧ EnvR K H σ δ ∧ RS K w H S ∧ z ds δ S Qz ∧ ZQN K w S H Qz Q
abbrev ZG (X : Cx) (e : Expr) (z : ZTG) : Prop := PG X e (liG X.K X.w z)
abbrev ZGs (X : Cx) (es : List Expr) (z : ZTGs) : Prop := PGs X es (liGs X.K X.w z)
theorem _root_.L2.PG.im {X : Cx} {e : Expr} {t t' : TG} (h : PG X e t) (w : ∀ v σ H Q, t' v σ H Q → t v σ H Q) : PG X e t' := ⟨fun pins s σ H v u Q I r q => h.run pins s σ H v u Q I r (w v σ H Q q)⟩
theorem _root_.L2.PGs.im {X : Cx} {e : List Expr} {t t' : TGs} (h : PGs X e t) (w : ∀ v σ H Q, t' v σ H Q → t v σ H Q) : PGs X e t' := ⟨fun pins s σ H v u Q I r q => h.run pins s σ H v u Q I r (w v σ H Q q)⟩
def zgName (i : Nat) : ZTG := fun d δ S Q => Q (δ.set i (some d)) S
def zgNil : ZTGs := fun ds δ S Q => ds = [] ∧ Q δ S
def zgCons (t : ZTG) (u : ZTGs) : ZTGs := fun ds δ S Q => ∃ d r, ds = d :: r ∧ t d δ S fun δ' S' => u r δ' S' Q
def zgTup (n : Nat) (t : ZTGs) : ZTG := fun d δ S Q => match d with
  | .tup ds => ds.length = n ∧ t ds δ S Q
  | .ref a => ∃ ds, S a = some (.lst ds) ∧ ds.length = n ∧ t ds δ S Q
  | _ => False
def zgSub (to ti : ZTE) : ZTG := fun d δ S Q => to δ S fun o S1 => ti δ S1 fun i S2 => zSet o i d S2 fun S3 => Q δ S3
def zAsg (z : ZTE) (g : ZTG) : ZTS := fun E δ S => z δ S fun d S1 => g d δ S1 E.nx
section
variable {X : Cx} {pos tpos : Pos} {e o i a b : Expr} {zo zi zv z : ZTE} {g : ZTG}
theorem zg_name {i : Nat} {x : Str} (hN : X.N.Nodup) (hi : X.N[i]? = some x) (hx : Loc X.env.scope x) (hf : X.fn x = true ∨ X.env.scope.names.lookup x = some .local := by first | exact .inl rfl | exact .inr rfl | assumption) : ZG X (.Name x pos) (zgName i) :=
  (pg_name hN hi hx hf).im fun v σ H Q ⟨d, δ, S, Qz, r, he, hs, hz, hq⟩ => hq _ S _ H hz Fr.refl (he.set r) hs
theorem zgs_nil : ZGs X [] zgNil := pgs_nil.im fun v σ H Q ⟨ds, δ, S, Qz, r, he, hs, ⟨e, hz⟩, hq⟩ => by
  subst e
  cases r
  exact ⟨rfl, hq _ S _ H hz Fr.refl he hs⟩
theorem zgs_cons {e : Expr} {es : List Expr} {t : ZTG} {u : ZTGs} (h1 : ZG X e t) (h2 : ZGs X es u)
    (hs : (assignEach (e :: es) X.env).map (·.2) = assign e X.env :: (assignEach es X.env).map (·.2) := by rfl) : ZGs X (e :: es) (zgCons t u) := by
  refine (pgs_cons h1 h2 hs).im fun v σ H Q ⟨ds, δ, S, Qz, r, he, hs, ⟨d, ds', ed, hz⟩, hq⟩ => ?_
  subst ed
  cases r with
  | cons r1 r2 => exact ⟨_, _, rfl, d, δ, S, _, r1, he, hs, hz, fun δ' S' σ' H' h1 f1 e1 s1 => ⟨ds', δ', S', Qz, RpA.mono (hs.tup f1) _ _ r2, e1, s1, h1, hq.aft f1⟩⟩
theorem zg_tup {es : List Expr} {k : Nat} {t : ZTGs} {n : Nat} (hc : X.calm = true) (h : ZGs X es t)
    (hn : (assignEach es X.env).length = n := by rfl) (hst : (assignEach es X.env).findIdx? (·.1) = none := by rfl) : ZG X (.Tuple es k pos) (zgTup n t) := by
  refine ⟨fun pins s σ H v u Q I r ⟨d, δ, S, Qz, rp, he, hs, hz, hq⟩ => ?_⟩
  cases d with
  | tup ds =>
    obtain ⟨a, vs, rfl, s1, q1⟩ := rp.tup_of
    exact (pg_tup hc h hn hst).run pins s σ H _ u Q I r ⟨a, vs, rfl, s1, by rw [q1.length]; exact hz.1, ds, δ, S, Qz, q1, he, hs, hz.2, hq⟩
  | ref a =>
    cases rp
    obtain ⟨ds, e1, e2, e3⟩ := hz
    obtain ⟨vs, h1, h2⟩ := hs.lst_at e1
    exact (pg_unl hc h hn hst).run pins s σ H _ u Q I r ⟨a, vs, rfl, .inl (.inl h1), by rw [h2.length]; exact e2, ds, δ, S, Qz, h2, he, hs, e3, hq⟩
  | _ => exact hz.elim
theorem zg_sub (hu : X.A.units + 9 < cLine) (ho : ZE X o zo) (hi : ZE X i zi)
    (ha : ∀ v, assign (.Subscript o i pos) X.env v = (do
      let ov ← holding [v] (eval o X.env)
      let iv ← holding [v, ov] (eval i X.env)
      standAt pos
      holding [v, ov, iv] (setItem ov iv v)
      release [v, ov, iv] []) := by intro _; rfl) : ZG X (.Subscript o i pos) (zgSub zo zi) :=
  (pg_sub ho hi (set_z hu) ha).im fun v σ H Q ⟨d, δ, S, Qz, r, he, hs, hz, hq⟩ => by
    refine ⟨δ, S, _, he, hs, hz, fun o S1 x1 H1 h1 f1 r1 s1 => ?_⟩
    refine ⟨δ, S1, _, he.mono (hs.tup f1), s1, h1, fun i S2 x2 H2 h2 f2 r2 s2 => ?_⟩
    refine ⟨o, i, d, S2, _, Rp.mono (s1.tup f2) _ _ r1, r2, Rp.mono (s1.tup f2) _ _ (Rp.mono (hs.tup f1) _ _ r), s2, h2, fun S3 H3 h3 f3 s3 => ?_⟩
    exact hq δ S3 σ H3 h3 ((f1.trans f2).trans f3) (((he.mono (hs.tup f1)).mono (s1.tup f2)).mono (s2.tup f3)) s3
theorem zs_asg {tg e : Expr} (he : ZE X e z) (hg : ZG X tg g) (hs : swapsWithSole [tg] e pos.line X.env = pure false := by rfl) (hw : swappedStores [tg] e X.env = pure none := by rfl)
    (hx : (assignEach [tg] X.env).map (·.2) = [assign tg X.env] := by rfl) : ZS X (.Assign [tg] e pos) (zAsg z g) :=
  (ps_asg he hg hs hw hx).im fun F σ H ⟨δ, S, E, he, hs, hz, hd⟩ => ⟨δ, S, _, he, hs, hz, fun d S1 x H1 h1 f1 r1 s1 => ⟨d, δ, S1, _, r1, he.mono (hs.tup f1), s1, h1, hd.nx.aft f1⟩⟩
theorem zs_set {i : Nat} {x : Str} {e : Expr} {pos' : Pos} (hN : X.N.Nodup) (hi : X.N[i]? = some x) (hx : Loc X.env.scope x) (he : ZE X e z) (hs : swapsWith e (some (.Name x pos')) pos.line X.env = pure false := by rfl)
    (hf : X.fn x = true ∨ X.env.scope.names.lookup x = some .local := by first | exact .inl rfl | exact .inr rfl | assumption) : ZS X (.Assign [.Name x pos'] e pos) (zAsg z (zgName i)) :=
  (ps_set hN hi hx he hs hf).im fun F σ H ⟨δ, S, E, he, hs, hz, hd⟩ => ⟨δ, S, _, he, hs, hz, fun d S1 x H1 h1 f1 r1 s1 => hd.nx _ S1 _ H1 h1 f1 ((he.mono (hs.tup f1)).set r1) s1⟩

/-! ### op= -/
def zIAdd : ZR2 := fun d e S Q => match d, e with
  | .int i, .int j => Q (.int (i + j)) S
  | .str a, .str b => a.length + b.length ≤ sizeLine ∧ Q (.str (a ++ b)) S
  | .ref a, .ref b => ∃ xs ys, S a = some (.lst xs) ∧ S b = some (.lst ys) ∧ xs.length + ys.length ≤ sizeLine ∧ Q (.ref a) (zup S a (.lst (xs ++ ys)))
  | _, _ => False
theorem iop_zAdd : OpR X (inplaceOp .Add) (li2 X.K X.w zIAdd) := by
  rintro pins s σ H x y v u Q I rx ry ⟨d, e, S, Qz, r1, r2, rs, hz, hq⟩
  cases d with
  | int i => cases e with
    | int j => cases r1; cases r2; exact iop_add pins s σ H _ _ v u Q I rx ry ⟨i, j, rfl, rfl, hq.here rs (.int _) hz⟩
    | _ => exact hz.elim
  | str i => cases e with
    | str j => cases r1; cases r2; exact iop_add_str pins s σ H _ _ v u Q I rx ry ⟨i, j, rfl, rfl, hz.1, hq.here rs (.str _) hz.2⟩
    | _ => exact hz.elim
  | ref a => cases e with
    | ref b =>
      cases r1; cases r2
      obtain ⟨xs, ys, h1, h2, hl, k⟩ := hz
      obtain ⟨vs, e1, q1⟩ := rs.lst_at h1
      obtain ⟨ws, e2, q2⟩ := rs.lst_at h2
      exact iop_ext pins s σ H _ _ v u Q I rx ry ⟨a, b, vs, ws, rfl, rfl, e1, e2, by rw [q1.length, q2.length]; exact hl, hq _ _ _ _ k (Fr.write h1) (.ref a) (rs.write h1 ⟨_, upd_same, RpA.mono (rs.tupw h1) _ _ (q1.append q2)⟩)⟩
    | _ => exact hz.elim
  | _ => exact hz.elim
theorem iop_zSub : OpR X (inplaceOp .Sub) (li2 X.K X.w zSub) := op_zI0 iop_sub (fun _ _ _ => .int _) fun d e S Q h => by
  cases d <;> cases e <;> first | exact ⟨_, _, rfl, rfl, h⟩ | exact h.elim
theorem iop_zMul : OpR X (inplaceOp .Mult) (li2 X.K X.w fun d e S Q => match d, e with
  | .int i, .int j => CMul i j ∧ Q (.int (i * j)) S
  | _, _ => False) := op_zI iop_mul (fun _ _ _ => .int _) fun d e S Q h => by
  cases d <;> cases e <;> first | exact ⟨_, _, rfl, rfl, h.1, h.2⟩ | exact h.elim
/-- name op= e -/
def zAug (i : Nat) (r : ZR2) (z : ZTE) : ZTS := fun E δ S => ∃ d, δ[i]? = some (some d) ∧ z δ S fun e S1 => r d e S1 fun f S2 => E.nx (δ.set i (some f)) S2
theorem zs_aug {i : Nat} {x : Str} {op : Operator} {r : ZR2} {pos' : Pos} (hN : X.N.Nodup) (hi : X.N[i]? = some x) (hx : Loc X.env.scope x) (he : ZE X e z) (ho : OpR X (inplaceOp op) (li2 X.K X.w r))
    (hf : X.fn x = true ∨ X.env.scope.names.lookup x = some .local := by first | exact .inl rfl | exact .inr rfl | assumption) : ZS X (.AugAssign (.Name x pos') op e pos) (zAug i r z) :=
  (ps_aug hN hi hx he (show PIp X op (li2 X.K X.w r) from ho) hf).im fun F σ H ⟨δ, S, E, he, hs, ⟨d, e1, hz⟩, hd⟩ => by
    obtain ⟨v, e2, r1⟩ := he.2 _ _ e1
    refine ⟨v, e2, δ, S, _, he, hs, hz, fun e S1 y H1 h1 f1 r2 s1 => ?_⟩
    refine ⟨d, e, S1, _, Rp.mono (hs.tup f1) _ _ r1, r2, s1, h1, fun f S2 z H2 h2 f2 r3 s2 => ?_⟩
    exact hd.nx _ S2 _ H2 h2 (f1.trans f2) (((he.mono (hs.tup f1)).mono (s1.tup f2)).set r3) s2
def zGetA : ZR2 := fun d e S Q => match d with
    | .ref a => match S a with
      | some (.lst xs) => ∃ i x, e = .int i ∧ 0 ≤ i ∧ atI xs i = some x ∧ Q x S
      | some (.dct kvs) => KF kvs e ∧ ∃ x, zget kvs e = some x ∧ Q x S
      | _ => False
    | _ => False
/-- o[i] op= e -/
theorem get_z (hu : X.A.units + 9 < cLine) : PGet X (li2 X.K X.w zGetA) := by
  rintro pins s σ H o i ov iv Q I r1 r2 ⟨d, e, S, Qz, p1, p2, rs, hz, hq⟩
  cases d with
  | ref a =>
    cases p1
    cases (show ov = Value.ref a from r1)
    have hz' : (match S a with
      | some (.lst xs) => ∃ i x, e = .int i ∧ 0 ≤ i ∧ atI xs i = some x ∧ Qz x S
      | some (.dct kvs) => KF kvs e ∧ ∃ x, zget kvs e = some x ∧ Qz x S
      | _ => False) := hz
    cases q : S a with
    | none => rw [q] at hz'; exact hz'.elim
    | some z =>
      rw [q] at hz'
      have ro := rs a z q
      cases z with
      | lst xs =>
        obtain ⟨i, x, rfl, h0, h1, h2⟩ := hz'
        cases p2
        obtain ⟨t, rfl⟩ := r2
        obtain ⟨vs, e1, q1⟩ := ro
        obtain ⟨w', e3, e2⟩ := atI_rp q1 h1
        obtain ⟨its, rv, pl, hl⟩ := I.list (.inl (.inl e1))
        obtain ⟨j, g1, g2, g3, g4, g5⟩ := atI_get e3
        obtain ⟨u', eu, ru⟩ := rv.get g2
        have hl := rv.length
        have hn := line63
        have hj : i.toNat = j := by
          rw [seqIndex_of h0 g5] at g1
          exact Option.some.inj g1
        exact wpAny_getItem_list pl.isList h0 (by omega) (by rw [hj]; simpa using eu) ⟨w', H, I, ru, hq.here rs e2 h2⟩
      | dct kvs =>
        obtain ⟨kf, x, h1, h2⟩ := hz'
        exact dd_get hu I (RdD.of_dct ro) kf p2 r2 h1 fun v' w' s' I' rp rl => ⟨v', H, I', rl, hq.here rs rp h2⟩
      | _ => exact hz'.elim
  | _ => exact hz.elim
def zAugS (zo zi : ZTE) (r : ZR2) (z : ZTE) : ZTS := fun E δ S => zo δ S fun o S1 => zi δ S1 fun i S2 => zGetA o i S2 fun x S3 => z δ S3 fun y S4 => r x y S4 fun f S5 => zSet o i f S5 fun S6 => E.nx δ S6
theorem zs_augS {op : Operator} {r : ZR2} (hu : X.A.units + 9 < cLine) (ho : ZE X o zo) (hi : ZE X i zi) (he : ZE X e z) (hop : OpR X (inplaceOp op) (li2 X.K X.w r))
    (ha : ∀ ov iv new, augStore i ov iv new = (do holding [new, ov, iv] (setItem ov iv new); release [new, ov, iv] []; pure .next) := by intros; rfl) : ZS X (.AugAssign (.Subscript o i tpos) op e pos) (zAugS zo zi r z) :=
  (ps_augS ho hi (get_z hu) he (show PIp X op (li2 X.K X.w r) from hop) (set_z hu) ha).im fun F σ H ⟨δ, S, E, he, hs, hz, hd⟩ => by
    refine ⟨δ, S, _, he, hs, hz, fun o S1 x1 H1 h1 f1 r1 s1 => ?_⟩
    have e1 := he.mono (hs.tup f1)
    refine ⟨δ, S1, _, e1, s1, h1, fun i S2 x2 H2 h2 f2 r2 s2 => ?_⟩
    have e2 := e1.mono (s1.tup f2)
    refine ⟨o, i, S2, _, Rp.mono (s1.tup f2) _ _ r1, r2, s2, h2, fun x S3 x3 H3 h3 f3 r3 s3 => ?_⟩
    have e3 := e2.mono (s2.tup f3)
    refine ⟨δ, S3, _, e3, s3, h3, fun y S4 x4 H4 h4 f4 r4 s4 => ?_⟩
    have e4 := e3.mono (s3.tup f4)
    refine ⟨x, y, S4, _, Rp.mono (s3.tup f4) _ _ r3, r4, s4, h4, fun f S5 x5 H5 h5 f5 r5 s5 => ?_⟩
    have e5 := e4.mono (s4.tup f5)
    have m1 := Rp.mono (s4.tup f5) _ _ (Rp.mono (s3.tup f4) _ _ (Rp.mono (s2.tup f3) _ _ (Rp.mono (s1.tup f2) _ _ r1)))
    have m2 := Rp.mono (s4.tup f5) _ _ (Rp.mono (s3.tup f4) _ _ (Rp.mono (s2.tup f3) _ _ r2))
    refine ⟨o, i, f, S5, _, m1, m2, r5, s5, h5, fun S6 H6 h6 f6 s6 => ?_⟩
    exact hd.nx δ S6 σ H6 h6 (((((f1.trans f2).trans f3).trans f4).trans f5).trans f6) (e5.mono (s5.tup f6)) s6

/-! ### del o[i] -/
def zDelI : D → D → Store → (Store → Prop) → Prop := fun o i S Q => match o with
  | .ref a => match S a with
    | some (.lst xs) => ∃ k j, i = .int k ∧ ixN xs.length k = some j ∧ Q (zup S a (.lst (xs.eraseIdx j)))
    | some (.dct kvs) => KF kvs i ∧ zhas kvs i = true ∧ Q (zup S a (.dct (zdel kvs i)))
    | _ => False
  | _ => False
def zDel (zo zi : ZTE) : ZTS := fun E δ S => zo δ S fun o S1 => zi δ S1 fun i S2 => zDelI o i S2 fun S3 => E.nx δ S3
theorem zs_del (hu : X.A.units + 9 < cLine) (ho : ZE X o zo) (hi : ZE X i zi) : ZS X (.Delete [.Subscript o i tpos] pos) (zDel zo zi) := by
  refine ⟨fun pins s σ H F I ⟨δ, S, E, he, hs, hz, hd⟩ => ?_⟩
  refine wpAny_Delete (wpAny_deleteEach_cons (wpAny_delete_Subscript (thn (ho.run pins s σ H (fun x H1 => ∃ d S1, (zi δ S1 fun i S2 => zDelI d i S2 fun S3 => E.nx δ S3) ∧ Fr S S1 H H1 ∧ Rp X.K H1 x d ∧ RS X.K X.w H1 S1) I ⟨δ, S, _, he, hs, hz, fun o S1 x H1 h1 f1 r1 s1 => ⟨o, S1, h1, f1, r1, s1⟩⟩) fun u s1 ⟨x, H1, I1, rx, od, S1, h1, f1, r1, rs1⟩ => ?_)))
  have e1 := he.mono (hs.tup f1)
  refine thn (hi.run pins s1 σ H1 (fun y H2 => ∃ i S2, (zDelI od i S2 fun S3 => E.nx δ S3) ∧ Fr S1 S2 H1 H2 ∧ Rp X.K H2 y i ∧ RS X.K X.w H2 S2) I1 ⟨δ, S1, _, e1, rs1, h1, fun i S2 y H2 h2 f2 r2 s2 => ⟨i, S2, h2, f2, r2, s2⟩⟩) fun iv s2 ⟨y, H2, I2, ry, id, S2, h2, f2, r2, rs2⟩ => ?_
  have e2 := e1.mono (rs1.tup f2)
  have r1' := Rp.mono (rs1.tup f2) _ _ r1
  have fin : ∀ {ho : HO} {zo' z : ZO} {a : Addr} {s' : Shared}, L2.Inv X pins σ (upd H2 a ho) s' → S2 a = some z → RO X.K X.w (upd H2 a ho) a zo' → E.nx δ (zup S2 a zo') → SP X pins F .next s' := fun {ho zo' z a s'} I' es ro h =>
    ⟨σ, _, I', hd.nx δ _ σ _ h ((f1.trans f2).trans (Fr.write es)) (e2.mono (rs2.tupw es)) (rs2.write es ro)⟩
  cases od with
  | ref a =>
    cases r1'
    cases (show u = Value.ref a from rx)
    have hz' : (match S2 a with
      | some (.lst xs) => ∃ k j, id = .int k ∧ ixN xs.length k = some j ∧ E.nx δ (zup S2 a (.lst (xs.eraseIdx j)))
      | some (.dct kvs) => KF kvs id ∧ zhas kvs id = true ∧ E.nx δ (zup S2 a (.dct (zdel kvs id)))
      | _ => False) := h2
    cases q : S2 a with
    | none => rw [q] at hz'; exact hz'.elim
    | some z =>
      rw [q] at hz'
      have ro := rs2 a z q
      cases z with
      | dct kvs => exact dd_del hu I2 ro hz'.1 r2 ry hz'.2.1 fun ho s' I' ro' => wpAny_deleteEach_nil (fin I' q ro' hz'.2.2)
      | lst xs =>
        obtain ⟨k, j, rfl, hj, h⟩ := hz'
        cases r2
        obtain ⟨vs, e1, q1⟩ := ro
        obtain ⟨t, rfl⟩ := (show ∃ t, iv = Value.int k t from ry)
        obtain ⟨g1, g2, g3, g4⟩ := ixN_seq hj
        obtain ⟨_, _, _, hl⟩ := I2.list (.inl (.inl e1))
        have hn := line63
        rw [q1.length] at hl
        exact del_list I2 e1 (by omega) (by omega) (by rw [q1.length]; exact g1) fun s3 I3 => wpAny_deleteEach_nil (fin (zo' := .lst (xs.eraseIdx j)) I3 q ⟨_, upd_same, RpA.mono (rs2.tupw q) _ _ (q1.eraseIdx j)⟩ h)
      | _ => exact hz'.elim
  | _ => exact h2.elim
end
end Z
/-! Z7: what is walked, for, while. -/
namespace Z
open PySem PySem.Spec PyProof.Rows L2 PySem.SeqAt

/-- what must stay while it is walked -/
inductive Src where
  | non | lst (a : Addr) (full : List D) | fdc (a : Addr) (ho : HO) (kvs : List (D × D)) | two (s t : Src)
def Keep : Src → Store → Prop
  | .non, _ => True
  | .lst a xs, S => S a = some (.lst xs) ∨ S a = some (.fls xs)
  | .fdc a ho kvs, S => S a = some (.fdc ho kvs)
  | .two s t, S => Keep s S ∧ Keep t S
structure ItOk (K : PySem.W.Frag) (w : World) (H1 : Hp) (J : It) (src : Src) (ds : List D) : Prop where
  go : ∀ i H S, i < ds.length → (∀ a vs, SqT K H1 a vs → SqT K H a vs) → RS K w H S → Keep src S → J.go i H
  stop : ∀ H S, (∀ a vs, SqT K H1 a vs → SqT K H a vs) → RS K w H S → Keep src S → J.stop ds.length H
  yld : ∀ i H S x H', i < ds.length → (∀ a vs, SqT K H1 a vs → SqT K H a vs) → RS K w H S → Keep src S → J.yld i H x H' → ∃ d, ds[i]? = some d ∧ Rp K H' x d ∧ Fr S S H H' ∧ RS K w H' S
abbrev ZTI := Env → Store → (Src → List D → Store → Prop) → Prop
def liI (K : PySem.W.Frag) (w : World) (z : ZTI) : TI := fun σ H R => ∃ δ S Rz, EnvR K H σ δ ∧ RS K w H S ∧ z δ S Rz ∧ ∀ src ds S1 J H1, Rz src ds S1 → Fr S S1 H H1 → RS K w H1 S1 → ItOk K w H1 J src ds → R J H1
abbrev ZI (X : Cx) (tg e : Expr) (z : ZTI) : Prop := PI X tg e (liI X.K X.w z)
theorem _root_.L2.PI.im {X : Cx} {tg e : Expr} {t t' : TI} (h : PI X tg e t) (w : ∀ σ H R, t' σ H R → t σ H R) : PI X tg e t' := ⟨fun pins s σ H R I r => h.run pins s σ H R I (w σ H R r)⟩
/-- a run over it, made of a Walk -/
theorem ItOk.of {K : PySem.W.Frag} {w : World} {H1 : Hp} {J : It} {src : Src} {ds : List D} {G : Hp → Prop} {Y : Nat → Hp → V → Hp → Prop} (wk : Walk J ds.length G Y) (hg : ∀ H S, (∀ a vs, SqT K H1 a vs → SqT K H a vs) → RS K w H S → Keep src S → G H)
    (hy : ∀ i H S x H', i < ds.length → (∀ a vs, SqT K H1 a vs → SqT K H a vs) → RS K w H S → Keep src S → Y i H x H' → ∃ d, ds[i]? = some d ∧ Rp K H' x d ∧ Fr S S H H' ∧ RS K w H' S) : ItOk K w H1 J src ds where
  go := fun i H S hi h1 h2 h3 => wk.goes i H hi (hg H S h1 h2 h3)
  stop := fun H S h1 h2 h3 => wk.stops H (hg H S h1 h2 h3)
  yld := fun i H S x H' hi h1 h2 h3 y => hy i H S x H' hi h1 h2 h3 (wk.yields i H x H' hi (hg H S h1 h2 h3) y)
theorem RS.keep {K : PySem.W.Frag} {w : World} {H : Hp} {S : Store} {a : Addr} {xs : List D} (rs : RS K w H S) (k : Keep (.lst a xs) S) : ∃ vs, SqL K H a vs ∧ RpA K H vs xs := by
  rcases k with k | k
  · obtain ⟨vs, e, r⟩ := rs _ _ k; exact ⟨vs, .inl (.inl e), r⟩
  · obtain ⟨vs, e, r⟩ := rs _ _ k; exact ⟨vs, .inl e, r⟩
theorem RpA.at? {K : PySem.W.Frag} {H : Hp} : ∀ {vs : List V} {ds : List D}, RpA K H vs ds → ∀ {i : Nat} {v : V}, vs[i]? = some v → ∃ d, ds[i]? = some d ∧ Rp K H v d
  | _, _, .nil, _, _, h => nomatch h
  | _, _, .cons a t, 0, _, h => by cases h; exact ⟨_, rfl, a⟩
  | _, _, .cons a t, i + 1, _, h => RpA.at? t (i := i) h
/-- a row that is walked -/
def ZSrc (K : PySem.W.Frag) (d : D) (S : Store) (src : Src) (xs : List D) : Prop := match d with
  | .tup ys => src = .non ∧ xs = ys
  | .ref a => (src = .lst a xs ∧ Keep (.lst a xs) S) ∨ (src = .non ∧ KS K a xs)
  | _ => False
/-- one reader for lists and tuples -/
theorem rd_seq {K : PySem.W.Frag} {w : World} {H1 : Hp} {S1 : Store} {d : D} {v : V} {src : Src} {xs : List D} (rs : RS K w H1 S1) (r : Rp K H1 v d) (h : ZSrc K d S1 src xs) :
    ∃ a, v = .ref a ∧ ((∃ vs, SqT K H1 a vs ∧ RpA K H1 vs xs ∧ src = .non) ∨ ((∃ vs, SqL K H1 a vs ∧ RpA K H1 vs xs) ∧ ∀ H S, RS K w H S → Keep src S → ∃ vs, SqL K H a vs ∧ RpA K H vs xs)) := by
  cases d with
  | tup ys =>
    obtain ⟨p, vs, rfl, s, rv⟩ := r.tup_of
    obtain ⟨rfl, rfl⟩ := h
    exact ⟨p, rfl, .inl ⟨vs, s, rv, rfl⟩⟩
  | ref a =>
    cases r
    rcases h with ⟨rfl, k⟩ | ⟨rfl, vs, k1, k2⟩
    · exact ⟨a, rfl, .inr ⟨rs.keep k, fun H S rs' k' => rs'.keep k'⟩⟩
    · exact ⟨a, rfl, .inr ⟨⟨vs, k1 _, k2 _⟩, fun H S rs' k' => ⟨vs, k1 _, k2 _⟩⟩⟩
  | _ => exact h.elim
theorem it_tup {K : PySem.W.Frag} {w : World} {H1 : Hp} {a : Addr} {vs : List V} {xs : List D} (s : SqT K H1 a vs) (r : RpA K H1 vs xs) : ItOk K w H1 (Itt K a) .non xs := by
  refine ItOk.of (G := fun H => SqT K H a vs) (Y := YAt vs) (r.length ▸ walk_tup) (fun H S ht _ _ => ht a vs s) fun i H S x H' hi ht rs k y => ?_
  obtain ⟨rfl, y⟩ := y
  obtain ⟨d, e1, e2⟩ := r.at? y
  exact ⟨d, e1, Rp.mono ht _ _ e2, Fr.refl, rs⟩
theorem it_lst {K : PySem.W.Frag} {w : World} {H1 : Hp} {a : Addr} {src : Src} {xs : List D} (s : ∀ H S, RS K w H S → Keep src S → ∃ vs, SqL K H a vs ∧ RpA K H vs xs) : ItOk K w H1 (Itl K a) src xs where
  go := fun i H S hi ht rs k => by
    obtain ⟨vs, h1, h2⟩ := s H S rs k
    exact ⟨vs, vs[i]'(by rw [h2.length]; exact hi), h1, by simp⟩
  stop := fun H S ht rs k => by
    obtain ⟨vs, h1, h2⟩ := s H S rs k
    exact ⟨vs, h1, by rw [h2.length]; exact Nat.le_refl _⟩
  yld := fun i H S x H' hi ht rs k y => by
    obtain ⟨vs, h1, h2⟩ := s H S rs k
    obtain ⟨rfl, y⟩ := y
    obtain ⟨d, e1, e2⟩ := h2.at? (y vs h1)
    exact ⟨d, e1, e2, Fr.refl, rs⟩
def ziSeq (K : PySem.W.Frag) (z : ZTE) : ZTI := fun δ S R => z δ S fun d S1 => ∃ src xs, ZSrc K d S1 src xs ∧ R src xs S1
def ziStr (z : ZTE) : ZTI := fun δ S R => z δ S fun d S1 => ∃ x, d = .str x ∧ R .non (x.cps.toList.map fun c => .str ⟨#[c]⟩) S1
def rangeD (lo : Int) (n : Nat) : List D := (List.range n).map fun i => .int (lo + (i : Nat))
def rangeC (lo c : Int) (n : Nat) : List D := (List.range n).map fun i => .int (lo + (i : Nat) * c)
def ziR1 (t : ZTA) : ZTI := fun δ S R => t δ S fun ds S1 => ∃ j : Int, ds = [.int j] ∧ -(2 ^ 62) ≤ j ∧ j < 2 ^ 62 ∧ R .non (rangeD 0 j.toNat) S1
def ziR2 (t : ZTA) : ZTI := fun δ S R => t δ S fun ds S1 => ∃ i j : Int, ds = [.int i, .int j] ∧ (-(2 ^ 62) ≤ i ∧ i < 2 ^ 62 ∧ -(2 ^ 62) ≤ j ∧ j < 2 ^ 62) ∧ R .non (rangeD i (j - i).toNat) S1
def ziR3 (t : ZTA) : ZTI := fun δ S R => t δ S fun ds S1 => ∃ (i j c : Int) (n : Nat), ds = [.int i, .int j, .int c] ∧ RgC i j c n ∧ R .non (rangeC i c n) S1
theorem rangeD_len {lo : Int} {n : Nat} : (rangeD lo n).length = n := by simp [rangeD]
theorem rangeC_len {lo c : Int} {n : Nat} : (rangeC lo c n).length = n := by simp [rangeC]
theorem it_fn {K : PySem.W.Frag} {w : World} {H1 : Hp} {J : It} {n : Nat} {f : Nat → V} {g : Nat → D} {ds : List D} (wk : Walk J n (fun _ => True) (YFn f)) (hl : ds.length = n) (hr : ∀ H i, Rp K H (f i) (g i)) (hd : ∀ i, i < n → ds[i]? = some (g i)) : ItOk K w H1 J .non ds := by
  subst hl
  refine ItOk.of wk (fun _ _ _ _ _ => trivial) fun i H S x H' hi ht rs k y => ?_
  obtain ⟨rfl, rfl⟩ := y
  exact ⟨_, hd i hi, hr _ i, Fr.refl, rs⟩
theorem ints_of {K : PySem.W.Frag} {H : Hp} {vs : List V} {is : List Int} (r : RpA K H vs (is.map D.int)) : vs = is.map V.int := by
  induction is generalizing vs with
  | nil => cases r; rfl
  | cons i is ih => cases r with | cons a b => cases a; rw [ih b]; rfl
section
variable {X : Cx} {tg e : Expr} {z : ZTE} {t : ZTA} {p pos : Pos}
theorem zi_seq (h : ZE X e z) : ZI X tg e (ziSeq X.K z) := by
  refine ⟨fun pins s σ H R I ⟨δ, S, Rz, he, hs, hz, hq⟩ => ?_⟩
  refine thn (h.run pins s σ H (fun v H1 => ∃ d S1 src xs, ZSrc X.K d S1 src xs ∧ Rz src xs S1 ∧ Fr S S1 H H1 ∧ Rp X.K H1 v d ∧ RS X.K X.w H1 S1) I ⟨δ, S, _, he, hs, hz, fun d S1 v H1 ⟨src, xs, a, b⟩ f1 r1 s1 => ⟨d, S1, src, xs, a, b, f1, r1, s1⟩⟩) fun u s1 ⟨v, H1, I1, ru, d, S1, src, xs, hsrc, hR, f1, r1, rs1⟩ => ?_
  obtain ⟨a, rfl, ⟨vs, q1, q2, rfl⟩ | ⟨⟨vs, q1, q2⟩, q3⟩⟩ := rd_seq rs1 r1 hsrc
  · cases ru
    obtain ⟨its, rv, p, hz⟩ := I1.tuple q1
    refine wpAny_pyIter_tuple (show s1.heap.IsTuple a its.toArray from p) ?_
    exact pi_one (tk := s1.toks) I1 _ (turn_tuple a _) ⟨_, Heap.get?_push_size _ rfl, rfl, rfl⟩ (hq _ _ _ _ _ hR f1 rs1 (it_tup q1 q2))
  · cases ru
    obtain ⟨its, rv, p, hz⟩ := I1.list q1
    refine wpAny_pyIter_list p.isList ?_
    exact pi_one (tk := s1.toks) I1 _ (turn_list a _) ⟨_, Heap.get?_push_size _ rfl, rfl, rfl⟩ (hq _ _ _ _ _ hR f1 rs1 (it_lst q3))
theorem zi_str (h : ZE X e z) : ZI X tg e (ziStr z) :=
  (pi_str h).im fun σ H R ⟨δ, S, Rz, he, hs, hz, hq⟩ => ⟨δ, S, _, he, hs, hz, fun d S1 v H1 ⟨x, ed, hR⟩ f1 r1 s1 => by
    subst ed
    cases r1
    refine ⟨x, rfl, hq _ _ _ _ _ hR f1 s1 ?_⟩
    have hl : (x.cps.toList.map fun c => D.str ⟨#[c]⟩).length = x.cps.size := by simp
    refine ItOk.of (hl ▸ walk_str) (fun _ _ _ _ _ => trivial) fun i H S x' H' hi ht rs k y => ?_
    obtain ⟨rfl, c, hc, rfl⟩ := y
    exact ⟨.str ⟨#[c]⟩, by simp [hc], .str _, Fr.refl, rs⟩⟩
theorem zi_range1 {a : Expr} (hg : Gl X "range") (hm : X.mg "range" = none) (ha : ZA X [a] t) (hs : starEach [a] X.env = [(false, eval a X.env)] := by rfl) : ZI X tg (.Call (.Name "range" p) [a] [] pos) (ziR1 t) :=
  (pi_range1 hg hm ha hs).im fun σ H R ⟨δ, S, Rz, he, hs, hz, hq⟩ => ⟨δ, S, _, he, hs, hz, fun ds S1 vs H1 ⟨j, ed, h1, h2, hR⟩ f1 r1 s1 => by
    subst ed
    refine ⟨j, ints_of (is := [j]) r1, h1, h2, hq _ _ _ _ _ hR f1 s1 (it_fn walk_range rangeD_len (g := fun i => .int (0 + (i : Nat))) (fun H i => .int _) fun i hi => by simp [rangeD, hi])⟩⟩
theorem zi_range2 {a b : Expr} (hg : Gl X "range") (hm : X.mg "range" = none) (ha : ZA X [a, b] t) (hs : starEach [a, b] X.env = [(false, eval a X.env), (false, eval b X.env)] := by rfl) (hs2 : starEach [b] X.env = [(false, eval b X.env)] := by rfl) :
    ZI X tg (.Call (.Name "range" p) [a, b] [] pos) (ziR2 t) :=
  (pi_range2 hg hm ha hs hs2).im fun σ H R ⟨δ, S, Rz, he, hs, hz, hq⟩ => ⟨δ, S, _, he, hs, hz, fun ds S1 vs H1 ⟨i, j, ed, h1, hR⟩ f1 r1 s1 => by
    subst ed
    refine ⟨i, j, ints_of (is := [i, j]) r1, h1, hq _ _ _ _ _ hR f1 s1 (it_fn walk_range rangeD_len (g := fun k => .int (i + (k : Nat))) (fun H i => .int _) fun k hk => by simp [rangeD, hk])⟩⟩
theorem zi_range3 {a b c : Expr} (hg : Gl X "range") (hm : X.mg "range" = none) (ha : ZA X [a, b, c] t)
    (hs : starEach [a, b, c] X.env = (false, eval a X.env) :: starEach [b, c] X.env := by rfl) (hpl : (backTo pos (starEach [b, c] X.env)).any (·.1) = false := by rfl) : ZI X tg (.Call (.Name "range" p) [a, b, c] [] pos) (ziR3 t) :=
  (pi_range3 hg hm ha hs hpl).im fun σ H R ⟨δ, S, Rz, he, hs, hz, hq⟩ => ⟨δ, S, _, he, hs, hz, fun ds S1 vs H1 ⟨i, j, c, n, ed, h1, hR⟩ f1 r1 s1 => by
    subst ed
    refine ⟨i, j, c, n, ints_of (is := [i, j, c]) r1, h1, hq _ _ _ _ _ hR f1 s1 (it_fn walk_rangeC rangeC_len (g := fun k => .int (i + (k : Nat) * c)) (fun H i => .int _) fun k hk => by simp [rangeC, hk])⟩⟩
end

/-! ### enumerate -/
/-- the tuple at a, each item in a new pair -/
def IteT (K : PySem.W.Frag) (a : Addr) : It :=
  ⟨fun i H => ∃ (xs : List V) (x : V), SqT K H a xs ∧ xs[i]? = some x, fun i H v H' => ∃ T x, v = .ref T ∧ H T = none ∧ H' = upd H T (.tup [.int (i : Nat), x]) ∧ ∀ xs, SqT K H a xs → xs[i]? = some x, fun i H => ∃ xs : List V, SqT K H a xs ∧ xs.length = i⟩
theorem turn_enumT {P : Program} {w : World} {K : PySem.W.Frag} {elts : List Expr} {kk : Nat} {tpos : Pos} (a e it : Addr) :
    Turn P w K (.Tuple elts kk tpos) (IteT K a) [e, it] e (fun i h => (∃ old, IsEnum h e it ((i : Nat) : Int) old) ∧ h.IsTupleIter it a i ∧ e ≠ it) where
  mem := by simp
  obj := fun i h st b hb => by
    obtain ⟨⟨old, he⟩, ⟨o, ho, hc, hd⟩, _⟩ := st
    have e' : b = e ∨ b = it := by simpa using hb
    rcases e' with z | z
    · rw [z]; exact ⟨_, he, fun v q => nomatch q⟩
    · rw [z]; exact ⟨o, ho, fun v q => by rw [hd] at q; cases q⟩
  keep := fun i h h' st k => let ⟨⟨old, he⟩, hi, hne⟩ := st; ⟨⟨old, k e (by simp) _ he⟩, hi.at fun o q => k it (by simp) o q, hne⟩
  item := by
    intro X hP hw hK hc i pins s σ H E I hf st hg
    subst hP hw hK
    obtain ⟨⟨old, he⟩, hit, hne⟩ := st
    obtain ⟨xs, x, hq, hx⟩ := hg
    obtain ⟨its, rv, p, hz⟩ := I.tuple hq
    obtain ⟨u, hu, ru⟩ := rv.get hx
    have hel : e < s.heap.objs.size := Heap.lt_size he
    have hil : it < s.heap.objs.size := by obtain ⟨_, q, _⟩ := hit; exact Heap.lt_size q
    have p' : s.heap.IsTuple a its.toArray := p
    have hai : a ≠ it := by
      rintro rfl
      obtain ⟨o1, e1, c1, d1⟩ := hit
      obtain ⟨o2, e2, c2, n2, d2⟩ := p'
      rw [e1] at e2; cases e2
      rw [d1] at d2; cases d2
    have hae : a ≠ e := by
      rintro rfl
      obtain ⟨o2, e2, c2, n2, d2⟩ := p'
      rw [he] at e2; cases e2
      cases d2
    have hlt : i < its.toArray.size := by
      have := (List.getElem?_eq_some_iff.mp hu).1
      simpa using this
    refine wpAny_pyNext_enum_itemC (Draws.tuple (prog := X.prog) (w := X.w) (A := X.A.in1) (show X.A.in1.handled = none from I.ok.hd hc) it a hai its.toArray) he ⟨hit, p'⟩ hlt hne (by simp [hne, Ne.symm hae]) fun x' h' tk hx' ho hit' hT hsz hk => ?_
    obtain rfl : x' = u := by
      have : its[i]? = some x' := by simpa using hx'
      rw [hu] at this; cases this; rfl
    obtain ⟨hit', _⟩ := hit'
    refine ⟨_, rfl, wpAny_letOwnedTupleGo_enum (s := { s with heap := h', toks := tk + 1 }) ho fun h'' he' sb => ?_⟩
    have hT2 : h''.get? s.heap.objs.size = some { cls := .type "tuple", data := .seq #[.int i tk, x'] } := (sb.2 _ (Nat.ne_of_gt hel)).trans hT
    have new : ObjOk X.prog X.w (upd H s.heap.objs.size (.tup [.int (i : Nat), x])) h'' s.heap.objs.size (.tup [.int (i : Nat), x]) :=
      ⟨by show 2 ≤ sizeLine; decide, [.int i tk, x'], .cons ⟨_, rfl⟩ (.cons ru .nil), ⟨_, hT2, rfl, _, rfl⟩⟩
    have I1 : L2.Inv X pins σ (upd H s.heap.objs.size (.tup [.int (i : Nat), x])) { s with heap := h'', toks := tk + 1 } :=
      I.turnedNew (ch := [e, it]) (fun b ob hb q => (sb.2 b (fun z => hb (by simp [z]))).trans (hk b ob (fun z => hb (by simp [z])) (fun z => hb (by simp [z])) q)) hf (Nat.le_refl _) new
    refine ⟨.ref s.heap.objs.size, _, I1, rfl, ⟨_, x, rfl, I.hok.fresh (Nat.le_refl _), rfl, fun ys hy => by rw [I.tuple_inj hy hq]; exact hx⟩, ⟨⟨x', ?_⟩, hit'.at fun o q => (sb.2 it (Ne.symm hne)).trans q, hne⟩, fun b hb => ?_⟩
    · have e1 : ((i + 1 : Nat) : Int) = (i : Int) + 1 := by omega
      rw [e1]; exact he'
    · have hb' : b < s.heap.objs.size := by
        have e' : b = e ∨ b = it := by simpa using hb
        rcases e' with z | z
        · rw [z]; exact hel
        · rw [z]; exact hil
      rw [upd_ne (Nat.ne_of_lt hb')]
      exact (hf b hb).1
  done := by
    intro X hP hw hK hc i pins s σ H E I hf st hg
    subst hP hw hK
    obtain ⟨⟨old, he⟩, hit, hne⟩ := st
    obtain ⟨xs, hq, hx⟩ := hg
    obtain ⟨its, rv, p, hz⟩ := I.tuple hq
    have p' : s.heap.IsTuple a its.toArray := p
    have hai : a ≠ it := by
      rintro rfl
      obtain ⟨o1, e1, c1, d1⟩ := hit
      obtain ⟨o2, e2, c2, n2, d2⟩ := p'
      rw [e1] at e2; cases e2
      rw [d1] at d2; cases d2
    obtain ⟨f0, f1, f2, f3, f4, f5⟩ := hf it (by simp)
    have hl := rv.length
    have hsz : its.toArray.size = i := by simp; omega
    exact wpAny_pyNext_enum_endD (Draws.tuple (prog := X.prog) (w := X.w) (A := X.A.in1) (show X.A.in1.handled = none from I.ok.hd hc) it a hai its.toArray) he ⟨by rw [hsz]; exact hit, p'⟩ fun h' eb => ⟨rfl, I.turned (t' := s.toks) (fun b o hb q => eb b o hb q) f0 f1 f3 f4 f5⟩
  self := fun A i s Q E st h => let ⟨⟨_, he⟩, _⟩ := st; wpAny_pyIter_enum he h
set_option maxHeartbeats 1000000 in
theorem meets_enumerate_newT (l : Addr) (items : Array Value) :
    Meets (Builtin.«enumerate.__new__» ⟨[.type "enumerate", .ref l], []⟩) (fun _ R s => s.heap.IsTuple l items ∧
      R (.ok (.ret (.ref (s.heap.push { cls := .type "tuple_iterator", data := .fields #[.ref l, .int 0 0] }).objs.size)))
        { s with heap := (s.heap.push { cls := .type "tuple_iterator", data := .fields #[.ref l, .int 0 0] }).push { cls := .type "enumerate", data := .fields #[.none, .bool false, .ref s.heap.objs.size, rawInt 0, .none, .none] } }) :=
  .of_wp fun prog w A R s h => by
    obtain ⟨hp, g, d, tk, os⟩ := s; obtain ⟨hl, h⟩ := h
    have hsub := sub_enumerate
    have hL : Heap.IsTuple (Shared.heap ⟨hp, g, d, tk, os⟩) l items := hl
    wp_walk
    refine wpAny_stack_any fun st => wpAny_pure ?_
    split
    · rename_i c _ _ _ _ _
      cases (c == Value.type "enumerate")
      · wp_walk using wpAny_pyIter_tuple hL
        exact ⟨_, rfl, h⟩
      · wp_walk using wpAny_pyIter_tuple hL
        exact ⟨_, rfl, h⟩
    · wp_walk using wpAny_pyIter_tuple hL
      exact ⟨_, rfl, h⟩
theorem call_enumerate_tuple {prog : Program} {w : World} {A : Around} {E : Value → Shared → Prop} {s : Shared} {l : Addr} {items : Array Value} {Q : Value → Shared → Prop} (hL : s.heap.IsTuple l items)
    (h : ∀ h', IsEnum h' (s.heap.objs.size + 1) s.heap.objs.size 0 .none → h'.IsTupleIter s.heap.objs.size l 0 → h'.objs.size = s.heap.objs.size + 2 →
      (∀ b o, s.heap.get? b = some o → h'.get? b = some o) → Q (.ref (s.heap.objs.size + 1)) { s with heap := h' }) :
    wpAny (model prog w) A (call (.type "enumerate") [.ref l]) Q E s := by
  refine callType_new F.called_enumerate (by decide) (F.typeCall_enumerate_1 _) (F.newCall_enumerate_1 _) (fun obj => F.args_object_init_2 obj _) F.entry_enumerate_new
    (meets_enumerate_newT l items) ⟨hL, ?_⟩
  have hz : (s.heap.push { cls := .type "tuple_iterator", data := .fields #[.ref l, .int 0 0] }).objs.size = s.heap.objs.size + 1 := Heap.size_push ..
  show _ ∧ _
  rw [hz]
  have he : IsEnum ((s.heap.push { cls := .type "tuple_iterator", data := .fields #[.ref l, .int 0 0] }).push
      { cls := .type "enumerate", data := .fields #[.none, .bool false, .ref s.heap.objs.size, rawInt 0, .none, .none] }) (s.heap.objs.size + 1) s.heap.objs.size 0 .none := by
    have := Heap.get?_push_size (s.heap.push { cls := .type "tuple_iterator", data := .fields #[.ref l, .int 0 0] })
      (o := { cls := .type "enumerate", data := .fields #[.none, .bool false, .ref s.heap.objs.size, rawInt 0, .none, .none] }) rfl
    rw [hz] at this; exact this
  refine ⟨⟨_, he, rfl⟩, h _ he ⟨_, Heap.get?_push_of_some _ (Heap.get?_push_size _ rfl), rfl, rfl⟩ (by rw [Heap.size_push, hz]) fun b o x => Heap.get?_push_of_some _ (Heap.get?_push_of_some _ x)⟩
/-- one new pair -/
theorem pair_new {K : PySem.W.Frag} {w : World} {H : Hp} {S : Store} {T : Addr} {x y : V} {d e : D} (rs : RS K w H S) (hT : H T = none) (r1 : Rp K H x d) (r2 : Rp K H y e) :
    Rp K (upd H T (.tup [x, y])) (.ref T) (.tup [d, e]) ∧ Fr S S H (upd H T (.tup [x, y])) ∧ RS K w (upd H T (.tup [x, y])) S :=
  ⟨rp_new hT (.cons r1 (.cons r2 .nil)), Fr.new hT, rs.new hT⟩
def enumD (xs : List D) : List D := (List.range xs.length).zipWith (fun i x => .tup [.int (i : Nat), x]) xs
theorem enumD_get {xs : List D} {i : Nat} {x : D} (h : xs[i]? = some x) : (enumD xs)[i]? = some (.tup [.int (i : Nat), x]) := by
  have hi := (List.getElem?_eq_some_iff.mp h).1
  simp [enumD, List.getElem?_zipWith, hi, h]
  exact (List.getElem?_eq_some_iff.mp h).2
theorem enumD_len {xs : List D} : (enumD xs).length = xs.length := by simp [enumD]
theorem it_enT {K : PySem.W.Frag} {w : World} {H1 : Hp} {a : Addr} {vs : List V} {xs : List D} (s : SqT K H1 a vs) (r : RpA K H1 vs xs) : ItOk K w H1 (IteT K a) .non (enumD xs) where
  go := fun i H S hi ht rs k => by rw [enumD_len] at hi; exact ⟨vs, vs[i]'(by rw [r.length]; exact hi), ht _ _ s, by simp⟩
  stop := fun H S ht rs k => by rw [enumD_len]; exact ⟨vs, ht _ _ s, r.length⟩
  yld := fun i H S v H' hi ht rs k y => by
    obtain ⟨T, x, rfl, hT, rfl, y⟩ := y
    obtain ⟨d, e1, e2⟩ := r.at? (y vs (ht _ _ s))
    obtain ⟨p1, p2, p3⟩ := pair_new (x := .int (i : Nat)) rs hT (.int _) (Rp.mono ht _ _ e2)
    exact ⟨_, enumD_get e1, p1, p2, p3⟩
theorem it_enL {K : PySem.W.Frag} {w : World} {H1 : Hp} {a : Addr} {src : Src} {xs : List D} (s : ∀ H S, RS K w H S → Keep src S → ∃ vs, SqL K H a vs ∧ RpA K H vs xs) : ItOk K w H1 (Ite K a) src (enumD xs) where
  go := fun i H S hi ht rs k => by
    rw [enumD_len] at hi
    obtain ⟨vs, h1, h2⟩ := s H S rs k
    exact ⟨vs, vs[i]'(by rw [h2.length]; exact hi), h1, by simp⟩
  stop := fun H S ht rs k => by
    obtain ⟨vs, h1, h2⟩ := s H S rs k
    exact ⟨vs, h1, by rw [h2.length, enumD_len]; exact Nat.le_refl _⟩
  yld := fun i H S v H' hi ht rs k y => by
    obtain ⟨vs, h1, h2⟩ := s H S rs k
    obtain ⟨T, x, rfl, hT, rfl, y⟩ := y
    obtain ⟨d, e1, e2⟩ := h2.at? (y vs h1)
    obtain ⟨p1, p2, p3⟩ := pair_new (x := .int (i : Nat)) rs hT (.int _) e2
    exact ⟨_, enumD_get e1, p1, p2, p3⟩
def ziEnum (K : PySem.W.Frag) (t : ZTA) : ZTI := fun δ S R => t δ S fun ds S1 => ∃ d src xs, ds = [d] ∧ ZSrc K d S1 src xs ∧ R src (enumD xs) S1
section
variable {X : Cx} {tg e : Expr} {z : ZTE} {t : ZTA} {p pos : Pos}
theorem zi_enum {e : Expr} {tpos : Pos} {elts : List Expr} {kk : Nat} (hg : Gl X "enumerate") (hm : X.mg "enumerate" = none) (ha : ZA X [e] t) (hst : starEach [e] X.env = [(false, eval e X.env)] := by rfl) :
    ZI X (.Tuple elts kk tpos) (.Call (.Name "enumerate" p) [e] [] pos) (ziEnum X.K t) := by
  refine ⟨fun pins s σ H R I ⟨δ, S, Rz, he, hs, hz, hq⟩ => ?_⟩
  refine Call_ (ld_blt I hg hm boot_enumerate (PyProof.Rows.callWith_type1 (thn (ha.run pos pins s σ H (fun vs H1 => ∃ ds S1, (∃ d src xs, ds = [d] ∧ ZSrc X.K d S1 src xs ∧ Rz src (enumD xs) S1) ∧ Fr S S1 H H1 ∧ RpA X.K H1 vs ds ∧ RS X.K X.w H1 S1) I
    ⟨δ, S, _, he, hs, hz, fun ds S1 vs H1 a f1 r1 s1 => ⟨ds, S1, a, f1, r1, s1⟩⟩) fun us s1 ⟨vs, H1, I1, ru, ds, S1, ⟨d, src, xs, ed, hsrc, hR⟩, f1, r1, rs1⟩ => ?_) hst rfl))
  subst ed
  cases r1 with
  | cons r1 r2 =>
  cases r2
  cases ru with
  | cons ru ru2 =>
  cases ru2
  have fin : ∀ {J : It} {tn : Nat → Heap → Prop} {h' : Heap}, (∀ b o, s1.heap.get? b = some o → h'.get? b = some o) → Turn X.prog X.w X.K (.Tuple elts kk tpos) J [s1.heap.objs.size + 1, s1.heap.objs.size] (s1.heap.objs.size + 1) tn → tn 0 h' → R J H1 → PIE X pins σ (.Tuple elts kk tpos) R (.ref (s1.heap.objs.size + 1)) { s1 with heap := h' } := fun {J tn h'} hk T st q => by
    have I2 : L2.Inv X pins σ H1 { s1 with heap := h' } := I1.kept (t' := s1.toks) hk
    refine ⟨s1.heap.objs.size + 1, [s1.heap.objs.size + 1, s1.heap.objs.size], tn, J, H1, rfl, I2, T, st, fun b hb => ?_, q⟩
    have e' : b = s1.heap.objs.size + 1 ∨ b = s1.heap.objs.size := by simpa using hb
    have hle : s1.heap.objs.size ≤ b := by
      rcases e' with z | z
      · rw [z]; exact Nat.le_add_right _ _
      · rw [z]; exact Nat.le_refl _
    exact I1.fpOk hle (I1.hok.fresh hle)
  obtain ⟨a, rfl, ⟨vs', q1, q2, rfl⟩ | ⟨⟨vs', q1, q2⟩, q3⟩⟩ := rd_seq rs1 r1 hsrc
  · cases ru
    obtain ⟨its, rv, p', hz⟩ := I1.tuple q1
    refine call_enumerate_tuple (show s1.heap.IsTuple a its.toArray from p') fun h' he hit hsz hk => wpAny_pyIter_enum he ?_
    exact fin hk (turn_enumT a (s1.heap.objs.size + 1) s1.heap.objs.size) ⟨⟨.none, he⟩, hit, Nat.succ_ne_self _⟩ (hq _ _ _ _ _ hR f1 rs1 (it_enT q1 q2))
  · cases ru
    obtain ⟨its, rv, p', hz⟩ := I1.list q1
    refine call_enumerate_list p'.isList fun h' he hit hsz hk => wpAny_pyIter_enum he ?_
    exact fin hk (turn_enum a (s1.heap.objs.size + 1) s1.heap.objs.size) ⟨⟨.none, he⟩, hit, Nat.succ_ne_self _⟩ (hq _ _ _ _ _ hR f1 rs1 (it_enL q3))
end

/-! ### for -/
def zLoop (src : Src) (g : ZTG) (t : ZTS) (E : ZEnds) : List D → Env → Store → Prop
  | [] => fun δ S => E.nx δ S
  | d :: r => fun δ S => g d δ S fun δ2 S2 => t { E with nx := fun δ' S' => Keep src S' ∧ zLoop src g t E r δ' S', ct := fun δ' S' => Keep src S' ∧ zLoop src g t E r δ' S', bk := E.nx } δ2 S2
def zFor (z : ZTI) (g : ZTG) (t : ZTS) : ZTS := fun E δ S => z δ S fun src ds S1 => Keep src S1 ∧ zLoop src g t E ds δ S1
def zWh (c : ZTT) (t : ZTS) (E : ZEnds) : Nat → Env → Store → Prop
  | 0 => fun _ _ => False
  | n + 1 => fun δ S => c δ S fun b S1 => if b = true then t { E with nx := zWh c t E n, ct := zWh c t E n, bk := E.nx } δ S1 else E.nx δ S1
def zWhile (c : ZTT) (t : ZTS) : ZTS := fun E δ S => ∃ n, zWh c t E n δ S
section
variable {X : Cx} {tg e c : Expr} {z : ZTI} {g : ZTG} {t : ZTS} {tc : ZTT} {pos : Pos} {body : List Stmt}
theorem zs_for (hp : PassesOwn (model X.prog X.w) X.A X.env X.xe) (hc : X.calm = true) (hi : ZI X tg e z) (hg : ZG X tg g) (hb : ZSs X body t)
    (hs : ∀ x, foldedSetIterable e X.env x = pure x := by intro _; rfl) : ZS X (.For tg e body [] pos) (zFor z g t) :=
  (ps_for hp hc hi hg hb hs).im fun F σ H ⟨δ, S, E, he, hs, hz, hd⟩ => ⟨δ, S, _, he, hs, hz, fun src ds S1 J H1 ⟨hk, hl⟩ f1 rs1 ok => by
    refine ⟨fun i m σ' H' => m = ds.length - i ∧ i ≤ ds.length ∧ ∃ δ' S', EnvR X.K H' σ' δ' ∧ RS X.K X.w H' S' ∧ Fr S1 S' H1 H' ∧ Keep src S' ∧ zLoop src g t E (ds.drop i) δ' S',
      ⟨ds.length, rfl, Nat.zero_le _, δ, S1, he.mono (hs.tup f1), rs1, Fr.refl, hk, hl⟩, ?_⟩
    rintro i m σ' H' ⟨rfl, hi, δ', S', e', rs', f', k', l'⟩
    have ht := rs1.tup f'
    by_cases hlt : i < ds.length
    · refine .inr ⟨ok.go i H' S' hlt ht rs' k', fun σ2 H2 => i + 1 ≤ ds.length ∧ ∃ δ' S', EnvR X.K H2 σ2 δ' ∧ RS X.K X.w H2 S' ∧ Fr S1 S' H1 H2 ∧ Keep src S' ∧ zLoop src g t E (ds.drop (i + 1)) δ' S',
        fun σ2 H2 ⟨a, b⟩ => ⟨ds.length - (i + 1), by omega, rfl, a, b⟩, fun x H2 y => ?_⟩
      obtain ⟨d, hd1, rd, f2, rs2⟩ := ok.yld i H' S' x H2 hlt ht rs' k' y
      have ed : ds.drop i = d :: ds.drop (i + 1) := by
        have := List.getElem?_eq_some_iff.mp hd1
        rw [List.drop_eq_getElem_cons hlt, this.2]
      rw [ed] at l'
      refine ⟨d, δ', S', _, rd, e'.mono (rs'.tup f2), rs2, l', fun δ3 S3 σ3 H3 h3 f3 e3 rs3 => ?_⟩
      have fa := (f'.trans f2).trans f3
      have hd' := hd.aft (f1.trans fa)
      refine ⟨δ3, S3, _, e3, rs3, h3, ⟨fun δ4 S4 σ4 H4 h4 f4 e4 rs4 => ?_, hd'.rt, hd'.nx, fun δ4 S4 σ4 H4 h4 f4 e4 rs4 => ?_⟩⟩
      · exact ⟨hlt, δ4, S4, e4, rs4, fa.trans f4, h4.1, h4.2⟩
      · exact ⟨hlt, δ4, S4, e4, rs4, fa.trans f4, h4.1, h4.2⟩
    · have ei : i = ds.length := by omega
      subst ei
      rw [List.drop_length] at l'
      exact .inl ⟨ok.stop H' S' ht rs' k', hd.nx _ _ _ _ l' (f1.trans f') e' rs'⟩⟩
theorem zs_while (hp : PassesOwn (model X.prog X.w) X.A X.env X.xe) (hc : ZT X c tc) (hb : ZSs X body t) : ZS X (.While c body [] pos) (zWhile tc t) :=
  (ps_while hp hc hb).im fun F σ H ⟨δ, S, E, he, hs, ⟨n, hz⟩, hd⟩ => by
    refine ⟨fun m σ' H' => ∃ δ' S', EnvR X.K H' σ' δ' ∧ RS X.K X.w H' S' ∧ Fr S S' H H' ∧ zWh tc t E m δ' S', ⟨n, δ, S, he, hs, Fr.refl, hz⟩, ?_⟩
    rintro m σ' H' ⟨δ', S', e', rs', f', h'⟩
    cases m with
    | zero => exact h'.elim
    | succ m =>
      refine ⟨δ', S', _, e', rs', h', fun b S1 H1 h1 f1 s1 => ?_⟩
      have e1 := e'.mono (rs'.tup f1)
      have hd' := hd.aft (f'.trans f1)
      cases b with
      | false => exact hd'.nx _ _ _ _ h1 Fr.refl e1 s1
      | true =>
        refine ⟨fun σ2 H2 => ∃ δ' S', EnvR X.K H2 σ2 δ' ∧ RS X.K X.w H2 S' ∧ Fr S S' H H2 ∧ zWh tc t E m δ' S', fun σ2 H2 q => ⟨m, Nat.lt_succ_self _, q⟩, δ', S1, _, e1, s1, h1, ⟨fun δ4 S4 σ4 H4 h4 f4 e4 rs4 => ?_, hd'.rt, hd'.nx, fun δ4 S4 σ4 H4 h4 f4 e4 rs4 => ?_⟩⟩
        · exact ⟨δ4, S4, e4, rs4, (f'.trans f1).trans f4, h4⟩
        · exact ⟨δ4, S4, e4, rs4, (f'.trans f1).trans f4, h4⟩
end
end Z
/-! Z8: list comprehensions, calls of the module's own defs. -/
namespace Z
open PySem PySem.Spec PyProof.Rows L2 PySem.SeqAt

/-! ### a block's own names -/
def wipeZ (δ : Env) : List Nat → Env
  | [] => δ
  | v :: vs => (wipeZ δ vs).set v none
theorem wipeZ_length (δ : Env) : ∀ vs : List Nat, (wipeZ δ vs).length = δ.length
  | [] => rfl
  | v :: vs => by unfold wipeZ; rw [List.length_set, wipeZ_length δ vs]
theorem wipeZ_some {δ : Env} {i : Nat} {x : D} : ∀ {vs : List Nat}, (wipeZ δ vs)[i]? = some (some x) → δ[i]? = some (some x) ∧ i ∉ vs
  | [], h => ⟨h, by simp⟩
  | v :: vs, h => by
    unfold wipeZ at h
    by_cases hi : v = i
    · subst hi
      by_cases hv : v < (wipeZ δ vs).length
      · rw [List.getElem?_set_self hv] at h; cases h
      · rw [List.getElem?_eq_none (by simpa using hv)] at h; cases h
    · rw [List.getElem?_set_ne hi] at h
      obtain ⟨h1, h2⟩ := wipeZ_some h
      exact ⟨h1, by simp only [List.mem_cons, not_or]; exact ⟨fun e => hi e.symm, h2⟩⟩
theorem EnvR.wipe {K : PySem.W.Frag} {H : Hp} {σ : L2.St} {δ : Env} {vs : List Nat} (h : EnvR K H σ δ) : EnvR K H (wipe σ vs) (wipeZ δ vs) :=
  ⟨by rw [wipe_length, wipeZ_length]; exact h.1, fun i d e => by
    obtain ⟨e1, e2⟩ := wipeZ_some e
    obtain ⟨v, e3, r⟩ := h.2 i d e1
    exact ⟨v, by rw [wipe_out e2]; exact e3, r⟩⟩
theorem wipe_at {σ : L2.St} {i : Nat} : ∀ {vs : List Nat}, i ∈ vs → i < σ.length → (wipe σ vs)[i]? = some none
  | v :: vs, h, hl => by
    unfold wipe
    by_cases e : v = i
    · subst e; rw [List.getElem?_set_self (by rw [wipe_length]; exact hl)]
    · rw [List.getElem?_set_ne e]
      exact wipe_at (by rcases List.mem_cons.mp h with h | h; exact absurd h.symm e; exact h) hl
theorem wipe_ext {σ τ : L2.St} {vs : List Nat} (hl : σ.length = τ.length) (h : ∀ i, i ∉ vs → σ[i]? = τ[i]?) : wipe σ vs = wipe τ vs := by
  refine List.ext_getElem? fun i => ?_
  by_cases hi : i ∈ vs
  · by_cases hb : i < σ.length
    · rw [wipe_at hi hb, wipe_at hi (hl ▸ hb)]
    · rw [List.getElem?_eq_none (by rw [wipe_length]; omega), List.getElem?_eq_none (by rw [wipe_length]; omega)]
  · rw [wipe_out hi, wipe_out hi]; exact h i hi
theorem wipe_set {σ : L2.St} {i : Nat} {x : Option V} {vs : List Nat} (hi : i ∈ vs) : wipe (σ.set i x) vs = wipe σ vs :=
  wipe_ext (by simp) fun j hj => List.getElem?_set_ne fun e => hj (by rw [← e]; exact hi)
theorem wipe_idem {σ : L2.St} {vs : List Nat} : wipe (wipe σ vs) vs = wipe σ vs := wipe_ext (wipe_length _ _) fun i hi => wipe_out hi
/-- for all contexts of a block -/
abbrev BLK (X : Cx) (scope : Scope) (φ : Cx → Prop) : Prop := ∀ (s : Shared) (H : Hp) (C : Addr) (cl : List (Str × Addr)) (fp : List Addr), φ (X.blk s H scope (compEnvC scope cl C X.env) fp)
/-- a target of a block's own names -/
structure GW (X : Cx) (scope : Scope) (tg : Expr) (vs : List Nat) (g : ZTG) : Prop where
  ex : ∃ gr : TG, (BLK X scope fun Y => PG Y tg gr) ∧ ∀ x σ H d δ S Qz R, Rp X.K H x d → EnvR X.K H σ δ → g d δ S Qz → (∀ σ2 δ2, wipe σ2 vs = wipe σ vs → EnvR X.K H σ2 δ2 → Qz δ2 S → R σ2 H) → gr x σ H R
structure GWs (X : Cx) (scope : Scope) (tg : List Expr) (vs : List Nat) (g : ZTGs) : Prop where
  ex : ∃ gr : TGs, (BLK X scope fun Y => PGs Y tg gr) ∧ ∀ xs σ H ds δ S Qz R, RpA X.K H xs ds → EnvR X.K H σ δ → g ds δ S Qz → (∀ σ2 δ2, wipe σ2 vs = wipe σ vs → EnvR X.K H σ2 δ2 → Qz δ2 S → R σ2 H) → gr xs σ H R
section
variable {X : Cx} {scope : Scope} {vs : List Nat}
theorem gw_name {x : Str} {pos : Pos} (i : Nat) (hi : i ∈ vs) (h : BLK X scope fun Y => PG Y (.Name x pos) (gName i)) : GW X scope (.Name x pos) vs (zgName i) :=
  ⟨gName i, h, fun x σ H d δ S Qz R r he hg k => k _ _ (wipe_set hi) (he.set r) hg⟩
theorem gws_nil : GWs X scope [] vs zgNil := ⟨gNil, fun _ _ _ _ _ => pgs_nil, fun xs σ H ds δ S Qz R r he hg k => by
  obtain ⟨rfl, hg⟩ := hg
  cases r
  exact ⟨rfl, k _ _ rfl he hg⟩⟩
theorem gws_cons {e : Expr} {es : List Expr} {g : ZTG} {u : ZTGs} (h1 : GW X scope e vs g) (h2 : GWs X scope es vs u) (hs : ∀ env, (assignEach (e :: es) env).map (·.2) = assign e env :: (assignEach es env).map (·.2) := by intro _; rfl) : GWs X scope (e :: es) vs (zgCons g u) := by
  obtain ⟨g1, b1, w1⟩ := h1
  obtain ⟨g2, b2, w2⟩ := h2
  refine ⟨gCons g1 g2, fun s H C cl fp => pgs_cons (b1 s H C cl fp) (b2 s H C cl fp) (hs _), fun xs σ H ds δ S Qz R r he hg k => ?_⟩
  obtain ⟨d, r', rfl, hg⟩ := hg
  cases r with
  | cons r1 r2 => exact ⟨_, _, rfl, w1 _ _ _ _ _ _ _ _ r1 he hg fun σ2 δ2 e1 he2 hg2 => w2 _ _ _ _ _ _ _ _ r2 he2 hg2 fun σ3 δ3 e2 he3 hg3 => k _ _ (e2.trans e1) he3 hg3⟩
def zgTupT (n : Nat) (t : ZTGs) : ZTG := fun d δ S Q => ∃ ds, d = .tup ds ∧ ds.length = n ∧ t ds δ S Q
theorem gw_tup {es : List Expr} {k : Nat} {pos : Pos} {t : ZTGs} {n : Nat} (hc : X.calm = true) (h : GWs X scope es vs t)
    (hn : ∀ env, (assignEach es env).length = n := by intro _; rfl) (hst : ∀ env, (assignEach es env).findIdx? (·.1) = none := by intro _; rfl) : GW X scope (.Tuple es k pos) vs (zgTupT n t) := by
  obtain ⟨g1, b1, w1⟩ := h
  refine ⟨gTup X.K n g1, fun s H C cl fp => pg_tup hc (b1 s H C cl fp) (hn _) (hst _), fun x σ H d δ S Qz R r he hg k => ?_⟩
  obtain ⟨ds, rfl, hl, hg⟩ := hg
  obtain ⟨a, vs', rfl, s1, q1⟩ := r.tup_of
  exact ⟨a, vs', rfl, s1, by rw [q1.length]; exact hl, w1 _ _ _ _ _ _ _ _ q1 he hg k⟩
end

/-! ### a list not held -/
section
variable {K : PySem.W.Frag} {w : World} {H H1 : Hp} {S S1 : Store} {a : Addr}
theorem tup_lst {xs : List V} {o : HO} (e : H a = some (.lst xs)) : ∀ b ws, SqT K H b ws → SqT K (upd H a o) b ws := fun b ws h => by
  rcases h with h | h
  · have ne : b ≠ a := fun q => by
      subst q
      rcases h with h | ⟨_, h⟩ <;> rw [e] at h <;> cases h
    rcases h with h | ⟨o', h⟩
    · exact .inl (.inl (by rw [upd_ne ne]; exact h))
    · exact .inl (.inr ⟨o', by rw [upd_ne ne]; exact h⟩)
  · exact .inr h
theorem RS.loose {xs : List V} {o : HO} (rs : RS K w H S) (e : H a = some (.lst xs)) (n : S a = Option.none) : RS K w (upd H a o) S := fun b z q =>
  (rs b z q).mono (tup_lst e) (upd_ne fun h => by rw [h, n] at q; cases q)
theorem Fr.loose {o : HO} (f : Fr S S1 H H1) (n : H a = none) : Fr S S1 H (upd H1 a o) := fun b u e q => by
  obtain ⟨e1, n1⟩ := f b u e q
  exact ⟨by rw [upd_ne (ne_of_none e n)]; exact e1, n1⟩
end

/-! ### [elt for tg in iter if ..] -/
def zYes : ZTT := fun _ S Q => Q true S
abbrev ZTs (X : Cx) (ifs : List Expr) (t : ZTT) : Prop := PTs X ifs (liT X.K X.w t)
theorem _root_.L2.PTs.im {X : Cx} {ifs : List Expr} {t t' : TT} (h : PTs X ifs t) (w : ∀ σ H Q, t' σ H Q → t σ H Q) : PTs X ifs t' := ⟨fun pins s σ H Q I q => h.run pins s σ H Q I (w σ H Q q)⟩
theorem zts_nil {X : Cx} : ZTs X [] zYes := pts_nil.im fun σ H Q ⟨δ, S, Qz, he, hs, hz, hq⟩ => hq true S H hz Fr.refl hs
theorem zts_one {X : Cx} {c : Expr} {t : ZTT} (h : ZT X c t) : ZTs X [c] t := pts_one h
def zLcL (src : Src) (g : ZTG) (tt : ZTT) (te : ZTE) (δ0 : Env) (Qf : List D → Store → Prop) : List D → List D → Store → Prop
  | [], acc, S => Qf acc S
  | d :: r, acc, S => g d δ0 S fun δ2 S2 => tt δ2 S2 fun b S3 => if b = true then te δ2 S3 fun y S4 => acc.length < sizeLine ∧ Keep src S4 ∧ zLcL src g tt te δ0 Qf r (acc ++ [y]) S4 else Keep src S3 ∧ zLcL src g tt te δ0 Qf r acc S3
def zLc (z : ZTI) (g : ZTG) (tt : ZTT) (te : ZTE) (vs : List Nat) : ZTE := fun δ S Q => z δ S fun src ds S1 => Keep src S1 ∧ zLcL src g tt te (wipeZ δ vs) (fun acc S2 => ∀ p, S2 p = none → Q (.ref p) (zup S2 p (.lst acc))) ds [] S1
section
variable {X : Cx} {elt tg iter : Expr} {ifs : List Expr} {scope : Scope} {own : List (Str × Nat)} {pos : Pos} {z : ZTI} {g : ZTG} {tt : ZTT} {te : ZTE}
theorem lc_im {K : PySem.W.Frag} {w : World} {gr : TG} {vs : List Nat} {σ : L2.St} {H : Hp} {Q : VK}
    (hgw : ∀ x σ H d δ S Qz R, Rp K H x d → EnvR K H σ δ → g d δ S Qz → (∀ σ2 δ2, wipe σ2 vs = wipe σ vs → EnvR K H σ2 δ2 → Qz δ2 S → R σ2 H) → gr x σ H R)
    (h : liE K w (zLc z g tt te vs) σ H Q) : tLc (liI K w z) gr (liT K w tt) (liE K w te) vs σ H Q := by
  obtain ⟨δ, S, Qz, he, hs, hz, hq⟩ := h
  refine ⟨δ, S, _, he, hs, hz, fun src ds S1 J H1 ⟨hk, hl⟩ f1 rs1 ok D hD => ?_⟩
  refine ⟨fun i m H' => m = ds.length - i ∧ i ≤ ds.length ∧ ∃ S' acc va, H' D = some (.lst va) ∧ RpA K H' va acc ∧ RS K w H' S' ∧ Fr S1 S' H1 H' ∧ S' D = none ∧ Keep src S' ∧ zLcL src g tt te (wipeZ δ vs) (fun acc S2 => ∀ p, S2 p = none → Qz (.ref p) (zup S2 p (.lst acc))) (ds.drop i) acc S',
    ⟨ds.length, rfl, Nat.zero_le _, S1, [], [], upd_same, .nil, rs1.new hD, Fr.new hD, rs1.none hD, hk, hl⟩, ?_⟩
  rintro i m H' ⟨rfl, hi, S', acc, va, eD, ra, rs', f', nD, k', l'⟩
  have ht := rs1.tup f'
  by_cases hlt : i < ds.length
  · refine .inr ⟨ok.go i H' S' hlt ht rs' k', fun H' => i + 1 ≤ ds.length ∧ ∃ S' acc va, H' D = some (.lst va) ∧ RpA K H' va acc ∧ RS K w H' S' ∧ Fr S1 S' H1 H' ∧ S' D = none ∧ Keep src S' ∧ zLcL src g tt te (wipeZ δ vs) (fun acc S2 => ∀ p, S2 p = none → Qz (.ref p) (zup S2 p (.lst acc))) (ds.drop (i + 1)) acc S',
      fun H2 ⟨a, b⟩ => ⟨ds.length - (i + 1), by omega, rfl, a, b⟩, fun x H2 y => ?_⟩
    obtain ⟨d, hd1, rd, f2, rs2⟩ := ok.yld i H' S' x H2 hlt ht rs' k' y
    have ed : ds.drop i = d :: ds.drop (i + 1) := by
      have := List.getElem?_eq_some_iff.mp hd1
      rw [List.drop_eq_getElem_cons hlt, this.2]
    rw [ed] at l'
    have he2 : EnvR K H2 (wipe σ vs) (wipeZ δ vs) := ((he.mono (hs.tup (f1.trans f'))).mono (rs'.tup f2)).wipe
    refine hgw x _ _ d _ S' _ _ rd he2 l' fun σ2 δ2 ew he3 l2 => ⟨ew.trans wipe_idem, ?_⟩
    refine ⟨δ2, S', _, he3, rs2, l2, fun b S3 H3 h3 f3 rs3 => ?_⟩
    have f12 := f2.trans f3
    cases b with
    | false =>
      obtain ⟨eD3, nD3⟩ := f12 D _ eD nD
      exact ⟨hlt, S3, acc, va, eD3, RpA.mono (rs'.tup f12) _ _ ra, rs3, f'.trans f12, nD3, h3.1, h3.2⟩
    | true =>
      refine ⟨δ2, S3, _, he3.mono (rs2.tup f3), rs3, h3, fun yd S4 yv H4 h4 f4 r4 rs4 => ?_⟩
      obtain ⟨hlen, k4, l4⟩ := h4
      have f124 := f12.trans f4
      obtain ⟨eD4, nD4⟩ := f124 D _ eD nD
      have ra4 := RpA.mono (rs'.tup f124) _ _ ra
      refine ⟨va, eD4, by rw [ra4.length]; exact hlen, hlt, S4, acc ++ [yd], va ++ [yv], upd_same, RpA.mono (tup_lst eD4) _ _ (ra4.append (.cons r4 .nil)), rs4.loose eD4 nD4, (f'.trans f124).loose hD, nD4, k4, l4⟩
  · have ei : i = ds.length := by omega
    subst ei
    rw [List.drop_length] at l'
    refine .inl ⟨ok.stop H' S' ht rs' k', ?_⟩
    refine hq (.ref D) _ _ H' (l' D nD) (fun a o e n => ?_) (.ref D) (fun a o e => ?_)
    · obtain ⟨e1, n1⟩ := f1 a o e n
      obtain ⟨e2, n2⟩ := f' a o e1 n1
      exact ⟨e2, by rw [zup_ne (ne_of_none e1 hD)]; exact n2⟩
    · by_cases ha : a = D
      · subst ha; rw [zup_same] at e; cases e; exact ⟨va, eD, ra⟩
      · rw [zup_ne ha] at e; exact rs' a o e
theorem ze_lc (hc : X.calm = true) (hN : X.N.Nodup) (hi : ZI X tg iter z) (ok : BlkOk X.N X.env.scope scope own) (hg : GW X scope tg (own.map (·.2)) g)
    (ht : BLK X scope fun Y => PTs Y ifs (liT X.K X.w tt)) (he : BLK X scope fun Y => PE Y elt (liE X.K X.w te)) (hs : ∀ x, foldedSetIterable iter X.env x = pure x := by intro _; rfl) : ZE X (.ListComp elt [⟨tg, iter, ifs, 0⟩] scope pos) (zLc z g tt te (own.map (·.2))) := by
  obtain ⟨gr, b, hw⟩ := hg
  exact (pe_lc hc hN hi ok b ht he hs).im fun σ H Q h => lc_im hw h
theorem zs_setLc {i : Nat} {y : Str} {py : Pos} {spos : Pos} (hc : X.calm = true) (hN : X.N.Nodup) (hy : X.N[i]? = some y) (hyl : X.env.scope.names.lookup y = some .local)
    (hsw : swapsWith (.ListComp elt [⟨tg, iter, ifs, 0⟩] scope pos) (some (.Name y py)) spos.line X.env = pure true) (hi : ZI X tg iter z) (ok : BlkOk X.N X.env.scope scope own) (hg : GW X scope tg (own.map (·.2)) g)
    (ht : BLK X scope fun Y => PTs Y ifs (liT X.K X.w tt)) (he : BLK X scope fun Y => PE Y elt (liE X.K X.w te)) (hs : ∀ x, foldedSetIterable iter X.env x = pure x := by intro _; rfl) :
    ZS X (.Assign [.Name y py] (.ListComp elt [⟨tg, iter, ifs, 0⟩] scope pos) spos) (zAsg (zLc z g tt te (own.map (·.2))) (zgName i)) := by
  obtain ⟨gr, b, hw⟩ := hg
  exact (ps_setLc hc hN hy hyl hsw hi ok b ht he hs).im fun F σ H ⟨δ, S, E, he, hs, hz, hd⟩ => lc_im (w := X.w) (tt := tt) (te := te) (g := g) (z := z) (Q := fun x H1 => gName i x σ H1 F.nx) hw
    ⟨δ, S, _, he, hs, hz, fun d S1 x H1 h1 f1 r1 s1 => hd.nx _ S1 _ H1 h1 f1 ((he.mono (hs.tup f1)).set r1) s1⟩
end

/-! ### the module's own defs -/
abbrev ZSp := List D → Store → ZK → Prop
def liSp (K : PySem.W.Frag) (w : World) (sp : ZSp) : Sp := fun vs H Q _ => ∃ ds S Qz, RpA K H vs ds ∧ RS K w H S ∧ sp ds S Qz ∧ ZQ K w S H Qz Q
/-- a def that may be called by its name; dv its defaults -/
structure GF (P : Program) (w : World) (K : PySem.W.Frag) (mg : Str → Option Value) (base : Heap) (k : Nat) (x : Str) (sp : ZSp) (dv : List D) : Prop where
  ex : ∃ (dvs : List V) (f : Addr) (fd : FuncData) (ps : List Str) (ds : List Value), FnOk P w K mg base L2.CX0 k f fd ps (liSp K w sp) ∧ mg x = some (.ref f) ∧ PySem.W.keepIn K (.ref f) = true ∧ Binds K fd ps ds ∧ Vals dvs ds ∧ ∀ H, RpA K H dvs dv
def zCall (sp : ZSp) (dv : List D) (t : ZTA) : ZTE := fun δ S Q => t δ S fun ds S1 => sp (ds ++ dv) S1 Q
/-- a def's start -/
def zstart (N : List Str) (ds : List D) : Env := ds.map some ++ List.replicate (N.length - ds.length) none
/-- its end: what it made and nobody holds is forgotten -/
def zEnd (Q : ZK) : ZEnds := ⟨fun _ S' => ∃ S1, Sub S1 S' ∧ Q .non S1, fun d S' => ∃ S1, Sub S1 S' ∧ Q d S1, fun _ _ => False, fun _ _ => False⟩
theorem start_rel {K : PySem.W.Frag} {H : Hp} {N : List Str} {vs : List V} {ds : List D} (r : RpA K H vs ds) : EnvR K H (L2.start N vs) (zstart N ds) := by
  unfold L2.start zstart
  rw [r.length]
  refine ⟨by simp [r.length], fun i d e => ?_⟩
  by_cases hi : i < ds.length
  · rw [List.getElem?_append_left (by simpa using hi)] at e
    rw [List.getElem?_append_left (by simpa [r.length] using hi)]
    rw [List.getElem?_map] at e
    cases hd : ds[i]? with
    | none => rw [hd] at e; cases e
    | some d' =>
      rw [hd] at e
      cases e
      have hv : i < vs.length := by rw [r.length]; exact hi
      obtain ⟨d2, e2, r2⟩ := r.at? (List.getElem?_eq_getElem hv)
      rw [hd] at e2; cases e2
      exact ⟨vs[i], by simp [hv], r2⟩
  · rw [List.getElem?_append_right (by simpa using hi)] at e
    have := List.mem_of_getElem? e
    rw [List.mem_replicate] at this
    exact absurd this.2 (by simp)
theorem ZQ.fin {K : PySem.W.Frag} {w : World} {S S1 S2 : Store} {H H2 : Hp} {Qz : ZK} {Q : VK} {d : D} {v : V} (hq : ZQ K w S H Qz Q) (h : Qz d S1) (sb : Sub S1 S2) (f : Fr S S2 H H2) (r : Rp K H2 v d) (rs : RS K w H2 S2) : Q v H2 :=
  hq d S1 v H2 h (fun a o e n => ⟨(f a o e n).1, by
    cases q : S1 a with
    | none => rfl
    | some z => have := sb a z q; rw [(f a o e n).2] at this; cases this⟩) r (rs.sub sb)
section
variable {P : Program} {w : World} {K : PySem.W.Frag} {mg : Str → Option Value} {base : Heap}
/-- THE RULE for a def: the reading of its body answers its promise -/
theorem gf_of {x qual : Str} {params : Arguments} {body : List Stmt} {scope : Scope} {dvs : List V} {kws : List (Str × V)} {f : Addr} {fd : FuncData} {N ps : List Str} {k : Nat} {sp : ZSp} {dv : List D} {ds : List Value} {z : ZTS}
    (F : FunD K x qual params body scope dvs kws f fd) (hm : mg x = some (.ref f)) (b : Binds K fd ps ds) (dd : Vals dvs ds) (hdv : ∀ H, RpA K H dvs dv) (S : FnScope N ps scope) (len : ∀ ds S Q, sp ds S Q → ds.length = ps.length)
    (hbody : ∀ (cdv : Value) (A : Around) (outer : List PySem.Env) (s : Shared) (H : Hp) (E : XK), Room k (A.deeper (envOfC qual scope s.heap.objs.size f cdv)) → ZSs (cxOf L2.CX0 P w K mg base N qual scope f cdv A outer s H E).nox body z)
    (law : ∀ ds S Q, sp ds S Q → z (zEnd Q) (zstart N ds) S) : GF P w K mg base (k + 1) x sp dv := by
  refine ⟨dvs, f, fd, ps, ds, ?_, hm, F.kp, b, dd, hdv⟩
  refine F.ok S (fun vs H Q E ⟨ds, S, Qz, r, _, h, _⟩ => by rw [r.length]; exact len _ _ _ h) fun cdv A outer s H vs Q E hr ⟨ds, S, Qz, r, rs, h, hq⟩ => ?_
  refine ⟨_, PSs.nox (hbody cdv A outer s H E hr), zstart N ds, S, zEnd Qz, start_rel r, rs, law _ _ _ h, ?_⟩
  refine ⟨fun δ' S' σ' H' ⟨S1, sb, q⟩ f1 e1 rs1 => hq.fin q sb f1 .non rs1, fun d S' v H' ⟨S1, sb, q⟩ f1 r1 rs1 => hq.fin q sb f1 r1 rs1, fun _ _ _ _ h => h.elim, fun _ _ _ _ h => h.elim⟩
end
section
variable {X : Cx} {k j : Nat} {x : Str} {sp : ZSp} {dv : List D} {p pos : Pos} {e : Expr} {es : List Expr} {t : ZTA}
theorem call_im {K : PySem.W.Frag} {w : World} {dvs : List V} {σ : L2.St} {H : Hp} {Q : VK} {E : XK} (hdv : ∀ H, RpA K H dvs dv) (h : liE K w (zCall sp dv t) σ H Q) : tCall (liSp K w sp) dvs E (liA K w t) σ H Q := by
  obtain ⟨δ, S, Qz, he, hs, hz, hq⟩ := h
  exact ⟨δ, S, _, he, hs, hz, fun ds S1 vs H1 h1 f1 r1 s1 => ⟨ds ++ dv, S1, Qz, r1.append (hdv H1), s1, h1, hq.aft f1⟩⟩
theorem ze_call (c : GF X.prog X.w X.K X.mg X.base k x sp dv) (hr : Room j X.A) (hk : k ≤ j) (hg : Gl X x) (ha : ZA X (e :: es) t)
    (hdb : (x == ("__debug__" : Str)) = false := by decide) (he : starEach (e :: es) X.env = (false, eval e X.env) :: starEach es X.env := by rfl) (hpl : (backTo pos (starEach es X.env)).any (·.1) = false := by rfl) :
    ZE X (.Call (.Name x p) (e :: es) [] pos) (zCall sp dv t) := by
  obtain ⟨dvs, f, fd, ps, ds, F, hm, kp, b, d, hdv⟩ := c.ex
  exact (pe_call F (hr.mono hk) hg hm kp b d L2.pass0 ha hdb he hpl).im fun σ H Q h => call_im hdv h
theorem ze_call0 (c : GF X.prog X.w X.K X.mg X.base k x sp dv) (hr : Room j X.A) (hk : k ≤ j) (hg : Gl X x) (hdb : (x == ("__debug__" : Str)) = false := by decide) :
    ZE X (.Call (.Name x p) [] [] pos) (zCall sp dv zNil) := by
  obtain ⟨dvs, f, fd, ps, ds, F, hm, kp, b, d, hdv⟩ := c.ex
  refine (pe_call0 F (hr.mono hk) hg hm kp b d L2.pass0 hdb).im fun σ H Q h => ?_
  obtain ⟨δ, S, Qz, he, hs, hz, hq⟩ := h
  exact ⟨[] ++ dv, S, Qz, by simpa using hdv H, hs, hz, hq⟩
end
end Z
/-! Z9: built-in functions, methods of lists and texts. -/
namespace Z
open PySem PySem.Spec PyProof.Rows L2 PySem.SeqAt

/-! ### isinstance -/
def isT (a T : String) : Bool := a == T || (a == "bool" && T == "int")
theorem kitB_isT : ∀ a ∈ ["NoneType", "bool", "int", "str", "tuple", "list", "dict"], ∀ T ∈ ["int", "bool", "str", "tuple", "list", "dict", "float"], kitB a T = some (isT a T) := by decide +kernel
def tyD (d : D) (S : Store) : Option String := match d with
  | .non => some "NoneType"
  | .bl _ => some "bool"
  | .int _ => some "int"
  | .str _ => some "str"
  | .tup _ => some "tuple"
  | .ref a => match S a with
    | some (.lst _) => some "list"
    | some (.fls _) => some "list"
    | some (.dct _) => some "dict"
    | some (.fdc _ _) => some "dict"
    | _ => none
def zIsi (T : String) (z : ZTE) : ZTE := fun δ S Q => z δ S fun d S1 => ∃ c, tyD d S1 = some c ∧ Q (.bl (isT c T)) S1
theorem tyD_mem {d : D} {S : Store} {c : String} (h : tyD d S = some c) : c ∈ ["NoneType", "bool", "int", "str", "tuple", "list", "dict"] := by
  unfold tyD at h
  split at h <;> try (cases h; decide)
  split at h <;> first | (cases h; decide) | cases h
theorem RdD.typ {X : Cx} {pins : List (Addr × Obj)} {σ : L2.St} {H : Hp} {s : Shared} {a : Addr} {kvs : List (D × D)} (I : L2.Inv X pins σ H s) (h : RdD X.K X.w H a kvs) : PySem.W.KitAt a "dict" s.heap := by
  rcases h with ⟨ks, h, _⟩ | ⟨ks, h, _⟩
  · rcases h with h | ⟨ob, h⟩
    · obtain ⟨_, _, vs, _, o, es, ep, h1, h2, _⟩ := (show ObjOk X.prog X.w H s.heap a (.dK ks) from I.hok a _ h)
      exact ⟨o, h1, h2.1⟩
    · obtain ⟨_, _, _, vs, _, o, es, ep, h1, h2, _⟩ := (show ObjOk X.prog X.w H s.heap a (.frz ob (.dK ks)) from I.hok a _ h)
      exact ⟨o, h1, h2.1⟩
  · rcases h with h | ⟨ob, h⟩
    · obtain ⟨⟨_, _, vs, _, o, es, ep, h1, h2, _⟩, _⟩ := (show ObjOk X.prog X.w H s.heap a (DTO X.w a ks) from I.hok a _ h)
      exact ⟨o, h1, h2.1⟩
    · obtain ⟨_, ⟨_, _, vs, _, o, es, ep, h1, h2, _⟩, _⟩ := (show ObjOk X.prog X.w H s.heap a (.frz ob (DTO X.w a ks)) from I.hok a _ h)
      exact ⟨o, h1, h2.1⟩
theorem kit_z {X : Cx} {pins : List (Addr × Obj)} {σ : L2.St} {H : Hp} {s : Shared} {S : Store} {v : V} {u : Value} {d : D} {c : String} (I : L2.Inv X pins σ H s) (rs : RS X.K X.w H S) (r : Rp X.K H v d) (ru : RelV v u) (h : tyD d S = some c) :
    ∃ P : Heap → Prop, PySem.W.KitX X.K u (.type c) P ∧ P s.heap ∧ ∀ n, u ≠ .builtin n := by
  cases d with
  | non => cases r; cases h; cases (show u = Value.none from ru); exact ⟨_, PySem.W.kitx_none, True.intro, fun _ z => nomatch z⟩
  | bl y => cases r; cases h; cases (show u = Value.bool y from ru); exact ⟨_, PySem.W.kitx_bool, True.intro, fun _ z => nomatch z⟩
  | int i => cases r; cases h; obtain ⟨t, q⟩ := (show ∃ t, u = Value.int i t from ru); cases q; exact ⟨_, PySem.W.kitx_int, True.intro, fun _ z => nomatch z⟩
  | str y => cases r; cases h; obtain ⟨t, q⟩ := (show ∃ t, u = Value.str y t from ru); cases q; exact ⟨_, PySem.W.kitx_str, True.intro, fun _ z => nomatch z⟩
  | tup xs =>
    obtain ⟨p, vs, rfl, s1, rv⟩ := r.tup_of
    cases h
    cases (show u = Value.ref p from ru)
    obtain ⟨its, rv, q, _⟩ := I.tuple s1
    obtain ⟨o, h1, h2, _⟩ := q
    exact ⟨_, PySem.W.kitx_tuple, ⟨o, h1, h2⟩, fun _ z => nomatch z⟩
  | ref a =>
    cases r
    cases (show u = Value.ref a from ru)
    have h' : (match S a with
      | some (.lst _) => some "list"
      | some (.fls _) => some "list"
      | some (.dct _) => some "dict"
      | some (.fdc _ _) => some "dict"
      | _ => none) = some c := h
    cases q : S a with
    | none => rw [q] at h'; cases h'
    | some z =>
      rw [q] at h'
      have ro := rs a z q
      have lst : ∀ {vs : List V}, SqL X.K H a vs → c = "list" → ∃ P : Heap → Prop, PySem.W.KitX X.K (.ref a) (.type c) P ∧ P s.heap ∧ ∀ n, (Value.ref a) ≠ .builtin n := fun {vs} e hc => by
        subst hc
        obtain ⟨its, rv, pl, _⟩ := I.list e
        obtain ⟨o, h1, h2, _⟩ := pl.isList
        exact ⟨_, PySem.W.kitx_list, ⟨o, h1, h2⟩, fun _ z => nomatch z⟩
      cases z with
      | lst ds => cases h'; obtain ⟨vs, e1, e2⟩ := ro; exact lst (.inl (.inl e1)) rfl
      | fls ds => cases h'; obtain ⟨vs, e1, e2⟩ := ro; exact lst (.inl e1) rfl
      | dct kvs => cases h'; exact ⟨_, PySem.W.kitx_dict, RdD.typ I (RdD.of_dct ro), fun _ z => nomatch z⟩
      | fdc ho kvs => cases h'; exact ⟨_, PySem.W.kitx_dict, RdD.typ I ro.2, fun _ z => nomatch z⟩
      | ins C fs => cases h'
def rZIsi (K : PySem.W.Frag) (w : World) (T : String) : List V → Hp → VK → Prop := fun xs H Q => ∃ x d S c Qz, xs = [x, .ty T] ∧ Rp K H x d ∧ RS K w H S ∧ tyD d S = some c ∧ Qz (.bl (isT c T)) S ∧ ZQ K w S H Qz Q
theorem call_zIsi {X : Cx} {T : String} (hT : T ∈ ["int", "bool", "str", "tuple", "list", "dict", "float"]) : CallR X (.builtin "isinstance") (rZIsi X.K X.w T) := by
  intro pins s σ H xs us Q I r h
  obtain ⟨x, d, S, c, Qz, rfl, rp, rs, ty, q, hq⟩ := h
  obtain ⟨u1, u2, rfl, r1, r2⟩ := vals2 r
  cases (show u2 = Value.type T from r2)
  obtain ⟨P, Z, p, hx⟩ := kit_z I rs rp r1 ty
  exact PySem.W.kia_one Z I.kIn p (kit_ty (kitB_isT c (tyD_mem ty) T hT)) (hx _) fun tk => ⟨.bl _, H, I.tok tk, rfl, hq.here rs (.bl _) q⟩
section
variable {X : Cx} {e : Expr} {z : ZTE} {p p2 pos : Pos}
theorem ze_isi {T : String} {nm : Str} (hg : Gl X "isinstance") (hm : X.mg "isinstance" = none) (hg2 : Gl X nm) (hm2 : X.mg nm = none) (hb : bootBuiltins nm = some (.type T)) (he : ZE X e z)
    (hT : T ∈ ["int", "bool", "str", "tuple", "list", "dict", "float"] := by decide) (hn : nm ≠ "__name__" := by decide) (hd : (nm == ("__debug__" : Str)) = false := by decide)
    (h1 : starEach [e, .Name nm p2] X.env = (false, eval e X.env) :: starEach [.Name nm p2] X.env := by rfl) (h2 : (backTo pos (starEach [.Name nm p2] X.env)).any (·.1) = false := by rfl) :
    ZE X (.Call (.Name "isinstance" p) [e, .Name nm p2] [] pos) (zIsi T z) :=
  (pe_callB (call_zIsi hT) hg hm boot_isinstance (pa_cons he (pa_cons (pe_bltn (v := .ty T) hg2 hm2 hb rfl hn hd) pa_nil rfl) h1) (by decide) (by decide) h1 h2).im fun σ H Q ⟨δ, S, Qz, he, hs, hz, hq⟩ =>
    ⟨δ, S, _, he, hs, hz, fun d S1 v H1 ⟨c, hc, h⟩ f1 r1 s1 => ⟨v, d, S1, c, Qz, rfl, r1, s1, hc, h, hq.aft f1⟩⟩
end

/-! ### f(..), f a built-in -/
def zLen : ZRn := fun ds S Q => match ds with
  | [.str y] => y.length ≤ sizeLine ∧ Q (.int (y.length : Nat)) S
  | [.tup xs] => Q (.int (xs.length : Nat)) S
  | [.ref a] => match S a with
    | some (.lst xs) => Q (.int (xs.length : Nat)) S
    | some (.fls xs) => Q (.int (xs.length : Nat)) S
    | _ => False
  | _ => False
/-- list(x): x a list or a tuple -/
def zList (K : PySem.W.Frag) : ZRn := fun ds S Q => ∃ d src xs, ds = [d] ∧ ZSrc K d S src xs ∧ ∀ p, S p = none → Q (.ref p) (zup S p (.lst xs))
def zTuple (K : PySem.W.Frag) : ZRn := fun ds S Q => ∃ d src xs, ds = [d] ∧ ZSrc K d S src xs ∧ Q (.tup xs) S
def zInt : ZRn := fun ds S Q => match ds with
  | [.int i] => Q (.int i) S
  | [.bl b] => Q (.int (if b then 1 else 0)) S
  | _ => False
def zAbs : ZRn := fun ds S Q => match ds with
  | [.int i] => Q (.int (if i < 0 then -i else i)) S
  | _ => False
def zMax2 : ZRn := fun ds S Q => match ds with
  | [.int i, .int j] => Q (.int (if j > i then j else i)) S
  | _ => False
def zMin2 : ZRn := fun ds S Q => match ds with
  | [.int i, .int j] => Q (.int (if j < i then j else i)) S
  | _ => False
/-- all, any, sum, max, min of a list -/
def zAllL (K : PySem.W.Frag) : ZRn := fun ds S Q => ∃ (a : Addr) (src : Src) (xs : List D) (bs : List Bool), ds = [.ref a] ∧ ZSrc K (.ref a) S src xs ∧ xs = bs.map D.bl ∧ Q (.bl (bs.all id)) S
def zAnyL (K : PySem.W.Frag) : ZRn := fun ds S Q => ∃ (a : Addr) (src : Src) (xs : List D) (bs : List Bool), ds = [.ref a] ∧ ZSrc K (.ref a) S src xs ∧ xs = bs.map D.bl ∧ Q (.bl (bs.any id)) S
def zSumL (K : PySem.W.Frag) : ZRn := fun ds S Q => ∃ (a : Addr) (src : Src) (xs : List D) (ns : List Int), ds = [.ref a] ∧ ZSrc K (.ref a) S src xs ∧ xs = ns.map D.int ∧ Q (.int ns.sum) S
def zMaxL (K : PySem.W.Frag) : ZRn := fun ds S Q => ∃ (a : Addr) (src : Src) (xs : List D) (ns : List Int), ds = [.ref a] ∧ ZSrc K (.ref a) S src xs ∧ xs = ns.map D.int ∧ 0 < ns.length ∧ ∀ m, m ∈ ns → (∀ y, y ∈ ns → y ≤ m) → Q (.int m) S
def zMinL (K : PySem.W.Frag) : ZRn := fun ds S Q => ∃ (a : Addr) (src : Src) (xs : List D) (ns : List Int), ds = [.ref a] ∧ ZSrc K (.ref a) S src xs ∧ xs = ns.map D.int ∧ 0 < ns.length ∧ ∀ m, m ∈ ns → (∀ y, y ∈ ns → m ≤ y) → Q (.int m) S
section
variable {X : Cx}
theorem rpa1 {K : PySem.W.Frag} {H : Hp} {vs : List V} {d : D} (r : RpA K H vs [d]) : ∃ v, vs = [v] ∧ Rp K H v d := by
  cases r with | cons a b => cases b; exact ⟨_, rfl, a⟩
theorem rpa2 {K : PySem.W.Frag} {H : Hp} {vs : List V} {d e : D} (r : RpA K H vs [d, e]) : ∃ v u, vs = [v, u] ∧ Rp K H v d ∧ Rp K H u e := by
  cases r with | cons a b => cases b with | cons b c => cases c; exact ⟨_, _, rfl, a, b⟩
theorem call_zLen : CallR X (.builtin "len") (lin X.K X.w zLen) := by
  rintro pins s σ H xs us Q I rv ⟨ds, S, Qz, r, rs, h, hq⟩
  unfold zLen at h
  split at h
  · obtain ⟨v, rfl, r1⟩ := rpa1 r
    cases r1
    exact call_len_str pins s σ H _ us Q I rv ⟨_, rfl, h.1, hq.here rs (.int _) h.2⟩
  · obtain ⟨v, rfl, r1⟩ := rpa1 r
    obtain ⟨p, vs, rfl, s1, q1⟩ := r1.tup_of
    exact call_len_seq pins s σ H _ us Q I rv ⟨p, vs, rfl, .inr s1, by rw [q1.length]; exact hq.here rs (.int _) h⟩
  · obtain ⟨v, rfl, r1⟩ := rpa1 r
    cases r1
    split at h
    · rename_i e
      obtain ⟨vs, e1, q1⟩ := rs _ _ e
      exact call_len_seq pins s σ H _ us Q I rv ⟨_, vs, rfl, .inl (.inl (.inl e1)), by rw [q1.length]; exact hq.here rs (.int _) h⟩
    · rename_i e
      obtain ⟨vs, e1, q1⟩ := rs _ _ e
      exact call_len_seq pins s σ H _ us Q I rv ⟨_, vs, rfl, .inl (.inl e1), by rw [q1.length]; exact hq.here rs (.int _) h⟩
    · exact h.elim
  · exact h.elim
theorem call_zList : CallR X (.type "list") (lin X.K X.w (zList X.K)) := by
  rintro pins s σ H xs us Q I rv ⟨ds, S, Qz, r, rs, ⟨d, src, ys, rfl, hs, h⟩, hq⟩
  obtain ⟨v, rfl, r1⟩ := rpa1 r
  obtain ⟨a, rfl, ⟨vs, q1, q2, _⟩ | ⟨⟨vs, q1, q2⟩, _⟩⟩ := rd_seq rs r1 hs
  · exact call_list_of pins s σ H _ us Q I rv ⟨a, vs, rfl, .inr q1, fun l hl => hq _ _ _ _ (h l (rs.none hl)) (Fr.laid hl) (.ref l) (rs.laid hl ⟨vs, upd_same, RpA.mono (tup_free (vs := []) hl) _ _ q2⟩)⟩
  · exact call_list_of pins s σ H _ us Q I rv ⟨a, vs, rfl, .inl q1, fun l hl => hq _ _ _ _ (h l (rs.none hl)) (Fr.laid hl) (.ref l) (rs.laid hl ⟨vs, upd_same, RpA.mono (tup_free (vs := []) hl) _ _ q2⟩)⟩
theorem call_zTuple : CallR X (.type "tuple") (lin X.K X.w (zTuple X.K)) := by
  rintro pins s σ H xs us Q I rv ⟨ds, S, Qz, r, rs, ⟨d, src, ys, rfl, hs, h⟩, hq⟩
  obtain ⟨v, rfl, r1⟩ := rpa1 r
  obtain ⟨a, rfl, ⟨vs, q1, q2, _⟩ | ⟨⟨vs, q1, q2⟩, _⟩⟩ := rd_seq rs r1 hs
  · exact call_tuple_of pins s σ H _ us Q I rv ⟨a, vs, rfl, .inr ⟨q1, hq.here rs (.tup q1 q2) h⟩⟩
  · exact call_tuple_of pins s σ H _ us Q I rv ⟨a, vs, rfl, .inl ⟨q1, fun l hl => hq _ _ _ _ h (Fr.new hl) (rp_new hl q2) (rs.new hl)⟩⟩
theorem call_zInt : CallR X (.type "int") (lin X.K X.w zInt) := by
  rintro pins s σ H xs us Q I rv ⟨ds, S, Qz, r, rs, h, hq⟩
  unfold zInt at h
  split at h
  · obtain ⟨v, rfl, r1⟩ := rpa1 r
    cases r1
    exact call_int1 pins s σ H _ us Q I rv (.inl ⟨_, rfl, hq.here rs (.int _) h⟩)
  · obtain ⟨v, rfl, r1⟩ := rpa1 r
    cases r1
    exact call_int1 pins s σ H _ us Q I rv (.inr ⟨_, rfl, hq.here rs (.int _) h⟩)
  · exact h.elim
theorem call_zAbs : CallR X (.builtin "abs") (lin X.K X.w zAbs) := by
  rintro pins s σ H xs us Q I rv ⟨ds, S, Qz, r, rs, h, hq⟩
  unfold zAbs at h
  split at h
  · obtain ⟨v, rfl, r1⟩ := rpa1 r
    cases r1
    exact call_abs pins s σ H _ us Q I rv ⟨_, rfl, hq.here rs (.int _) h⟩
  · exact h.elim
theorem call_zMax2 (hc : X.calm = true) : CallR X (.builtin "max") (lin X.K X.w zMax2) := by
  rintro pins s σ H xs us Q I rv ⟨ds, S, Qz, r, rs, h, hq⟩
  unfold zMax2 at h
  split at h
  · obtain ⟨v, u, rfl, r1, r2⟩ := rpa2 r
    cases r1; cases r2
    exact call_max2 hc pins s σ H _ us Q I rv ⟨_, _, rfl, hq.here rs (.int _) h⟩
  · exact h.elim
theorem call_zMin2 (hc : X.calm = true) : CallR X (.builtin "min") (lin X.K X.w zMin2) := by
  rintro pins s σ H xs us Q I rv ⟨ds, S, Qz, r, rs, h, hq⟩
  unfold zMin2 at h
  split at h
  · obtain ⟨v, u, rfl, r1, r2⟩ := rpa2 r
    cases r1; cases r2
    exact call_min2 hc pins s σ H _ us Q I rv ⟨_, _, rfl, hq.here rs (.int _) h⟩
  · exact h.elim
theorem sq_lst {K : PySem.W.Frag} {w : World} {H : Hp} {S : Store} {vs : List V} {a : Addr} {src : Src} {xs : List D} (rs : RS K w H S) (r : RpA K H vs [.ref a]) (h : ZSrc K (.ref a) S src xs) : ∃ ws, vs = [.ref a] ∧ SqL K H a ws ∧ RpA K H ws xs := by
  obtain ⟨v, rfl, r1⟩ := rpa1 r
  cases r1
  rcases h with ⟨rfl, k⟩ | ⟨rfl, vs, k1, k2⟩
  · obtain ⟨ws, a1, a2⟩ := rs.keep k
    exact ⟨ws, rfl, a1, a2⟩
  · exact ⟨vs, rfl, k1 _, k2 _⟩
end
section
variable {X : Cx}
theorem call_zAllL (hc : X.calm = true) : CallR X (.builtin "all") (lin X.K X.w (zAllL X.K)) := by
  rintro pins s σ H xs us Q I rv ⟨ds, S, Qz, r, rs, ⟨a, src, ys, bs, rfl, hs, rfl, h⟩, hq⟩
  obtain ⟨ws, rfl, q1, q2⟩ := sq_lst rs r hs
  have := q2.of_bls; subst this
  exact cr_all hc pins s σ H _ us Q I rv ⟨a, bs, rfl, q1, hq.here rs (.bl _) h⟩
theorem call_zAnyL (hc : X.calm = true) : CallR X (.builtin "any") (lin X.K X.w (zAnyL X.K)) := by
  rintro pins s σ H xs us Q I rv ⟨ds, S, Qz, r, rs, ⟨a, src, ys, bs, rfl, hs, rfl, h⟩, hq⟩
  obtain ⟨ws, rfl, q1, q2⟩ := sq_lst rs r hs
  have := q2.of_bls; subst this
  exact cr_any hc pins s σ H _ us Q I rv ⟨a, bs, rfl, q1, hq.here rs (.bl _) h⟩
theorem call_zSumL (hc : X.calm = true) : CallR X (.builtin "sum") (lin X.K X.w (zSumL X.K)) := by
  rintro pins s σ H xs us Q I rv ⟨ds, S, Qz, r, rs, ⟨a, src, ys, ns, rfl, hs, rfl, h⟩, hq⟩
  obtain ⟨ws, rfl, q1, q2⟩ := sq_lst rs r hs
  have := q2.of_ints; subst this
  exact cr_sum hc pins s σ H _ us Q I rv ⟨a, ns, rfl, q1, hq.here rs (.int _) h⟩
theorem call_zMaxL (hc : X.calm = true) : CallR X (.builtin "max") (lin X.K X.w (zMaxL X.K)) := by
  rintro pins s σ H xs us Q I rv ⟨ds, S, Qz, r, rs, ⟨a, src, ys, ns, rfl, hs, rfl, hl, h⟩, hq⟩
  obtain ⟨ws, rfl, q1, q2⟩ := sq_lst rs r hs
  have := q2.of_ints; subst this
  exact cr_max hc pins s σ H _ us Q I rv ⟨a, ns, rfl, q1, hl, fun m h1 h2 => hq.here rs (.int _) (h m h1 h2)⟩
theorem call_zMinL (hc : X.calm = true) : CallR X (.builtin "min") (lin X.K X.w (zMinL X.K)) := by
  rintro pins s σ H xs us Q I rv ⟨ds, S, Qz, r, rs, ⟨a, src, ys, ns, rfl, hs, rfl, hl, h⟩, hq⟩
  obtain ⟨ws, rfl, q1, q2⟩ := sq_lst rs r hs
  have := q2.of_ints; subst this
  exact cr_min hc pins s σ H _ us Q I rv ⟨a, ns, rfl, q1, hl, fun m h1 h2 => hq.here rs (.int _) (h m h1 h2)⟩
end
/-! ### methods -/
def tyZ (T : String) (d : D) (S : Store) : Prop := match d with
  | .str _ => T = "str"
  | .ref a => T = "list" ∧ ∃ xs, S a = some (.lst xs) ∨ S a = some (.fls xs)
  | _ => False
def zBM (T : String) (r : D → ZRn) (a : ZTE) (t : ZTA) : ZTE := fun δ S Q => a δ S fun d S1 => tyZ T d S1 ∧ t δ S1 fun ds S2 => r d ds S2 Q
def zBM0 (T : String) (r : D → ZRn) (a : ZTE) : ZTE := fun δ S Q => a δ S fun d S1 => tyZ T d S1 ∧ r d [] S1 Q
theorem tyZ_is {K : PySem.W.Frag} {w : World} {H : Hp} {S : Store} {T : String} {d : D} {v : V} (rs : RS K w H S) (r : Rp K H v d) (h : tyZ T d S) : tyV K T v H := by
  cases d with
  | str y => cases r; exact h
  | ref a =>
    cases r
    obtain ⟨rfl, xs, k⟩ := h
    obtain ⟨vs, q, _⟩ := rs.keep k
    exact .inl ⟨rfl, vs, q⟩
  | _ => exact h.elim
section
variable {X : Cx} {o e : Expr} {es : List Expr} {zo : ZTE} {t : ZTA} {name : Str} {apos cpos : Pos} {T id : String} {r : D → ZRn}
theorem ze_bm (pa : PlainAttrs T) (slot : Slot T name id) (hty : typeOf (.builtin id) = pure (.type "method_descriptor")) (hm : MtR X id (li1n X.K X.w r)) (ho : ZE X o zo) (ha : ZA X (e :: es) t)
    (hbase : attributeBase o name X.env (eval o X.env) = eval o X.env := by rfl)
    (hfew : ((backTo cpos (starEach (e :: es) X.env)).all (fun x => !x.1) && (backToKw cpos (keywordEach [] X.env)).all (fun x => x.1.isSome)
      && decide ((e :: es).length + ([] : List Keyword).length + (if ([] : List Keyword).isEmpty then 0 else 1) < 30)) = true := by rfl)
    (hline : (apos.endLine == cpos.line) = true := by rfl) (hs : starEach (e :: es) X.env = (false, eval e X.env) :: starEach es X.env := by rfl) (hplain : (backTo cpos (starEach es X.env)).any (·.1) = false := by rfl) :
    ZE X (.Call (.Attribute o name apos) (e :: es) [] cpos) (zBM T r zo t) :=
  (pe_bm pa slot hty hm ho ha hbase hfew hline hs hplain).im fun σ H Q ⟨δ, S, Qz, he, hs, hz, hq⟩ => ⟨δ, S, _, he, hs, hz, fun d S1 v H1 ⟨ht, h1⟩ f1 r1 s1 => ⟨tyZ_is s1 r1 ht,
    δ, S1, _, he.mono (hs.tup f1), s1, h1, fun ds S2 vs H2 h2 f2 r2 s2 => ⟨d, ds, S2, Qz, Rp.mono (s1.tup f2) _ _ r1, r2, s2, h2, (hq.aft f1).aft f2⟩⟩⟩
theorem ze_bm0 (pa : PlainAttrs T) (slot : Slot T name id) (hty : typeOf (.builtin id) = pure (.type "method_descriptor")) (hm : MtR X id (li1n X.K X.w r)) (ho : ZE X o zo)
    (hbase : attributeBase o name X.env (eval o X.env) = eval o X.env := by rfl) (hline : (apos.endLine == cpos.line) = true := by rfl) : ZE X (.Call (.Attribute o name apos) [] [] cpos) (zBM0 T r zo) :=
  (pe_bm0 pa slot hty hm ho hbase hline).im fun σ H Q ⟨δ, S, Qz, he, hs, hz, hq⟩ => ⟨δ, S, _, he, hs, hz, fun d S1 v H1 ⟨ht, h1⟩ f1 r1 s1 => ⟨tyZ_is s1 r1 ht, d, [], S1, Qz, r1, .nil, s1, h1, hq.aft f1⟩⟩
/-- f(..), f a built-in function or type -/
theorem ze_callB {x : Str} {p pos : Pos} {r : ZRn} (hc : CallR X (.builtin id) (lin X.K X.w r)) (hg : Gl X x) (hm : X.mg x = none) (hv : bootBuiltins x = some (.builtin id)) (ha : ZA X (e :: es) t) (hn : x ≠ "__name__" := by decide) (hdb : (x == ("__debug__" : Str)) = false := by decide)
    (he : starEach (e :: es) X.env = (false, eval e X.env) :: starEach es X.env := by rfl) (hpl : (backTo pos (starEach es X.env)).any (·.1) = false := by rfl) : ZE X (.Call (.Name x p) (e :: es) [] pos) (zAp r t) :=
  (pe_callB hc hg hm hv ha hn hdb he hpl).im fun σ H Q h => ap_im h
theorem ze_callTy {x : Str} {p pos : Pos} {r : ZRn} (hc : CallR X (.type T) (lin X.K X.w r)) (hg : Gl X x) (hm : X.mg x = none) (hv : bootBuiltins x = some (.type T)) (ha : ZA X (e :: es) t) (hn : x ≠ "__name__" := by decide) (hdb : (x == ("__debug__" : Str)) = false := by decide)
    (he : starEach (e :: es) X.env = (false, eval e X.env) :: starEach es X.env := by rfl) (hpl : (backTo pos (starEach es X.env)).any (·.1) = false := by rfl) : ZE X (.Call (.Name x p) (e :: es) [] pos) (zAp r t) :=
  (pe_callTy hc hg hm hv ha hn hdb he hpl).im fun σ H Q h => ap_im h
end
def zAppend : D → ZRn := fun d ds S Q => ∃ a xs y, d = .ref a ∧ ds = [y] ∧ S a = some (.lst xs) ∧ xs.length < sizeLine ∧ Q .non (zup S a (.lst (xs ++ [y])))
def zExtend : D → ZRn := fun d ds S Q => ∃ a b xs ys, d = .ref a ∧ ds = [.ref b] ∧ S a = some (.lst xs) ∧ S b = some (.lst ys) ∧ xs.length + ys.length ≤ sizeLine ∧ Q .non (zup S a (.lst (xs ++ ys)))
def zPop : D → ZRn := fun d ds S Q => ∃ a xs y, d = .ref a ∧ ds = [] ∧ S a = some (.lst xs) ∧ xs[xs.length - 1]? = some y ∧ Q y (zup S a (.lst xs.dropLast))
def zPopAt : D → ZRn := fun d ds S Q => ∃ a xs i k y, d = .ref a ∧ ds = [.int i] ∧ S a = some (.lst xs) ∧ -(2 ^ 63) ≤ i ∧ i < 2 ^ 63 ∧ seqIndex? i xs.length = some k ∧ xs[k]? = some y ∧ Q y (zup S a (.lst (xs.eraseIdx k)))
def zReverse : D → ZRn := fun d ds S Q => ∃ a xs, d = .ref a ∧ ds = [] ∧ S a = some (.lst xs) ∧ Q .non (zup S a (.lst xs.reverse))
def zJoin (K : PySem.W.Frag) : D → ZRn := fun d ds S Q => ∃ (z : Str) (e : D) (src : Src) (ys : List Str), d = .str z ∧ ds = [e] ∧ ZSrc K e S src (ys.map D.str) ∧ (ys.map (·.length)).sum + ys.length * z.length ≤ 16777216 ∧ Q (.str (Txt.join z ys)) S
def zStr1 (n : Nat) (f : Str → D) : D → ZRn := fun d ds S Q => ∃ z, d = .str z ∧ ds = [] ∧ z.length ≤ n ∧ Q (f z) S
section
variable {X : Cx}
theorem rp_get {K : PySem.W.Frag} {H : Hp} : ∀ {ds : List D} {vs : List V}, RpA K H vs ds → ∀ {i : Nat} {d : D}, ds[i]? = some d → ∃ v, vs[i]? = some v ∧ Rp K H v d
  | _, _, .nil, _, _, h => nomatch h
  | _, _, .cons a t, 0, _, h => by cases h; exact ⟨_, rfl, a⟩
  | _, _, .cons a t, i + 1, _, h => rp_get t (i := i) h
theorem mt_zAppend : MtR X "list.append" (li1n X.K X.w zAppend) := by
  rintro pins s σ H x xs v us Q I rx rv ⟨d, ds, S, Qz, r1, r2, rs, ⟨a, ys, y, rfl, rfl, e, hl, h⟩, hq⟩
  cases r1
  obtain ⟨u, rfl, ru⟩ := rpa1 r2
  obtain ⟨vs, e1, q1⟩ := rs _ _ e
  exact mt_append pins s σ H _ _ v us Q I rx rv ⟨a, vs, u, rfl, rfl, e1, by rw [q1.length]; exact hl, hq _ _ _ _ h (Fr.write e) .non (rs.write e ⟨_, upd_same, RpA.mono (rs.tupw e) _ _ (q1.append (.cons ru .nil))⟩)⟩
theorem mt_zExtend : MtR X "list.extend" (li1n X.K X.w zExtend) := by
  rintro pins s σ H x xs v us Q I rx rv ⟨d, ds, S, Qz, r1, r2, rs, ⟨a, b, ys, zs, rfl, rfl, e, e2, hl, h⟩, hq⟩
  cases r1
  obtain ⟨u, rfl, ru⟩ := rpa1 r2
  cases ru
  obtain ⟨vs, e1, q1⟩ := rs _ _ e
  obtain ⟨ws, e3, q3⟩ := rs _ _ e2
  exact mt_extend pins s σ H _ _ v us Q I rx rv ⟨a, b, vs, ws, rfl, rfl, e1, e3, by rw [q1.length, q3.length]; exact hl, hq _ _ _ _ h (Fr.write e) .non (rs.write e ⟨_, upd_same, RpA.mono (rs.tupw e) _ _ (q1.append q3)⟩)⟩
theorem RpA.dropLast {K : PySem.W.Frag} {H : Hp} {vs : List V} {ds : List D} (r : RpA K H vs ds) : RpA K H vs.dropLast ds.dropLast := by
  rw [List.dropLast_eq_take, List.dropLast_eq_take, r.length]; exact r.take _
theorem mt_zPop : MtR X "list.pop" (li1n X.K X.w zPop) := by
  rintro pins s σ H x xs v us Q I rx rv ⟨d, ds, S, Qz, r1, r2, rs, ⟨a, ys, y, rfl, rfl, e, hl, h⟩, hq⟩
  cases r1
  cases r2
  obtain ⟨vs, e1, q1⟩ := rs _ _ e
  obtain ⟨u, hu, ru⟩ := rp_get q1 hl
  exact mt_pop pins s σ H _ _ v us Q I rx rv ⟨a, vs, u, rfl, rfl, e1, by rw [q1.length]; exact hu, hq _ _ _ _ h (Fr.write e) (Rp.mono (rs.tupw e) _ _ ru) (rs.write e ⟨_, upd_same, RpA.mono (rs.tupw e) _ _ q1.dropLast⟩)⟩
theorem mt_zPopAt : MtR X "list.pop" (li1n X.K X.w zPopAt) := by
  rintro pins s σ H x xs v us Q I rx rv ⟨d, ds, S, Qz, r1, r2, rs, ⟨a, ys, i, k, y, rfl, rfl, e, hi, hi2, hk, hl, h⟩, hq⟩
  cases r1
  obtain ⟨u, rfl, ru⟩ := rpa1 r2
  cases ru
  obtain ⟨vs, e1, q1⟩ := rs _ _ e
  obtain ⟨u, hu, ru⟩ := rp_get q1 hl
  exact mt_popAt pins s σ H _ _ v us Q I rx rv ⟨a, vs, i, k, u, rfl, rfl, e1, hi, hi2, by rw [q1.length]; exact hk, hu, hq _ _ _ _ h (Fr.write e) (Rp.mono (rs.tupw e) _ _ ru) (rs.write e ⟨_, upd_same, RpA.mono (rs.tupw e) _ _ (q1.eraseIdx k)⟩)⟩
theorem mt_zReverse : MtR X "list.reverse" (li1n X.K X.w zReverse) := by
  rintro pins s σ H x xs v us Q I rx rv ⟨d, ds, S, Qz, r1, r2, rs, ⟨a, ys, rfl, rfl, e, h⟩, hq⟩
  cases r1
  cases r2
  obtain ⟨vs, e1, q1⟩ := rs _ _ e
  exact mt_reverse pins s σ H _ _ v us Q I rx rv ⟨a, vs, rfl, rfl, e1, hq _ _ _ _ h (Fr.write e) .non (rs.write e ⟨_, upd_same, RpA.mono (rs.tupw e) _ _ q1.reverse⟩)⟩
theorem mt_zJoin : MtR X "str.join" (li1n X.K X.w (zJoin X.K)) := by
  rintro pins s σ H x xs v us Q I rx rv ⟨d, ds, S, Qz, r1, r2, rs, ⟨z, e, src, ys, rfl, rfl, hs, hl, h⟩, hq⟩
  cases r1
  obtain ⟨u, rfl, ru⟩ := rpa1 r2
  obtain ⟨a, rfl, ⟨vs, q1, q2, _⟩ | ⟨⟨vs, q1, q2⟩, _⟩⟩ := rd_seq rs ru hs
  · have := q2.of_strs; subst this
    exact mt_join pins s σ H _ _ v us Q I rx rv ⟨z, a, ys, rfl, rfl, .inr q1, hl, hq.here rs (.str _) h⟩
  · have := q2.of_strs; subst this
    exact mt_join pins s σ H _ _ v us Q I rx rv ⟨z, a, ys, rfl, rfl, .inl q1, hl, hq.here rs (.str _) h⟩
theorem mt_zUpper : MtR X "str.upper" (li1n X.K X.w (zStr1 5592405 fun z => .str (Txt.upper z))) := by
  rintro pins s σ H x xs v us Q I rx rv ⟨d, ds, S, Qz, r1, r2, rs, ⟨z, rfl, rfl, hl, h⟩, hq⟩
  cases r1; cases r2
  exact mt_upper pins s σ H _ _ v us Q I rx rv ⟨z, rfl, rfl, hl, hq.here rs (.str _) h⟩
theorem mt_zLower : MtR X "str.lower" (li1n X.K X.w (zStr1 5592405 fun z => .str (Txt.lower z))) := by
  rintro pins s σ H x xs v us Q I rx rv ⟨d, ds, S, Qz, r1, r2, rs, ⟨z, rfl, rfl, hl, h⟩, hq⟩
  cases r1; cases r2
  exact mt_lower pins s σ H _ _ v us Q I rx rv ⟨z, rfl, rfl, hl, hq.here rs (.str _) h⟩
end
end Z
/-! ZA: sorted, list of a dict, len of a dict. -/
namespace Z
open PySem PySem.Spec PyProof.Rows L2 PySem.SeqAt

/-! ### data read -/
mutual
theorem vr_reads {h : Heap} : ∀ {d : D} {u : Value}, VR h u d → ∃ as, Reads h u d.toP as
  | _, _, .non => ⟨_, .none⟩
  | _, _, .int i t => ⟨_, .int i t⟩
  | _, _, .str x t => ⟨_, .str x t⟩
  | _, _, .tup ht hr => by
    obtain ⟨o, e, c, n, d⟩ := ht
    obtain ⟨as, r⟩ := vra_reads hr
    exact ⟨as, by simp only [D.toP]; exact .tuple e c d r⟩
theorem vra_reads {h : Heap} : ∀ {ds : List D} {us : List Value}, VRA h us ds → ∃ as, ReadsAll h us (D.toPL ds) as
  | _, _, .nil => ⟨_, .nil⟩
  | _, _, .cons a t => by
    obtain ⟨as, r⟩ := vr_reads a
    obtain ⟨bs, r2⟩ := vra_reads t
    exact ⟨_, .cons r r2⟩
end
theorem toP_depth : ∀ d : D, d.toP.depth = d.depth := by
  intro d
  induction d using D.rec (motive_2 := fun l => PyData.depthAll (D.toPL l) = D.depthL l) with
  | non => rfl
  | bl b => rfl
  | int i => rfl
  | str x => rfl
  | ref a => rfl
  | tup xs ih => simp [D.toP, D.depth, PyData.depth, ih]
  | nil => rfl
  | cons x r h1 h2 => simp [D.toPL, D.depthL, PyData.depthAll, h1, h2]
/-! ### sorted -/
def dLe (a b : D) : Bool := PySem.W.dataLe false D.toP a b
def zsort (xs : List D) : List D := xs.mergeSort dLe
def alikeL (xs : List D) : Prop := ∀ x ∈ xs, ∀ y ∈ xs, PySem.W.alike x.toP y.toP = true
/-- what may be sorted -/
def srtOk (xs : List D) : Prop := alikeL xs ∧ D.plainL xs = true ∧ ((∀ x ∈ xs, ∃ y r, x = .tup (y :: r)) ∨ ∀ x ∈ xs, x ≠ .non ∧ ∀ ys, x ≠ .tup ys) ∧ ∀ x ∈ xs, x.depth ≤ 16
section
variable {prog : Program} {w : World} {A : Around} {E : Value → Shared → Prop} {s : Shared}
/-- sorted(x), x told by what is collected of it -/
theorem sorted_coll {x : Addr} {ds : List D} {V0 : Value → D → Prop} {Q : Value → Shared → Prop}
    (hc : ∀ (R : List Value → Shared → Prop) (E : Value → Shared → Prop), (∀ h' tk vs, (∀ b o, s.heap.get? b = some o → h'.get? b = some o) → PySem.W.EachIs (fun u d => V0 u d ∧ VR s.heap u d) vs ds → R vs { s with heap := h', toks := tk }) → wpAny (model prog w) A.in1 (collect (.ref x)) R E s)
    (ok : srtOk ds) (hL : ds.length ≤ sizeLine) (hu : A.units + 18 < cLine)
    (h : ∀ (h1 h' : Heap) (tk : Nat) (out : List Value), (∀ b o, s.heap.get? b = some o → h1.get? b = some o) → (∀ b o, h1.get? b = some o → h'.get? b = some o) → PySem.W.EachIs V0 out (zsort ds) → (∃ n, h'.get? h1.objs.size = some (seqObj "list" out.toArray n)) → Q (.ref h1.objs.size) { s with heap := h', toks := tk }) :
    wpAny (model prog w) A (call (.builtin "sorted") [.ref x]) Q E s := by
  refine Calls.call_function_entry PyProof.Rows.kind_sorted PyProof.Rows.plain_sorted PyProof.Rows.entry_sorted (PyProof.Rows.args_sorted1 _) ?_
  unfold Builtin.«sorted»
  refine wpAny_bind (m := checkCount "sorted" 1 1 _) (wpAny_pure ?_)
  refine wpAny_bind (hc _ _ fun h' tk vs hk e => ?_)
  have hL' : vs.length ≤ sizeLine := by rw [e.length]; exact hL
  refine wpAny_bind (wpAny_newList ?_ hL')
  have hoL : (h'.push (seqObj "list" vs.toArray 0)).get? h'.objs.size = some (seqObj "list" vs.toArray 0) := Heap.get?_push_size _ rfl
  show wpAny _ _ _ _ _ { s with heap := h'.push (seqObj "list" vs.toArray 0), toks := tk }
  have keep : ∀ b o, s.heap.get? b = some o → (PySem.W.sortingHeap (h'.push (seqObj "list" vs.toArray 0)) h'.objs.size vs).get? b = some o := fun b o q => by
    have q1 := hk b o q
    exact PySem.W.sortingHeap_old (Nat.ne_of_lt (Heap.lt_size q1)) (Heap.get?_push_of_some _ q1)
  have er : PySem.W.EachIs (fun v b => ∃ as, Reads (PySem.W.sortingHeap (h'.push (seqObj "list" vs.toArray 0)) h'.objs.size vs) v (D.toP b) as) vs ds := e.mono fun _ _ ⟨_, r⟩ => by
    obtain ⟨as, r⟩ := vr_reads r
    exact ⟨as, PyProof.Rows.Reads.keeps keep r⟩
  have hal : PySem.W.AllAlike (ds.map D.toP) := fun d hd d' hd' => by
    obtain ⟨b, hb, rfl⟩ := List.mem_map.mp hd
    obtain ⟨b', hb', rfl⟩ := List.mem_map.mp hd'
    exact ok.1 b hb b' hb'
  have hk2 : PySem.W.Sortable (ds.map D.toP) := by
    rcases ok.2.2.1 with q | q
    · refine .inl fun d hd => ?_
      obtain ⟨b, hb, rfl⟩ := List.mem_map.mp hd
      obtain ⟨y, r, rfl⟩ := q b hb
      exact ⟨y.toP, D.toPL r, rfl⟩
    · refine .inr fun d hd => ?_
      obtain ⟨b, hb, rfl⟩ := List.mem_map.mp hd
      obtain ⟨q1, q2⟩ := q b hb
      have hp : b.plain = true := D.plainL_iff.mp ok.2.1 b hb
      refine ⟨?_, fun ys e => ?_⟩ <;> cases b <;> first | exact absurd rfl q1 | exact absurd rfl (q2 _) | (simp [D.toP] at *; done) | (simp [D.plain] at hp; done) | simp_all [D.toP, D.plain]
  have hu2 : ∀ d, d ∈ ds.map D.toP → A.in1.in1.units + d.depth < cLine := fun d hd => by
    obtain ⟨b, hb, rfl⟩ := List.mem_map.mp hd
    have := ok.2.2.2 b hb
    rw [toP_depth]
    show A.units + 1 + 1 + b.depth < cLine
    omega
  refine wpAny_bind (wpAny_holding (wpAny_call_entry PyProof.Rows.slot_list_sort ⟨_, hoL, rfl⟩ PyProof.Rows.entry_list_sort
    (PySem.W.list_sort_vals (κ := PySem.W.dataKind (PySem.W.sortingHeap (h'.push (seqObj "list" vs.toArray 0)) h'.objs.size vs) (ds.map D.toP)) (s := { s with heap := h'.push (seqObj "list" vs.toArray 0), toks := tk }) hoL
      (PySem.W.SortsAt.data (s := { s with heap := PySem.W.sortingHeap (h'.push (seqObj "list" vs.toArray 0)) h'.objs.size vs, toks := tk }) (PySem.W.each_map (R := fun v d => ∃ as, Reads (PySem.W.sortingHeap (h'.push (seqObj "list" vs.toArray 0)) h'.objs.size vs) v d as) D.toP er) hal hk2 hu2) hL' ⟨_, rfl, ?_⟩)
    (PyProof.Rows.args_list_sort _)))
  have eo := PySem.W.sortVals_data (R := V0) (h' := PySem.W.sortingHeap (h'.push (seqObj "list" vs.toArray 0)) h'.objs.size vs) (enc := D.toP) false (e.mono fun _ _ q => q.1) er hal
  obtain ⟨e', he'⟩ := PyProof.Rows.sortedHeap_at (vs := vs) (out := (PySem.W.sortVals (PySem.W.dataKind (PySem.W.sortingHeap (h'.push (seqObj "list" vs.toArray 0)) h'.objs.size vs) (ds.map D.toP)) false vs vs).toArray) hoL
  refine wpAny_pure ⟨_, rfl, h h' _ tk _ hk (fun b o q1 => ?_) eo ⟨e', he'⟩⟩
  have hb : b < h'.objs.size := Heap.lt_size q1
  rw [PyProof.Rows.sortedHeap_old (Nat.ne_of_lt hb) (by rw [size_push']; exact Nat.lt_succ_of_lt hb)]
  exact Heap.get?_push_of_some _ q1
end

def VZ (K : PySem.W.Frag) (H : Hp) (u : Value) (d : D) : Prop := ∃ v, L2.RelV v u ∧ Rp K H v d
section
variable {X : Cx} {pins : List (Addr × Obj)} {σ : L2.St} {H : Hp} {s : Shared}
theorem each_of {K : PySem.W.Frag} {h : Heap} : ∀ {ds : List D} {vs : List V} {us : List Value}, RpA K H vs ds → Vals vs us → VRA h us ds → PySem.W.EachIs (fun u d => VZ K H u d ∧ VR h u d) us ds
  | _, _, _, .nil, .nil, .nil => .nil
  | _, _, _, .cons a t, .cons b u, .cons c w => .cons ⟨⟨_, b, a⟩, c⟩ (each_of t u w)
theorem of_each {K : PySem.W.Frag} : ∀ {ds : List D} {us : List Value}, PySem.W.EachIs (VZ K H) us ds → ∃ vs, Vals vs us ∧ RpA K H vs ds
  | _, _, .nil => ⟨[], .nil, .nil⟩
  | _, _, .cons ⟨v, a, b⟩ t => by
    obtain ⟨vs, c, d⟩ := of_each t
    exact ⟨v :: vs, .cons a c, .cons b d⟩
theorem vals_at {K : PySem.W.Frag} : ∀ {ds : List D} {us : List Value}, us.length = ds.length → (∀ (i : Nat) (d : D) (u : Value), ds[i]? = some d → us[i]? = some u → VZ K H u d) → PySem.W.EachIs (VZ K H) us ds
  | [], [], _, _ => .nil
  | [], _ :: _, h, _ => by simp at h
  | _ :: _, [], h, _ => by simp at h
  | d :: ds, u :: us, h, f => .cons (f 0 d u rfl rfl) (vals_at (by simpa using h) fun i d u h1 h2 => f (i + 1) d u (by simpa using h1) (by simpa using h2))
/-- what is drawn of a dict: its keys -/
theorem dsrc {a : Addr} {kvs : List (D × D)} (I : L2.Inv X pins σ H s) (r : RdD X.K X.w H a kvs) : ∃ (P : Nat → Value → Prop) (OK : Heap → Prop), PySem.W.KdlSrc X.prog X.w "dict" a a kvs.length P OK ∧ OK s.heap ∧ kvs.length ≤ sizeLine ∧
    ∀ acc, ItemsOf P acc kvs.length → ∃ vs, Vals vs acc.toList ∧ RpA X.K H vs (kvs.map (·.1)) := by
  obtain ⟨hz, lo, ⟨vs, kr, dd⟩ | ⟨vs, tr, dd⟩⟩ := r.views I
  · obtain ⟨ep, hat⟩ := dd.dictAt
    have hl : kvs.length = vs.length := Paired.length kr
    refine ⟨_, _, by rw [hl]; exact PySem.W.kdl_dict (knd := mixKind X.prog X.w) (kvs := vs) (ep := ep) lo, hat, hz, fun acc hacc => ?_⟩
    refine of_each (vals_at (by rw [Array.length_toList, hacc.1]; simp) fun i d u h1 h2 => ?_)
    obtain ⟨k, x, e1, e2⟩ := hacc.2 i u (by rw [← Array.getElem?_toList]; exact h2)
    rw [List.getElem?_map] at h1
    cases q : kvs[i]? with
    | none => rw [q] at h1; cases h1
    | some p =>
      rw [q] at h1; cases h1
      obtain ⟨b, hb, e3, _⟩ := paired_get kr q
      rw [e1] at hb; cases hb
      refine ⟨kV k, keyIs_rel (show keyIs k u = true from e2), ?_⟩
      show Rp X.K H (kV k) p.1
      rw [e3]
      cases k with
      | inl i => exact .int i
      | inr x => exact .str x
  · obtain ⟨o, es, ep, h1, h2, h3, h4, h5, h6⟩ := dd
    have hl : kvs.length = vs.length := Paired.length tr
    have hs : es.size = kvs.length := by rw [hl, ← Array.length_toList, h4, List.length_map]
    refine ⟨_, _, by rw [← hs]; exact L2.kdl_raw lo h2 h3, h1, hz, fun acc hacc => ?_⟩
    refine of_each (vals_at (by rw [Array.length_toList, hacc.1]; simp) fun i d u g1 g2 => ?_)
    obtain ⟨en, e1, e2⟩ := hacc.2 i u (by rw [← Array.getElem?_toList]; exact g2)
    rw [List.getElem?_map] at g1
    cases q : kvs[i]? with
    | none => rw [q] at g1; cases g1
    | some p =>
      rw [q] at g1; cases g1
      obtain ⟨b, hb, e3, e4, _⟩ := paired_get tr q
      have e5 : es[i]? = some (entryOfKey (dataKind X.prog X.w) b) := by rw [← Array.getElem?_toList, h4, List.getElem?_map, hb]; rfl
      rw [e1] at e5; cases e5
      refine ⟨.ref b.2.1, by rw [e2]; rfl, ?_⟩
      show Rp X.K H (.ref b.2.1) p.1
      rw [e3.1]; exact e4
/-- one that gives a row: a list, a tuple, a dict's keys -/
def ZRow (K : PySem.W.Frag) (d : D) (S : Store) (xs : List D) : Prop := (∃ src, ZSrc K d S src xs) ∨ ∃ a kvs, d = .ref a ∧ (S a = some (.dct kvs) ∨ ∃ ho, S a = some (.fdc ho kvs)) ∧ xs = kvs.map (·.1)
theorem RS.rd {w : World} {K : PySem.W.Frag} {S : Store} {a : Addr} {kvs : List (D × D)} (rs : RS K w H S) (h : S a = some (.dct kvs) ∨ ∃ ho, S a = some (.fdc ho kvs)) : RdD K w H a kvs := by
  rcases h with h | ⟨ho, h⟩
  · exact RdD.of_dct (rs _ _ h)
  · exact (rs _ _ h).2
end
def zSorted (K : PySem.W.Frag) : ZRn := fun ds S Q => ∃ d xs, ds = [d] ∧ ZRow K d S xs ∧ srtOk xs ∧ ∀ p, S p = none → Q (.ref p) (zup S p (.lst (zsort xs)))
def zListA (K : PySem.W.Frag) : ZRn := fun ds S Q => ∃ d xs, ds = [d] ∧ ZRow K d S xs ∧ ∀ p, S p = none → Q (.ref p) (zup S p (.lst xs))
theorem zsort_perm (xs : List D) : (zsort xs).Perm xs := List.mergeSort_perm _ _
section
variable {X : Cx}
theorem call_zSorted (hu : X.A.units + 18 < cLine) (hc : X.calm = true) : CallR X (.builtin "sorted") (lin X.K X.w (zSorted X.K)) := by
  rintro pins s σ H xs us Q I rv ⟨ds, S, Qz, r, rs, ⟨d, ys, rfl, row, ok, h⟩, hq⟩
  obtain ⟨v, rfl, r1⟩ := rpa1 r
  obtain ⟨u, rfl, ru⟩ := vals1 rv
  have fin : ∀ {x : Addr}, ys.length ≤ sizeLine →
      (∀ (R : List Value → Shared → Prop) (E : Value → Shared → Prop), (∀ h' tk us, (∀ b o, s.heap.get? b = some o → h'.get? b = some o) → (∃ vs, Vals vs us ∧ RpA X.K H vs ys) → R us { s with heap := h', toks := tk }) → wpAny (model X.prog X.w) X.A.in1 (collect (.ref x)) R E s) →
      wpAny (model X.prog X.w) X.A (call (.builtin "sorted") [.ref x]) (EP X pins σ Q) X.xe s := fun {x} hz hc => by
    refine sorted_coll (V0 := VZ X.K H) (fun R E hR => hc R E fun h' tk us k ⟨vs, rv, ra⟩ => hR h' tk us k (each_of ra rv (RpA.vr I _ _ _ ok.2.1 ra rv))) ok hz hu fun h1 h' tk out k1 k2 eo ⟨n, he⟩ => ?_
    obtain ⟨ws, q1, q2⟩ := of_each eo
    have I1 : L2.Inv X pins σ H { s with heap := h1, toks := tk } := I.kept k1
    have hn := I1.hok.fresh (Nat.le_refl h1.objs.size)
    have hzw : ws.length ≤ sizeLine := by rw [q2.length, (zsort_perm ys).length_eq]; exact hz
    exact ⟨.ref h1.objs.size, _, I1.laid (t' := tk) k2 (Nat.le_refl _) (show ObjOk X.prog X.w _ h' _ (.lst ws) from ⟨hzw, out, n, q1, he⟩), rfl,
      hq _ _ _ _ (h _ (rs.none hn)) (Fr.laid hn) (.ref _) (rs.laid hn ⟨ws, upd_same, RpA.mono (tup_free (vs := []) hn) _ _ q2⟩)⟩
  rcases row with ⟨src, hs⟩ | ⟨a, kvs, rfl, hs, rfl⟩
  · obtain ⟨a, rfl, ⟨vs, q1, q2, _⟩ | ⟨⟨vs, q1, q2⟩, _⟩⟩ := rd_seq rs r1 hs
    · cases ru
      obtain ⟨its, rv2, p, hz⟩ := I.tuple q1
      have hz2 : its.length ≤ sizeLine := by rw [← rv2.length]; exact hz
      obtain ⟨o, e1, e2, n, e3⟩ := (show s.heap.IsTuple a its.toArray from p)
      exact fin (by rw [← q2.length]; exact hz) fun R E hR => wpAny_collect_seq a (.inr rfl) e1 e2 e3 (fun h' k => by have := hR h' s.toks its k ⟨vs, rv2, q2⟩; simpa using this) (by simpa using hz2)
    · cases ru
      obtain ⟨its, rv2, p, hz⟩ := I.list q1
      have hz2 : its.length ≤ sizeLine := by rw [← rv2.length]; exact hz
      obtain ⟨o, e1, e2, n, e3⟩ := p.isList
      exact fin (by rw [← q2.length]; exact hz) fun R E hR => wpAny_collect_seq a (.inl rfl) e1 e2 e3 (fun h' k => by have := hR h' s.toks its k ⟨vs, rv2, q2⟩; simpa using this) (by simpa using hz2)
  · cases r1
    cases ru
    obtain ⟨P, OK, src, hok, hz, hacc⟩ := dsrc I (rs.rd hs)
    exact fin (by simpa using hz) fun R E hR => PySem.W.kdu_collect (A := X.A.in1) src (I.ok.hd hc) hok hz fun h' tk acc k it => hR h' tk _ k (hacc acc it)
theorem call_zListA (hc : X.calm = true) : CallR X (.type "list") (lin X.K X.w (zListA X.K)) := by
  rintro pins s σ H xs us Q I rv ⟨ds, S, Qz, r, rs, ⟨d, ys, rfl, row, h⟩, hq⟩
  rcases row with ⟨src, hs⟩ | ⟨a, kvs, rfl, hs, rfl⟩
  · exact call_zList pins s σ H xs us Q I rv ⟨[d], S, Qz, r, rs, ⟨d, src, ys, rfl, hs, h⟩, hq⟩
  · obtain ⟨v, rfl, r1⟩ := rpa1 r
    obtain ⟨u, rfl, ru⟩ := vals1 rv
    cases r1
    cases ru
    obtain ⟨P, OK, src, hok, hz, hacc⟩ := dsrc I (rs.rd hs)
    refine PySem.W.kdl_call src (I.ok.hd hc) hok hz fun h' tk acc' c' kp e it => ?_
    obtain ⟨ws, q1, q2⟩ := hacc acc' it
    have hn := I.hok.fresh (Nat.le_refl s.heap.objs.size)
    have hzw : ws.length ≤ sizeLine := by rw [q2.length]; simpa using hz
    exact ⟨.ref s.heap.objs.size, _, I.laid (t' := tk) kp (Nat.le_refl _) (show ObjOk X.prog X.w _ h' _ (.lst ws) from ⟨hzw, acc'.toList, c', q1, by rw [Array.toArray_toList]; exact e⟩), rfl,
      hq _ _ _ _ (h _ (rs.none hn)) (Fr.laid hn) (.ref _) (rs.laid hn ⟨ws, upd_same, RpA.mono (tup_free (vs := []) hn) _ _ q2⟩)⟩
/-- len, of a dict too -/
def zLenA : ZRn := fun ds S Q => match ds with
  | [.str y] => y.length ≤ sizeLine ∧ Q (.int (y.length : Nat)) S
  | [.tup xs] => Q (.int (xs.length : Nat)) S
  | [.ref a] => match S a with
    | some (.lst xs) => Q (.int (xs.length : Nat)) S
    | some (.fls xs) => Q (.int (xs.length : Nat)) S
    | some (.dct kvs) => Q (.int (kvs.length : Nat)) S
    | some (.fdc _ kvs) => Q (.int (kvs.length : Nat)) S
    | _ => False
  | _ => False
theorem len_dict {pins : List (Addr × Obj)} {s : Shared} {σ : L2.St} {H : Hp} {a : Addr} {kvs : List (D × D)} {Q : VK} (I : L2.Inv X pins σ H s) (r : RdD X.K X.w H a kvs) (q : Q (.int (kvs.length : Nat)) H) :
    wpAny (model X.prog X.w) X.A (call (.builtin "len") [.ref a]) (EP X pins σ Q) X.xe s := by
  obtain ⟨hz, lo, ⟨vs, kr, dd⟩ | ⟨vs, tr, dd⟩⟩ := r.views I
  · have hl : kvs.length = vs.length := Paired.length kr
    rw [sizeLine_eq] at hz
    refine call_len_dict (knd := mixKind X.prog X.w) lo dd (by omega) ?_
    rw [← hl]
    exact ⟨.int _, H, I.tok _, ⟨_, rfl⟩, q⟩
  · have hl : kvs.length = vs.length := Paired.length tr
    rw [sizeLine_eq] at hz
    refine call_len_dictH (knd := dataKind X.prog X.w) lo dd (by omega) ?_
    rw [← hl]
    exact ⟨.int _, H, I.tok _, ⟨_, rfl⟩, q⟩
theorem call_zLenA : CallR X (.builtin "len") (lin X.K X.w zLenA) := by
  rintro pins s σ H xs us Q I rv ⟨ds, S, Qz, r, rs, h, hq⟩
  unfold zLenA at h
  split at h
  · exact call_zLen pins s σ H xs us Q I rv ⟨_, S, Qz, r, rs, h, hq⟩
  · exact call_zLen pins s σ H xs us Q I rv ⟨_, S, Qz, r, rs, h, hq⟩
  · rename_i a
    have go : ∀ {z : ZO}, S a = some z → (match z with
      | .lst xs => Qz (.int (xs.length : Nat)) S
      | .fls xs => Qz (.int (xs.length : Nat)) S
      | .dct kvs => Qz (.int (kvs.length : Nat)) S
      | .fdc _ kvs => Qz (.int (kvs.length : Nat)) S
      | _ => False) → wpAny (model X.prog X.w) X.A (call (.builtin "len") us) (EP X pins σ Q) X.xe s := fun {z} e h => by
      cases z with
      | lst ys => exact call_zLen pins s σ H xs us Q I rv ⟨_, S, Qz, r, rs, by simp only [zLen, e]; exact h, hq⟩
      | fls ys => exact call_zLen pins s σ H xs us Q I rv ⟨_, S, Qz, r, rs, by simp only [zLen, e]; exact h, hq⟩
      | dct kvs =>
        obtain ⟨v, rfl, r1⟩ := rpa1 r
        obtain ⟨u, rfl, ru⟩ := vals1 rv
        cases r1; cases ru
        exact len_dict I (rs.rd (.inl e)) (hq.here rs (.int _) h)
      | fdc ho kvs =>
        obtain ⟨v, rfl, r1⟩ := rpa1 r
        obtain ⟨u, rfl, ru⟩ := vals1 rv
        cases r1; cases ru
        exact len_dict I (rs.rd (.inr ⟨ho, e⟩)) (hq.here rs (.int _) h)
      | ins C fs => exact h.elim
    cases q : S a with
    | none => rw [q] at h; exact h.elim
    | some z => rw [q] at h; exact go q (by cases z <;> exact h)
  · exact h.elim
end
end Z
/-! ZB: short forms for printed terms. -/
namespace Z
open PySem PySem.Spec PyProof.Rows L2 PySem.SeqAt
/-- a row or a text, walked -/
def ZSrcA (K : PySem.W.Frag) (d : D) (S : Store) (src : Src) (xs : List D) : Prop := ZSrc K d S src xs ∨ ∃ x, d = .str x ∧ src = .non ∧ xs = x.cps.toList.map fun c => .str ⟨#[c]⟩
def ziAny (K : PySem.W.Frag) (z : ZTE) : ZTI := fun δ S R => z δ S fun d S1 => ∃ src xs, ZSrcA K d S1 src xs ∧ R src xs S1
def zDNew : ZTE := fun _ S Q => ∀ p, S p = none → Q (.ref p) (zup S p (.dct []))
section
variable {X : Cx}
theorem zi_any {tg e : Expr} {z : ZTE} (h : ZE X e z) : ZI X tg e (ziAny X.K z) := by
  refine ⟨fun pins s σ H R I ⟨δ, S, Rz, he, hs, hz, hq⟩ => ?_⟩
  refine thn (h.run pins s σ H (fun v H1 => ∃ d S1 src xs, ZSrcA X.K d S1 src xs ∧ Rz src xs S1 ∧ Fr S S1 H H1 ∧ Rp X.K H1 v d ∧ RS X.K X.w H1 S1) I ⟨δ, S, _, he, hs, hz, fun d S1 v H1 ⟨src, xs, a, b⟩ f1 r1 s1 => ⟨d, S1, src, xs, a, b, f1, r1, s1⟩⟩) fun u s1 ⟨v, H1, I1, ru, d, S1, src, xs, hsrc, hR, f1, r1, rs1⟩ => ?_
  rcases hsrc with hsrc | ⟨x, rfl, rfl, rfl⟩
  · obtain ⟨a, rfl, ⟨vs, q1, q2, rfl⟩ | ⟨⟨vs, q1, q2⟩, q3⟩⟩ := rd_seq rs1 r1 hsrc
    · cases ru
      obtain ⟨its, rv, p, hz⟩ := I1.tuple q1
      refine wpAny_pyIter_tuple (show s1.heap.IsTuple a its.toArray from p) ?_
      exact pi_one (tk := s1.toks) I1 _ (turn_tuple a _) ⟨_, Heap.get?_push_size _ rfl, rfl, rfl⟩ (hq _ _ _ _ _ hR f1 rs1 (it_tup q1 q2))
    · cases ru
      obtain ⟨its, rv, p, hz⟩ := I1.list q1
      refine wpAny_pyIter_list p.isList ?_
      exact pi_one (tk := s1.toks) I1 _ (turn_list a _) ⟨_, Heap.get?_push_size _ rfl, rfl, rfl⟩ (hq _ _ _ _ _ hR f1 rs1 (it_lst q3))
  · cases r1
    obtain ⟨t, rfl⟩ := ru
    have hl : (x.cps.toList.map fun c => D.str ⟨#[c]⟩).length = x.cps.size := by simp
    have ok : ItOk X.K X.w H1 (Its x) .non (x.cps.toList.map fun c => D.str ⟨#[c]⟩) := by
      refine ItOk.of (hl ▸ walk_str) (fun _ _ _ _ _ => trivial) fun i H S x' H' hi ht rs k y => ?_
      obtain ⟨rfl, c, hc, rfl⟩ := y
      exact ⟨.str ⟨#[c]⟩, by simp [hc], .str _, Fr.refl, rs⟩
    have q := hq _ _ _ _ _ hR f1 rs1 ok
    cases ha : x.cps.all (· < 128)
    · exact wpAny_pyIter_wide ha (pi_one (tk := s1.toks) I1 _ (turn_str _ x t "str_iterator" (.inr rfl)) ⟨_, Heap.get?_push_size _ rfl, rfl, rfl⟩ q)
    · exact wpAny_pyIter_ascii ha (pi_one (tk := s1.toks) I1 _ (turn_str _ x t "str_ascii_iterator" (.inl rfl)) ⟨_, Heap.get?_push_size _ rfl, rfl, rfl⟩ q)
theorem ze_dnew {pos : Pos} : ZE X (.Dict [] [] pos) zDNew := pe_dnewK.im fun σ H Q ⟨δ, S, Qz, he, hs, hz, hq⟩ p hp =>
  hq _ _ _ _ (hz p (hs.none hp)) (Fr.laid hp) (.ref p) (hs.laid hp (.inl ⟨[], upd_same, .nil⟩))
theorem zv (i : Nat) {x : Str} {pos : Pos} (hN : X.N[i]? = some x := by rfl) (hv : Vis X.env.scope x := by first | exact Or.inl rfl | exact Or.inr (Or.inl rfl) | exact Or.inr (Or.inr rfl)) (hd : (x == ("__debug__" : Str)) = false := by decide)
    (hcd : (x == ("__classdict__" : Str)) = false := by decide) : ZE X (.Name x pos) (zVar i) := ze_var hN hv hd hcd
theorem zgn (i : Nat) {x : Str} {pos : Pos} (nd : X.N.Nodup) (hi : X.N[i]? = some x := by rfl) (hx : Loc X.env.scope x := by first | exact Or.inl rfl | exact Or.inr rfl) (hf : X.fn x = true ∨ X.env.scope.names.lookup x = some .local := by first | exact Or.inl rfl | exact Or.inr rfl) : ZG X (.Name x pos) (zgName i) :=
  zg_name nd hi hx hf
theorem zst (i : Nat) {x : Str} {e : Expr} {pos pos' : Pos} {z : ZTE} (nd : X.N.Nodup) (he : ZE X e z) (hi : X.N[i]? = some x := by rfl) (hx : Loc X.env.scope x := by first | exact Or.inl rfl | exact Or.inr rfl)
    (hs : swapsWith e (some (.Name x pos')) pos.line X.env = pure false := by rfl) (hf : X.fn x = true ∨ X.env.scope.names.lookup x = some .local := by first | exact Or.inl rfl | exact Or.inr rfl) : ZS X (.Assign [.Name x pos'] e pos) (zAsg z (zgName i)) :=
  zs_set nd hi hx he hs hf
theorem zau (i : Nat) {x : Str} {e : Expr} {op : Operator} {r : ZR2} {pos pos' : Pos} {z : ZTE} (nd : X.N.Nodup) (he : ZE X e z) (ho : OpR X (inplaceOp op) (li2 X.K X.w r)) (hi : X.N[i]? = some x := by rfl) (hx : Loc X.env.scope x := by first | exact Or.inl rfl | exact Or.inr rfl)
    (hf : X.fn x = true ∨ X.env.scope.names.lookup x = some .local := by first | exact Or.inl rfl | exact Or.inr rfl) : ZS X (.AugAssign (.Name x pos') op e pos) (zAug i r z) := zs_aug nd hi hx he ho hf
end
theorem room9 {k : Nat} {A : Around} (r : Room k A) : A.units + 9 < cLine := by have := r.un; omega
theorem room18 {k : Nat} {A : Around} (r : Room k A) : A.units + 18 < cLine := by have := r.un; omega
theorem room65 {k : Nat} {A : Around} (r : Room k A) : A.units + 65 < cLine := by have := r.un; omega
end Z
/-! ZC: plain lemmas for the readings. -/
namespace Z
open PySem PySem.Spec PyProof.Rows L2 PySem.SeqAt
theorem atI_n {α : Type} (xs : List α) (i : Nat) : atI xs (i : Int) = xs[i]? := by
  unfold atI ixN
  rw [if_pos (by omega)]
  by_cases h : (i : Int) < xs.length
  · rw [if_pos h]; rfl
  · rw [if_neg h, List.getElem?_eq_none (by omega)]; rfl
theorem atI_zero {α : Type} (xs : List α) : atI xs 0 = xs[0]? := atI_n xs 0
theorem atI_one {α : Type} (xs : List α) : atI xs 1 = xs[1]? := atI_n xs 1
theorem atI_lit {α : Type} (xs : List α) (n : Nat) : atI xs (no_index (OfNat.ofNat n) : Int) = xs[n]? := atI_n xs n
theorem atI_nn {α : Type} (xs : List α) {i : Int} (h : 0 ≤ i) : atI xs i = xs[i.toNat]? := by
  obtain ⟨n, rfl⟩ := Int.eq_ofNat_of_zero_le h
  exact atI_n xs n
theorem atI_last {α : Type} (xs : List α) : atI xs (-1) = xs.getLast? := by
  unfold atI ixN
  rw [if_neg (by omega)]
  cases xs with
  | nil => rfl
  | cons x r =>
    rw [if_pos (by simp only [List.length_cons]; omega), List.getLast?_eq_getElem?]
    show (x :: r)[(-1 + ((x :: r).length : Int)).toNat]? = _
    congr 1
    omega
theorem ixN_n (n i : Nat) : ixN n (i : Int) = if i < n then some i else none := by
  unfold ixN
  rw [if_pos (by omega)]
  by_cases h : i < n
  · rw [if_pos (by omega), if_pos h]; rfl
  · rw [if_neg (by omega), if_neg h]
theorem ixN_zero (n : Nat) : ixN n 0 = if 0 < n then some 0 else none := ixN_n n 0
theorem ixN_one (n : Nat) : ixN n 1 = if 1 < n then some 1 else none := ixN_n n 1
theorem ixN_lit (n k : Nat) : ixN n (no_index (OfNat.ofNat k) : Int) = if k < n then some k else none := ixN_n n k
theorem natC (n : Nat) : ((no_index (OfNat.ofNat n) : Nat) : Int) = (OfNat.ofNat n : Int) := rfl
theorem natC0 : ((0 : Nat) : Int) = 0 := rfl
theorem natC1 : ((1 : Nat) : Int) = 1 := rfl
theorem plain_int (i : Int) : (D.int i).plain = true := rfl
theorem plain_str (x : Str) : (D.str x).plain = true := rfl
theorem plain_non : D.non.plain = true := rfl
theorem depth_int (i : Int) : (D.int i).depth = 0 := rfl
theorem depth_str (x : Str) : (D.str x).depth = 0 := rfl
theorem depth_non : D.non.depth = 0 := rfl
theorem isE_snoc {α : Type} (xs : List α) (x : α) : (xs ++ [x]).isEmpty = false := by cases xs <;> rfl
theorem eraseIdx_perm {α : Type} {l : List α} {n : Nat} (h : n < l.length) : (l[n] :: l.eraseIdx n).Perm l := by
  have e : l.take n ++ l[n] :: l.drop (n + 1) = l := by rw [← List.drop_eq_getElem_cons h, List.take_append_drop]
  rw [List.eraseIdx_eq_take_drop_succ]
  exact List.perm_middle.symm.trans (by rw [e])
theorem seqIx_n (n i : Nat) : seqIndex? (i : Int) n = if i < n then some i else none := by
  unfold seqIndex?
  simp only
  rw [if_neg (show ¬ ((i : Int) < 0) by omega)]
  by_cases h : i < n
  · rw [if_pos h, if_pos (by simp; omega)]; rfl
  · rw [if_neg h, if_neg (by simp; omega)]
theorem sIx_lit (n d k : Nat) : HT.sIx n d (some (no_index (OfNat.ofNat k) : Int)) = min k n := HT.sIx_nat n d k
theorem sIx_zero (n d : Nat) : HT.sIx n d (some 0) = 0 := (HT.sIx_nat n d 0).trans (Nat.zero_min n)
theorem sIx_one (n d : Nat) : HT.sIx n d (some 1) = min 1 n := HT.sIx_nat n d 1
theorem cutD_to (xs : List D) (k : Nat) : cutD xs none (some (k : Int)) = xs.take k := by
  unfold cutD
  rw [HT.sIx_none, HT.sIx_nat, List.drop_zero, Nat.sub_zero, ← List.take_eq_take_min]
theorem cutD_from (xs : List D) (k : Nat) : cutD xs (some (k : Int)) none = xs.drop k := by
  unfold cutD
  rw [HT.sIx_none, HT.sIx_nat]
  by_cases h : k ≤ xs.length
  · rw [Nat.min_eq_left h, List.take_of_length_le (by simp)]
  · rw [List.drop_eq_nil_of_le (by omega), List.drop_eq_nil_of_le (by omega)]; simp
theorem cutD_mid (xs : List D) (j k : Nat) : cutD xs (some (j : Int)) (some (k : Int)) = (xs.drop j).take (k - j) := by
  unfold cutD
  rw [HT.sIx_nat, HT.sIx_nat]
  by_cases h : j ≤ xs.length
  · rw [Nat.min_eq_left h]
    by_cases h2 : k ≤ xs.length
    · rw [Nat.min_eq_left h2]
    · rw [Nat.min_eq_right (by omega), List.take_of_length_le (by simp), List.take_of_length_le (by simp; omega)]
  · rw [List.drop_eq_nil_of_le (by omega), List.drop_eq_nil_of_le (by omega)]; simp
theorem zup_at {S : Store} {a : Addr} {o : ZO} : zup S a o a = some o := zup_same
theorem zup_of {S : Store} {a p : Addr} {o z : ZO} (h : S a = some z) (hp : S p = none) : zup S p o a = some z := by
  rw [zup_ne (fun e => by rw [e, hp] at h; cases h)]; exact h
theorem zup_no {S : Store} {a p : Addr} {o : ZO} (h : zup S p o a = none) : S a = none ∧ a ≠ p := by
  have : a ≠ p := fun e => by subst e; rw [zup_same] at h; cases h
  rw [zup_ne this] at h
  exact ⟨h, this⟩
theorem Sub.refl {S : Store} : Sub S S := fun _ _ h => h
theorem Sub.trans {S S1 S2 : Store} (h : Sub S S1) (h2 : Sub S1 S2) : Sub S S2 := fun a o e => h2 a o (h a o e)
theorem Sub.new {S S1 : Store} {p : Addr} {o : ZO} (h : Sub S S1) (hp : S1 p = none) : Sub S (zup S1 p o) := fun a z e => zup_of (h a z e) hp
theorem Sub.none {S S1 : Store} {p : Addr} (h : Sub S S1) (hp : S1 p = none) : S p = none := by
  cases q : S p with
  | none => rfl
  | some z => rw [h p z q] at hp; cases hp

/-! ### statements -/
theorem zseqN (M : Env → Store → Prop) {t u : ZTS} {E : ZEnds} {δ : Env} {S : Store} (h : ∀ N : Env → Store → Prop, (∀ δ' S', M δ' S' → N δ' S') → t { E with nx := N } δ S) (h2 : ∀ δ' S', M δ' S' → u E δ' S') : zSeq t u E δ S := zseq M (h M fun _ _ h => h) h2
/-! ### loops -/
theorem zloop {src : Src} {g : ZTG} {t : ZTS} {E : ZEnds} (Inv : List D → Env → Store → Prop) (hd : ∀ δ S, Inv [] δ S → E.nx δ S)
    (hs : ∀ d r δ S (N : Env → Store → Prop), Inv (d :: r) δ S → (∀ δ' S', Keep src S' → Inv r δ' S' → N δ' S') → g d δ S fun δ2 S2 => t { E with nx := N, ct := N, bk := E.nx } δ2 S2) : ∀ ds δ S, Inv ds δ S → zLoop src g t E ds δ S
  | [], δ, S, h => hd δ S h
  | d :: r, δ, S, h => hs d r δ S (fun δ' S' => Keep src S' ∧ zLoop src g t E r δ' S') h fun δ' S' hk hi => ⟨hk, zloop Inv hd hs r δ' S' hi⟩
theorem zwhile {c : ZTT} {t : ZTS} {E : ZEnds} (Inv : Nat → Env → Store → Prop)
    (hs : ∀ n δ S (N : Env → Store → Prop), Inv n δ S → (∀ m δ' S', m < n → Inv m δ' S' → N δ' S') → c δ S fun b S1 => if b = true then t { E with nx := N, ct := N, bk := E.nx } δ S1 else E.nx δ S1) {n : Nat} {δ : Env} {S : Store} (h : Inv n δ S) : zWhile c t E δ S := by
  have go : ∀ f n δ S, n < f → Inv n δ S → zWh c t E f δ S := by
    intro f
    induction f with
    | zero => intro n δ S h; omega
    | succ f ih => intro n δ S hn hi; exact hs n δ S (zWh c t E f) hi fun m δ' S' hm hi' => ih m δ' S' (by omega) hi'
  exact ⟨n + 1, go (n + 1) n δ S (Nat.lt_succ_self n) h⟩
theorem zlcl {src : Src} {g : ZTG} {tt : ZTT} {te : ZTE} {δ0 : Env} {Qf : List D → Store → Prop} (Inv : List D → List D → Store → Prop) (hd : ∀ acc S, Inv [] acc S → Qf acc S)
    (hs : ∀ d r acc S (N : List D → Store → Prop), Inv (d :: r) acc S → (∀ acc' S', Keep src S' → Inv r acc' S' → N acc' S') → g d δ0 S fun δ2 S2 => tt δ2 S2 fun b S3 => if b = true then te δ2 S3 fun y S4 => acc.length < sizeLine ∧ N (acc ++ [y]) S4 else N acc S3) :
    ∀ ds acc S, Inv ds acc S → zLcL src g tt te δ0 Qf ds acc S
  | [], acc, S, h => hd acc S h
  | d :: r, acc, S, h => hs d r acc S (fun acc S => Keep src S ∧ zLcL src g tt te δ0 Qf r acc S) h fun acc' S' hk hi => ⟨hk, zlcl Inv hd hs r acc' S' hi⟩
/-- no store changes -/
theorem zlcl_pure {src : Src} {g : ZTG} {tt : ZTT} {te : ZTE} {δ0 : Env} {Qf : List D → Store → Prop} {S : Store} (f : D → Option D) (hk : Keep src S) : ∀ (ds acc : List D),
    (∀ d, d ∈ ds → ∀ (Y : D → Store → Prop) (N : Store → Prop), (∀ y, f d = some y → Y y S) → (f d = none → N S) → g d δ0 S fun δ2 S2 => tt δ2 S2 fun b S3 => if b = true then te δ2 S3 Y else N S3) →
    ds.length + acc.length ≤ sizeLine → Qf (acc ++ ds.filterMap f) S → zLcL src g tt te δ0 Qf ds acc S
  | [], acc, _, _, hq => by show Qf acc S; simpa using hq
  | d :: r, acc, h, hl, hq => by
    rw [List.length_cons] at hl
    refine h d (List.mem_cons_self ..) (fun y S4 => acc.length < sizeLine ∧ Keep src S4 ∧ zLcL src g tt te δ0 Qf r (acc ++ [y]) S4) (fun S3 => Keep src S3 ∧ zLcL src g tt te δ0 Qf r acc S3) (fun y e => ?_) fun e => ?_
    · refine ⟨by omega, hk, zlcl_pure f hk r (acc ++ [y]) (fun d hd => h d (List.mem_cons_of_mem _ hd)) (by simp; omega) ?_⟩
      rw [List.filterMap_cons_some e] at hq
      simpa using hq
    · refine ⟨hk, zlcl_pure f hk r acc (fun d hd => h d (List.mem_cons_of_mem _ hd)) (by omega) ?_⟩
      rw [List.filterMap_cons_none e] at hq
      exact hq
/-- what stays of S within S1 -/
def Ext (A : List Addr) (S S1 : Store) : Prop := ∀ c z, c ∉ A → S c = some z → S1 c = some z
/-- S1 where A says, S else -/
def cutS1 (A : List Addr) (S S1 : Store) : Store := fun c => if c ∈ A then S1 c else S c
theorem cutS1_sub {A : List Addr} {S S1 : Store} (h : Ext A S S1) : Sub (cutS1 A S S1) S1 := fun c z e => by
  unfold cutS1 at e
  split at e
  · exact e
  · exact h c z (by assumption) e
theorem Ext.refl {A : List Addr} {S : Store} : Ext A S S := fun _ _ _ e => e
theorem Ext.new {A : List Addr} {S S1 : Store} {p : Addr} {o : ZO} (h : Ext A S S1) (hp : S1 p = none) : Ext A S (zup S1 p o) := fun c z hc e => zup_of (h c z hc e) hp
theorem Ext.upd {A : List Addr} {S S1 : Store} {p : Addr} {o : ZO} (h : Ext A S S1) (hp : p ∈ A ∨ S p = none) : Ext A S (zup S1 p o) := fun c z hc e => by
  rw [zup_ne (fun q => by subst q; rcases hp with hp | hp; exact hc hp; rw [hp] at e; cases e)]
  exact h c z hc e
theorem Ext.trans {A : List Addr} {S S1 S2 : Store} (h : Ext A S S1) (h2 : Ext A S1 S2) : Ext A S S2 := fun c z hc e => h2 c z hc (h c z hc e)
theorem Ext.sub {S S1 : Store} (h : Ext [] S S1) : Sub S S1 := fun c z e => h c z (by simp) e

mutual
def D.nodes : D → Nat
  | .tup xs => D.nodesL xs + 1
  | _ => 1
def D.nodesL : List D → Nat
  | [] => 0
  | x :: r => x.nodes + D.nodesL r
end
theorem D.nodes_pos (d : D) : 0 < d.nodes := by cases d <;> simp [D.nodes]
theorem rangeD_map (n : Nat) (f : D → Option D) : (rangeD 0 n).filterMap f = (List.range n).filterMap fun i => f (.int (i : Nat)) := by
  unfold rangeD
  rw [List.filterMap_map]
  congr 1
  funext i
  simp
theorem rangeD_some (n : Nat) (f : D → Option D) (g : Nat → D) (h : ∀ i, i < n → f (.int (i : Nat)) = some (g i)) : (rangeD 0 n).filterMap f = (List.range n).map g := by
  rw [rangeD_map]
  induction n with
  | zero => rfl
  | succ n ih => rw [List.range_succ, List.filterMap_append, List.map_append, ih fun i hi => h i (by omega)]; simp [h n (by omega)]
theorem mem_rangeD {n : Nat} {d : D} (h : d ∈ rangeD 0 n) : ∃ i : Nat, i < n ∧ d = .int (i : Nat) := by
  unfold rangeD at h
  obtain ⟨i, hi, rfl⟩ := List.mem_map.mp h
  exact ⟨i, List.mem_range.mp hi, by simp⟩
theorem range_zip (as bs : List D) (h : as.length = bs.length) : (List.range bs.length).map (fun i => D.tup [as[i]?.getD .non, bs[i]?.getD .non]) = (as.zip bs).map fun p => .tup [p.1, p.2] := by
  refine List.ext_getElem (by simp [h]) fun i h1 h2 => ?_
  have h3 : i < bs.length := by simpa using h1
  have h4 : i < as.length := by omega
  simp [h3, h4]
end Z
/-! ZS1: sorted lists of plain data are unique. -/
namespace Z
open PySem PySem.Spec PyProof.Rows L2
mutual
theorem eqv_inj : ∀ a b : D, a.plain = true → b.plain = true → PyData.eqv a.toP b.toP = true → a = b
  | .non, b, _, hb, h => by cases b <;> simp_all [D.toP, D.plain, PyData.eqv]
  | .bl _, _, ha, _, _ => by simp [D.plain] at ha
  | .ref _, _, ha, _, _ => by simp [D.plain] at ha
  | .int i, b, _, hb, h => by cases b <;> simp_all [D.toP, D.plain, PyData.eqv]
  | .str i, b, _, hb, h => by cases b <;> simp_all [D.toP, D.plain, PyData.eqv]
  | .tup xs, b, ha, hb, h => by
    cases b with
    | tup ys =>
      have h' : PyData.eqvAll (D.toPL xs) (D.toPL ys) = true := by simpa [D.toP, PyData.eqv] using h
      rw [eqvL_inj xs ys (by simpa [D.plain] using ha) (by simpa [D.plain] using hb) h']
    | _ => first | (simp [D.plain] at hb; done) | (simp [D.toP, PyData.eqv] at h; done)
theorem eqvL_inj : ∀ a b : List D, D.plainL a = true → D.plainL b = true → PyData.eqvAll (D.toPL a) (D.toPL b) = true → a = b
  | [], b, _, _, h => by cases b <;> simp_all [D.toPL, PyData.eqvAll]
  | x :: xs, b, ha, hb, h => by
    cases b with
    | nil => simp [D.toPL, PyData.eqvAll] at h
    | cons y ys =>
      simp only [D.plainL, Bool.and_eq_true] at ha hb
      simp only [D.toPL, PyData.eqvAll, Bool.and_eq_true] at h
      rw [eqv_inj x y ha.1 hb.1 h.1, eqvL_inj xs ys ha.2 hb.2 h.2]
end
theorem toks_inj {a b : D} (ha : a.plain = true) (hb : b.plain = true) (al : PySem.W.alike a.toP b.toP = true) (h : PySem.W.keyToks a.toP = PySem.W.keyToks b.toP) : a = b := by
  cases q : PyData.eqv a.toP b.toP with
  | true => exact eqv_inj a b ha hb q
  | false =>
    exfalso
    have g := (PySem.W.toks_eqv _ _ al).2 q [] [Sum.inl 0]
    rw [h] at g
    rw [PySem.W.lex_pre, lex_irrefl] at g
    cases g
theorem zsort_sorted (xs : List D) : (zsort xs).Pairwise fun a b => dLe a b = true := PySem.W.sort_pairwise (PySem.W.sortLe_total (listOrd itemOrd) false fun d : D => PySem.W.keyToks d.toP) xs
theorem zsort_eq {xs ys : List D} (hp : xs.Perm ys) (al : alikeL xs) (pl : D.plainL xs = true) : zsort xs = zsort ys := by
  have p1 := zsort_perm xs
  have p2 := zsort_perm ys
  refine List.Perm.eq_of_pairwise (le := fun a b => dLe a b = true) (fun a b ha hb h1 h2 => ?_) (zsort_sorted xs) (zsort_sorted ys) (p1.trans (hp.trans p2.symm))
  have ha' : a ∈ xs := p1.mem_iff.mp ha
  have hb' : b ∈ xs := hp.mem_iff.mpr (p2.mem_iff.mp hb)
  have q1 : (listOrd itemOrd).blt (PySem.W.keyToks b.toP) (PySem.W.keyToks a.toP) = false := by
    have : (!(listOrd itemOrd).blt (PySem.W.keyToks b.toP) (PySem.W.keyToks a.toP)) = true := h1
    simpa using this
  have q2 : (listOrd itemOrd).blt (PySem.W.keyToks a.toP) (PySem.W.keyToks b.toP) = false := by
    have : (!(listOrd itemOrd).blt (PySem.W.keyToks a.toP) (PySem.W.keyToks b.toP)) = true := h2
    simpa using this
  exact toks_inj (D.plainL_iff.mp pl a ha') (D.plainL_iff.mp pl b hb') (al a ha' b hb') ((listOrd itemOrd).total _ _ q2 q1)
end Z
/-! ZE: a def's promise; the script. -/
namespace Z
open PySem PySem.Spec PyProof.Rows L2
abbrev FnP (K : PySem.W.Frag) (x : Str) (st : Stmt) (f : Addr) (fd : FuncData) : Prop := FunD K x x (defArgs st) (defBody st) (defScope st) [] [] f fd
section
variable {P : Program} {w : World} {K : PySem.W.Frag} {mg : Str → Option Value} {base : Heap}
theorem fz_of {x : Str} {st : Stmt} {f : Addr} {fd : FuncData} {N ps : List Str} {k : Nat} {sp : ZSp} {z : ZTS}
    (F : FnP K x st f fd) (S : FnScope N ps (defScope st)) (len : ∀ ds S Q, sp ds S Q → ds.length = ps.length)
    (hbody : ∀ (cdv : Value) (A : Around) (outer : List PySem.Env) (s : Shared) (H : Hp) (E : XK), Room k (A.deeper (envOfC x (defScope st) s.heap.objs.size f cdv)) → ZSs (cxOf L2.CX0 P w K mg base N x (defScope st) f cdv A outer s H E).nox (defBody st) z)
    (law : ∀ ds S Q, sp ds S Q → z (zEnd Q) (zstart N ds) S) : FnOk P w K mg base L2.CX0 (k + 1) f fd ps (liSp K w sp) := by
  refine F.ok S (fun vs H Q E ⟨ds, S, Qz, r, _, h, _⟩ => by rw [r.length]; exact len _ _ _ h) fun cdv A outer s H vs Q E hr ⟨ds, S, Qz, r, rs, h, hq⟩ => ?_
  refine ⟨_, PSs.nox (hbody cdv A outer s H E hr), zstart N ds, S, zEnd Qz, start_rel r, rs, law _ _ _ h, ?_⟩
  refine ⟨fun δ' S' σ' H' ⟨S1, sb, q⟩ f1 e1 rs1 => hq.fin q sb f1 .non rs1, fun d S' v H' ⟨S1, sb, q⟩ f1 r1 rs1 => hq.fin q sb f1 r1 rs1, fun _ _ _ _ h => h.elim, fun _ _ _ _ h => h.elim⟩
theorem gz_of {x : Str} {st : Stmt} {f : Addr} {fd : FuncData} {N ps : List Str} {k : Nat} {sp : ZSp} {z : ZTS}
    (F : FnP K x st f fd) (hm : mg x = some (.ref f)) (b : Binds K fd ps []) (S : FnScope N ps (defScope st)) (len : ∀ ds S Q, sp ds S Q → ds.length = ps.length)
    (hbody : ∀ (cdv : Value) (A : Around) (outer : List PySem.Env) (s : Shared) (H : Hp) (E : XK), Room k (A.deeper (envOfC x (defScope st) s.heap.objs.size f cdv)) → ZSs (cxOf L2.CX0 P w K mg base N x (defScope st) f cdv A outer s H E).nox (defBody st) z)
    (law : ∀ ds S Q, sp ds S Q → z (zEnd Q) (zstart N ds) S) : GF P w K mg base (k + 1) x sp [] :=
  ⟨[], f, fd, ps, [], fz_of F S len hbody law, hm, F.kp, b, .nil, fun _ => .nil⟩
end
/-- a law's promise at its script -/
theorem script_z {K : PySem.W.Frag} {w : World} {sp : ZSp} {H : Hp} {a : Addr} {ns : List Int} {E : XK} (hS : SqL K H a (ns.map V.int))
    (h : ∀ (S : Store) (src : Src), ZSrc K (.ref a) S src (ns.map D.int) → Keep src S → sp [.ref a] S fun d _ => d = .bl true) : liSp K w sp [.ref a] H (fun v _ => v = .bl true) E := by
  rcases hS with hS | hS
  · refine ⟨[.ref a], zup (fun _ => none) a (.fls (ns.map D.int)), fun d _ => d = .bl true, .cons (.ref a) .nil, fun b o e => ?_, h _ (.lst a _) (.inl ⟨rfl, .inr zup_same⟩) (.inr zup_same), fun d S' v H' e _ r _ => ?_⟩
    · by_cases hb : b = a
      · subst hb
        rw [zup_same] at e
        cases e
        exact ⟨_, hS, RpA.ints ns⟩
      · rw [zup_ne hb] at e; cases e
    · subst e; exact r.bl_of
  · refine ⟨[.ref a], fun _ => none, fun d _ => d = .bl true, .cons (.ref a) .nil, (fun b o e => by cases e), h _ .non (.inr ⟨rfl, ns.map V.int, fun _ => .inr hS, fun _ => RpA.ints ns⟩) trivial, fun d S' v H' e _ r _ => ?_⟩
    subst e; exact r.bl_of
end Z
namespace ZH
open PySem PySem.Spec PyProof.Rows L2 Z
/-- the state that a law draws from -/
def Dr (S : Store) (a : Addr) (bn : Addr × List Int) : Prop := ∃ (i : Nat) (j k : Int), S a = some (.lst [.ref bn.1, .int i, .int j, .int k]) ∧ S bn.1 = some (.lst (bn.2.map D.int)) ∧ bn.1 ≠ a
def DrN (S S1 : Store) (a : Addr) (bn : Addr × List Int) : Prop := (∀ c, c ≠ a → S1 c = S c) ∧ Dr S1 a bn
theorem dr_up {S S0 : Store} {a b : Addr} {ns : List Int} {i : Nat} {j k : Int} (f : ∀ c, c ≠ a → S c = S0 c) (e2 : S0 b = some (.lst (ns.map D.int))) (hne : b ≠ a) : DrN S0 (zup S a (.lst [.ref b, .int (i : Nat), .int j, .int k])) a (b, ns) :=
  ⟨fun c hc => (zup_ne hc).trans (f c hc), i, j, k, zup_same, (zup_ne hne).trans ((f b hne).trans e2), hne⟩
def sp__law_draw (K : PySem.W.Frag) : ZSp := fun ds S Q => ∃ (a : Addr) (bn : Addr × List Int) (m : Int), ds = [.ref a, .int m] ∧ 0 < m ∧ m < 1073741824 ∧ Dr S a bn ∧ ∀ r S1, 0 ≤ r → r < m → DrN S S1 a bn → Q (.int r) S1
def z__law_draw (K : PySem.W.Frag) : ZTS :=
  (zSeq (zIfS (zB (zOp zGt (zOp zIx (zVar 0) (zC (.int 2))) (zC (.int 0)))) (zSeq (zAsg (zOp zIx (zVar 0) (zC (.int 2))) (zgName 2))
    (zSeq (zAsg (zOp zDiv (zVar 2) (zVar 1)) (zgSub (zVar 0) (zC (.int 2))))
    (zRet (zOp zMod (zAp zInt (zCons (zVar 2) zNil)) (zVar 1))))) zNext)
    (zSeq (zAsg (zC (.int 0)) (zgName 3))
    (zSeq (zIfS (zB (zOp zLt (zOp zIx (zVar 0) (zC (.int 1))) (zAp zLenA (zCons (zOp zIx (zVar 0) (zC (.int 0))) zNil)))) (zSeq (zAsg (zOp zIx (zOp zIx (zVar 0) (zC (.int 0))) (zOp zIx (zVar 0) (zC (.int 1)))) (zgName 4))
    (zAsg (zOp zAdd (zOp zMul (zC (.int 2)) (zAp zAbs (zCons (zVar 4) zNil))) (zAp zInt (zCons (zOp zLt (zVar 4) (zC (.int 0))) zNil))) (zgName 3))) zNext)
    (zSeq (zAugS (zVar 0) (zC (.int 1)) zIAdd (zC (.int 1)))
    (zSeq (zIfS (zB (zOp zGe (zVar 3) (zOp zMul (zC (.int 2)) (zOp zPow (zC (.int 10)) (zC (.int 18)))))) (zSeq (zAsg (zOp zMod (zAp zInt (zCons (zOp zDiv (zVar 3) (zC (.int 2))) zNil)) (zOp zShl (zC (.int 1)) (zC (.int 6000)))) (zgName 2))
    (zSeq (zAsg (zOp zDiv (zVar 2) (zVar 1)) (zgSub (zVar 0) (zC (.int 2))))
    (zRet (zOp zMod (zAp zInt (zCons (zVar 2) zNil)) (zVar 1))))) zNext)
    (zSeq (zAsg (zOp zMod (zAp zInt (zCons (zOp zAdd (zOp zAdd (zOp zAdd (zOp zMul (zOp zIx (zVar 0) (zC (.int 3))) (zC (.int 48271))) (zOp zMul (zOp zMod (zAp zInt (zCons (zVar 3) zNil)) (zC (.int 2147483629))) (zC (.int 16807)))) (zOp zMul (zOp zIx (zVar 0) (zC (.int 1))) (zC (.int 69621)))) (zC (.int 11))) zNil)) (zC (.int 2147483647))) (zgSub (zVar 0) (zC (.int 3))))
    (zRet (zOp zMod (zAp zInt (zCons (zOp zDiv (zOp zIx (zVar 0) (zC (.int 3))) (zC (.int 16))) zNil)) (zVar 1)))))))))
theorem law_draw {K : PySem.W.Frag} (ds : List D) (S : Store) (Q : ZK) (h : sp__law_draw K ds S Q) : z__law_draw K (zEnd Q) (zstart ["d", "many", "found", "size", "cell"] ds) S := by
  obtain ⟨a, ⟨b, ns⟩, m, rfl, h0, h1, ⟨i, j, k, e1, e2, hne⟩, hq⟩ := h
  dsimp only at e1 e2 hne
  have st : zstart ["d", "many", "found", "size", "cell"] [.ref a, .int m] = [some (.ref a), some (.int m), none, none, none] := rfl
  rw [st]
  unfold z__law_draw
  have fin : ∀ (S' : Store) (x : Int) (i' : Nat) (j' k' : Int), (∀ c, c ≠ a → S' c = S c) → ∃ S1, Z.Sub S1 (zup S' a (.lst [.ref b, .int (i' : Nat), .int j', .int k'])) ∧ Q (.int (x % m)) S1 := fun S' x i' j' k' f =>
    ⟨_, Sub.refl, hq _ _ (Int.emod_nonneg _ (by omega)) (Int.emod_lt_of_pos _ h0) (dr_up f e2 hne)⟩
  -- if d[2] > 0
  refine zseq (fun δ' S' => δ' = [some (.ref a), some (.int m), none, none, none] ∧ S' = S) ?_ ?_
  · simp only [zNext, zBreak, zCont, zDrop, zRet, zRetN, zIfS, zAsg, zAug, zAugS, zDel, zFor, zVar, zC, zOp, zUn, zNil, zCons, zAp, zMt, zB, zTr, zTruth, zAnd, zOr, zNot, zAndV, zOrV, zNotV, zIf, zTup, zLst, zDNew, zBM, zBM0, tyZ, zgName, zgNil, zgCons, zgTup, zgTupT, zgSub, zAdd, zSub, zMul, zMod, zDiv, zPow, zShl, zCmpI, zLt, zLe, zGt, zGe, zEq, zNe, zIs, zIsNot, zIn, zNotIn, zNeg, zEqN, zIsN, scalD, zInN, zIx, zSlice, zPart, zNoPart, zSl, zSet, zIAdd, zGetA, zDelI, zLenA, zListA, zTuple, zInt, zAbs, zMax2, zMin2, zAllL, zAnyL, zSumL, zMaxL, zMinL, zSorted, zAppend, zExtend, zPop, zPopAt, zReverse, zJoin, zStr1, zIsi, tyD, zCall, zLc, zLcL, zYes, ziR1, ziR2, ziR3, ziAny, ziEnum, Keep, zEnd, List.getElem?_cons_zero, List.getElem?_cons_succ, List.set_cons_zero, List.set_cons_succ, Option.some.injEq, D.int.injEq, D.ref.injEq, D.tup.injEq, D.str.injEq, D.bl.injEq, reduceCtorEq, false_and, and_false, true_and, and_true, exists_eq_left, exists_eq_left', exists_and_left, if_true, if_false, Bool.false_eq_true, ite_false, ite_true, List.cons.injEq, wipeZ, zup_same, atI_zero, atI_one, atI_lit, atI_n, ixN_zero, ixN_one, ixN_lit, ixN_n, List.length_cons, List.length_nil, Nat.reduceAdd, Nat.reduceLT, decide_eq_true_eq, List.append_nil, List.nil_append, ZO.lst.injEq, ZO.dct.injEq, seqIx_n, Bool.not_true, Bool.not_false, isE_snoc, and_assoc, or_false, false_or, exists_eq, exists_eq', isT, String.reduceBEq, Bool.and_false, Bool.and_true, Bool.false_and, Bool.true_and, Bool.or_false, Bool.or_true, Bool.true_or, Bool.false_or, natC, natC0, natC1, plain_int, plain_str, plain_non, depth_int, depth_str, depth_non, Nat.zero_le, true_or, or_true, not_true_eq_false, not_false_eq_true, Int.reduceEq, Int.reduceLT, Int.reduceLE, Int.reduceAdd, Int.reduceSub, Nat.reduceEqDiff, decide_true, decide_false, e1, e2]
    split
    · refine zseq_go ?_
      simp only [zNext, zBreak, zCont, zDrop, zRet, zRetN, zIfS, zAsg, zAug, zAugS, zDel, zFor, zVar, zC, zOp, zUn, zNil, zCons, zAp, zMt, zB, zTr, zTruth, zAnd, zOr, zNot, zAndV, zOrV, zNotV, zIf, zTup, zLst, zDNew, zBM, zBM0, tyZ, zgName, zgNil, zgCons, zgTup, zgTupT, zgSub, zAdd, zSub, zMul, zMod, zDiv, zPow, zShl, zCmpI, zLt, zLe, zGt, zGe, zEq, zNe, zIs, zIsNot, zIn, zNotIn, zNeg, zEqN, zIsN, scalD, zInN, zIx, zSlice, zPart, zNoPart, zSl, zSet, zIAdd, zGetA, zDelI, zLenA, zListA, zTuple, zInt, zAbs, zMax2, zMin2, zAllL, zAnyL, zSumL, zMaxL, zMinL, zSorted, zAppend, zExtend, zPop, zPopAt, zReverse, zJoin, zStr1, zIsi, tyD, zCall, zLc, zLcL, zYes, ziR1, ziR2, ziR3, ziAny, ziEnum, Keep, zEnd, List.getElem?_cons_zero, List.getElem?_cons_succ, List.set_cons_zero, List.set_cons_succ, Option.some.injEq, D.int.injEq, D.ref.injEq, D.tup.injEq, D.str.injEq, D.bl.injEq, reduceCtorEq, false_and, and_false, true_and, and_true, exists_eq_left, exists_eq_left', exists_and_left, if_true, if_false, Bool.false_eq_true, ite_false, ite_true, List.cons.injEq, wipeZ, zup_same, atI_zero, atI_one, atI_lit, atI_n, ixN_zero, ixN_one, ixN_lit, ixN_n, List.length_cons, List.length_nil, Nat.reduceAdd, Nat.reduceLT, decide_eq_true_eq, List.append_nil, List.nil_append, ZO.lst.injEq, ZO.dct.injEq, seqIx_n, Bool.not_true, Bool.not_false, isE_snoc, and_assoc, or_false, false_or, exists_eq, exists_eq', isT, String.reduceBEq, Bool.and_false, Bool.and_true, Bool.false_and, Bool.true_and, Bool.or_false, Bool.or_true, Bool.true_or, Bool.false_or, natC, natC0, natC1, plain_int, plain_str, plain_non, depth_int, depth_str, depth_non, Nat.zero_le, true_or, or_true, not_true_eq_false, not_false_eq_true, Int.reduceEq, Int.reduceLT, Int.reduceLE, Int.reduceAdd, Int.reduceSub, Nat.reduceEqDiff, decide_true, decide_false, e1, e2]
      refine zseq_go ?_
      simp only [zNext, zBreak, zCont, zDrop, zRet, zRetN, zIfS, zAsg, zAug, zAugS, zDel, zFor, zVar, zC, zOp, zUn, zNil, zCons, zAp, zMt, zB, zTr, zTruth, zAnd, zOr, zNot, zAndV, zOrV, zNotV, zIf, zTup, zLst, zDNew, zBM, zBM0, tyZ, zgName, zgNil, zgCons, zgTup, zgTupT, zgSub, zAdd, zSub, zMul, zMod, zDiv, zPow, zShl, zCmpI, zLt, zLe, zGt, zGe, zEq, zNe, zIs, zIsNot, zIn, zNotIn, zNeg, zEqN, zIsN, scalD, zInN, zIx, zSlice, zPart, zNoPart, zSl, zSet, zIAdd, zGetA, zDelI, zLenA, zListA, zTuple, zInt, zAbs, zMax2, zMin2, zAllL, zAnyL, zSumL, zMaxL, zMinL, zSorted, zAppend, zExtend, zPop, zPopAt, zReverse, zJoin, zStr1, zIsi, tyD, zCall, zLc, zLcL, zYes, ziR1, ziR2, ziR3, ziAny, ziEnum, Keep, zEnd, List.getElem?_cons_zero, List.getElem?_cons_succ, List.set_cons_zero, List.set_cons_succ, Option.some.injEq, D.int.injEq, D.ref.injEq, D.tup.injEq, D.str.injEq, D.bl.injEq, reduceCtorEq, false_and, and_false, true_and, and_true, exists_eq_left, exists_eq_left', exists_and_left, if_true, if_false, Bool.false_eq_true, ite_false, ite_true, List.cons.injEq, wipeZ, zup_same, atI_zero, atI_one, atI_lit, atI_n, ixN_zero, ixN_one, ixN_lit, ixN_n, List.length_cons, List.length_nil, Nat.reduceAdd, Nat.reduceLT, decide_eq_true_eq, List.append_nil, List.nil_append, ZO.lst.injEq, ZO.dct.injEq, seqIx_n, Bool.not_true, Bool.not_false, isE_snoc, and_assoc, or_false, false_or, exists_eq, exists_eq', isT, String.reduceBEq, Bool.and_false, Bool.and_true, Bool.false_and, Bool.true_and, Bool.or_false, Bool.or_true, Bool.true_or, Bool.false_or, natC, natC0, natC1, plain_int, plain_str, plain_non, depth_int, depth_str, depth_non, Nat.zero_le, true_or, or_true, not_true_eq_false, not_false_eq_true, Int.reduceEq, Int.reduceLT, Int.reduceLE, Int.reduceAdd, Int.reduceSub, Nat.reduceEqDiff, decide_true, decide_false, e1, e2]
      exact ⟨⟨h0, h1⟩, h0, fin S j i _ k fun _ _ => rfl⟩
    · trivial
  rintro _ S' ⟨rfl, rfl⟩
  refine zseq_go ?_
  simp only [zNext, zBreak, zCont, zDrop, zRet, zRetN, zIfS, zAsg, zAug, zAugS, zDel, zFor, zVar, zC, zOp, zUn, zNil, zCons, zAp, zMt, zB, zTr, zTruth, zAnd, zOr, zNot, zAndV, zOrV, zNotV, zIf, zTup, zLst, zDNew, zBM, zBM0, tyZ, zgName, zgNil, zgCons, zgTup, zgTupT, zgSub, zAdd, zSub, zMul, zMod, zDiv, zPow, zShl, zCmpI, zLt, zLe, zGt, zGe, zEq, zNe, zIs, zIsNot, zIn, zNotIn, zNeg, zEqN, zIsN, scalD, zInN, zIx, zSlice, zPart, zNoPart, zSl, zSet, zIAdd, zGetA, zDelI, zLenA, zListA, zTuple, zInt, zAbs, zMax2, zMin2, zAllL, zAnyL, zSumL, zMaxL, zMinL, zSorted, zAppend, zExtend, zPop, zPopAt, zReverse, zJoin, zStr1, zIsi, tyD, zCall, zLc, zLcL, zYes, ziR1, ziR2, ziR3, ziAny, ziEnum, Keep, zEnd, List.getElem?_cons_zero, List.getElem?_cons_succ, List.set_cons_zero, List.set_cons_succ, Option.some.injEq, D.int.injEq, D.ref.injEq, D.tup.injEq, D.str.injEq, D.bl.injEq, reduceCtorEq, false_and, and_false, true_and, and_true, exists_eq_left, exists_eq_left', exists_and_left, if_true, if_false, Bool.false_eq_true, ite_false, ite_true, List.cons.injEq, wipeZ, zup_same, atI_zero, atI_one, atI_lit, atI_n, ixN_zero, ixN_one, ixN_lit, ixN_n, List.length_cons, List.length_nil, Nat.reduceAdd, Nat.reduceLT, decide_eq_true_eq, List.append_nil, List.nil_append, ZO.lst.injEq, ZO.dct.injEq, seqIx_n, Bool.not_true, Bool.not_false, isE_snoc, and_assoc, or_false, false_or, exists_eq, exists_eq', isT, String.reduceBEq, Bool.and_false, Bool.and_true, Bool.false_and, Bool.true_and, Bool.or_false, Bool.or_true, Bool.true_or, Bool.false_or, natC, natC0, natC1, plain_int, plain_str, plain_non, depth_int, depth_str, depth_non, Nat.zero_le, true_or, or_true, not_true_eq_false, not_false_eq_true, Int.reduceEq, Int.reduceLT, Int.reduceLE, Int.reduceAdd, Int.reduceSub, Nat.reduceEqDiff, decide_true, decide_false]
  refine zseq (fun δ' S'' => (∃ sz c, δ' = [some (.ref a), some (.int m), none, some (.int sz), c]) ∧ S'' a = some (.lst [.ref b, .int (i : Nat), .int j, .int k]) ∧ S'' = S') ?_ ?_
  · simp only [zNext, zBreak, zCont, zDrop, zRet, zRetN, zIfS, zAsg, zAug, zAugS, zDel, zFor, zVar, zC, zOp, zUn, zNil, zCons, zAp, zMt, zB, zTr, zTruth, zAnd, zOr, zNot, zAndV, zOrV, zNotV, zIf, zTup, zLst, zDNew, zBM, zBM0, tyZ, zgName, zgNil, zgCons, zgTup, zgTupT, zgSub, zAdd, zSub, zMul, zMod, zDiv, zPow, zShl, zCmpI, zLt, zLe, zGt, zGe, zEq, zNe, zIs, zIsNot, zIn, zNotIn, zNeg, zEqN, zIsN, scalD, zInN, zIx, zSlice, zPart, zNoPart, zSl, zSet, zIAdd, zGetA, zDelI, zLenA, zListA, zTuple, zInt, zAbs, zMax2, zMin2, zAllL, zAnyL, zSumL, zMaxL, zMinL, zSorted, zAppend, zExtend, zPop, zPopAt, zReverse, zJoin, zStr1, zIsi, tyD, zCall, zLc, zLcL, zYes, ziR1, ziR2, ziR3, ziAny, ziEnum, Keep, zEnd, List.getElem?_cons_zero, List.getElem?_cons_succ, List.set_cons_zero, List.set_cons_succ, Option.some.injEq, D.int.injEq, D.ref.injEq, D.tup.injEq, D.str.injEq, D.bl.injEq, reduceCtorEq, false_and, and_false, true_and, and_true, exists_eq_left, exists_eq_left', exists_and_left, if_true, if_false, Bool.false_eq_true, ite_false, ite_true, List.cons.injEq, wipeZ, zup_same, atI_zero, atI_one, atI_lit, atI_n, ixN_zero, ixN_one, ixN_lit, ixN_n, List.length_cons, List.length_nil, Nat.reduceAdd, Nat.reduceLT, decide_eq_true_eq, List.append_nil, List.nil_append, ZO.lst.injEq, ZO.dct.injEq, seqIx_n, Bool.not_true, Bool.not_false, isE_snoc, and_assoc, or_false, false_or, exists_eq, exists_eq', isT, String.reduceBEq, Bool.and_false, Bool.and_true, Bool.false_and, Bool.true_and, Bool.or_false, Bool.or_true, Bool.true_or, Bool.false_or, natC, natC0, natC1, plain_int, plain_str, plain_non, depth_int, depth_str, depth_non, Nat.zero_le, true_or, or_true, not_true_eq_false, not_false_eq_true, Int.reduceEq, Int.reduceLT, Int.reduceLE, Int.reduceAdd, Int.reduceSub, Nat.reduceEqDiff, decide_true, decide_false, e1, e2]
    split
    · rename_i hlt
      have hlt' : i < ns.length := by simpa using hlt
      refine zseq_go ?_
      simp only [zNext, zBreak, zCont, zDrop, zRet, zRetN, zIfS, zAsg, zAug, zAugS, zDel, zFor, zVar, zC, zOp, zUn, zNil, zCons, zAp, zMt, zB, zTr, zTruth, zAnd, zOr, zNot, zAndV, zOrV, zNotV, zIf, zTup, zLst, zDNew, zBM, zBM0, tyZ, zgName, zgNil, zgCons, zgTup, zgTupT, zgSub, zAdd, zSub, zMul, zMod, zDiv, zPow, zShl, zCmpI, zLt, zLe, zGt, zGe, zEq, zNe, zIs, zIsNot, zIn, zNotIn, zNeg, zEqN, zIsN, scalD, zInN, zIx, zSlice, zPart, zNoPart, zSl, zSet, zIAdd, zGetA, zDelI, zLenA, zListA, zTuple, zInt, zAbs, zMax2, zMin2, zAllL, zAnyL, zSumL, zMaxL, zMinL, zSorted, zAppend, zExtend, zPop, zPopAt, zReverse, zJoin, zStr1, zIsi, tyD, zCall, zLc, zLcL, zYes, ziR1, ziR2, ziR3, ziAny, ziEnum, Keep, zEnd, List.getElem?_cons_zero, List.getElem?_cons_succ, List.set_cons_zero, List.set_cons_succ, Option.some.injEq, D.int.injEq, D.ref.injEq, D.tup.injEq, D.str.injEq, D.bl.injEq, reduceCtorEq, false_and, and_false, true_and, and_true, exists_eq_left, exists_eq_left', exists_and_left, if_true, if_false, Bool.false_eq_true, ite_false, ite_true, List.cons.injEq, wipeZ, zup_same, atI_zero, atI_one, atI_lit, atI_n, ixN_zero, ixN_one, ixN_lit, ixN_n, List.length_cons, List.length_nil, Nat.reduceAdd, Nat.reduceLT, decide_eq_true_eq, List.append_nil, List.nil_append, ZO.lst.injEq, ZO.dct.injEq, seqIx_n, Bool.not_true, Bool.not_false, isE_snoc, and_assoc, or_false, false_or, exists_eq, exists_eq', isT, String.reduceBEq, Bool.and_false, Bool.and_true, Bool.false_and, Bool.true_and, Bool.or_false, Bool.or_true, Bool.true_or, Bool.false_or, natC, natC0, natC1, plain_int, plain_str, plain_non, depth_int, depth_str, depth_non, Nat.zero_le, true_or, or_true, not_true_eq_false, not_false_eq_true, Int.reduceEq, Int.reduceLT, Int.reduceLE, Int.reduceAdd, Int.reduceSub, Nat.reduceEqDiff, decide_true, decide_false, e1, e2, List.getElem?_map, List.getElem?_eq_getElem hlt', Option.map_some]
      by_cases hc : ns[i] < 0
      · simp only [zNext, zBreak, zCont, zDrop, zRet, zRetN, zIfS, zAsg, zAug, zAugS, zDel, zFor, zVar, zC, zOp, zUn, zNil, zCons, zAp, zMt, zB, zTr, zTruth, zAnd, zOr, zNot, zAndV, zOrV, zNotV, zIf, zTup, zLst, zDNew, zBM, zBM0, tyZ, zgName, zgNil, zgCons, zgTup, zgTupT, zgSub, zAdd, zSub, zMul, zMod, zDiv, zPow, zShl, zCmpI, zLt, zLe, zGt, zGe, zEq, zNe, zIs, zIsNot, zIn, zNotIn, zNeg, zEqN, zIsN, scalD, zInN, zIx, zSlice, zPart, zNoPart, zSl, zSet, zIAdd, zGetA, zDelI, zLenA, zListA, zTuple, zInt, zAbs, zMax2, zMin2, zAllL, zAnyL, zSumL, zMaxL, zMinL, zSorted, zAppend, zExtend, zPop, zPopAt, zReverse, zJoin, zStr1, zIsi, tyD, zCall, zLc, zLcL, zYes, ziR1, ziR2, ziR3, ziAny, ziEnum, Keep, zEnd, List.getElem?_cons_zero, List.getElem?_cons_succ, List.set_cons_zero, List.set_cons_succ, Option.some.injEq, D.int.injEq, D.ref.injEq, D.tup.injEq, D.str.injEq, D.bl.injEq, reduceCtorEq, false_and, and_false, true_and, and_true, exists_eq_left, exists_eq_left', exists_and_left, if_true, if_false, Bool.false_eq_true, ite_false, ite_true, List.cons.injEq, wipeZ, zup_same, atI_zero, atI_one, atI_lit, atI_n, ixN_zero, ixN_one, ixN_lit, ixN_n, List.length_cons, List.length_nil, Nat.reduceAdd, Nat.reduceLT, decide_eq_true_eq, List.append_nil, List.nil_append, ZO.lst.injEq, ZO.dct.injEq, seqIx_n, Bool.not_true, Bool.not_false, isE_snoc, and_assoc, or_false, false_or, exists_eq, exists_eq', isT, String.reduceBEq, Bool.and_false, Bool.and_true, Bool.false_and, Bool.true_and, Bool.or_false, Bool.or_true, Bool.true_or, Bool.false_or, natC, natC0, natC1, plain_int, plain_str, plain_non, depth_int, depth_str, depth_non, Nat.zero_le, true_or, or_true, not_true_eq_false, not_false_eq_true, Int.reduceEq, Int.reduceLT, Int.reduceLE, Int.reduceAdd, Int.reduceSub, Nat.reduceEqDiff, decide_true, decide_false, hc]
        exact .inl ⟨by omega, by omega⟩
      · simp only [zNext, zBreak, zCont, zDrop, zRet, zRetN, zIfS, zAsg, zAug, zAugS, zDel, zFor, zVar, zC, zOp, zUn, zNil, zCons, zAp, zMt, zB, zTr, zTruth, zAnd, zOr, zNot, zAndV, zOrV, zNotV, zIf, zTup, zLst, zDNew, zBM, zBM0, tyZ, zgName, zgNil, zgCons, zgTup, zgTupT, zgSub, zAdd, zSub, zMul, zMod, zDiv, zPow, zShl, zCmpI, zLt, zLe, zGt, zGe, zEq, zNe, zIs, zIsNot, zIn, zNotIn, zNeg, zEqN, zIsN, scalD, zInN, zIx, zSlice, zPart, zNoPart, zSl, zSet, zIAdd, zGetA, zDelI, zLenA, zListA, zTuple, zInt, zAbs, zMax2, zMin2, zAllL, zAnyL, zSumL, zMaxL, zMinL, zSorted, zAppend, zExtend, zPop, zPopAt, zReverse, zJoin, zStr1, zIsi, tyD, zCall, zLc, zLcL, zYes, ziR1, ziR2, ziR3, ziAny, ziEnum, Keep, zEnd, List.getElem?_cons_zero, List.getElem?_cons_succ, List.set_cons_zero, List.set_cons_succ, Option.some.injEq, D.int.injEq, D.ref.injEq, D.tup.injEq, D.str.injEq, D.bl.injEq, reduceCtorEq, false_and, and_false, true_and, and_true, exists_eq_left, exists_eq_left', exists_and_left, if_true, if_false, Bool.false_eq_true, ite_false, ite_true, List.cons.injEq, wipeZ, zup_same, atI_zero, atI_one, atI_lit, atI_n, ixN_zero, ixN_one, ixN_lit, ixN_n, List.length_cons, List.length_nil, Nat.reduceAdd, Nat.reduceLT, decide_eq_true_eq, List.append_nil, List.nil_append, ZO.lst.injEq, ZO.dct.injEq, seqIx_n, Bool.not_true, Bool.not_false, isE_snoc, and_assoc, or_false, false_or, exists_eq, exists_eq', isT, String.reduceBEq, Bool.and_false, Bool.and_true, Bool.false_and, Bool.true_and, Bool.or_false, Bool.or_true, Bool.true_or, Bool.false_or, natC, natC0, natC1, plain_int, plain_str, plain_non, depth_int, depth_str, depth_non, Nat.zero_le, true_or, or_true, not_true_eq_false, not_false_eq_true, Int.reduceEq, Int.reduceLT, Int.reduceLE, Int.reduceAdd, Int.reduceSub, Nat.reduceEqDiff, decide_true, decide_false, hc]
        exact .inl ⟨by omega, by omega⟩
    · trivial
  rintro _ S'' ⟨⟨sz, c, rfl⟩, _, rfl⟩
  -- d[1] += 1
  refine zseq_go ?_
  simp only [zNext, zBreak, zCont, zDrop, zRet, zRetN, zIfS, zAsg, zAug, zAugS, zDel, zFor, zVar, zC, zOp, zUn, zNil, zCons, zAp, zMt, zB, zTr, zTruth, zAnd, zOr, zNot, zAndV, zOrV, zNotV, zIf, zTup, zLst, zDNew, zBM, zBM0, tyZ, zgName, zgNil, zgCons, zgTup, zgTupT, zgSub, zAdd, zSub, zMul, zMod, zDiv, zPow, zShl, zCmpI, zLt, zLe, zGt, zGe, zEq, zNe, zIs, zIsNot, zIn, zNotIn, zNeg, zEqN, zIsN, scalD, zInN, zIx, zSlice, zPart, zNoPart, zSl, zSet, zIAdd, zGetA, zDelI, zLenA, zListA, zTuple, zInt, zAbs, zMax2, zMin2, zAllL, zAnyL, zSumL, zMaxL, zMinL, zSorted, zAppend, zExtend, zPop, zPopAt, zReverse, zJoin, zStr1, zIsi, tyD, zCall, zLc, zLcL, zYes, ziR1, ziR2, ziR3, ziAny, ziEnum, Keep, zEnd, List.getElem?_cons_zero, List.getElem?_cons_succ, List.set_cons_zero, List.set_cons_succ, Option.some.injEq, D.int.injEq, D.ref.injEq, D.tup.injEq, D.str.injEq, D.bl.injEq, reduceCtorEq, false_and, and_false, true_and, and_true, exists_eq_left, exists_eq_left', exists_and_left, if_true, if_false, Bool.false_eq_true, ite_false, ite_true, List.cons.injEq, wipeZ, zup_same, atI_zero, atI_one, atI_lit, atI_n, ixN_zero, ixN_one, ixN_lit, ixN_n, List.length_cons, List.length_nil, Nat.reduceAdd, Nat.reduceLT, decide_eq_true_eq, List.append_nil, List.nil_append, ZO.lst.injEq, ZO.dct.injEq, seqIx_n, Bool.not_true, Bool.not_false, isE_snoc, and_assoc, or_false, false_or, exists_eq, exists_eq', isT, String.reduceBEq, Bool.and_false, Bool.and_true, Bool.false_and, Bool.true_and, Bool.or_false, Bool.or_true, Bool.true_or, Bool.false_or, natC, natC0, natC1, plain_int, plain_str, plain_non, depth_int, depth_str, depth_non, Nat.zero_le, true_or, or_true, not_true_eq_false, not_false_eq_true, Int.reduceEq, Int.reduceLT, Int.reduceLE, Int.reduceAdd, Int.reduceSub, Nat.reduceEqDiff, decide_true, decide_false, e1, e2]
  have ei : ((i : Int) + 1) = ((i + 1 : Nat) : Int) := rfl
  rw [ei]
  refine zseq (fun δ' S' => (∃ sz c, δ' = [some (.ref a), some (.int m), none, some (.int sz), c]) ∧ S' = zup S'' a (.lst [.ref b, .int ((i + 1 : Nat) : Int), .int j, .int k])) ?_ ?_
  · simp only [zNext, zBreak, zCont, zDrop, zRet, zRetN, zIfS, zAsg, zAug, zAugS, zDel, zFor, zVar, zC, zOp, zUn, zNil, zCons, zAp, zMt, zB, zTr, zTruth, zAnd, zOr, zNot, zAndV, zOrV, zNotV, zIf, zTup, zLst, zDNew, zBM, zBM0, tyZ, zgName, zgNil, zgCons, zgTup, zgTupT, zgSub, zAdd, zSub, zMul, zMod, zDiv, zPow, zShl, zCmpI, zLt, zLe, zGt, zGe, zEq, zNe, zIs, zIsNot, zIn, zNotIn, zNeg, zEqN, zIsN, scalD, zInN, zIx, zSlice, zPart, zNoPart, zSl, zSet, zIAdd, zGetA, zDelI, zLenA, zListA, zTuple, zInt, zAbs, zMax2, zMin2, zAllL, zAnyL, zSumL, zMaxL, zMinL, zSorted, zAppend, zExtend, zPop, zPopAt, zReverse, zJoin, zStr1, zIsi, tyD, zCall, zLc, zLcL, zYes, ziR1, ziR2, ziR3, ziAny, ziEnum, Keep, zEnd, List.getElem?_cons_zero, List.getElem?_cons_succ, List.set_cons_zero, List.set_cons_succ, Option.some.injEq, D.int.injEq, D.ref.injEq, D.tup.injEq, D.str.injEq, D.bl.injEq, reduceCtorEq, false_and, and_false, true_and, and_true, exists_eq_left, exists_eq_left', exists_and_left, if_true, if_false, Bool.false_eq_true, ite_false, ite_true, List.cons.injEq, wipeZ, zup_same, atI_zero, atI_one, atI_lit, atI_n, ixN_zero, ixN_one, ixN_lit, ixN_n, List.length_cons, List.length_nil, Nat.reduceAdd, Nat.reduceLT, decide_eq_true_eq, List.append_nil, List.nil_append, ZO.lst.injEq, ZO.dct.injEq, seqIx_n, Bool.not_true, Bool.not_false, isE_snoc, and_assoc, or_false, false_or, exists_eq, exists_eq', isT, String.reduceBEq, Bool.and_false, Bool.and_true, Bool.false_and, Bool.true_and, Bool.or_false, Bool.or_true, Bool.true_or, Bool.false_or, natC, natC0, natC1, plain_int, plain_str, plain_non, depth_int, depth_str, depth_non, Nat.zero_le, true_or, or_true, not_true_eq_false, not_false_eq_true, Int.reduceEq, Int.reduceLT, Int.reduceLE, Int.reduceAdd, Int.reduceSub, Nat.reduceEqDiff, decide_true, decide_false, e1, e2]
    refine ⟨⟨by omega, by omega, by decide⟩, .inl ⟨by omega, by omega⟩, ?_⟩
    split
    · refine zseq_go ?_
      simp only [zNext, zBreak, zCont, zDrop, zRet, zRetN, zIfS, zAsg, zAug, zAugS, zDel, zFor, zVar, zC, zOp, zUn, zNil, zCons, zAp, zMt, zB, zTr, zTruth, zAnd, zOr, zNot, zAndV, zOrV, zNotV, zIf, zTup, zLst, zDNew, zBM, zBM0, tyZ, zgName, zgNil, zgCons, zgTup, zgTupT, zgSub, zAdd, zSub, zMul, zMod, zDiv, zPow, zShl, zCmpI, zLt, zLe, zGt, zGe, zEq, zNe, zIs, zIsNot, zIn, zNotIn, zNeg, zEqN, zIsN, scalD, zInN, zIx, zSlice, zPart, zNoPart, zSl, zSet, zIAdd, zGetA, zDelI, zLenA, zListA, zTuple, zInt, zAbs, zMax2, zMin2, zAllL, zAnyL, zSumL, zMaxL, zMinL, zSorted, zAppend, zExtend, zPop, zPopAt, zReverse, zJoin, zStr1, zIsi, tyD, zCall, zLc, zLcL, zYes, ziR1, ziR2, ziR3, ziAny, ziEnum, Keep, zEnd, List.getElem?_cons_zero, List.getElem?_cons_succ, List.set_cons_zero, List.set_cons_succ, Option.some.injEq, D.int.injEq, D.ref.injEq, D.tup.injEq, D.str.injEq, D.bl.injEq, reduceCtorEq, false_and, and_false, true_and, and_true, exists_eq_left, exists_eq_left', exists_and_left, if_true, if_false, Bool.false_eq_true, ite_false, ite_true, List.cons.injEq, wipeZ, zup_same, atI_zero, atI_one, atI_lit, atI_n, ixN_zero, ixN_one, ixN_lit, ixN_n, List.length_cons, List.length_nil, Nat.reduceAdd, Nat.reduceLT, decide_eq_true_eq, List.append_nil, List.nil_append, ZO.lst.injEq, ZO.dct.injEq, seqIx_n, Bool.not_true, Bool.not_false, isE_snoc, and_assoc, or_false, false_or, exists_eq, exists_eq', isT, String.reduceBEq, Bool.and_false, Bool.and_true, Bool.false_and, Bool.true_and, Bool.or_false, Bool.or_true, Bool.true_or, Bool.false_or, natC, natC0, natC1, plain_int, plain_str, plain_non, depth_int, depth_str, depth_non, Nat.zero_le, true_or, or_true, not_true_eq_false, not_false_eq_true, Int.reduceEq, Int.reduceLT, Int.reduceLE, Int.reduceAdd, Int.reduceSub, Nat.reduceEqDiff, decide_true, decide_false, e1, e2]
      refine ⟨⟨by omega, by omega⟩, ⟨by omega, by omega, by decide⟩, Int.mul_pos (by omega) (Int.pow_pos (by omega)), ?_⟩
      refine zseq_go ?_
      simp only [zNext, zBreak, zCont, zDrop, zRet, zRetN, zIfS, zAsg, zAug, zAugS, zDel, zFor, zVar, zC, zOp, zUn, zNil, zCons, zAp, zMt, zB, zTr, zTruth, zAnd, zOr, zNot, zAndV, zOrV, zNotV, zIf, zTup, zLst, zDNew, zBM, zBM0, tyZ, zgName, zgNil, zgCons, zgTup, zgTupT, zgSub, zAdd, zSub, zMul, zMod, zDiv, zPow, zShl, zCmpI, zLt, zLe, zGt, zGe, zEq, zNe, zIs, zIsNot, zIn, zNotIn, zNeg, zEqN, zIsN, scalD, zInN, zIx, zSlice, zPart, zNoPart, zSl, zSet, zIAdd, zGetA, zDelI, zLenA, zListA, zTuple, zInt, zAbs, zMax2, zMin2, zAllL, zAnyL, zSumL, zMaxL, zMinL, zSorted, zAppend, zExtend, zPop, zPopAt, zReverse, zJoin, zStr1, zIsi, tyD, zCall, zLc, zLcL, zYes, ziR1, ziR2, ziR3, ziAny, ziEnum, Keep, zEnd, List.getElem?_cons_zero, List.getElem?_cons_succ, List.set_cons_zero, List.set_cons_succ, Option.some.injEq, D.int.injEq, D.ref.injEq, D.tup.injEq, D.str.injEq, D.bl.injEq, reduceCtorEq, false_and, and_false, true_and, and_true, exists_eq_left, exists_eq_left', exists_and_left, if_true, if_false, Bool.false_eq_true, ite_false, ite_true, List.cons.injEq, wipeZ, zup_same, atI_zero, atI_one, atI_lit, atI_n, ixN_zero, ixN_one, ixN_lit, ixN_n, List.length_cons, List.length_nil, Nat.reduceAdd, Nat.reduceLT, decide_eq_true_eq, List.append_nil, List.nil_append, ZO.lst.injEq, ZO.dct.injEq, seqIx_n, Bool.not_true, Bool.not_false, isE_snoc, and_assoc, or_false, false_or, exists_eq, exists_eq', isT, String.reduceBEq, Bool.and_false, Bool.and_true, Bool.false_and, Bool.true_and, Bool.or_false, Bool.or_true, Bool.true_or, Bool.false_or, natC, natC0, natC1, plain_int, plain_str, plain_non, depth_int, depth_str, depth_non, Nat.zero_le, true_or, or_true, not_true_eq_false, not_false_eq_true, Int.reduceEq, Int.reduceLT, Int.reduceLE, Int.reduceAdd, Int.reduceSub, Nat.reduceEqDiff, decide_true, decide_false, e1, e2]
      exact ⟨⟨h0, h1⟩, h0, by rw [zup_zup]; exact fin _ _ (i + 1) _ k fun _ _ => rfl⟩
    · first | rfl | exact ⟨_, rfl⟩ | exact ⟨_, _, rfl⟩ | trivial
  rintro _ S3 ⟨⟨sz, c, rfl⟩, rfl⟩
  refine zseq_go ?_
  simp only [zNext, zBreak, zCont, zDrop, zRet, zRetN, zIfS, zAsg, zAug, zAugS, zDel, zFor, zVar, zC, zOp, zUn, zNil, zCons, zAp, zMt, zB, zTr, zTruth, zAnd, zOr, zNot, zAndV, zOrV, zNotV, zIf, zTup, zLst, zDNew, zBM, zBM0, tyZ, zgName, zgNil, zgCons, zgTup, zgTupT, zgSub, zAdd, zSub, zMul, zMod, zDiv, zPow, zShl, zCmpI, zLt, zLe, zGt, zGe, zEq, zNe, zIs, zIsNot, zIn, zNotIn, zNeg, zEqN, zIsN, scalD, zInN, zIx, zSlice, zPart, zNoPart, zSl, zSet, zIAdd, zGetA, zDelI, zLenA, zListA, zTuple, zInt, zAbs, zMax2, zMin2, zAllL, zAnyL, zSumL, zMaxL, zMinL, zSorted, zAppend, zExtend, zPop, zPopAt, zReverse, zJoin, zStr1, zIsi, tyD, zCall, zLc, zLcL, zYes, ziR1, ziR2, ziR3, ziAny, ziEnum, Keep, zEnd, List.getElem?_cons_zero, List.getElem?_cons_succ, List.set_cons_zero, List.set_cons_succ, Option.some.injEq, D.int.injEq, D.ref.injEq, D.tup.injEq, D.str.injEq, D.bl.injEq, reduceCtorEq, false_and, and_false, true_and, and_true, exists_eq_left, exists_eq_left', exists_and_left, if_true, if_false, Bool.false_eq_true, ite_false, ite_true, List.cons.injEq, wipeZ, zup_same, atI_zero, atI_one, atI_lit, atI_n, ixN_zero, ixN_one, ixN_lit, ixN_n, List.length_cons, List.length_nil, Nat.reduceAdd, Nat.reduceLT, decide_eq_true_eq, List.append_nil, List.nil_append, ZO.lst.injEq, ZO.dct.injEq, seqIx_n, Bool.not_true, Bool.not_false, isE_snoc, and_assoc, or_false, false_or, exists_eq, exists_eq', isT, String.reduceBEq, Bool.and_false, Bool.and_true, Bool.false_and, Bool.true_and, Bool.or_false, Bool.or_true, Bool.true_or, Bool.false_or, natC, natC0, natC1, plain_int, plain_str, plain_non, depth_int, depth_str, depth_non, Nat.zero_le, true_or, or_true, not_true_eq_false, not_false_eq_true, Int.reduceEq, Int.reduceLT, Int.reduceLE, Int.reduceAdd, Int.reduceSub, Nat.reduceEqDiff, decide_true, decide_false, e1, e2]
  exact ⟨.inr ⟨by omega, by omega⟩, .inr ⟨by omega, by omega⟩, .inr ⟨by omega, by omega⟩, ⟨by omega, by omega⟩, h0, by rw [zup_zup]; exact fin _ _ (i + 1) _ _ fun _ _ => rfl⟩

/-! ### _law_begin -/
def sp__law_begin (K : PySem.W.Frag) : ZSp := fun ds S Q => ∃ (p : Addr) (ns : List Int) (src : Src), ds = [.ref p] ∧ ZSrc K (.ref p) S src (ns.map D.int) ∧ Keep src S ∧ ns.length ≤ 1000 ∧
  ∀ a b, S a = none → S b = none → b ≠ a → Q (.ref a) (zup (zup S b (.lst (ns.map D.int))) a (.lst [.ref b, .int 0, .int 0, .int 7]))
def z__law_begin (K : PySem.W.Frag) : ZTS :=
  (zRet (zLst (zCons (zLc (ziAny K (zVar 0)) (zgName 1) zYes (zAp zInt (zCons (zVar 1) zNil)) [1]) (zCons (zC (.int 0)) (zCons (zC (.int 0)) (zCons (zC (.int 7)) zNil))))))
theorem law_begin {K : PySem.W.Frag} (ds : List D) (S : Store) (Q : ZK) (h : sp__law_begin K ds S Q) : z__law_begin K (zEnd Q) (zstart ["script", "cell"] ds) S := by
  obtain ⟨p, ns, src, rfl, hs, hk, hl, hq⟩ := h
  show z__law_begin K (zEnd Q) [some (.ref p), none] S
  unfold z__law_begin
  simp only [zNext, zBreak, zCont, zDrop, zRet, zRetN, zIfS, zAsg, zAug, zAugS, zDel, zFor, zVar, zC, zOp, zUn, zNil, zCons, zAp, zMt, zB, zTr, zTruth, zAnd, zOr, zNot, zAndV, zOrV, zNotV, zIf, zTup, zLst, zDNew, zBM, zBM0, tyZ, zgName, zgNil, zgCons, zgTup, zgTupT, zgSub, zAdd, zSub, zMul, zMod, zDiv, zPow, zShl, zCmpI, zLt, zLe, zGt, zGe, zEq, zNe, zIs, zIsNot, zIn, zNotIn, zNeg, zEqN, zIsN, scalD, zInN, zIx, zSlice, zPart, zNoPart, zSl, zSet, zIAdd, zGetA, zDelI, zLenA, zListA, zTuple, zInt, zAbs, zMax2, zMin2, zAllL, zAnyL, zSumL, zMaxL, zMinL, zSorted, zAppend, zExtend, zPop, zPopAt, zReverse, zJoin, zStr1, zIsi, tyD, zCall, zLc, zLcL, zYes, ziR1, ziR2, ziR3, ziAny, ziEnum, Keep, zEnd, List.getElem?_cons_zero, List.getElem?_cons_succ, List.set_cons_zero, List.set_cons_succ, Option.some.injEq, D.int.injEq, D.ref.injEq, D.tup.injEq, D.str.injEq, D.bl.injEq, reduceCtorEq, false_and, and_false, true_and, and_true, exists_eq_left, exists_eq_left', exists_and_left, if_true, if_false, Bool.false_eq_true, ite_false, ite_true, List.cons.injEq, wipeZ, zup_same, atI_zero, atI_one, atI_lit, atI_n, ixN_zero, ixN_one, ixN_lit, ixN_n, List.length_cons, List.length_nil, Nat.reduceAdd, Nat.reduceLT, decide_eq_true_eq, List.append_nil, List.nil_append, ZO.lst.injEq, ZO.dct.injEq, seqIx_n, Bool.not_true, Bool.not_false, isE_snoc, and_assoc, or_false, false_or, exists_eq, exists_eq', isT, String.reduceBEq, Bool.and_false, Bool.and_true, Bool.false_and, Bool.true_and, Bool.or_false, Bool.or_true, Bool.true_or, Bool.false_or, natC, natC0, natC1, plain_int, plain_str, plain_non, depth_int, depth_str, depth_non, Nat.zero_le, true_or, or_true, not_true_eq_false, not_false_eq_true, Int.reduceEq, Int.reduceLT, Int.reduceLE, Int.reduceAdd, Int.reduceSub, Nat.reduceEqDiff, decide_true, decide_false]
  refine ⟨src, ns.map D.int, .inl hs, hk, ?_⟩
  refine zlcl_pure (fun d => some d) hk _ _ (fun d hd Y N hy hn => ?_) (by simp [sizeLine_eq]; omega) ?_
  · obtain ⟨n, _, rfl⟩ := List.mem_map.mp hd
    simp only [zNext, zBreak, zCont, zDrop, zRet, zRetN, zIfS, zAsg, zAug, zAugS, zDel, zFor, zVar, zC, zOp, zUn, zNil, zCons, zAp, zMt, zB, zTr, zTruth, zAnd, zOr, zNot, zAndV, zOrV, zNotV, zIf, zTup, zLst, zDNew, zBM, zBM0, tyZ, zgName, zgNil, zgCons, zgTup, zgTupT, zgSub, zAdd, zSub, zMul, zMod, zDiv, zPow, zShl, zCmpI, zLt, zLe, zGt, zGe, zEq, zNe, zIs, zIsNot, zIn, zNotIn, zNeg, zEqN, zIsN, scalD, zInN, zIx, zSlice, zPart, zNoPart, zSl, zSet, zIAdd, zGetA, zDelI, zLenA, zListA, zTuple, zInt, zAbs, zMax2, zMin2, zAllL, zAnyL, zSumL, zMaxL, zMinL, zSorted, zAppend, zExtend, zPop, zPopAt, zReverse, zJoin, zStr1, zIsi, tyD, zCall, zLc, zLcL, zYes, ziR1, ziR2, ziR3, ziAny, ziEnum, Keep, zEnd, List.getElem?_cons_zero, List.getElem?_cons_succ, List.set_cons_zero, List.set_cons_succ, Option.some.injEq, D.int.injEq, D.ref.injEq, D.tup.injEq, D.str.injEq, D.bl.injEq, reduceCtorEq, false_and, and_false, true_and, and_true, exists_eq_left, exists_eq_left', exists_and_left, if_true, if_false, Bool.false_eq_true, ite_false, ite_true, List.cons.injEq, wipeZ, zup_same, atI_zero, atI_one, atI_lit, atI_n, ixN_zero, ixN_one, ixN_lit, ixN_n, List.length_cons, List.length_nil, Nat.reduceAdd, Nat.reduceLT, decide_eq_true_eq, List.append_nil, List.nil_append, ZO.lst.injEq, ZO.dct.injEq, seqIx_n, Bool.not_true, Bool.not_false, isE_snoc, and_assoc, or_false, false_or, exists_eq, exists_eq', isT, String.reduceBEq, Bool.and_false, Bool.and_true, Bool.false_and, Bool.true_and, Bool.or_false, Bool.or_true, Bool.true_or, Bool.false_or, natC, natC0, natC1, plain_int, plain_str, plain_non, depth_int, depth_str, depth_non, Nat.zero_le, true_or, or_true, not_true_eq_false, not_false_eq_true, Int.reduceEq, Int.reduceLT, Int.reduceLE, Int.reduceAdd, Int.reduceSub, Nat.reduceEqDiff, decide_true, decide_false]
    exact hy _ rfl
  · intro b hb
    refine ⟨by simp [sizeLine_eq], fun a ha => ⟨_, Sub.refl, ?_⟩⟩
    obtain ⟨h1, h2⟩ := zup_no ha
    simpa using hq a b h1 hb (Ne.symm h2)

/-! ### _law_pick -/
/-- a row that is asked by its place -/
def Row (S : Store) (d : D) (xs : List D) : Prop := d = .tup xs ∨ ∃ c, d = .ref c ∧ S c = some (.lst xs)
def sp__law_pick (K : PySem.W.Frag) : ZSp := fun ds S Q => ∃ (a : Addr) (bn : Addr × List Int) (d : D) (xs : List D), ds = [.ref a, d] ∧ Row S d xs ∧ d ≠ .ref a ∧ Dr S a bn ∧ 0 < xs.length ∧ xs.length < 1073741824 ∧ ∀ x S1, x ∈ xs → DrN S S1 a bn → Q x S1
def z__law_pick (K : PySem.W.Frag) : ZTS :=
  (zRet (zOp zIx (zVar 1) (zCall (sp__law_draw K) [] (zCons (zVar 0) (zCons (zAp zLenA (zCons (zVar 1) zNil)) zNil)))))
theorem law_pick {K : PySem.W.Frag} (ds : List D) (S : Store) (Q : ZK) (h : sp__law_pick K ds S Q) : z__law_pick K (zEnd Q) (zstart ["d", "row"] ds) S := by
  obtain ⟨a, bn, d, xs, rfl, hr, hne, hd, h0, h1, hq⟩ := h
  show z__law_pick K (zEnd Q) [some (.ref a), some d] S
  unfold z__law_pick
  rcases hr with rfl | ⟨c, rfl, hc⟩
  · simp only [zNext, zBreak, zCont, zDrop, zRet, zRetN, zIfS, zAsg, zAug, zAugS, zDel, zFor, zVar, zC, zOp, zUn, zNil, zCons, zAp, zMt, zB, zTr, zTruth, zAnd, zOr, zNot, zAndV, zOrV, zNotV, zIf, zTup, zLst, zDNew, zBM, zBM0, tyZ, zgName, zgNil, zgCons, zgTup, zgTupT, zgSub, zAdd, zSub, zMul, zMod, zDiv, zPow, zShl, zCmpI, zLt, zLe, zGt, zGe, zEq, zNe, zIs, zIsNot, zIn, zNotIn, zNeg, zEqN, zIsN, scalD, zInN, zIx, zSlice, zPart, zNoPart, zSl, zSet, zIAdd, zGetA, zDelI, zLenA, zListA, zTuple, zInt, zAbs, zMax2, zMin2, zAllL, zAnyL, zSumL, zMaxL, zMinL, zSorted, zAppend, zExtend, zPop, zPopAt, zReverse, zJoin, zStr1, zIsi, tyD, zCall, zLc, zLcL, zYes, ziR1, ziR2, ziR3, ziAny, ziEnum, Keep, zEnd, List.getElem?_cons_zero, List.getElem?_cons_succ, List.set_cons_zero, List.set_cons_succ, Option.some.injEq, D.int.injEq, D.ref.injEq, D.tup.injEq, D.str.injEq, D.bl.injEq, reduceCtorEq, false_and, and_false, true_and, and_true, exists_eq_left, exists_eq_left', exists_and_left, if_true, if_false, Bool.false_eq_true, ite_false, ite_true, List.cons.injEq, wipeZ, zup_same, atI_zero, atI_one, atI_lit, atI_n, ixN_zero, ixN_one, ixN_lit, ixN_n, List.length_cons, List.length_nil, Nat.reduceAdd, Nat.reduceLT, decide_eq_true_eq, List.append_nil, List.nil_append, ZO.lst.injEq, ZO.dct.injEq, seqIx_n, Bool.not_true, Bool.not_false, isE_snoc, and_assoc, or_false, false_or, exists_eq, exists_eq', isT, String.reduceBEq, Bool.and_false, Bool.and_true, Bool.false_and, Bool.true_and, Bool.or_false, Bool.or_true, Bool.true_or, Bool.false_or, natC, natC0, natC1, plain_int, plain_str, plain_non, depth_int, depth_str, depth_non, Nat.zero_le, true_or, or_true, not_true_eq_false, not_false_eq_true, Int.reduceEq, Int.reduceLT, Int.reduceLE, Int.reduceAdd, Int.reduceSub, Nat.reduceEqDiff, decide_true, decide_false]
    refine ⟨a, bn, xs.length, rfl, by omega, by omega, hd, fun r S1 r0 r1 hdn => ?_⟩
    obtain ⟨n, rfl⟩ := Int.eq_ofNat_of_zero_le r0
    have hn : n < xs.length := by omega
    simp only [zNext, zBreak, zCont, zDrop, zRet, zRetN, zIfS, zAsg, zAug, zAugS, zDel, zFor, zVar, zC, zOp, zUn, zNil, zCons, zAp, zMt, zB, zTr, zTruth, zAnd, zOr, zNot, zAndV, zOrV, zNotV, zIf, zTup, zLst, zDNew, zBM, zBM0, tyZ, zgName, zgNil, zgCons, zgTup, zgTupT, zgSub, zAdd, zSub, zMul, zMod, zDiv, zPow, zShl, zCmpI, zLt, zLe, zGt, zGe, zEq, zNe, zIs, zIsNot, zIn, zNotIn, zNeg, zEqN, zIsN, scalD, zInN, zIx, zSlice, zPart, zNoPart, zSl, zSet, zIAdd, zGetA, zDelI, zLenA, zListA, zTuple, zInt, zAbs, zMax2, zMin2, zAllL, zAnyL, zSumL, zMaxL, zMinL, zSorted, zAppend, zExtend, zPop, zPopAt, zReverse, zJoin, zStr1, zIsi, tyD, zCall, zLc, zLcL, zYes, ziR1, ziR2, ziR3, ziAny, ziEnum, Keep, zEnd, List.getElem?_cons_zero, List.getElem?_cons_succ, List.set_cons_zero, List.set_cons_succ, Option.some.injEq, D.int.injEq, D.ref.injEq, D.tup.injEq, D.str.injEq, D.bl.injEq, reduceCtorEq, false_and, and_false, true_and, and_true, exists_eq_left, exists_eq_left', exists_and_left, if_true, if_false, Bool.false_eq_true, ite_false, ite_true, List.cons.injEq, wipeZ, zup_same, atI_zero, atI_one, atI_lit, atI_n, ixN_zero, ixN_one, ixN_lit, ixN_n, List.length_cons, List.length_nil, Nat.reduceAdd, Nat.reduceLT, decide_eq_true_eq, List.append_nil, List.nil_append, ZO.lst.injEq, ZO.dct.injEq, seqIx_n, Bool.not_true, Bool.not_false, isE_snoc, and_assoc, or_false, false_or, exists_eq, exists_eq', isT, String.reduceBEq, Bool.and_false, Bool.and_true, Bool.false_and, Bool.true_and, Bool.or_false, Bool.or_true, Bool.true_or, Bool.false_or, natC, natC0, natC1, plain_int, plain_str, plain_non, depth_int, depth_str, depth_non, Nat.zero_le, true_or, or_true, not_true_eq_false, not_false_eq_true, Int.reduceEq, Int.reduceLT, Int.reduceLE, Int.reduceAdd, Int.reduceSub, Nat.reduceEqDiff, decide_true, decide_false, List.getElem?_eq_getElem hn]
    exact ⟨_, Sub.refl, hq _ _ (List.getElem_mem hn) hdn⟩
  · simp only [zNext, zBreak, zCont, zDrop, zRet, zRetN, zIfS, zAsg, zAug, zAugS, zDel, zFor, zVar, zC, zOp, zUn, zNil, zCons, zAp, zMt, zB, zTr, zTruth, zAnd, zOr, zNot, zAndV, zOrV, zNotV, zIf, zTup, zLst, zDNew, zBM, zBM0, tyZ, zgName, zgNil, zgCons, zgTup, zgTupT, zgSub, zAdd, zSub, zMul, zMod, zDiv, zPow, zShl, zCmpI, zLt, zLe, zGt, zGe, zEq, zNe, zIs, zIsNot, zIn, zNotIn, zNeg, zEqN, zIsN, scalD, zInN, zIx, zSlice, zPart, zNoPart, zSl, zSet, zIAdd, zGetA, zDelI, zLenA, zListA, zTuple, zInt, zAbs, zMax2, zMin2, zAllL, zAnyL, zSumL, zMaxL, zMinL, zSorted, zAppend, zExtend, zPop, zPopAt, zReverse, zJoin, zStr1, zIsi, tyD, zCall, zLc, zLcL, zYes, ziR1, ziR2, ziR3, ziAny, ziEnum, Keep, zEnd, List.getElem?_cons_zero, List.getElem?_cons_succ, List.set_cons_zero, List.set_cons_succ, Option.some.injEq, D.int.injEq, D.ref.injEq, D.tup.injEq, D.str.injEq, D.bl.injEq, reduceCtorEq, false_and, and_false, true_and, and_true, exists_eq_left, exists_eq_left', exists_and_left, if_true, if_false, Bool.false_eq_true, ite_false, ite_true, List.cons.injEq, wipeZ, zup_same, atI_zero, atI_one, atI_lit, atI_n, ixN_zero, ixN_one, ixN_lit, ixN_n, List.length_cons, List.length_nil, Nat.reduceAdd, Nat.reduceLT, decide_eq_true_eq, List.append_nil, List.nil_append, ZO.lst.injEq, ZO.dct.injEq, seqIx_n, Bool.not_true, Bool.not_false, isE_snoc, and_assoc, or_false, false_or, exists_eq, exists_eq', isT, String.reduceBEq, Bool.and_false, Bool.and_true, Bool.false_and, Bool.true_and, Bool.or_false, Bool.or_true, Bool.true_or, Bool.false_or, natC, natC0, natC1, plain_int, plain_str, plain_non, depth_int, depth_str, depth_non, Nat.zero_le, true_or, or_true, not_true_eq_false, not_false_eq_true, Int.reduceEq, Int.reduceLT, Int.reduceLE, Int.reduceAdd, Int.reduceSub, Nat.reduceEqDiff, decide_true, decide_false, hc]
    refine ⟨a, bn, xs.length, rfl, by omega, by omega, hd, fun r S1 r0 r1 hdn => ?_⟩
    obtain ⟨n, rfl⟩ := Int.eq_ofNat_of_zero_le r0
    have hn : n < xs.length := by omega
    have hc1 : S1 c = some (.lst xs) := (hdn.1 c fun e => hne (by rw [e])).trans hc
    simp only [zNext, zBreak, zCont, zDrop, zRet, zRetN, zIfS, zAsg, zAug, zAugS, zDel, zFor, zVar, zC, zOp, zUn, zNil, zCons, zAp, zMt, zB, zTr, zTruth, zAnd, zOr, zNot, zAndV, zOrV, zNotV, zIf, zTup, zLst, zDNew, zBM, zBM0, tyZ, zgName, zgNil, zgCons, zgTup, zgTupT, zgSub, zAdd, zSub, zMul, zMod, zDiv, zPow, zShl, zCmpI, zLt, zLe, zGt, zGe, zEq, zNe, zIs, zIsNot, zIn, zNotIn, zNeg, zEqN, zIsN, scalD, zInN, zIx, zSlice, zPart, zNoPart, zSl, zSet, zIAdd, zGetA, zDelI, zLenA, zListA, zTuple, zInt, zAbs, zMax2, zMin2, zAllL, zAnyL, zSumL, zMaxL, zMinL, zSorted, zAppend, zExtend, zPop, zPopAt, zReverse, zJoin, zStr1, zIsi, tyD, zCall, zLc, zLcL, zYes, ziR1, ziR2, ziR3, ziAny, ziEnum, Keep, zEnd, List.getElem?_cons_zero, List.getElem?_cons_succ, List.set_cons_zero, List.set_cons_succ, Option.some.injEq, D.int.injEq, D.ref.injEq, D.tup.injEq, D.str.injEq, D.bl.injEq, reduceCtorEq, false_and, and_false, true_and, and_true, exists_eq_left, exists_eq_left', exists_and_left, if_true, if_false, Bool.false_eq_true, ite_false, ite_true, List.cons.injEq, wipeZ, zup_same, atI_zero, atI_one, atI_lit, atI_n, ixN_zero, ixN_one, ixN_lit, ixN_n, List.length_cons, List.length_nil, Nat.reduceAdd, Nat.reduceLT, decide_eq_true_eq, List.append_nil, List.nil_append, ZO.lst.injEq, ZO.dct.injEq, seqIx_n, Bool.not_true, Bool.not_false, isE_snoc, and_assoc, or_false, false_or, exists_eq, exists_eq', isT, String.reduceBEq, Bool.and_false, Bool.and_true, Bool.false_and, Bool.true_and, Bool.or_false, Bool.or_true, Bool.true_or, Bool.false_or, natC, natC0, natC1, plain_int, plain_str, plain_non, depth_int, depth_str, depth_non, Nat.zero_le, true_or, or_true, not_true_eq_false, not_false_eq_true, Int.reduceEq, Int.reduceLT, Int.reduceLE, Int.reduceAdd, Int.reduceSub, Nat.reduceEqDiff, decide_true, decide_false, hc1, List.getElem?_eq_getElem hn]
    exact ⟨_, Sub.refl, hq _ _ (List.getElem_mem hn) hdn⟩

/-! ### _law_is_int -/
def sp__law_is_int (K : PySem.W.Frag) : ZSp := fun ds S Q => ∃ (d : D), ds = [d] ∧ d.plain = true ∧ Q (.bl (match d with | .int _ => true | _ => false)) S
def z__law_is_int (K : PySem.W.Frag) : ZTS :=
  (zRet (zAndV (zIsi "int" (zVar 0)) (zNotV (zIsi "bool" (zVar 0)))))
theorem law_is_int {K : PySem.W.Frag} (ds : List D) (S : Store) (Q : ZK) (h : sp__law_is_int K ds S Q) : z__law_is_int K (zEnd Q) (zstart ["thing"] ds) S := by
  obtain ⟨d, rfl, hp, hq⟩ := h
  show z__law_is_int K (zEnd Q) [some d] S
  unfold z__law_is_int
  cases d <;> first
    | (exfalso; simp [D.plain] at hp; done)
    | (simp only [zNext, zBreak, zCont, zDrop, zRet, zRetN, zIfS, zAsg, zAug, zAugS, zDel, zFor, zVar, zC, zOp, zUn, zNil, zCons, zAp, zMt, zB, zTr, zTruth, zAnd, zOr, zNot, zAndV, zOrV, zNotV, zIf, zTup, zLst, zDNew, zBM, zBM0, tyZ, zgName, zgNil, zgCons, zgTup, zgTupT, zgSub, zAdd, zSub, zMul, zMod, zDiv, zPow, zShl, zCmpI, zLt, zLe, zGt, zGe, zEq, zNe, zIs, zIsNot, zIn, zNotIn, zNeg, zEqN, zIsN, scalD, zInN, zIx, zSlice, zPart, zNoPart, zSl, zSet, zIAdd, zGetA, zDelI, zLenA, zListA, zTuple, zInt, zAbs, zMax2, zMin2, zAllL, zAnyL, zSumL, zMaxL, zMinL, zSorted, zAppend, zExtend, zPop, zPopAt, zReverse, zJoin, zStr1, zIsi, tyD, zCall, zLc, zLcL, zYes, ziR1, ziR2, ziR3, ziAny, ziEnum, Keep, zEnd, List.getElem?_cons_zero, List.getElem?_cons_succ, List.set_cons_zero, List.set_cons_succ, Option.some.injEq, D.int.injEq, D.ref.injEq, D.tup.injEq, D.str.injEq, D.bl.injEq, reduceCtorEq, false_and, and_false, true_and, and_true, exists_eq_left, exists_eq_left', exists_and_left, if_true, if_false, Bool.false_eq_true, ite_false, ite_true, List.cons.injEq, wipeZ, zup_same, atI_zero, atI_one, atI_lit, atI_n, ixN_zero, ixN_one, ixN_lit, ixN_n, List.length_cons, List.length_nil, Nat.reduceAdd, Nat.reduceLT, decide_eq_true_eq, List.append_nil, List.nil_append, ZO.lst.injEq, ZO.dct.injEq, seqIx_n, Bool.not_true, Bool.not_false, isE_snoc, and_assoc, or_false, false_or, exists_eq, exists_eq', isT, String.reduceBEq, Bool.and_false, Bool.and_true, Bool.false_and, Bool.true_and, Bool.or_false, Bool.or_true, Bool.true_or, Bool.false_or, natC, natC0, natC1, plain_int, plain_str, plain_non, depth_int, depth_str, depth_non, Nat.zero_le, true_or, or_true, not_true_eq_false, not_false_eq_true, Int.reduceEq, Int.reduceLT, Int.reduceLE, Int.reduceAdd, Int.reduceSub, Nat.reduceEqDiff, decide_true, decide_false, show isT "int" "int" = true from rfl, show isT "int" "bool" = false from rfl, show isT "NoneType" "int" = false from rfl, show isT "str" "int" = false from rfl, show isT "tuple" "int" = false from rfl, Bool.not_false]
       exact ⟨_, Sub.refl, hq⟩)

theorem Dr.sub {S S1 : Store} {a : Addr} {bn : Addr × List Int} (h : Dr S a bn) (sb : Z.Sub S S1) : Dr S1 a bn := let ⟨i, j, k, e1, e2, hne⟩ := h; ⟨i, j, k, sb _ _ e1, sb _ _ e2, hne⟩
theorem Dr.of {S S1 : Store} {a : Addr} {bn : Addr × List Int} (h : Dr S a bn) (e1 : S1 a = S a) (e2 : S1 bn.1 = S bn.1) : Dr S1 a bn := let ⟨i, j, k, q1, q2, hne⟩ := h; ⟨i, j, k, e1.trans q1, e2.trans q2, hne⟩
theorem Dr.some {S : Store} {a : Addr} {bn : Addr × List Int} (h : Dr S a bn) : S a ≠ none ∧ S bn.1 ≠ none := let ⟨_, _, _, q1, q2, _⟩ := h; ⟨by rw [q1]; simp, by rw [q2]; simp⟩
theorem DrN.refl {S : Store} {a : Addr} {bn : Addr × List Int} (h : Dr S a bn) : DrN S S a bn := ⟨fun _ _ => rfl, h⟩
theorem DrN.trans {S S1 S2 : Store} {a : Addr} {bn : Addr × List Int} (h : DrN S S1 a bn) (h2 : DrN S1 S2 a bn) : DrN S S2 a bn := ⟨fun c hc => (h2.1 c hc).trans (h.1 c hc), h2.2⟩
/-- the drawing state at the end of a def: what else it made is forgotten -/
theorem drn_end {S S2 : Store} {a : Addr} {bn : Addr × List Int} (hd : Dr S a bn) (h : Ext [a] S S2) (h2 : Dr S2 a bn) : DrN S (cutS1 [a] S S2) a bn ∧ Z.Sub (cutS1 [a] S S2) S2 := by
  refine ⟨⟨fun c hc => by unfold cutS1; rw [if_neg (by simpa using hc)], ?_⟩, cutS1_sub h⟩
  obtain ⟨i, j, k, q1, q2, hne⟩ := h2
  obtain ⟨i', j', k', p1, p2, _⟩ := hd
  exact ⟨i, j, k, by unfold cutS1; rw [if_pos (by simp)]; exact q1, by unfold cutS1; rw [if_neg (by simpa using hne)]; exact p2, hne⟩
theorem DrN.ext {S S1 : Store} {a : Addr} {bn : Addr × List Int} (h : DrN S S1 a bn) : Ext [a] S S1 := fun c z hc e => by rw [h.1 c (by simpa using hc)]; exact e
theorem DrN.none {S S1 : Store} {a p : Addr} {bn : Addr × List Int} (h : DrN S S1 a bn) (hd : Dr S a bn) (hp : S p = Option.none) : S1 p = Option.none := by
  rw [h.1 p fun e => hd.some.1 (by rw [← e]; exact hp)]; exact hp
theorem DrN.none' {S S1 : Store} {a p : Addr} {bn : Addr × List Int} (h : DrN S S1 a bn) (hp : S1 p = Option.none) : S p = Option.none := by
  rw [← h.1 p fun e => h.2.some.1 (by rw [← e]; exact hp)]; exact hp

/-! ### _law_shuffled -/
def sp__law_shuffled (K : PySem.W.Frag) : ZSp := fun ds S Q => ∃ (a : Addr) (bn : Addr × List Int) (c : Addr) (xs : List D), ds = [.ref a, .ref c] ∧ S c = some (.lst xs) ∧ c ≠ a ∧ Dr S a bn ∧ xs.length ≤ 100000 ∧
  ∀ ys S1 p, ys.Perm xs → DrN S S1 a bn → S1 p = none → Q (.ref p) (zup S1 p (.lst ys))
def z__law_shuffled (K : PySem.W.Frag) : ZTS :=
  (zSeq (zAsg (zAp (zListA K) (zCons (zVar 1) zNil)) (zgName 2))
    (zSeq (zAsg (zLst zNil) (zgName 3))
    (zSeq (zFor (ziR1 (zCons (zAp zLenA (zCons (zVar 2) zNil)) zNil)) (zgName 4) (zDrop (zBM "list" zAppend (zVar 3) (zCons (zBM "list" zPopAt (zVar 2) (zCons (zCall (sp__law_draw K) [] (zCons (zVar 0) (zCons (zAp zLenA (zCons (zVar 2) zNil)) zNil))) zNil)) zNil))))
    (zRet (zVar 3)))))
theorem law_shuffled {K : PySem.W.Frag} (ds : List D) (S : Store) (Q : ZK) (h : sp__law_shuffled K ds S Q) : z__law_shuffled K (zEnd Q) (zstart ["d", "row", "left", "found", "k"] ds) S := by
  obtain ⟨a, bn, c, xs, rfl, hc, hne, hd, hl, hq⟩ := h
  show z__law_shuffled K (zEnd Q) [some (.ref a), some (.ref c), none, none, none] S
  unfold z__law_shuffled
  refine zseq_go ?_
  simp only [zNext, zBreak, zCont, zDrop, zRet, zRetN, zIfS, zAsg, zAug, zAugS, zDel, zFor, zVar, zC, zOp, zUn, zNil, zCons, zAp, zMt, zB, zTr, zTruth, zAnd, zOr, zNot, zAndV, zOrV, zNotV, zIf, zTup, zLst, zDNew, zBM, zBM0, tyZ, zgName, zgNil, zgCons, zgTup, zgTupT, zgSub, zAdd, zSub, zMul, zMod, zDiv, zPow, zShl, zCmpI, zLt, zLe, zGt, zGe, zEq, zNe, zIs, zIsNot, zIn, zNotIn, zNeg, zEqN, zIsN, scalD, zInN, zIx, zSlice, zPart, zNoPart, zSl, zSet, zIAdd, zGetA, zDelI, zLenA, zListA, zTuple, zInt, zAbs, zMax2, zMin2, zAllL, zAnyL, zSumL, zMaxL, zMinL, zSorted, zAppend, zExtend, zPop, zPopAt, zReverse, zJoin, zStr1, zIsi, tyD, zCall, zLc, zLcL, zYes, ziR1, ziR2, ziR3, ziAny, ziEnum, Keep, zEnd, List.getElem?_cons_zero, List.getElem?_cons_succ, List.set_cons_zero, List.set_cons_succ, Option.some.injEq, D.int.injEq, D.ref.injEq, D.tup.injEq, D.str.injEq, D.bl.injEq, reduceCtorEq, false_and, and_false, true_and, and_true, exists_eq_left, exists_eq_left', exists_and_left, if_true, if_false, Bool.false_eq_true, ite_false, ite_true, List.cons.injEq, wipeZ, zup_same, atI_zero, atI_one, atI_lit, atI_n, ixN_zero, ixN_one, ixN_lit, ixN_n, List.length_cons, List.length_nil, Nat.reduceAdd, Nat.reduceLT, decide_eq_true_eq, List.append_nil, List.nil_append, ZO.lst.injEq, ZO.dct.injEq, seqIx_n, Bool.not_true, Bool.not_false, isE_snoc, and_assoc, or_false, false_or, exists_eq, exists_eq', isT, String.reduceBEq, Bool.and_false, Bool.and_true, Bool.false_and, Bool.true_and, Bool.or_false, Bool.or_true, Bool.true_or, Bool.false_or, natC, natC0, natC1, plain_int, plain_str, plain_non, depth_int, depth_str, depth_non, Nat.zero_le, true_or, or_true, not_true_eq_false, not_false_eq_true, Int.reduceEq, Int.reduceLT, Int.reduceLE, Int.reduceAdd, Int.reduceSub, Nat.reduceEqDiff, decide_true, decide_false]
  refine ⟨xs, .inl ⟨.lst c xs, .inl ⟨rfl, .inl hc⟩⟩, fun p hp => ?_⟩
  refine zseq_go ?_
  simp only [zNext, zBreak, zCont, zDrop, zRet, zRetN, zIfS, zAsg, zAug, zAugS, zDel, zFor, zVar, zC, zOp, zUn, zNil, zCons, zAp, zMt, zB, zTr, zTruth, zAnd, zOr, zNot, zAndV, zOrV, zNotV, zIf, zTup, zLst, zDNew, zBM, zBM0, tyZ, zgName, zgNil, zgCons, zgTup, zgTupT, zgSub, zAdd, zSub, zMul, zMod, zDiv, zPow, zShl, zCmpI, zLt, zLe, zGt, zGe, zEq, zNe, zIs, zIsNot, zIn, zNotIn, zNeg, zEqN, zIsN, scalD, zInN, zIx, zSlice, zPart, zNoPart, zSl, zSet, zIAdd, zGetA, zDelI, zLenA, zListA, zTuple, zInt, zAbs, zMax2, zMin2, zAllL, zAnyL, zSumL, zMaxL, zMinL, zSorted, zAppend, zExtend, zPop, zPopAt, zReverse, zJoin, zStr1, zIsi, tyD, zCall, zLc, zLcL, zYes, ziR1, ziR2, ziR3, ziAny, ziEnum, Keep, zEnd, List.getElem?_cons_zero, List.getElem?_cons_succ, List.set_cons_zero, List.set_cons_succ, Option.some.injEq, D.int.injEq, D.ref.injEq, D.tup.injEq, D.str.injEq, D.bl.injEq, reduceCtorEq, false_and, and_false, true_and, and_true, exists_eq_left, exists_eq_left', exists_and_left, if_true, if_false, Bool.false_eq_true, ite_false, ite_true, List.cons.injEq, wipeZ, zup_same, atI_zero, atI_one, atI_lit, atI_n, ixN_zero, ixN_one, ixN_lit, ixN_n, List.length_cons, List.length_nil, Nat.reduceAdd, Nat.reduceLT, decide_eq_true_eq, List.append_nil, List.nil_append, ZO.lst.injEq, ZO.dct.injEq, seqIx_n, Bool.not_true, Bool.not_false, isE_snoc, and_assoc, or_false, false_or, exists_eq, exists_eq', isT, String.reduceBEq, Bool.and_false, Bool.and_true, Bool.false_and, Bool.true_and, Bool.or_false, Bool.or_true, Bool.true_or, Bool.false_or, natC, natC0, natC1, plain_int, plain_str, plain_non, depth_int, depth_str, depth_non, Nat.zero_le, true_or, or_true, not_true_eq_false, not_false_eq_true, Int.reduceEq, Int.reduceLT, Int.reduceLE, Int.reduceAdd, Int.reduceSub, Nat.reduceEqDiff, decide_true, decide_false]
  intro q hq0
  obtain ⟨hq1, hqp⟩ := zup_no hq0
  have hpa : p ≠ a := fun e => hd.some.1 (by rw [← e]; exact hp)
  have hqa : q ≠ a := fun e => hd.some.1 (by rw [← e]; exact hq1)
  have hpb : p ≠ bn.1 := fun e => hd.some.2 (by rw [← e]; exact hp)
  have hqb : q ≠ bn.1 := fun e => hd.some.2 (by rw [← e]; exact hq1)
  have e1 : zup (zup S p (.lst xs)) q (.lst []) p = some (.lst xs) := by rw [zup_ne (Ne.symm hqp)]; exact zup_same
  refine zseq (fun δ' S' => δ'[3]? = some (some (.ref q)) ∧ ∃ fs, S' q = some (.lst fs) ∧ fs.Perm xs ∧ Ext [a] S S' ∧ Dr S' a bn) ?_ ?_
  · simp only [zNext, zBreak, zCont, zDrop, zRet, zRetN, zIfS, zAsg, zAug, zAugS, zDel, zFor, zVar, zC, zOp, zUn, zNil, zCons, zAp, zMt, zB, zTr, zTruth, zAnd, zOr, zNot, zAndV, zOrV, zNotV, zIf, zTup, zLst, zDNew, zBM, zBM0, tyZ, zgName, zgNil, zgCons, zgTup, zgTupT, zgSub, zAdd, zSub, zMul, zMod, zDiv, zPow, zShl, zCmpI, zLt, zLe, zGt, zGe, zEq, zNe, zIs, zIsNot, zIn, zNotIn, zNeg, zEqN, zIsN, scalD, zInN, zIx, zSlice, zPart, zNoPart, zSl, zSet, zIAdd, zGetA, zDelI, zLenA, zListA, zTuple, zInt, zAbs, zMax2, zMin2, zAllL, zAnyL, zSumL, zMaxL, zMinL, zSorted, zAppend, zExtend, zPop, zPopAt, zReverse, zJoin, zStr1, zIsi, tyD, zCall, zLc, zLcL, zYes, ziR1, ziR2, ziR3, ziAny, ziEnum, Keep, zEnd, List.getElem?_cons_zero, List.getElem?_cons_succ, List.set_cons_zero, List.set_cons_succ, Option.some.injEq, D.int.injEq, D.ref.injEq, D.tup.injEq, D.str.injEq, D.bl.injEq, reduceCtorEq, false_and, and_false, true_and, and_true, exists_eq_left, exists_eq_left', exists_and_left, if_true, if_false, Bool.false_eq_true, ite_false, ite_true, List.cons.injEq, wipeZ, zup_same, atI_zero, atI_one, atI_lit, atI_n, ixN_zero, ixN_one, ixN_lit, ixN_n, List.length_cons, List.length_nil, Nat.reduceAdd, Nat.reduceLT, decide_eq_true_eq, List.append_nil, List.nil_append, ZO.lst.injEq, ZO.dct.injEq, seqIx_n, Bool.not_true, Bool.not_false, isE_snoc, and_assoc, or_false, false_or, exists_eq, exists_eq', isT, String.reduceBEq, Bool.and_false, Bool.and_true, Bool.false_and, Bool.true_and, Bool.or_false, Bool.or_true, Bool.true_or, Bool.false_or, natC, natC0, natC1, plain_int, plain_str, plain_non, depth_int, depth_str, depth_non, Nat.zero_le, true_or, or_true, not_true_eq_false, not_false_eq_true, Int.reduceEq, Int.reduceLT, Int.reduceLE, Int.reduceAdd, Int.reduceSub, Nat.reduceEqDiff, decide_true, decide_false, e1]
    refine ⟨by omega, by omega, ?_⟩
    refine zloop (fun rest δ' S' => (∃ kk, δ' = [some (.ref a), some (.ref c), some (.ref p), some (.ref q), kk]) ∧ ∃ ls fs, S' p = some (.lst ls) ∧ S' q = some (.lst fs) ∧ ls.length = rest.length ∧ (fs ++ ls).Perm xs ∧ Ext [a] S S' ∧ Dr S' a bn) ?_ ?_ _ _ _ ?_
    · rintro δ' S' ⟨⟨kk, rfl⟩, ls, fs, h1, h2, h3, h4, h5, h6⟩
      have : ls = [] := List.length_eq_zero_iff.mp h3
      subst this
      exact ⟨rfl, fs, h2, by simpa using h4, h5, h6⟩
    · rintro d r δ' S' N ⟨⟨kk, rfl⟩, ls, fs, h1, h2, h3, h4, h5, h6⟩ hN
      simp only [List.length_cons] at h3
      have hlen : ls.length ≤ xs.length := by rw [← h4.length_eq]; simp
      simp only [zNext, zBreak, zCont, zDrop, zRet, zRetN, zIfS, zAsg, zAug, zAugS, zDel, zFor, zVar, zC, zOp, zUn, zNil, zCons, zAp, zMt, zB, zTr, zTruth, zAnd, zOr, zNot, zAndV, zOrV, zNotV, zIf, zTup, zLst, zDNew, zBM, zBM0, tyZ, zgName, zgNil, zgCons, zgTup, zgTupT, zgSub, zAdd, zSub, zMul, zMod, zDiv, zPow, zShl, zCmpI, zLt, zLe, zGt, zGe, zEq, zNe, zIs, zIsNot, zIn, zNotIn, zNeg, zEqN, zIsN, scalD, zInN, zIx, zSlice, zPart, zNoPart, zSl, zSet, zIAdd, zGetA, zDelI, zLenA, zListA, zTuple, zInt, zAbs, zMax2, zMin2, zAllL, zAnyL, zSumL, zMaxL, zMinL, zSorted, zAppend, zExtend, zPop, zPopAt, zReverse, zJoin, zStr1, zIsi, tyD, zCall, zLc, zLcL, zYes, ziR1, ziR2, ziR3, ziAny, ziEnum, Keep, zEnd, List.getElem?_cons_zero, List.getElem?_cons_succ, List.set_cons_zero, List.set_cons_succ, Option.some.injEq, D.int.injEq, D.ref.injEq, D.tup.injEq, D.str.injEq, D.bl.injEq, reduceCtorEq, false_and, and_false, true_and, and_true, exists_eq_left, exists_eq_left', exists_and_left, if_true, if_false, Bool.false_eq_true, ite_false, ite_true, List.cons.injEq, wipeZ, zup_same, atI_zero, atI_one, atI_lit, atI_n, ixN_zero, ixN_one, ixN_lit, ixN_n, List.length_cons, List.length_nil, Nat.reduceAdd, Nat.reduceLT, decide_eq_true_eq, List.append_nil, List.nil_append, ZO.lst.injEq, ZO.dct.injEq, seqIx_n, Bool.not_true, Bool.not_false, isE_snoc, and_assoc, or_false, false_or, exists_eq, exists_eq', isT, String.reduceBEq, Bool.and_false, Bool.and_true, Bool.false_and, Bool.true_and, Bool.or_false, Bool.or_true, Bool.true_or, Bool.false_or, natC, natC0, natC1, plain_int, plain_str, plain_non, depth_int, depth_str, depth_non, Nat.zero_le, true_or, or_true, not_true_eq_false, not_false_eq_true, Int.reduceEq, Int.reduceLT, Int.reduceLE, Int.reduceAdd, Int.reduceSub, Nat.reduceEqDiff, decide_true, decide_false, h1, h2]
      refine ⟨a, bn, ls.length, rfl, by omega, by omega, h6, fun x S1 x0 x1 hdn => ?_⟩
      obtain ⟨n, rfl⟩ := Int.eq_ofNat_of_zero_le x0
      have hn : n < ls.length := by omega
      have hp1 : S1 p = some (.lst ls) := (hdn.1 p hpa).trans h1
      have hq1' : S1 q = some (.lst fs) := (hdn.1 q hqa).trans h2
      have hq2 : ∀ o, zup S1 p o q = some (.lst fs) := fun o => by rw [zup_ne hqp]; exact hq1'
      have hpf : (fs ++ ls).length = xs.length := h4.length_eq
      simp only [zNext, zBreak, zCont, zDrop, zRet, zRetN, zIfS, zAsg, zAug, zAugS, zDel, zFor, zVar, zC, zOp, zUn, zNil, zCons, zAp, zMt, zB, zTr, zTruth, zAnd, zOr, zNot, zAndV, zOrV, zNotV, zIf, zTup, zLst, zDNew, zBM, zBM0, tyZ, zgName, zgNil, zgCons, zgTup, zgTupT, zgSub, zAdd, zSub, zMul, zMod, zDiv, zPow, zShl, zCmpI, zLt, zLe, zGt, zGe, zEq, zNe, zIs, zIsNot, zIn, zNotIn, zNeg, zEqN, zIsN, scalD, zInN, zIx, zSlice, zPart, zNoPart, zSl, zSet, zIAdd, zGetA, zDelI, zLenA, zListA, zTuple, zInt, zAbs, zMax2, zMin2, zAllL, zAnyL, zSumL, zMaxL, zMinL, zSorted, zAppend, zExtend, zPop, zPopAt, zReverse, zJoin, zStr1, zIsi, tyD, zCall, zLc, zLcL, zYes, ziR1, ziR2, ziR3, ziAny, ziEnum, Keep, zEnd, List.getElem?_cons_zero, List.getElem?_cons_succ, List.set_cons_zero, List.set_cons_succ, Option.some.injEq, D.int.injEq, D.ref.injEq, D.tup.injEq, D.str.injEq, D.bl.injEq, reduceCtorEq, false_and, and_false, true_and, and_true, exists_eq_left, exists_eq_left', exists_and_left, if_true, if_false, Bool.false_eq_true, ite_false, ite_true, List.cons.injEq, wipeZ, zup_same, atI_zero, atI_one, atI_lit, atI_n, ixN_zero, ixN_one, ixN_lit, ixN_n, List.length_cons, List.length_nil, Nat.reduceAdd, Nat.reduceLT, decide_eq_true_eq, List.append_nil, List.nil_append, ZO.lst.injEq, ZO.dct.injEq, seqIx_n, Bool.not_true, Bool.not_false, isE_snoc, and_assoc, or_false, false_or, exists_eq, exists_eq', isT, String.reduceBEq, Bool.and_false, Bool.and_true, Bool.false_and, Bool.true_and, Bool.or_false, Bool.or_true, Bool.true_or, Bool.false_or, natC, natC0, natC1, plain_int, plain_str, plain_non, depth_int, depth_str, depth_non, Nat.zero_le, true_or, or_true, not_true_eq_false, not_false_eq_true, Int.reduceEq, Int.reduceLT, Int.reduceLE, Int.reduceAdd, Int.reduceSub, Nat.reduceEqDiff, decide_true, decide_false, hp1, hn, hq2, List.getElem?_eq_getElem hn]
      refine ⟨by omega, by omega, by simp [sizeLine_eq] at hpf ⊢; omega, ?_⟩
      refine hN _ _ trivial ⟨⟨_, rfl⟩, ls.eraseIdx n, fs ++ [ls[n]], by rw [zup_ne (Ne.symm hqp)]; exact zup_same, zup_same, ?_, ?_, ?_, ?_⟩
      · rw [List.length_eraseIdx_of_lt hn]; omega
      · refine List.Perm.trans ?_ h4
        rw [List.append_assoc]
        exact List.Perm.append_left fs (by simpa using eraseIdx_perm hn)
      · exact ((h5.trans hdn.ext).upd (.inr hp)).upd (.inr hq1)
      · exact hdn.2.of (by rw [zup_ne (Ne.symm hqa), zup_ne (Ne.symm hpa)]) (by rw [zup_ne (Ne.symm hqb), zup_ne (Ne.symm hpb)])
    · exact ⟨⟨none, rfl⟩, xs, [], e1, zup_same, by rw [rangeD_len]; simp, by simp, (Ext.refl.new hp).new hq0, hd.of (by rw [zup_ne (Ne.symm hqa), zup_ne (Ne.symm hpa)]) (by rw [zup_ne (Ne.symm hqb), zup_ne (Ne.symm hpb)])⟩
  · rintro δ' S' ⟨hδ, fs, h1, h2, h3, h4⟩
    simp only [zNext, zBreak, zCont, zDrop, zRet, zRetN, zIfS, zAsg, zAug, zAugS, zDel, zFor, zVar, zC, zOp, zUn, zNil, zCons, zAp, zMt, zB, zTr, zTruth, zAnd, zOr, zNot, zAndV, zOrV, zNotV, zIf, zTup, zLst, zDNew, zBM, zBM0, tyZ, zgName, zgNil, zgCons, zgTup, zgTupT, zgSub, zAdd, zSub, zMul, zMod, zDiv, zPow, zShl, zCmpI, zLt, zLe, zGt, zGe, zEq, zNe, zIs, zIsNot, zIn, zNotIn, zNeg, zEqN, zIsN, scalD, zInN, zIx, zSlice, zPart, zNoPart, zSl, zSet, zIAdd, zGetA, zDelI, zLenA, zListA, zTuple, zInt, zAbs, zMax2, zMin2, zAllL, zAnyL, zSumL, zMaxL, zMinL, zSorted, zAppend, zExtend, zPop, zPopAt, zReverse, zJoin, zStr1, zIsi, tyD, zCall, zLc, zLcL, zYes, ziR1, ziR2, ziR3, ziAny, ziEnum, Keep, zEnd, List.getElem?_cons_zero, List.getElem?_cons_succ, List.set_cons_zero, List.set_cons_succ, Option.some.injEq, D.int.injEq, D.ref.injEq, D.tup.injEq, D.str.injEq, D.bl.injEq, reduceCtorEq, false_and, and_false, true_and, and_true, exists_eq_left, exists_eq_left', exists_and_left, if_true, if_false, Bool.false_eq_true, ite_false, ite_true, List.cons.injEq, wipeZ, zup_same, atI_zero, atI_one, atI_lit, atI_n, ixN_zero, ixN_one, ixN_lit, ixN_n, List.length_cons, List.length_nil, Nat.reduceAdd, Nat.reduceLT, decide_eq_true_eq, List.append_nil, List.nil_append, ZO.lst.injEq, ZO.dct.injEq, seqIx_n, Bool.not_true, Bool.not_false, isE_snoc, and_assoc, or_false, false_or, exists_eq, exists_eq', isT, String.reduceBEq, Bool.and_false, Bool.and_true, Bool.false_and, Bool.true_and, Bool.or_false, Bool.or_true, Bool.true_or, Bool.false_or, natC, natC0, natC1, plain_int, plain_str, plain_non, depth_int, depth_str, depth_non, Nat.zero_le, true_or, or_true, not_true_eq_false, not_false_eq_true, Int.reduceEq, Int.reduceLT, Int.reduceLE, Int.reduceAdd, Int.reduceSub, Nat.reduceEqDiff, decide_true, decide_false, hδ]
    obtain ⟨w1, w2⟩ := drn_end hd h3 h4
    have hn : cutS1 [a] S S' q = none := by unfold cutS1; rw [if_neg (by simpa using hqa)]; exact hq1
    refine ⟨_, ?_, hq fs _ q h2 w1 hn⟩
    intro x o e
    by_cases hx : x = q
    · subst hx; rw [zup_same] at e; rw [← e]; exact h1
    · rw [zup_ne hx] at e; exact w2 x o e

/-! ### _law_same -/
def pairD (p : D × D) : D := .tup [p.1, p.2]
def nodes2 (ps : List (D × D)) : Nat := D.nodesL (ps.map (·.2))
theorem nodesL_app : ∀ xs ys : List D, D.nodesL (xs ++ ys) = D.nodesL xs + D.nodesL ys
  | [], ys => by simp [D.nodesL]
  | x :: r, ys => by simp [D.nodesL, nodesL_app r ys, Nat.add_assoc]
theorem len_nodesL : ∀ xs : List D, xs.length ≤ D.nodesL xs
  | [] => Nat.zero_le _
  | x :: r => by have := len_nodesL r; have := x.nodes_pos; simp only [D.nodesL, List.length_cons]; omega
theorem tup_eq_zip : ∀ {as bs : List D}, as.length = bs.length → (as = bs ↔ ∀ p ∈ as.zip bs, p.1 = p.2)
  | [], [], _ => by simp
  | a :: as, b :: bs, h => by
    have ih := tup_eq_zip (as := as) (bs := bs) (by simpa using h)
    simp [ih]
  | [], _ :: _, h => by simp at h
  | _ :: _, [], h => by simp at h
theorem zip_snd : ∀ {as bs : List D}, as.length = bs.length → (as.zip bs).map (·.2) = bs
  | [], [], _ => rfl
  | a :: as, b :: bs, h => by simp [zip_snd (as := as) (bs := bs) (by simpa using h)]
  | [], _ :: _, h => by simp at h
  | _ :: _, [], h => by simp at h
def sp__law_same (K : PySem.W.Frag) : ZSp := fun ds S Q => ∃ (told due : D), ds = [told, due] ∧ told.plain = true ∧ due.plain = true ∧ due.nodes ≤ 290000 ∧ Q (.bl (decide (told = due))) S
def z__law_same (K : PySem.W.Frag) : ZTS :=
  (zSeq (zAsg (zLst (zCons (zTup (zCons (zVar 0) (zCons (zVar 1) zNil))) zNil)) (zgName 2))
    (zSeq (zFor (ziR1 (zCons (zC (.int 300000)) zNil)) (zgName 3) (zSeq (zIfS (zNot (zTruth (zVar 2))) zBreak zNext)
    (zSeq (zAsg (zBM0 "list" zPop (zVar 2)) (zgTup 2 (zgCons (zgName 4) (zgCons (zgName 5) zgNil))))
    (zIfS (zTruth (zIsi "tuple" (zVar 5))) (zSeq (zIfS (zOr (zNot (zTruth (zIsi "tuple" (zVar 4)))) (zB (zOp zNe (zAp zLenA (zCons (zVar 4) zNil)) (zAp zLenA (zCons (zVar 5) zNil))))) (zRet (zC (.bl false))) zNext)
    (zDrop (zBM "list" zExtend (zVar 2) (zCons (zLc (ziR1 (zCons (zAp zLenA (zCons (zVar 5) zNil)) zNil)) (zgName 6) zYes (zTup (zCons (zOp zIx (zVar 4) (zVar 6)) (zCons (zOp zIx (zVar 5) (zVar 6)) zNil))) [6]) zNil)))) (zIfS (zB (zOp zIs (zVar 5) (zC .non))) (zIfS (zB (zOp zIsNot (zVar 4) (zC .non))) (zRet (zC (.bl false))) zNext) (zIfS (zTruth (zIsi "str" (zVar 5))) (zIfS (zOr (zNot (zTruth (zIsi "str" (zVar 4)))) (zB (zOp zNe (zVar 4) (zVar 5)))) (zRet (zC (.bl false))) zNext) (zIfS (zOr (zNot (zTruth (zCall (sp__law_is_int K) [] (zCons (zVar 4) zNil)))) (zB (zOp zNe (zVar 4) (zVar 5)))) (zRet (zC (.bl false))) zNext)))))))
    (zRet (zC (.bl true)))))
theorem law_same {K : PySem.W.Frag} (ds : List D) (S : Store) (Q : ZK) (h : sp__law_same K ds S Q) : z__law_same K (zEnd Q) (zstart ["told", "due", "left", "turn", "one", "other", "k"] ds) S := by
  obtain ⟨told, due, rfl, hp1, hp2, hn, hq⟩ := h
  show z__law_same K (zEnd Q) [some told, some due, none, none, none, none, none] S
  unfold z__law_same
  refine zseq_go ?_
  simp only [zNext, zBreak, zCont, zDrop, zRet, zRetN, zIfS, zAsg, zAug, zAugS, zDel, zFor, zVar, zC, zOp, zUn, zNil, zCons, zAp, zMt, zB, zTr, zTruth, zAnd, zOr, zNot, zAndV, zOrV, zNotV, zIf, zTup, zLst, zDNew, zBM, zBM0, tyZ, zgName, zgNil, zgCons, zgTup, zgTupT, zgSub, zAdd, zSub, zMul, zMod, zDiv, zPow, zShl, zCmpI, zLt, zLe, zGt, zGe, zEq, zNe, zIs, zIsNot, zIn, zNotIn, zNeg, zEqN, zIsN, scalD, zInN, zIx, zSlice, zPart, zNoPart, zSl, zSet, zIAdd, zGetA, zDelI, zLenA, zListA, zTuple, zInt, zAbs, zMax2, zMin2, zAllL, zAnyL, zSumL, zMaxL, zMinL, zSorted, zAppend, zExtend, zPop, zPopAt, zReverse, zJoin, zStr1, zIsi, tyD, zCall, zLc, zLcL, zYes, ziR1, ziR2, ziR3, ziAny, ziEnum, Keep, zEnd, List.getElem?_cons_zero, List.getElem?_cons_succ, List.set_cons_zero, List.set_cons_succ, Option.some.injEq, D.int.injEq, D.ref.injEq, D.tup.injEq, D.str.injEq, D.bl.injEq, reduceCtorEq, false_and, and_false, true_and, and_true, exists_eq_left, exists_eq_left', exists_and_left, if_true, if_false, Bool.false_eq_true, ite_false, ite_true, List.cons.injEq, wipeZ, zup_same, atI_zero, atI_one, atI_lit, atI_n, ixN_zero, ixN_one, ixN_lit, ixN_n, List.length_cons, List.length_nil, Nat.reduceAdd, Nat.reduceLT, decide_eq_true_eq, List.append_nil, List.nil_append, ZO.lst.injEq, ZO.dct.injEq, seqIx_n, Bool.not_true, Bool.not_false, isE_snoc, and_assoc, or_false, false_or, exists_eq, exists_eq', isT, String.reduceBEq, Bool.and_false, Bool.and_true, Bool.false_and, Bool.true_and, Bool.or_false, Bool.or_true, Bool.true_or, Bool.false_or, natC, natC0, natC1, plain_int, plain_str, plain_non, depth_int, depth_str, depth_non, Nat.zero_le, true_or, or_true, not_true_eq_false, not_false_eq_true, Int.reduceEq, Int.reduceLT, Int.reduceLE, Int.reduceAdd, Int.reduceSub, Nat.reduceEqDiff, decide_true, decide_false]
  refine ⟨by decide, by decide, fun p hp => ?_⟩
  have ret : ∀ {S' : Store}, Ext [] S S' → told ≠ due → ∃ S1, Z.Sub S1 S' ∧ Q (.bl false) S1 := fun e ne => ⟨S, e.sub, by rw [decide_eq_false ne] at hq; exact hq⟩
  refine zseq (fun δ' S' => told = due ∧ Ext [] S S') ?_ ?_
  · simp only [zNext, zBreak, zCont, zDrop, zRet, zRetN, zIfS, zAsg, zAug, zAugS, zDel, zFor, zVar, zC, zOp, zUn, zNil, zCons, zAp, zMt, zB, zTr, zTruth, zAnd, zOr, zNot, zAndV, zOrV, zNotV, zIf, zTup, zLst, zDNew, zBM, zBM0, tyZ, zgName, zgNil, zgCons, zgTup, zgTupT, zgSub, zAdd, zSub, zMul, zMod, zDiv, zPow, zShl, zCmpI, zLt, zLe, zGt, zGe, zEq, zNe, zIs, zIsNot, zIn, zNotIn, zNeg, zEqN, zIsN, scalD, zInN, zIx, zSlice, zPart, zNoPart, zSl, zSet, zIAdd, zGetA, zDelI, zLenA, zListA, zTuple, zInt, zAbs, zMax2, zMin2, zAllL, zAnyL, zSumL, zMaxL, zMinL, zSorted, zAppend, zExtend, zPop, zPopAt, zReverse, zJoin, zStr1, zIsi, tyD, zCall, zLc, zLcL, zYes, ziR1, ziR2, ziR3, ziAny, ziEnum, Keep, zEnd, List.getElem?_cons_zero, List.getElem?_cons_succ, List.set_cons_zero, List.set_cons_succ, Option.some.injEq, D.int.injEq, D.ref.injEq, D.tup.injEq, D.str.injEq, D.bl.injEq, reduceCtorEq, false_and, and_false, true_and, and_true, exists_eq_left, exists_eq_left', exists_and_left, if_true, if_false, Bool.false_eq_true, ite_false, ite_true, List.cons.injEq, wipeZ, zup_same, atI_zero, atI_one, atI_lit, atI_n, ixN_zero, ixN_one, ixN_lit, ixN_n, List.length_cons, List.length_nil, Nat.reduceAdd, Nat.reduceLT, decide_eq_true_eq, List.append_nil, List.nil_append, ZO.lst.injEq, ZO.dct.injEq, seqIx_n, Bool.not_true, Bool.not_false, isE_snoc, and_assoc, or_false, false_or, exists_eq, exists_eq', isT, String.reduceBEq, Bool.and_false, Bool.and_true, Bool.false_and, Bool.true_and, Bool.or_false, Bool.or_true, Bool.true_or, Bool.false_or, natC, natC0, natC1, plain_int, plain_str, plain_non, depth_int, depth_str, depth_non, Nat.zero_le, true_or, or_true, not_true_eq_false, not_false_eq_true, Int.reduceEq, Int.reduceLT, Int.reduceLE, Int.reduceAdd, Int.reduceSub, Nat.reduceEqDiff, decide_true, decide_false]
    refine ⟨by omega, by omega, ?_⟩
    have hrl : (rangeD 0 (300000 : Int).toNat).length = 300000 := by rw [rangeD_len]; rfl
    generalize rangeD 0 (300000 : Int).toNat = rs at hrl ⊢
    refine zloop (fun rest δ' S' => (∃ a b c, δ' = [some told, some due, some (.ref p), a, b, c, none]) ∧ ∃ ps : List (D × D), S' p = some (.lst (ps.map pairD)) ∧ Ext [] S S' ∧ (∀ x ∈ ps, x.1.plain = true ∧ x.2.plain = true) ∧ (told = due ↔ ∀ x ∈ ps, x.1 = x.2) ∧ nodes2 ps ≤ rest.length ∧ rest.length ≤ 300000) ?_ ?_ _ _ _ ?_
    · rintro δ' S' ⟨_, ps, h1, h2, h3, h4, h5, _⟩
      cases ps with
      | nil => exact ⟨h4.mpr (by simp), h2⟩
      | cons x r => exfalso; have := x.2.nodes_pos; simp [nodes2, D.nodesL] at h5; omega
    · rintro d r δ' S' N ⟨⟨a, b, c, rfl⟩, ps, h1, h2, h3, h4, h5, h6⟩ hN
      simp only [zNext, zBreak, zCont, zDrop, zRet, zRetN, zIfS, zAsg, zAug, zAugS, zDel, zFor, zVar, zC, zOp, zUn, zNil, zCons, zAp, zMt, zB, zTr, zTruth, zAnd, zOr, zNot, zAndV, zOrV, zNotV, zIf, zTup, zLst, zDNew, zBM, zBM0, tyZ, zgName, zgNil, zgCons, zgTup, zgTupT, zgSub, zAdd, zSub, zMul, zMod, zDiv, zPow, zShl, zCmpI, zLt, zLe, zGt, zGe, zEq, zNe, zIs, zIsNot, zIn, zNotIn, zNeg, zEqN, zIsN, scalD, zInN, zIx, zSlice, zPart, zNoPart, zSl, zSet, zIAdd, zGetA, zDelI, zLenA, zListA, zTuple, zInt, zAbs, zMax2, zMin2, zAllL, zAnyL, zSumL, zMaxL, zMinL, zSorted, zAppend, zExtend, zPop, zPopAt, zReverse, zJoin, zStr1, zIsi, tyD, zCall, zLc, zLcL, zYes, ziR1, ziR2, ziR3, ziAny, ziEnum, Keep, zEnd, List.getElem?_cons_zero, List.getElem?_cons_succ, List.set_cons_zero, List.set_cons_succ, Option.some.injEq, D.int.injEq, D.ref.injEq, D.tup.injEq, D.str.injEq, D.bl.injEq, reduceCtorEq, false_and, and_false, true_and, and_true, exists_eq_left, exists_eq_left', exists_and_left, if_true, if_false, Bool.false_eq_true, ite_false, ite_true, List.cons.injEq, wipeZ, zup_same, atI_zero, atI_one, atI_lit, atI_n, ixN_zero, ixN_one, ixN_lit, ixN_n, List.length_cons, List.length_nil, Nat.reduceAdd, Nat.reduceLT, decide_eq_true_eq, List.append_nil, List.nil_append, ZO.lst.injEq, ZO.dct.injEq, seqIx_n, Bool.not_true, Bool.not_false, isE_snoc, and_assoc, or_false, false_or, exists_eq, exists_eq', isT, String.reduceBEq, Bool.and_false, Bool.and_true, Bool.false_and, Bool.true_and, Bool.or_false, Bool.or_true, Bool.true_or, Bool.false_or, natC, natC0, natC1, plain_int, plain_str, plain_non, depth_int, depth_str, depth_non, Nat.zero_le, true_or, or_true, not_true_eq_false, not_false_eq_true, Int.reduceEq, Int.reduceLT, Int.reduceLE, Int.reduceAdd, Int.reduceSub, Nat.reduceEqDiff, decide_true, decide_false]
      rcases List.eq_nil_or_concat ps with rfl | ⟨ps, ⟨one, other⟩, rfl⟩
      · -- nothing is left
        refine zseq (fun _ _ => False) ?_ (fun _ _ h => h.elim)
        simp only [zNext, zBreak, zCont, zDrop, zRet, zRetN, zIfS, zAsg, zAug, zAugS, zDel, zFor, zVar, zC, zOp, zUn, zNil, zCons, zAp, zMt, zB, zTr, zTruth, zAnd, zOr, zNot, zAndV, zOrV, zNotV, zIf, zTup, zLst, zDNew, zBM, zBM0, tyZ, zgName, zgNil, zgCons, zgTup, zgTupT, zgSub, zAdd, zSub, zMul, zMod, zDiv, zPow, zShl, zCmpI, zLt, zLe, zGt, zGe, zEq, zNe, zIs, zIsNot, zIn, zNotIn, zNeg, zEqN, zIsN, scalD, zInN, zIx, zSlice, zPart, zNoPart, zSl, zSet, zIAdd, zGetA, zDelI, zLenA, zListA, zTuple, zInt, zAbs, zMax2, zMin2, zAllL, zAnyL, zSumL, zMaxL, zMinL, zSorted, zAppend, zExtend, zPop, zPopAt, zReverse, zJoin, zStr1, zIsi, tyD, zCall, zLc, zLcL, zYes, ziR1, ziR2, ziR3, ziAny, ziEnum, Keep, zEnd, List.getElem?_cons_zero, List.getElem?_cons_succ, List.set_cons_zero, List.set_cons_succ, Option.some.injEq, D.int.injEq, D.ref.injEq, D.tup.injEq, D.str.injEq, D.bl.injEq, reduceCtorEq, false_and, and_false, true_and, and_true, exists_eq_left, exists_eq_left', exists_and_left, if_true, if_false, Bool.false_eq_true, ite_false, ite_true, List.cons.injEq, wipeZ, zup_same, atI_zero, atI_one, atI_lit, atI_n, ixN_zero, ixN_one, ixN_lit, ixN_n, List.length_cons, List.length_nil, Nat.reduceAdd, Nat.reduceLT, decide_eq_true_eq, List.append_nil, List.nil_append, ZO.lst.injEq, ZO.dct.injEq, seqIx_n, Bool.not_true, Bool.not_false, isE_snoc, and_assoc, or_false, false_or, exists_eq, exists_eq', isT, String.reduceBEq, Bool.and_false, Bool.and_true, Bool.false_and, Bool.true_and, Bool.or_false, Bool.or_true, Bool.true_or, Bool.false_or, natC, natC0, natC1, plain_int, plain_str, plain_non, depth_int, depth_str, depth_non, Nat.zero_le, true_or, or_true, not_true_eq_false, not_false_eq_true, Int.reduceEq, Int.reduceLT, Int.reduceLE, Int.reduceAdd, Int.reduceSub, Nat.reduceEqDiff, decide_true, decide_false, h1, List.map_nil, List.isEmpty_nil]
        exact ⟨h4.mpr (by simp), h2⟩
      rw [List.concat_eq_append] at *
      have q1 : S' p = some (.lst (ps.map pairD ++ [.tup [one, other]])) := by rw [h1]; simp [pairD]
      obtain ⟨hpo, hpt⟩ := h3 (one, other) (by simp)
      dsimp only at hpo hpt
      refine zseq_go ?_
      simp only [zNext, zBreak, zCont, zDrop, zRet, zRetN, zIfS, zAsg, zAug, zAugS, zDel, zFor, zVar, zC, zOp, zUn, zNil, zCons, zAp, zMt, zB, zTr, zTruth, zAnd, zOr, zNot, zAndV, zOrV, zNotV, zIf, zTup, zLst, zDNew, zBM, zBM0, tyZ, zgName, zgNil, zgCons, zgTup, zgTupT, zgSub, zAdd, zSub, zMul, zMod, zDiv, zPow, zShl, zCmpI, zLt, zLe, zGt, zGe, zEq, zNe, zIs, zIsNot, zIn, zNotIn, zNeg, zEqN, zIsN, scalD, zInN, zIx, zSlice, zPart, zNoPart, zSl, zSet, zIAdd, zGetA, zDelI, zLenA, zListA, zTuple, zInt, zAbs, zMax2, zMin2, zAllL, zAnyL, zSumL, zMaxL, zMinL, zSorted, zAppend, zExtend, zPop, zPopAt, zReverse, zJoin, zStr1, zIsi, tyD, zCall, zLc, zLcL, zYes, ziR1, ziR2, ziR3, ziAny, ziEnum, Keep, zEnd, List.getElem?_cons_zero, List.getElem?_cons_succ, List.set_cons_zero, List.set_cons_succ, Option.some.injEq, D.int.injEq, D.ref.injEq, D.tup.injEq, D.str.injEq, D.bl.injEq, reduceCtorEq, false_and, and_false, true_and, and_true, exists_eq_left, exists_eq_left', exists_and_left, if_true, if_false, Bool.false_eq_true, ite_false, ite_true, List.cons.injEq, wipeZ, zup_same, atI_zero, atI_one, atI_lit, atI_n, ixN_zero, ixN_one, ixN_lit, ixN_n, List.length_cons, List.length_nil, Nat.reduceAdd, Nat.reduceLT, decide_eq_true_eq, List.append_nil, List.nil_append, ZO.lst.injEq, ZO.dct.injEq, seqIx_n, Bool.not_true, Bool.not_false, isE_snoc, and_assoc, or_false, false_or, exists_eq, exists_eq', isT, String.reduceBEq, Bool.and_false, Bool.and_true, Bool.false_and, Bool.true_and, Bool.or_false, Bool.or_true, Bool.true_or, Bool.false_or, natC, natC0, natC1, plain_int, plain_str, plain_non, depth_int, depth_str, depth_non, Nat.zero_le, true_or, or_true, not_true_eq_false, not_false_eq_true, Int.reduceEq, Int.reduceLT, Int.reduceLE, Int.reduceAdd, Int.reduceSub, Nat.reduceEqDiff, decide_true, decide_false, q1]
      refine zseq_go ?_
      simp only [zNext, zBreak, zCont, zDrop, zRet, zRetN, zIfS, zAsg, zAug, zAugS, zDel, zFor, zVar, zC, zOp, zUn, zNil, zCons, zAp, zMt, zB, zTr, zTruth, zAnd, zOr, zNot, zAndV, zOrV, zNotV, zIf, zTup, zLst, zDNew, zBM, zBM0, tyZ, zgName, zgNil, zgCons, zgTup, zgTupT, zgSub, zAdd, zSub, zMul, zMod, zDiv, zPow, zShl, zCmpI, zLt, zLe, zGt, zGe, zEq, zNe, zIs, zIsNot, zIn, zNotIn, zNeg, zEqN, zIsN, scalD, zInN, zIx, zSlice, zPart, zNoPart, zSl, zSet, zIAdd, zGetA, zDelI, zLenA, zListA, zTuple, zInt, zAbs, zMax2, zMin2, zAllL, zAnyL, zSumL, zMaxL, zMinL, zSorted, zAppend, zExtend, zPop, zPopAt, zReverse, zJoin, zStr1, zIsi, tyD, zCall, zLc, zLcL, zYes, ziR1, ziR2, ziR3, ziAny, ziEnum, Keep, zEnd, List.getElem?_cons_zero, List.getElem?_cons_succ, List.set_cons_zero, List.set_cons_succ, Option.some.injEq, D.int.injEq, D.ref.injEq, D.tup.injEq, D.str.injEq, D.bl.injEq, reduceCtorEq, false_and, and_false, true_and, and_true, exists_eq_left, exists_eq_left', exists_and_left, if_true, if_false, Bool.false_eq_true, ite_false, ite_true, List.cons.injEq, wipeZ, zup_same, atI_zero, atI_one, atI_lit, atI_n, ixN_zero, ixN_one, ixN_lit, ixN_n, List.length_cons, List.length_nil, Nat.reduceAdd, Nat.reduceLT, decide_eq_true_eq, List.append_nil, List.nil_append, ZO.lst.injEq, ZO.dct.injEq, seqIx_n, Bool.not_true, Bool.not_false, isE_snoc, and_assoc, or_false, false_or, exists_eq, exists_eq', isT, String.reduceBEq, Bool.and_false, Bool.and_true, Bool.false_and, Bool.true_and, Bool.or_false, Bool.or_true, Bool.true_or, Bool.false_or, natC, natC0, natC1, plain_int, plain_str, plain_non, depth_int, depth_str, depth_non, Nat.zero_le, true_or, or_true, not_true_eq_false, not_false_eq_true, Int.reduceEq, Int.reduceLT, Int.reduceLE, Int.reduceAdd, Int.reduceSub, Nat.reduceEqDiff, decide_true, decide_false, q1, List.length_append, Nat.add_sub_cancel, List.getElem?_append_right (Nat.le_refl _), Nat.sub_self, List.dropLast_concat]
      have hS : ∀ o, S' p = some o → True := fun _ _ => trivial
      have hN' : ∀ {k' : D} {qs : List (D × D)} {S'' : Store}, S'' p = some (.lst (qs.map pairD)) → Ext [] S S'' → (∀ x ∈ qs, x.1.plain = true ∧ x.2.plain = true) → (told = due ↔ ∀ x ∈ qs, x.1 = x.2) → nodes2 qs + 1 ≤ nodes2 (ps ++ [(one, other)]) →
          N [some told, some due, some (.ref p), some d, some one, some other, none] S'' := fun {k' qs S''} g1 g2 g3 g4 g5 => hN _ _ trivial ⟨⟨_, _, _, rfl⟩, _, g1, g2, g3, g4, by simp only [List.length_cons] at h5; omega, by simp only [List.length_cons] at h6; omega⟩
      have e2 : Ext [] S (zup S' p (.lst (ps.map pairD))) := h2.upd (.inr hp)
      have n2 : nodes2 (ps ++ [(one, other)]) = nodes2 ps + other.nodes := by simp [nodes2, nodesL_app, D.nodesL]
      have pl : ∀ x ∈ ps, x.1.plain = true ∧ x.2.plain = true := fun x hx => h3 x (by simp [hx])
      -- an item that is not a tuple
      have flat : one = other → other.nodes = 1 → N [some told, some due, some (.ref p), some d, some one, some other, none] (zup S' p (.lst (ps.map pairD))) := fun e en =>
        hN' (k' := one) zup_same e2 pl (h4.trans ⟨fun h x hx => h x (by simp [hx]), fun h x hx => by
          rcases List.mem_append.mp hx with hx | hx
          · exact h x hx
          · rw [List.mem_singleton.mp hx]; exact e⟩) (by rw [n2, en]; omega)
      have differ : one ≠ other → told ≠ due := fun ne e => ne (h4.mp e (one, other) (by simp))
      cases other with
      | non =>
        cases one <;> first
          | (exfalso; simp [D.plain] at hpo; done)
          | (simp only [zNext, zBreak, zCont, zDrop, zRet, zRetN, zIfS, zAsg, zAug, zAugS, zDel, zFor, zVar, zC, zOp, zUn, zNil, zCons, zAp, zMt, zB, zTr, zTruth, zAnd, zOr, zNot, zAndV, zOrV, zNotV, zIf, zTup, zLst, zDNew, zBM, zBM0, tyZ, zgName, zgNil, zgCons, zgTup, zgTupT, zgSub, zAdd, zSub, zMul, zMod, zDiv, zPow, zShl, zCmpI, zLt, zLe, zGt, zGe, zEq, zNe, zIs, zIsNot, zIn, zNotIn, zNeg, zEqN, zIsN, scalD, zInN, zIx, zSlice, zPart, zNoPart, zSl, zSet, zIAdd, zGetA, zDelI, zLenA, zListA, zTuple, zInt, zAbs, zMax2, zMin2, zAllL, zAnyL, zSumL, zMaxL, zMinL, zSorted, zAppend, zExtend, zPop, zPopAt, zReverse, zJoin, zStr1, zIsi, tyD, zCall, zLc, zLcL, zYes, ziR1, ziR2, ziR3, ziAny, ziEnum, Keep, zEnd, List.getElem?_cons_zero, List.getElem?_cons_succ, List.set_cons_zero, List.set_cons_succ, Option.some.injEq, D.int.injEq, D.ref.injEq, D.tup.injEq, D.str.injEq, D.bl.injEq, reduceCtorEq, false_and, and_false, true_and, and_true, exists_eq_left, exists_eq_left', exists_and_left, if_true, if_false, Bool.false_eq_true, ite_false, ite_true, List.cons.injEq, wipeZ, zup_same, atI_zero, atI_one, atI_lit, atI_n, ixN_zero, ixN_one, ixN_lit, ixN_n, List.length_cons, List.length_nil, Nat.reduceAdd, Nat.reduceLT, decide_eq_true_eq, List.append_nil, List.nil_append, ZO.lst.injEq, ZO.dct.injEq, seqIx_n, Bool.not_true, Bool.not_false, isE_snoc, and_assoc, or_false, false_or, exists_eq, exists_eq', isT, String.reduceBEq, Bool.and_false, Bool.and_true, Bool.false_and, Bool.true_and, Bool.or_false, Bool.or_true, Bool.true_or, Bool.false_or, natC, natC0, natC1, plain_int, plain_str, plain_non, depth_int, depth_str, depth_non, Nat.zero_le, true_or, or_true, not_true_eq_false, not_false_eq_true, Int.reduceEq, Int.reduceLT, Int.reduceLE, Int.reduceAdd, Int.reduceSub, Nat.reduceEqDiff, decide_true, decide_false, decide_true]; exact flat rfl rfl)
          | (simp only [zNext, zBreak, zCont, zDrop, zRet, zRetN, zIfS, zAsg, zAug, zAugS, zDel, zFor, zVar, zC, zOp, zUn, zNil, zCons, zAp, zMt, zB, zTr, zTruth, zAnd, zOr, zNot, zAndV, zOrV, zNotV, zIf, zTup, zLst, zDNew, zBM, zBM0, tyZ, zgName, zgNil, zgCons, zgTup, zgTupT, zgSub, zAdd, zSub, zMul, zMod, zDiv, zPow, zShl, zCmpI, zLt, zLe, zGt, zGe, zEq, zNe, zIs, zIsNot, zIn, zNotIn, zNeg, zEqN, zIsN, scalD, zInN, zIx, zSlice, zPart, zNoPart, zSl, zSet, zIAdd, zGetA, zDelI, zLenA, zListA, zTuple, zInt, zAbs, zMax2, zMin2, zAllL, zAnyL, zSumL, zMaxL, zMinL, zSorted, zAppend, zExtend, zPop, zPopAt, zReverse, zJoin, zStr1, zIsi, tyD, zCall, zLc, zLcL, zYes, ziR1, ziR2, ziR3, ziAny, ziEnum, Keep, zEnd, List.getElem?_cons_zero, List.getElem?_cons_succ, List.set_cons_zero, List.set_cons_succ, Option.some.injEq, D.int.injEq, D.ref.injEq, D.tup.injEq, D.str.injEq, D.bl.injEq, reduceCtorEq, false_and, and_false, true_and, and_true, exists_eq_left, exists_eq_left', exists_and_left, if_true, if_false, Bool.false_eq_true, ite_false, ite_true, List.cons.injEq, wipeZ, zup_same, atI_zero, atI_one, atI_lit, atI_n, ixN_zero, ixN_one, ixN_lit, ixN_n, List.length_cons, List.length_nil, Nat.reduceAdd, Nat.reduceLT, decide_eq_true_eq, List.append_nil, List.nil_append, ZO.lst.injEq, ZO.dct.injEq, seqIx_n, Bool.not_true, Bool.not_false, isE_snoc, and_assoc, or_false, false_or, exists_eq, exists_eq', isT, String.reduceBEq, Bool.and_false, Bool.and_true, Bool.false_and, Bool.true_and, Bool.or_false, Bool.or_true, Bool.true_or, Bool.false_or, natC, natC0, natC1, plain_int, plain_str, plain_non, depth_int, depth_str, depth_non, Nat.zero_le, true_or, or_true, not_true_eq_false, not_false_eq_true, Int.reduceEq, Int.reduceLT, Int.reduceLE, Int.reduceAdd, Int.reduceSub, Nat.reduceEqDiff, decide_true, decide_false, decide_false]; exact ret e2 (differ (by simp)))
      | bl x => exfalso; simp [D.plain] at hpt
      | ref x => exfalso; simp [D.plain] at hpt
      | int x =>
        cases one <;> first
          | (exfalso; simp [D.plain] at hpo; done)
          | (simp only [zNext, zBreak, zCont, zDrop, zRet, zRetN, zIfS, zAsg, zAug, zAugS, zDel, zFor, zVar, zC, zOp, zUn, zNil, zCons, zAp, zMt, zB, zTr, zTruth, zAnd, zOr, zNot, zAndV, zOrV, zNotV, zIf, zTup, zLst, zDNew, zBM, zBM0, tyZ, zgName, zgNil, zgCons, zgTup, zgTupT, zgSub, zAdd, zSub, zMul, zMod, zDiv, zPow, zShl, zCmpI, zLt, zLe, zGt, zGe, zEq, zNe, zIs, zIsNot, zIn, zNotIn, zNeg, zEqN, zIsN, scalD, zInN, zIx, zSlice, zPart, zNoPart, zSl, zSet, zIAdd, zGetA, zDelI, zLenA, zListA, zTuple, zInt, zAbs, zMax2, zMin2, zAllL, zAnyL, zSumL, zMaxL, zMinL, zSorted, zAppend, zExtend, zPop, zPopAt, zReverse, zJoin, zStr1, zIsi, tyD, zCall, zLc, zLcL, zYes, ziR1, ziR2, ziR3, ziAny, ziEnum, Keep, zEnd, List.getElem?_cons_zero, List.getElem?_cons_succ, List.set_cons_zero, List.set_cons_succ, Option.some.injEq, D.int.injEq, D.ref.injEq, D.tup.injEq, D.str.injEq, D.bl.injEq, reduceCtorEq, false_and, and_false, true_and, and_true, exists_eq_left, exists_eq_left', exists_and_left, if_true, if_false, Bool.false_eq_true, ite_false, ite_true, List.cons.injEq, wipeZ, zup_same, atI_zero, atI_one, atI_lit, atI_n, ixN_zero, ixN_one, ixN_lit, ixN_n, List.length_cons, List.length_nil, Nat.reduceAdd, Nat.reduceLT, decide_eq_true_eq, List.append_nil, List.nil_append, ZO.lst.injEq, ZO.dct.injEq, seqIx_n, Bool.not_true, Bool.not_false, isE_snoc, and_assoc, or_false, false_or, exists_eq, exists_eq', isT, String.reduceBEq, Bool.and_false, Bool.and_true, Bool.false_and, Bool.true_and, Bool.or_false, Bool.or_true, Bool.true_or, Bool.false_or, natC, natC0, natC1, plain_int, plain_str, plain_non, depth_int, depth_str, depth_non, Nat.zero_le, true_or, or_true, not_true_eq_false, not_false_eq_true, Int.reduceEq, Int.reduceLT, Int.reduceLE, Int.reduceAdd, Int.reduceSub, Nat.reduceEqDiff, decide_true, decide_false]
             refine ⟨_, rfl, hpo, ?_⟩
             simp only [zNext, zBreak, zCont, zDrop, zRet, zRetN, zIfS, zAsg, zAug, zAugS, zDel, zFor, zVar, zC, zOp, zUn, zNil, zCons, zAp, zMt, zB, zTr, zTruth, zAnd, zOr, zNot, zAndV, zOrV, zNotV, zIf, zTup, zLst, zDNew, zBM, zBM0, tyZ, zgName, zgNil, zgCons, zgTup, zgTupT, zgSub, zAdd, zSub, zMul, zMod, zDiv, zPow, zShl, zCmpI, zLt, zLe, zGt, zGe, zEq, zNe, zIs, zIsNot, zIn, zNotIn, zNeg, zEqN, zIsN, scalD, zInN, zIx, zSlice, zPart, zNoPart, zSl, zSet, zIAdd, zGetA, zDelI, zLenA, zListA, zTuple, zInt, zAbs, zMax2, zMin2, zAllL, zAnyL, zSumL, zMaxL, zMinL, zSorted, zAppend, zExtend, zPop, zPopAt, zReverse, zJoin, zStr1, zIsi, tyD, zCall, zLc, zLcL, zYes, ziR1, ziR2, ziR3, ziAny, ziEnum, Keep, zEnd, List.getElem?_cons_zero, List.getElem?_cons_succ, List.set_cons_zero, List.set_cons_succ, Option.some.injEq, D.int.injEq, D.ref.injEq, D.tup.injEq, D.str.injEq, D.bl.injEq, reduceCtorEq, false_and, and_false, true_and, and_true, exists_eq_left, exists_eq_left', exists_and_left, if_true, if_false, Bool.false_eq_true, ite_false, ite_true, List.cons.injEq, wipeZ, zup_same, atI_zero, atI_one, atI_lit, atI_n, ixN_zero, ixN_one, ixN_lit, ixN_n, List.length_cons, List.length_nil, Nat.reduceAdd, Nat.reduceLT, decide_eq_true_eq, List.append_nil, List.nil_append, ZO.lst.injEq, ZO.dct.injEq, seqIx_n, Bool.not_true, Bool.not_false, isE_snoc, and_assoc, or_false, false_or, exists_eq, exists_eq', isT, String.reduceBEq, Bool.and_false, Bool.and_true, Bool.false_and, Bool.true_and, Bool.or_false, Bool.or_true, Bool.true_or, Bool.false_or, natC, natC0, natC1, plain_int, plain_str, plain_non, depth_int, depth_str, depth_non, Nat.zero_le, true_or, or_true, not_true_eq_false, not_false_eq_true, Int.reduceEq, Int.reduceLT, Int.reduceLE, Int.reduceAdd, Int.reduceSub, Nat.reduceEqDiff, decide_true, decide_false]
             exact ret e2 (differ (by simp)))
          | (simp only [zNext, zBreak, zCont, zDrop, zRet, zRetN, zIfS, zAsg, zAug, zAugS, zDel, zFor, zVar, zC, zOp, zUn, zNil, zCons, zAp, zMt, zB, zTr, zTruth, zAnd, zOr, zNot, zAndV, zOrV, zNotV, zIf, zTup, zLst, zDNew, zBM, zBM0, tyZ, zgName, zgNil, zgCons, zgTup, zgTupT, zgSub, zAdd, zSub, zMul, zMod, zDiv, zPow, zShl, zCmpI, zLt, zLe, zGt, zGe, zEq, zNe, zIs, zIsNot, zIn, zNotIn, zNeg, zEqN, zIsN, scalD, zInN, zIx, zSlice, zPart, zNoPart, zSl, zSet, zIAdd, zGetA, zDelI, zLenA, zListA, zTuple, zInt, zAbs, zMax2, zMin2, zAllL, zAnyL, zSumL, zMaxL, zMinL, zSorted, zAppend, zExtend, zPop, zPopAt, zReverse, zJoin, zStr1, zIsi, tyD, zCall, zLc, zLcL, zYes, ziR1, ziR2, ziR3, ziAny, ziEnum, Keep, zEnd, List.getElem?_cons_zero, List.getElem?_cons_succ, List.set_cons_zero, List.set_cons_succ, Option.some.injEq, D.int.injEq, D.ref.injEq, D.tup.injEq, D.str.injEq, D.bl.injEq, reduceCtorEq, false_and, and_false, true_and, and_true, exists_eq_left, exists_eq_left', exists_and_left, if_true, if_false, Bool.false_eq_true, ite_false, ite_true, List.cons.injEq, wipeZ, zup_same, atI_zero, atI_one, atI_lit, atI_n, ixN_zero, ixN_one, ixN_lit, ixN_n, List.length_cons, List.length_nil, Nat.reduceAdd, Nat.reduceLT, decide_eq_true_eq, List.append_nil, List.nil_append, ZO.lst.injEq, ZO.dct.injEq, seqIx_n, Bool.not_true, Bool.not_false, isE_snoc, and_assoc, or_false, false_or, exists_eq, exists_eq', isT, String.reduceBEq, Bool.and_false, Bool.and_true, Bool.false_and, Bool.true_and, Bool.or_false, Bool.or_true, Bool.true_or, Bool.false_or, natC, natC0, natC1, plain_int, plain_str, plain_non, depth_int, depth_str, depth_non, Nat.zero_le, true_or, or_true, not_true_eq_false, not_false_eq_true, Int.reduceEq, Int.reduceLT, Int.reduceLE, Int.reduceAdd, Int.reduceSub, Nat.reduceEqDiff, decide_true, decide_false]
             refine ⟨_, rfl, rfl, ?_⟩
             simp only [zNext, zBreak, zCont, zDrop, zRet, zRetN, zIfS, zAsg, zAug, zAugS, zDel, zFor, zVar, zC, zOp, zUn, zNil, zCons, zAp, zMt, zB, zTr, zTruth, zAnd, zOr, zNot, zAndV, zOrV, zNotV, zIf, zTup, zLst, zDNew, zBM, zBM0, tyZ, zgName, zgNil, zgCons, zgTup, zgTupT, zgSub, zAdd, zSub, zMul, zMod, zDiv, zPow, zShl, zCmpI, zLt, zLe, zGt, zGe, zEq, zNe, zIs, zIsNot, zIn, zNotIn, zNeg, zEqN, zIsN, scalD, zInN, zIx, zSlice, zPart, zNoPart, zSl, zSet, zIAdd, zGetA, zDelI, zLenA, zListA, zTuple, zInt, zAbs, zMax2, zMin2, zAllL, zAnyL, zSumL, zMaxL, zMinL, zSorted, zAppend, zExtend, zPop, zPopAt, zReverse, zJoin, zStr1, zIsi, tyD, zCall, zLc, zLcL, zYes, ziR1, ziR2, ziR3, ziAny, ziEnum, Keep, zEnd, List.getElem?_cons_zero, List.getElem?_cons_succ, List.set_cons_zero, List.set_cons_succ, Option.some.injEq, D.int.injEq, D.ref.injEq, D.tup.injEq, D.str.injEq, D.bl.injEq, reduceCtorEq, false_and, and_false, true_and, and_true, exists_eq_left, exists_eq_left', exists_and_left, if_true, if_false, Bool.false_eq_true, ite_false, ite_true, List.cons.injEq, wipeZ, zup_same, atI_zero, atI_one, atI_lit, atI_n, ixN_zero, ixN_one, ixN_lit, ixN_n, List.length_cons, List.length_nil, Nat.reduceAdd, Nat.reduceLT, decide_eq_true_eq, List.append_nil, List.nil_append, ZO.lst.injEq, ZO.dct.injEq, seqIx_n, Bool.not_true, Bool.not_false, isE_snoc, and_assoc, or_false, false_or, exists_eq, exists_eq', isT, String.reduceBEq, Bool.and_false, Bool.and_true, Bool.false_and, Bool.true_and, Bool.or_false, Bool.or_true, Bool.true_or, Bool.false_or, natC, natC0, natC1, plain_int, plain_str, plain_non, depth_int, depth_str, depth_non, Nat.zero_le, true_or, or_true, not_true_eq_false, not_false_eq_true, Int.reduceEq, Int.reduceLT, Int.reduceLE, Int.reduceAdd, Int.reduceSub, Nat.reduceEqDiff, decide_true, decide_false]
             split
             · rename_i hne
               exact ret e2 (differ (by intro e; cases e; simp at hne))
             · rename_i hne
               exact flat (by simpa using hne) rfl)
      | str x =>
        cases one <;> first
          | (exfalso; simp [D.plain] at hpo; done)
          | (simp only [zNext, zBreak, zCont, zDrop, zRet, zRetN, zIfS, zAsg, zAug, zAugS, zDel, zFor, zVar, zC, zOp, zUn, zNil, zCons, zAp, zMt, zB, zTr, zTruth, zAnd, zOr, zNot, zAndV, zOrV, zNotV, zIf, zTup, zLst, zDNew, zBM, zBM0, tyZ, zgName, zgNil, zgCons, zgTup, zgTupT, zgSub, zAdd, zSub, zMul, zMod, zDiv, zPow, zShl, zCmpI, zLt, zLe, zGt, zGe, zEq, zNe, zIs, zIsNot, zIn, zNotIn, zNeg, zEqN, zIsN, scalD, zInN, zIx, zSlice, zPart, zNoPart, zSl, zSet, zIAdd, zGetA, zDelI, zLenA, zListA, zTuple, zInt, zAbs, zMax2, zMin2, zAllL, zAnyL, zSumL, zMaxL, zMinL, zSorted, zAppend, zExtend, zPop, zPopAt, zReverse, zJoin, zStr1, zIsi, tyD, zCall, zLc, zLcL, zYes, ziR1, ziR2, ziR3, ziAny, ziEnum, Keep, zEnd, List.getElem?_cons_zero, List.getElem?_cons_succ, List.set_cons_zero, List.set_cons_succ, Option.some.injEq, D.int.injEq, D.ref.injEq, D.tup.injEq, D.str.injEq, D.bl.injEq, reduceCtorEq, false_and, and_false, true_and, and_true, exists_eq_left, exists_eq_left', exists_and_left, if_true, if_false, Bool.false_eq_true, ite_false, ite_true, List.cons.injEq, wipeZ, zup_same, atI_zero, atI_one, atI_lit, atI_n, ixN_zero, ixN_one, ixN_lit, ixN_n, List.length_cons, List.length_nil, Nat.reduceAdd, Nat.reduceLT, decide_eq_true_eq, List.append_nil, List.nil_append, ZO.lst.injEq, ZO.dct.injEq, seqIx_n, Bool.not_true, Bool.not_false, isE_snoc, and_assoc, or_false, false_or, exists_eq, exists_eq', isT, String.reduceBEq, Bool.and_false, Bool.and_true, Bool.false_and, Bool.true_and, Bool.or_false, Bool.or_true, Bool.true_or, Bool.false_or, natC, natC0, natC1, plain_int, plain_str, plain_non, depth_int, depth_str, depth_non, Nat.zero_le, true_or, or_true, not_true_eq_false, not_false_eq_true, Int.reduceEq, Int.reduceLT, Int.reduceLE, Int.reduceAdd, Int.reduceSub, Nat.reduceEqDiff, decide_true, decide_false]; exact ret e2 (differ (by simp)))
          | (simp only [zNext, zBreak, zCont, zDrop, zRet, zRetN, zIfS, zAsg, zAug, zAugS, zDel, zFor, zVar, zC, zOp, zUn, zNil, zCons, zAp, zMt, zB, zTr, zTruth, zAnd, zOr, zNot, zAndV, zOrV, zNotV, zIf, zTup, zLst, zDNew, zBM, zBM0, tyZ, zgName, zgNil, zgCons, zgTup, zgTupT, zgSub, zAdd, zSub, zMul, zMod, zDiv, zPow, zShl, zCmpI, zLt, zLe, zGt, zGe, zEq, zNe, zIs, zIsNot, zIn, zNotIn, zNeg, zEqN, zIsN, scalD, zInN, zIx, zSlice, zPart, zNoPart, zSl, zSet, zIAdd, zGetA, zDelI, zLenA, zListA, zTuple, zInt, zAbs, zMax2, zMin2, zAllL, zAnyL, zSumL, zMaxL, zMinL, zSorted, zAppend, zExtend, zPop, zPopAt, zReverse, zJoin, zStr1, zIsi, tyD, zCall, zLc, zLcL, zYes, ziR1, ziR2, ziR3, ziAny, ziEnum, Keep, zEnd, List.getElem?_cons_zero, List.getElem?_cons_succ, List.set_cons_zero, List.set_cons_succ, Option.some.injEq, D.int.injEq, D.ref.injEq, D.tup.injEq, D.str.injEq, D.bl.injEq, reduceCtorEq, false_and, and_false, true_and, and_true, exists_eq_left, exists_eq_left', exists_and_left, if_true, if_false, Bool.false_eq_true, ite_false, ite_true, List.cons.injEq, wipeZ, zup_same, atI_zero, atI_one, atI_lit, atI_n, ixN_zero, ixN_one, ixN_lit, ixN_n, List.length_cons, List.length_nil, Nat.reduceAdd, Nat.reduceLT, decide_eq_true_eq, List.append_nil, List.nil_append, ZO.lst.injEq, ZO.dct.injEq, seqIx_n, Bool.not_true, Bool.not_false, isE_snoc, and_assoc, or_false, false_or, exists_eq, exists_eq', isT, String.reduceBEq, Bool.and_false, Bool.and_true, Bool.false_and, Bool.true_and, Bool.or_false, Bool.or_true, Bool.true_or, Bool.false_or, natC, natC0, natC1, plain_int, plain_str, plain_non, depth_int, depth_str, depth_non, Nat.zero_le, true_or, or_true, not_true_eq_false, not_false_eq_true, Int.reduceEq, Int.reduceLT, Int.reduceLE, Int.reduceAdd, Int.reduceSub, Nat.reduceEqDiff, decide_true, decide_false]
             split
             · rename_i hne
               exact ret e2 (differ (by intro e; cases e; simp at hne))
             · rename_i hne
               exact flat (by simpa using hne) rfl)
      | tup os =>
        simp only [zNext, zBreak, zCont, zDrop, zRet, zRetN, zIfS, zAsg, zAug, zAugS, zDel, zFor, zVar, zC, zOp, zUn, zNil, zCons, zAp, zMt, zB, zTr, zTruth, zAnd, zOr, zNot, zAndV, zOrV, zNotV, zIf, zTup, zLst, zDNew, zBM, zBM0, tyZ, zgName, zgNil, zgCons, zgTup, zgTupT, zgSub, zAdd, zSub, zMul, zMod, zDiv, zPow, zShl, zCmpI, zLt, zLe, zGt, zGe, zEq, zNe, zIs, zIsNot, zIn, zNotIn, zNeg, zEqN, zIsN, scalD, zInN, zIx, zSlice, zPart, zNoPart, zSl, zSet, zIAdd, zGetA, zDelI, zLenA, zListA, zTuple, zInt, zAbs, zMax2, zMin2, zAllL, zAnyL, zSumL, zMaxL, zMinL, zSorted, zAppend, zExtend, zPop, zPopAt, zReverse, zJoin, zStr1, zIsi, tyD, zCall, zLc, zLcL, zYes, ziR1, ziR2, ziR3, ziAny, ziEnum, Keep, zEnd, List.getElem?_cons_zero, List.getElem?_cons_succ, List.set_cons_zero, List.set_cons_succ, Option.some.injEq, D.int.injEq, D.ref.injEq, D.tup.injEq, D.str.injEq, D.bl.injEq, reduceCtorEq, false_and, and_false, true_and, and_true, exists_eq_left, exists_eq_left', exists_and_left, if_true, if_false, Bool.false_eq_true, ite_false, ite_true, List.cons.injEq, wipeZ, zup_same, atI_zero, atI_one, atI_lit, atI_n, ixN_zero, ixN_one, ixN_lit, ixN_n, List.length_cons, List.length_nil, Nat.reduceAdd, Nat.reduceLT, decide_eq_true_eq, List.append_nil, List.nil_append, ZO.lst.injEq, ZO.dct.injEq, seqIx_n, Bool.not_true, Bool.not_false, isE_snoc, and_assoc, or_false, false_or, exists_eq, exists_eq', isT, String.reduceBEq, Bool.and_false, Bool.and_true, Bool.false_and, Bool.true_and, Bool.or_false, Bool.or_true, Bool.true_or, Bool.false_or, natC, natC0, natC1, plain_int, plain_str, plain_non, depth_int, depth_str, depth_non, Nat.zero_le, true_or, or_true, not_true_eq_false, not_false_eq_true, Int.reduceEq, Int.reduceLT, Int.reduceLE, Int.reduceAdd, Int.reduceSub, Nat.reduceEqDiff, decide_true, decide_false]
        have more : ∀ (as : List D), one = .tup as → as.length = os.length → told ≠ due ∨ True := fun _ _ _ => .inr trivial
        refine zseq (fun δ' S'' => δ' = [some told, some due, some (.ref p), some d, some one, some (.tup os), none] ∧ S'' = zup S' p (.lst (ps.map pairD)) ∧ ∃ as, one = .tup as ∧ as.length = os.length) ?_ ?_
        · cases one <;> first
            | (exfalso; simp [D.plain] at hpo; done)
            | (simp only [zNext, zBreak, zCont, zDrop, zRet, zRetN, zIfS, zAsg, zAug, zAugS, zDel, zFor, zVar, zC, zOp, zUn, zNil, zCons, zAp, zMt, zB, zTr, zTruth, zAnd, zOr, zNot, zAndV, zOrV, zNotV, zIf, zTup, zLst, zDNew, zBM, zBM0, tyZ, zgName, zgNil, zgCons, zgTup, zgTupT, zgSub, zAdd, zSub, zMul, zMod, zDiv, zPow, zShl, zCmpI, zLt, zLe, zGt, zGe, zEq, zNe, zIs, zIsNot, zIn, zNotIn, zNeg, zEqN, zIsN, scalD, zInN, zIx, zSlice, zPart, zNoPart, zSl, zSet, zIAdd, zGetA, zDelI, zLenA, zListA, zTuple, zInt, zAbs, zMax2, zMin2, zAllL, zAnyL, zSumL, zMaxL, zMinL, zSorted, zAppend, zExtend, zPop, zPopAt, zReverse, zJoin, zStr1, zIsi, tyD, zCall, zLc, zLcL, zYes, ziR1, ziR2, ziR3, ziAny, ziEnum, Keep, zEnd, List.getElem?_cons_zero, List.getElem?_cons_succ, List.set_cons_zero, List.set_cons_succ, Option.some.injEq, D.int.injEq, D.ref.injEq, D.tup.injEq, D.str.injEq, D.bl.injEq, reduceCtorEq, false_and, and_false, true_and, and_true, exists_eq_left, exists_eq_left', exists_and_left, if_true, if_false, Bool.false_eq_true, ite_false, ite_true, List.cons.injEq, wipeZ, zup_same, atI_zero, atI_one, atI_lit, atI_n, ixN_zero, ixN_one, ixN_lit, ixN_n, List.length_cons, List.length_nil, Nat.reduceAdd, Nat.reduceLT, decide_eq_true_eq, List.append_nil, List.nil_append, ZO.lst.injEq, ZO.dct.injEq, seqIx_n, Bool.not_true, Bool.not_false, isE_snoc, and_assoc, or_false, false_or, exists_eq, exists_eq', isT, String.reduceBEq, Bool.and_false, Bool.and_true, Bool.false_and, Bool.true_and, Bool.or_false, Bool.or_true, Bool.true_or, Bool.false_or, natC, natC0, natC1, plain_int, plain_str, plain_non, depth_int, depth_str, depth_non, Nat.zero_le, true_or, or_true, not_true_eq_false, not_false_eq_true, Int.reduceEq, Int.reduceLT, Int.reduceLE, Int.reduceAdd, Int.reduceSub, Nat.reduceEqDiff, decide_true, decide_false]; exact ret e2 (differ (by simp)))
            | (simp only [zNext, zBreak, zCont, zDrop, zRet, zRetN, zIfS, zAsg, zAug, zAugS, zDel, zFor, zVar, zC, zOp, zUn, zNil, zCons, zAp, zMt, zB, zTr, zTruth, zAnd, zOr, zNot, zAndV, zOrV, zNotV, zIf, zTup, zLst, zDNew, zBM, zBM0, tyZ, zgName, zgNil, zgCons, zgTup, zgTupT, zgSub, zAdd, zSub, zMul, zMod, zDiv, zPow, zShl, zCmpI, zLt, zLe, zGt, zGe, zEq, zNe, zIs, zIsNot, zIn, zNotIn, zNeg, zEqN, zIsN, scalD, zInN, zIx, zSlice, zPart, zNoPart, zSl, zSet, zIAdd, zGetA, zDelI, zLenA, zListA, zTuple, zInt, zAbs, zMax2, zMin2, zAllL, zAnyL, zSumL, zMaxL, zMinL, zSorted, zAppend, zExtend, zPop, zPopAt, zReverse, zJoin, zStr1, zIsi, tyD, zCall, zLc, zLcL, zYes, ziR1, ziR2, ziR3, ziAny, ziEnum, Keep, zEnd, List.getElem?_cons_zero, List.getElem?_cons_succ, List.set_cons_zero, List.set_cons_succ, Option.some.injEq, D.int.injEq, D.ref.injEq, D.tup.injEq, D.str.injEq, D.bl.injEq, reduceCtorEq, false_and, and_false, true_and, and_true, exists_eq_left, exists_eq_left', exists_and_left, if_true, if_false, Bool.false_eq_true, ite_false, ite_true, List.cons.injEq, wipeZ, zup_same, atI_zero, atI_one, atI_lit, atI_n, ixN_zero, ixN_one, ixN_lit, ixN_n, List.length_cons, List.length_nil, Nat.reduceAdd, Nat.reduceLT, decide_eq_true_eq, List.append_nil, List.nil_append, ZO.lst.injEq, ZO.dct.injEq, seqIx_n, Bool.not_true, Bool.not_false, isE_snoc, and_assoc, or_false, false_or, exists_eq, exists_eq', isT, String.reduceBEq, Bool.and_false, Bool.and_true, Bool.false_and, Bool.true_and, Bool.or_false, Bool.or_true, Bool.true_or, Bool.false_or, natC, natC0, natC1, plain_int, plain_str, plain_non, depth_int, depth_str, depth_non, Nat.zero_le, true_or, or_true, not_true_eq_false, not_false_eq_true, Int.reduceEq, Int.reduceLT, Int.reduceLE, Int.reduceAdd, Int.reduceSub, Nat.reduceEqDiff, decide_true, decide_false]
               rename_i as
               split
               · rename_i hne
                 exact ret e2 (differ (by intro e; cases e; simp at hne))
               · rename_i hne
                 have hne : (as.length : Int) = os.length := by simpa using hne
                 omega)
        · rintro _ _ ⟨rfl, rfl, as, rfl, hl⟩
          have n3 : (D.tup os).nodes = D.nodesL os + 1 := rfl
          have l1 := len_nodesL os
          have l2 : ps.length ≤ nodes2 ps := by have := len_nodesL (ps.map (·.2)); simpa [nodes2] using this
          simp only [zNext, zBreak, zCont, zDrop, zRet, zRetN, zIfS, zAsg, zAug, zAugS, zDel, zFor, zVar, zC, zOp, zUn, zNil, zCons, zAp, zMt, zB, zTr, zTruth, zAnd, zOr, zNot, zAndV, zOrV, zNotV, zIf, zTup, zLst, zDNew, zBM, zBM0, tyZ, zgName, zgNil, zgCons, zgTup, zgTupT, zgSub, zAdd, zSub, zMul, zMod, zDiv, zPow, zShl, zCmpI, zLt, zLe, zGt, zGe, zEq, zNe, zIs, zIsNot, zIn, zNotIn, zNeg, zEqN, zIsN, scalD, zInN, zIx, zSlice, zPart, zNoPart, zSl, zSet, zIAdd, zGetA, zDelI, zLenA, zListA, zTuple, zInt, zAbs, zMax2, zMin2, zAllL, zAnyL, zSumL, zMaxL, zMinL, zSorted, zAppend, zExtend, zPop, zPopAt, zReverse, zJoin, zStr1, zIsi, tyD, zCall, zLc, zLcL, zYes, ziR1, ziR2, ziR3, ziAny, ziEnum, Keep, zEnd, List.getElem?_cons_zero, List.getElem?_cons_succ, List.set_cons_zero, List.set_cons_succ, Option.some.injEq, D.int.injEq, D.ref.injEq, D.tup.injEq, D.str.injEq, D.bl.injEq, reduceCtorEq, false_and, and_false, true_and, and_true, exists_eq_left, exists_eq_left', exists_and_left, if_true, if_false, Bool.false_eq_true, ite_false, ite_true, List.cons.injEq, wipeZ, zup_same, atI_zero, atI_one, atI_lit, atI_n, ixN_zero, ixN_one, ixN_lit, ixN_n, List.length_cons, List.length_nil, Nat.reduceAdd, Nat.reduceLT, decide_eq_true_eq, List.append_nil, List.nil_append, ZO.lst.injEq, ZO.dct.injEq, seqIx_n, Bool.not_true, Bool.not_false, isE_snoc, and_assoc, or_false, false_or, exists_eq, exists_eq', isT, String.reduceBEq, Bool.and_false, Bool.and_true, Bool.false_and, Bool.true_and, Bool.or_false, Bool.or_true, Bool.true_or, Bool.false_or, natC, natC0, natC1, plain_int, plain_str, plain_non, depth_int, depth_str, depth_non, Nat.zero_le, true_or, or_true, not_true_eq_false, not_false_eq_true, Int.reduceEq, Int.reduceLT, Int.reduceLE, Int.reduceAdd, Int.reduceSub, Nat.reduceEqDiff, decide_true, decide_false]
          refine ⟨by omega, by omega, ?_⟩
          refine zlcl_pure (src := .non) (fun d => match d with | .int i => some (.tup [as[i.toNat]?.getD .non, os[i.toNat]?.getD .non]) | _ => none) trivial _ _ (fun d hd Y N hy hn => ?_) (by rw [rangeD_len]; simp [sizeLine_eq]; omega) ?_
          · obtain ⟨i, hi, rfl⟩ := mem_rangeD hd
            have hi1 : i < os.length := by simpa using hi
            have hi2 : i < as.length := by omega
            simp only [zNext, zBreak, zCont, zDrop, zRet, zRetN, zIfS, zAsg, zAug, zAugS, zDel, zFor, zVar, zC, zOp, zUn, zNil, zCons, zAp, zMt, zB, zTr, zTruth, zAnd, zOr, zNot, zAndV, zOrV, zNotV, zIf, zTup, zLst, zDNew, zBM, zBM0, tyZ, zgName, zgNil, zgCons, zgTup, zgTupT, zgSub, zAdd, zSub, zMul, zMod, zDiv, zPow, zShl, zCmpI, zLt, zLe, zGt, zGe, zEq, zNe, zIs, zIsNot, zIn, zNotIn, zNeg, zEqN, zIsN, scalD, zInN, zIx, zSlice, zPart, zNoPart, zSl, zSet, zIAdd, zGetA, zDelI, zLenA, zListA, zTuple, zInt, zAbs, zMax2, zMin2, zAllL, zAnyL, zSumL, zMaxL, zMinL, zSorted, zAppend, zExtend, zPop, zPopAt, zReverse, zJoin, zStr1, zIsi, tyD, zCall, zLc, zLcL, zYes, ziR1, ziR2, ziR3, ziAny, ziEnum, Keep, zEnd, List.getElem?_cons_zero, List.getElem?_cons_succ, List.set_cons_zero, List.set_cons_succ, Option.some.injEq, D.int.injEq, D.ref.injEq, D.tup.injEq, D.str.injEq, D.bl.injEq, reduceCtorEq, false_and, and_false, true_and, and_true, exists_eq_left, exists_eq_left', exists_and_left, if_true, if_false, Bool.false_eq_true, ite_false, ite_true, List.cons.injEq, wipeZ, zup_same, atI_zero, atI_one, atI_lit, atI_n, ixN_zero, ixN_one, ixN_lit, ixN_n, List.length_cons, List.length_nil, Nat.reduceAdd, Nat.reduceLT, decide_eq_true_eq, List.append_nil, List.nil_append, ZO.lst.injEq, ZO.dct.injEq, seqIx_n, Bool.not_true, Bool.not_false, isE_snoc, and_assoc, or_false, false_or, exists_eq, exists_eq', isT, String.reduceBEq, Bool.and_false, Bool.and_true, Bool.false_and, Bool.true_and, Bool.or_false, Bool.or_true, Bool.true_or, Bool.false_or, natC, natC0, natC1, plain_int, plain_str, plain_non, depth_int, depth_str, depth_non, Nat.zero_le, true_or, or_true, not_true_eq_false, not_false_eq_true, Int.reduceEq, Int.reduceLT, Int.reduceLE, Int.reduceAdd, Int.reduceSub, Nat.reduceEqDiff, decide_true, decide_false, List.getElem?_eq_getElem hi1, List.getElem?_eq_getElem hi2]
            refine ⟨by decide, hy _ ?_⟩
            simp [hi1, hi2]
          · intro q hq0
            obtain ⟨hq1, hqp⟩ := zup_no hq0
            rw [zup_ne (Ne.symm hqp)]
            rw [rangeD_some _ _ (fun i => .tup [as[i]?.getD .non, os[i]?.getD .non]) (fun i _ => by simp)]
            simp only [Int.toNat_natCast, List.nil_append]
            rw [range_zip as os hl]
            refine ⟨_, zup_same, by simp [sizeLine_eq, hl]; omega, ?_⟩
            refine hN' (k' := .non) (qs := ps ++ as.zip os) (by rw [zup_same]; simp [pairD]) ?_ ?_ ?_ ?_
            · exact (e2.new hq0).upd (.inr hp)
            · intro x hx
              rcases List.mem_append.mp hx with hx | hx
              · exact pl x hx
              · have h1 : x.1 ∈ as := (List.of_mem_zip hx).1
                have h2 : x.2 ∈ os := (List.of_mem_zip hx).2
                simp only [D.plain] at hpo hpt
                exact ⟨D.plainL_iff.mp hpo _ h1, D.plainL_iff.mp hpt _ h2⟩
            · refine h4.trans ⟨fun h x hx => ?_, fun h x hx => ?_⟩
              · rcases List.mem_append.mp hx with hx | hx
                · exact h x (by simp [hx])
                · have := h (.tup as, .tup os) (by simp)
                  have e : as = os := by simpa using this
                  exact (tup_eq_zip hl).mp e x hx
              · rcases List.mem_append.mp hx with hx | hx
                · exact h x (by simp [hx])
                · rw [List.mem_singleton.mp hx]
                  have e : as = os := (tup_eq_zip hl).mpr fun p hp => h p (by simp [hp])
                  rw [e]
            · rw [n2, n3]
              have : nodes2 (ps ++ as.zip os) = nodes2 ps + D.nodesL os := by unfold nodes2; rw [List.map_append, nodesL_app, zip_snd hl]
              omega
    · refine ⟨⟨_, _, _, rfl⟩, [(told, due)], by simp [zup_same, pairD], Ext.refl.new hp, by simp [hp1, hp2], by simp, ?_, by omega⟩
      simp [nodes2, D.nodesL]; omega
  · rintro δ' S' ⟨e, hx⟩
    simp only [zNext, zBreak, zCont, zDrop, zRet, zRetN, zIfS, zAsg, zAug, zAugS, zDel, zFor, zVar, zC, zOp, zUn, zNil, zCons, zAp, zMt, zB, zTr, zTruth, zAnd, zOr, zNot, zAndV, zOrV, zNotV, zIf, zTup, zLst, zDNew, zBM, zBM0, tyZ, zgName, zgNil, zgCons, zgTup, zgTupT, zgSub, zAdd, zSub, zMul, zMod, zDiv, zPow, zShl, zCmpI, zLt, zLe, zGt, zGe, zEq, zNe, zIs, zIsNot, zIn, zNotIn, zNeg, zEqN, zIsN, scalD, zInN, zIx, zSlice, zPart, zNoPart, zSl, zSet, zIAdd, zGetA, zDelI, zLenA, zListA, zTuple, zInt, zAbs, zMax2, zMin2, zAllL, zAnyL, zSumL, zMaxL, zMinL, zSorted, zAppend, zExtend, zPop, zPopAt, zReverse, zJoin, zStr1, zIsi, tyD, zCall, zLc, zLcL, zYes, ziR1, ziR2, ziR3, ziAny, ziEnum, Keep, zEnd, List.getElem?_cons_zero, List.getElem?_cons_succ, List.set_cons_zero, List.set_cons_succ, Option.some.injEq, D.int.injEq, D.ref.injEq, D.tup.injEq, D.str.injEq, D.bl.injEq, reduceCtorEq, false_and, and_false, true_and, and_true, exists_eq_left, exists_eq_left', exists_and_left, if_true, if_false, Bool.false_eq_true, ite_false, ite_true, List.cons.injEq, wipeZ, zup_same, atI_zero, atI_one, atI_lit, atI_n, ixN_zero, ixN_one, ixN_lit, ixN_n, List.length_cons, List.length_nil, Nat.reduceAdd, Nat.reduceLT, decide_eq_true_eq, List.append_nil, List.nil_append, ZO.lst.injEq, ZO.dct.injEq, seqIx_n, Bool.not_true, Bool.not_false, isE_snoc, and_assoc, or_false, false_or, exists_eq, exists_eq', isT, String.reduceBEq, Bool.and_false, Bool.and_true, Bool.false_and, Bool.true_and, Bool.or_false, Bool.or_true, Bool.true_or, Bool.false_or, natC, natC0, natC1, plain_int, plain_str, plain_non, depth_int, depth_str, depth_non, Nat.zero_le, true_or, or_true, not_true_eq_false, not_false_eq_true, Int.reduceEq, Int.reduceLT, Int.reduceLE, Int.reduceAdd, Int.reduceSub, Nat.reduceEqDiff, decide_true, decide_false]
    exact ⟨S, hx.sub, by rw [decide_eq_true e] at hq; exact hq⟩
end ZH
namespace K70
open PySem PySem.Spec PyProof.Rows L2 Z ZH
/-! ### what the program computes -/
def said (as : List D) : List D := as.filter fun d => !decide (d = .non)
def lyOf (as : List D) (s : D) : List D := (List.range as.length).filterMap fun i => if as[i]? ≠ some .non ∧ as[i]? ≠ some s then some (.int (i : Nat)) else none
def addK (ks : List D) (k : D) : List D := if k ∈ ks then ks else ks ++ [k]
def keep (sd : List D) (l : Int) : List D := sd.filter fun s => decide (((sd.filter fun o => !decide (o = s)).length : Int) ≤ l)
def cand (sd : List D) (l : Int) : List D := (keep sd l).foldl addK []
def poss (as : List D) (l : Int) : D := if ((said as).length : Int) ≤ l then .non else .tup (zsort (cand (said as) l))
def verd (as : List D) (l : Int) : D := match poss as l with
  | .tup [] => .tup [.str "none"]
  | .tup [x] => .tup [.str "sure", x]
  | _ => .tup [.str "open"]
def liesOf (as : List D) (l : Int) (s : D) : D := if ((lyOf as s).length : Int) ≤ l then .tup (lyOf as s) else .non
def isSure (d : D) : Bool := match d with
  | .tup (.str t :: _) => decide (t = "sure")
  | _ => false
def askedOf (as : List D) (l : Int) : D := match ((List.range as.length).find? fun i => isSure (verd (as.take (i + 1)) l)) with
  | some i => .int ((i + 1 : Nat) : Int)
  | none => .non
/-- a step: a tuple of a text, a text, a number -/
def isStep (d : D) : Prop := (∃ t, d = .tup [.str t]) ∨ (∃ t w, d = .tup [.str t, .str w]) ∨ ∃ t w c, d = .tup [.str t, .str w, .int c]
def isAns (d : D) : Prop := d = .non ∨ isStep d
theorem isStep.facts {d : D} (h : isStep d) : d.plain = true ∧ d.hok = true ∧ d.depth = 1 ∧ d.isT = true ∧ d ≠ .non ∧ (∃ y r, d = .tup (y :: r)) := by
  rcases h with ⟨t, rfl⟩ | ⟨t, w, rfl⟩ | ⟨t, w, c, rfl⟩
  · exact ⟨rfl, rfl, rfl, rfl, by simp, _, _, rfl⟩
  · exact ⟨rfl, rfl, rfl, rfl, by simp, _, _, rfl⟩
  · exact ⟨rfl, rfl, rfl, rfl, by simp, _, _, rfl⟩
theorem isStep.alike {d e : D} (h : isStep d) (g : isStep e) : PySem.W.alike d.toP e.toP = true := by
  rcases h with ⟨t, rfl⟩ | ⟨t, w, rfl⟩ | ⟨t, w, c, rfl⟩ <;> rcases g with ⟨t', rfl⟩ | ⟨t', w', rfl⟩ | ⟨t', w', c', rfl⟩ <;> simp [D.toP, D.toPL, PySem.W.alike, PySem.W.alikeAll]
theorem steps_srt {xs : List D} (h : ∀ x ∈ xs, isStep x) : srtOk xs :=
  ⟨fun x hx y hy => (h x hx).alike (h y hy), D.plainL_iff.mpr fun x hx => (h x hx).facts.1, .inl fun x hx => (h x hx).facts.2.2.2.2.2, fun x hx => by rw [(h x hx).facts.2.2.1]; omega⟩
theorem isAns.plain {d : D} (h : isAns d) : d.plain = true ∧ d.depth ≤ 1 := by
  rcases h with rfl | h
  · exact ⟨rfl, Nat.zero_le _⟩
  · exact ⟨h.facts.1, by rw [h.facts.2.2.1]; exact Nat.le_refl _⟩
theorem said_steps {as : List D} (h : ∀ x ∈ as, isAns x) : ∀ x ∈ said as, isStep x := fun x hx => by
  obtain ⟨h1, h2⟩ := List.mem_filter.mp hx
  rcases h x h1 with rfl | h
  · simp at h2
  · exact h
theorem mem_addK {ks : List D} {k x : D} : x ∈ addK ks k ↔ x ∈ ks ∨ x = k := by
  unfold addK
  split
  · constructor
    · exact .inl
    · rintro (h | rfl) <;> assumption
  · simp
theorem mem_foldK {x : D} : ∀ {l ks : List D}, x ∈ l.foldl addK ks ↔ x ∈ ks ∨ x ∈ l
  | [], ks => by simp
  | y :: l, ks => by rw [List.foldl_cons, mem_foldK, mem_addK]; simp [or_assoc]
theorem nodup_addK {ks : List D} {k : D} (h : ks.Nodup) : (addK ks k).Nodup := by
  unfold addK
  split
  · exact h
  · rename_i hk
    exact List.nodup_append.mpr ⟨h, by simp, by intro a ha b hb; rw [List.mem_singleton.mp hb]; rintro rfl; exact hk ha⟩
theorem nodup_foldK : ∀ {l ks : List D}, ks.Nodup → (l.foldl addK ks).Nodup
  | [], _, h => h
  | y :: l, ks, h => by rw [List.foldl_cons]; exact nodup_foldK (nodup_addK h)
theorem mem_cand {sd : List D} {l : Int} {x : D} : x ∈ cand sd l ↔ x ∈ keep sd l := by unfold cand; rw [mem_foldK]; simp
theorem cand_steps {sd : List D} {l : Int} (h : ∀ x ∈ sd, isStep x) : ∀ x ∈ cand sd l, isStep x := fun x hx => h x (List.mem_filter.mp (mem_cand.mp hx)).1
theorem cand_len (sd : List D) (l : Int) : (cand sd l).length ≤ sd.length := by
  have go : ∀ (xs ks : List D), (xs.foldl addK ks).length ≤ ks.length + xs.length := by
    intro xs
    induction xs with
    | nil => simp
    | cons x r ih => intro ks; rw [List.foldl_cons]; have := ih (addK ks x); have : (addK ks x).length ≤ ks.length + 1 := by unfold addK; split <;> simp
                     simp only [List.length_cons]; omega
  have := go (keep sd l) []
  have h2 : (keep sd l).length ≤ sd.length := List.length_filter_le _ _
  simp only [List.length_nil] at this
  show (List.foldl addK [] (keep sd l)).length ≤ _
  omega

/-! ### spoken -/
def sp_spoken (K : PySem.W.Frag) : ZSp := fun ds S Q => ∃ (as : List D), ds = [.tup as] ∧ as.length ≤ 1000 ∧ ∀ p, S p = none → Q (.ref p) (zup S p (.lst (said as)))
def z_spoken (K : PySem.W.Frag) : ZTS :=
  (zRet (zLc (ziAny K (zVar 0)) (zgName 1) (zB (zOp zIsNot (zVar 1) (zC .non))) (zVar 1) [1]))

theorem filt_map {p : D → Bool} : ∀ (xs : List D), xs.filterMap (fun d => if p d = true then some d else none) = xs.filter p
  | [] => rfl
  | x :: r => by by_cases h : p x = true <;> simp [h, filt_map r]
theorem law_spoken {K : PySem.W.Frag} (ds : List D) (S : Store) (Q : ZK) (h : sp_spoken K ds S Q) : z_spoken K (zEnd Q) (zstart ["answers", "answer"] ds) S := by
  obtain ⟨as, rfl, hl, hq⟩ := h
  show z_spoken K (zEnd Q) [some (.tup as), none] S
  unfold z_spoken
  simp only [zNext, zBreak, zCont, zDrop, zRet, zRetN, zIfS, zAsg, zAug, zAugS, zDel, zFor, zVar, zC, zOp, zUn, zNil, zCons, zAp, zMt, zB, zTr, zTruth, zAnd, zOr, zNot, zAndV, zOrV, zNotV, zIf, zTup, zLst, zDNew, zBM, zBM0, tyZ, zgName, zgNil, zgCons, zgTup, zgTupT, zgSub, zAdd, zSub, zMul, zMod, zDiv, zPow, zShl, zCmpI, zLt, zLe, zGt, zGe, zEq, zNe, zIs, zIsNot, zIn, zNotIn, zNeg, zEqN, zIsN, scalD, zInN, zIx, zSlice, zPart, zNoPart, zSl, zSet, zIAdd, zGetA, zDelI, zLenA, zListA, zTuple, zInt, zAbs, zMax2, zMin2, zAllL, zAnyL, zSumL, zMaxL, zMinL, zSorted, zAppend, zExtend, zPop, zPopAt, zReverse, zJoin, zStr1, zIsi, tyD, zCall, zLc, zLcL, zYes, ziR1, ziR2, ziR3, ziAny, ziEnum, Keep, zEnd, List.getElem?_cons_zero, List.getElem?_cons_succ, List.set_cons_zero, List.set_cons_succ, Option.some.injEq, D.int.injEq, D.ref.injEq, D.tup.injEq, D.str.injEq, D.bl.injEq, reduceCtorEq, false_and, and_false, true_and, and_true, exists_eq_left, exists_eq_left', exists_and_left, if_true, if_false, Bool.false_eq_true, ite_false, ite_true, List.cons.injEq, wipeZ, zup_same, atI_zero, atI_one, atI_lit, atI_n, ixN_zero, ixN_one, ixN_lit, ixN_n, List.length_cons, List.length_nil, Nat.reduceAdd, Nat.reduceLT, decide_eq_true_eq, List.append_nil, List.nil_append, ZO.lst.injEq, ZO.dct.injEq, seqIx_n, Bool.not_true, Bool.not_false, isE_snoc, and_assoc, or_false, false_or, exists_eq, exists_eq', isT, String.reduceBEq, Bool.and_false, Bool.and_true, Bool.false_and, Bool.true_and, Bool.or_false, Bool.or_true, Bool.true_or, Bool.false_or, natC, natC0, natC1, plain_int, plain_str, plain_non, depth_int, depth_str, depth_non, Nat.zero_le, true_or, or_true, not_true_eq_false, not_false_eq_true, Int.reduceEq, Int.reduceLT, Int.reduceLE, Int.reduceAdd, Int.reduceSub, Nat.reduceEqDiff, decide_true, decide_false]
  refine ⟨.non, as, .inl ⟨rfl, rfl⟩, trivial, ?_⟩
  refine zlcl_pure (src := .non) (fun d => if (!decide (d = .non)) = true then some d else none) trivial _ _ (fun d hd Y N hy hn => ?_) (by simp [sizeLine_eq]; omega) ?_
  · simp only [zNext, zBreak, zCont, zDrop, zRet, zRetN, zIfS, zAsg, zAug, zAugS, zDel, zFor, zVar, zC, zOp, zUn, zNil, zCons, zAp, zMt, zB, zTr, zTruth, zAnd, zOr, zNot, zAndV, zOrV, zNotV, zIf, zTup, zLst, zDNew, zBM, zBM0, tyZ, zgName, zgNil, zgCons, zgTup, zgTupT, zgSub, zAdd, zSub, zMul, zMod, zDiv, zPow, zShl, zCmpI, zLt, zLe, zGt, zGe, zEq, zNe, zIs, zIsNot, zIn, zNotIn, zNeg, zEqN, zIsN, scalD, zInN, zIx, zSlice, zPart, zNoPart, zSl, zSet, zIAdd, zGetA, zDelI, zLenA, zListA, zTuple, zInt, zAbs, zMax2, zMin2, zAllL, zAnyL, zSumL, zMaxL, zMinL, zSorted, zAppend, zExtend, zPop, zPopAt, zReverse, zJoin, zStr1, zIsi, tyD, zCall, zLc, zLcL, zYes, ziR1, ziR2, ziR3, ziAny, ziEnum, Keep, zEnd, List.getElem?_cons_zero, List.getElem?_cons_succ, List.set_cons_zero, List.set_cons_succ, Option.some.injEq, D.int.injEq, D.ref.injEq, D.tup.injEq, D.str.injEq, D.bl.injEq, reduceCtorEq, false_and, and_false, true_and, and_true, exists_eq_left, exists_eq_left', exists_and_left, if_true, if_false, Bool.false_eq_true, ite_false, ite_true, List.cons.injEq, wipeZ, zup_same, atI_zero, atI_one, atI_lit, atI_n, ixN_zero, ixN_one, ixN_lit, ixN_n, List.length_cons, List.length_nil, Nat.reduceAdd, Nat.reduceLT, decide_eq_true_eq, List.append_nil, List.nil_append, ZO.lst.injEq, ZO.dct.injEq, seqIx_n, Bool.not_true, Bool.not_false, isE_snoc, and_assoc, or_false, false_or, exists_eq, exists_eq', isT, String.reduceBEq, Bool.and_false, Bool.and_true, Bool.false_and, Bool.true_and, Bool.or_false, Bool.or_true, Bool.true_or, Bool.false_or, natC, natC0, natC1, plain_int, plain_str, plain_non, depth_int, depth_str, depth_non, Nat.zero_le, true_or, or_true, not_true_eq_false, not_false_eq_true, Int.reduceEq, Int.reduceLT, Int.reduceLE, Int.reduceAdd, Int.reduceSub, Nat.reduceEqDiff, decide_true, decide_false]
    by_cases e : d = .non
    · simp only [e, decide_true, Bool.not_true, Bool.false_eq_true, if_false]
      exact hn (by simp [e])
    · simp only [e, decide_false, Bool.not_false, if_true]
      exact hy _ (by simp [e])
  · intro p hp
    rw [filt_map]
    exact ⟨_, Sub.refl, by simpa [said] using hq p hp⟩

/-! ### lying_places -/
def sp_lying_places (K : PySem.W.Frag) : ZSp := fun ds S Q => ∃ (as : List D) (s : D), ds = [.tup as, s] ∧ as.length ≤ 1000 ∧ (∀ x ∈ as, isAns x) ∧ isStep s ∧ Q (.tup (lyOf as s)) S
def z_lying_places (K : PySem.W.Frag) : ZTS :=
  (zSeq (zAsg (zLst zNil) (zgName 2))
    (zSeq (zFor (ziEnum K (zCons (zVar 0) zNil)) (zgTup 2 (zgCons (zgName 3) (zgCons (zgName 4) zgNil))) (zIfS (zAnd (zB (zOp zIsNot (zVar 4) (zC .non))) (zB (zOp zNe (zVar 4) (zVar 1)))) (zDrop (zBM "list" zAppend (zVar 2) (zCons (zVar 3) zNil))) zNext))
    (zRet (zAp (zTuple K) (zCons (zVar 2) zNil)))))

theorem fm_congr {α β : Type} {f g : α → Option β} : ∀ {l : List α}, (∀ x ∈ l, f x = g x) → l.filterMap f = l.filterMap g
  | [], _ => rfl
  | x :: r, h => by rw [List.filterMap_cons, List.filterMap_cons, h x (List.mem_cons_self ..), fm_congr fun y hy => h y (List.mem_cons_of_mem _ hy)]
theorem lyOf_snoc (as : List D) (a s : D) : lyOf (as ++ [a]) s = lyOf as s ++ (if a ≠ .non ∧ a ≠ s then [.int (as.length : Nat)] else []) := by
  unfold lyOf
  rw [List.length_append, List.length_singleton, List.range_succ, List.filterMap_append]
  congr 1
  · refine fm_congr fun i hi => ?_
    have : i < as.length := List.mem_range.mp hi
    rw [List.getElem?_append_left this]
  · by_cases h : a ≠ .non ∧ a ≠ s
    · simp [h]
    · simp [h]
theorem law_lying_places {K : PySem.W.Frag} (ds : List D) (S : Store) (Q : ZK) (h : sp_lying_places K ds S Q) : z_lying_places K (zEnd Q) (zstart ["answers", "step", "places", "place", "answer"] ds) S := by
  obtain ⟨as, s, rfl, hl, ha, hs, hq⟩ := h
  show z_lying_places K (zEnd Q) [some (.tup as), some s, none, none, none] S
  unfold z_lying_places
  refine zseq_go ?_
  simp only [zNext, zBreak, zCont, zDrop, zRet, zRetN, zIfS, zAsg, zAug, zAugS, zDel, zFor, zVar, zC, zOp, zUn, zNil, zCons, zAp, zMt, zB, zTr, zTruth, zAnd, zOr, zNot, zAndV, zOrV, zNotV, zIf, zTup, zLst, zDNew, zBM, zBM0, tyZ, zgName, zgNil, zgCons, zgTup, zgTupT, zgSub, zAdd, zSub, zMul, zMod, zDiv, zPow, zShl, zCmpI, zLt, zLe, zGt, zGe, zEq, zNe, zIs, zIsNot, zIn, zNotIn, zNeg, zEqN, zIsN, scalD, zInN, zIx, zSlice, zPart, zNoPart, zSl, zSet, zIAdd, zGetA, zDelI, zLenA, zListA, zTuple, zInt, zAbs, zMax2, zMin2, zAllL, zAnyL, zSumL, zMaxL, zMinL, zSorted, zAppend, zExtend, zPop, zPopAt, zReverse, zJoin, zStr1, zIsi, tyD, zCall, zLc, zLcL, zYes, ziR1, ziR2, ziR3, ziAny, ziEnum, Keep, zEnd, List.getElem?_cons_zero, List.getElem?_cons_succ, List.set_cons_zero, List.set_cons_succ, Option.some.injEq, D.int.injEq, D.ref.injEq, D.tup.injEq, D.str.injEq, D.bl.injEq, reduceCtorEq, false_and, and_false, true_and, and_true, exists_eq_left, exists_eq_left', exists_and_left, if_true, if_false, Bool.false_eq_true, ite_false, ite_true, List.cons.injEq, wipeZ, zup_same, atI_zero, atI_one, atI_lit, atI_n, ixN_zero, ixN_one, ixN_lit, ixN_n, List.length_cons, List.length_nil, Nat.reduceAdd, Nat.reduceLT, decide_eq_true_eq, List.append_nil, List.nil_append, ZO.lst.injEq, ZO.dct.injEq, seqIx_n, Bool.not_true, Bool.not_false, isE_snoc, and_assoc, or_false, false_or, exists_eq, exists_eq', isT, String.reduceBEq, Bool.and_false, Bool.and_true, Bool.false_and, Bool.true_and, Bool.or_false, Bool.or_true, Bool.true_or, Bool.false_or, natC, natC0, natC1, plain_int, plain_str, plain_non, depth_int, depth_str, depth_non, Nat.zero_le, true_or, or_true, not_true_eq_false, not_false_eq_true, Int.reduceEq, Int.reduceLT, Int.reduceLE, Int.reduceAdd, Int.reduceSub, Nat.reduceEqDiff, decide_true, decide_false]
  intro p hp
  refine zseq (fun δ' S' => δ'[2]? = some (some (.ref p)) ∧ S' p = some (.lst (lyOf as s)) ∧ Ext [] S S') ?_ ?_
  · simp only [zNext, zBreak, zCont, zDrop, zRet, zRetN, zIfS, zAsg, zAug, zAugS, zDel, zFor, zVar, zC, zOp, zUn, zNil, zCons, zAp, zMt, zB, zTr, zTruth, zAnd, zOr, zNot, zAndV, zOrV, zNotV, zIf, zTup, zLst, zDNew, zBM, zBM0, tyZ, zgName, zgNil, zgCons, zgTup, zgTupT, zgSub, zAdd, zSub, zMul, zMod, zDiv, zPow, zShl, zCmpI, zLt, zLe, zGt, zGe, zEq, zNe, zIs, zIsNot, zIn, zNotIn, zNeg, zEqN, zIsN, scalD, zInN, zIx, zSlice, zPart, zNoPart, zSl, zSet, zIAdd, zGetA, zDelI, zLenA, zListA, zTuple, zInt, zAbs, zMax2, zMin2, zAllL, zAnyL, zSumL, zMaxL, zMinL, zSorted, zAppend, zExtend, zPop, zPopAt, zReverse, zJoin, zStr1, zIsi, tyD, zCall, zLc, zLcL, zYes, ziR1, ziR2, ziR3, ziAny, ziEnum, Keep, zEnd, List.getElem?_cons_zero, List.getElem?_cons_succ, List.set_cons_zero, List.set_cons_succ, Option.some.injEq, D.int.injEq, D.ref.injEq, D.tup.injEq, D.str.injEq, D.bl.injEq, reduceCtorEq, false_and, and_false, true_and, and_true, exists_eq_left, exists_eq_left', exists_and_left, if_true, if_false, Bool.false_eq_true, ite_false, ite_true, List.cons.injEq, wipeZ, zup_same, atI_zero, atI_one, atI_lit, atI_n, ixN_zero, ixN_one, ixN_lit, ixN_n, List.length_cons, List.length_nil, Nat.reduceAdd, Nat.reduceLT, decide_eq_true_eq, List.append_nil, List.nil_append, ZO.lst.injEq, ZO.dct.injEq, seqIx_n, Bool.not_true, Bool.not_false, isE_snoc, and_assoc, or_false, false_or, exists_eq, exists_eq', isT, String.reduceBEq, Bool.and_false, Bool.and_true, Bool.false_and, Bool.true_and, Bool.or_false, Bool.or_true, Bool.true_or, Bool.false_or, natC, natC0, natC1, plain_int, plain_str, plain_non, depth_int, depth_str, depth_non, Nat.zero_le, true_or, or_true, not_true_eq_false, not_false_eq_true, Int.reduceEq, Int.reduceLT, Int.reduceLE, Int.reduceAdd, Int.reduceSub, Nat.reduceEqDiff, decide_true, decide_false]
    refine ⟨.non, as, ⟨rfl, rfl⟩, trivial, ?_⟩
    have hinv : ∀ (done rest : List D), done ++ rest = as → enumD as = enumD done ++ ((List.range rest.length).zipWith (fun i x => D.tup [.int ((done.length + i : Nat) : Int), x]) rest) := by
      intro done rest e
      subst e
      unfold enumD
      rw [List.length_append, List.range_add, List.zipWith_append (by simp)]
      congr 1
      rw [List.zipWith_map_left]
    refine zloop (fun rest δ' S' => (∃ a b, δ' = [some (.tup as), some s, some (.ref p), a, b]) ∧ ∃ done left, as = done ++ left ∧ rest = (List.range left.length).zipWith (fun i x => D.tup [.int ((done.length + i : Nat) : Int), x]) left ∧ S' p = some (.lst (lyOf done s)) ∧ Ext [] S S') ?_ ?_ _ _ _ ?_
    · rintro δ' S' ⟨⟨a, b, rfl⟩, done, left, e, e2, h1, h2⟩
      have : left = [] := by
        have := congrArg List.length e2
        simp at this
        exact List.length_eq_zero_iff.mp (by omega)
      subst this
      rw [List.append_nil] at e
      subst e
      exact ⟨rfl, h1, h2⟩
    · rintro d r δ' S' N ⟨⟨a, b, rfl⟩, done, left, e, e2, h1, h2⟩ hN
      cases left with
      | nil => simp at e2
      | cons x left =>
        rw [List.length_cons, List.range_succ_eq_map, List.zipWith_cons_cons] at e2
        obtain ⟨rfl, rfl⟩ := List.cons.inj e2
        have hax := ha x (by rw [e]; simp)
        have hlen : (lyOf done s).length ≤ 1000 := by
          have : (lyOf done s).length ≤ (List.range done.length).length := List.length_filterMap_le _ _
          have h3 : as.length = done.length + (left.length + 1) := by rw [e]; simp
          simp at this
          omega
        have fin : ∀ {S'' : Store}, S'' p = some (.lst (lyOf (done ++ [x]) s)) → Ext [] S S'' → N [some (.tup as), some s, some (.ref p), some (.int (done.length : Nat)), some x] S'' := fun g1 g2 =>
          hN _ _ trivial ⟨⟨_, _, rfl⟩, done ++ [x], left, by rw [e]; simp, by
            rw [List.zipWith_map_left]
            congr 1
            funext i y
            simp
            omega, g1, g2⟩
        have e0 : ((done.length + 0 : Nat) : Int) = (done.length : Nat) := by simp
        simp only [zNext, zBreak, zCont, zDrop, zRet, zRetN, zIfS, zAsg, zAug, zAugS, zDel, zFor, zVar, zC, zOp, zUn, zNil, zCons, zAp, zMt, zB, zTr, zTruth, zAnd, zOr, zNot, zAndV, zOrV, zNotV, zIf, zTup, zLst, zDNew, zBM, zBM0, tyZ, zgName, zgNil, zgCons, zgTup, zgTupT, zgSub, zAdd, zSub, zMul, zMod, zDiv, zPow, zShl, zCmpI, zLt, zLe, zGt, zGe, zEq, zNe, zIs, zIsNot, zIn, zNotIn, zNeg, zEqN, zIsN, scalD, zInN, zIx, zSlice, zPart, zNoPart, zSl, zSet, zIAdd, zGetA, zDelI, zLenA, zListA, zTuple, zInt, zAbs, zMax2, zMin2, zAllL, zAnyL, zSumL, zMaxL, zMinL, zSorted, zAppend, zExtend, zPop, zPopAt, zReverse, zJoin, zStr1, zIsi, tyD, zCall, zLc, zLcL, zYes, ziR1, ziR2, ziR3, ziAny, ziEnum, Keep, zEnd, List.getElem?_cons_zero, List.getElem?_cons_succ, List.set_cons_zero, List.set_cons_succ, Option.some.injEq, D.int.injEq, D.ref.injEq, D.tup.injEq, D.str.injEq, D.bl.injEq, reduceCtorEq, false_and, and_false, true_and, and_true, exists_eq_left, exists_eq_left', exists_and_left, if_true, if_false, Bool.false_eq_true, ite_false, ite_true, List.cons.injEq, wipeZ, zup_same, atI_zero, atI_one, atI_lit, atI_n, ixN_zero, ixN_one, ixN_lit, ixN_n, List.length_cons, List.length_nil, Nat.reduceAdd, Nat.reduceLT, decide_eq_true_eq, List.append_nil, List.nil_append, ZO.lst.injEq, ZO.dct.injEq, seqIx_n, Bool.not_true, Bool.not_false, isE_snoc, and_assoc, or_false, false_or, exists_eq, exists_eq', isT, String.reduceBEq, Bool.and_false, Bool.and_true, Bool.false_and, Bool.true_and, Bool.or_false, Bool.or_true, Bool.true_or, Bool.false_or, natC, natC0, natC1, plain_int, plain_str, plain_non, depth_int, depth_str, depth_non, Nat.zero_le, true_or, or_true, not_true_eq_false, not_false_eq_true, Int.reduceEq, Int.reduceLT, Int.reduceLE, Int.reduceAdd, Int.reduceSub, Nat.reduceEqDiff, decide_true, decide_false, h1, e0]
        by_cases c1 : x = .non
        · subst c1
          simp only [zNext, zBreak, zCont, zDrop, zRet, zRetN, zIfS, zAsg, zAug, zAugS, zDel, zFor, zVar, zC, zOp, zUn, zNil, zCons, zAp, zMt, zB, zTr, zTruth, zAnd, zOr, zNot, zAndV, zOrV, zNotV, zIf, zTup, zLst, zDNew, zBM, zBM0, tyZ, zgName, zgNil, zgCons, zgTup, zgTupT, zgSub, zAdd, zSub, zMul, zMod, zDiv, zPow, zShl, zCmpI, zLt, zLe, zGt, zGe, zEq, zNe, zIs, zIsNot, zIn, zNotIn, zNeg, zEqN, zIsN, scalD, zInN, zIx, zSlice, zPart, zNoPart, zSl, zSet, zIAdd, zGetA, zDelI, zLenA, zListA, zTuple, zInt, zAbs, zMax2, zMin2, zAllL, zAnyL, zSumL, zMaxL, zMinL, zSorted, zAppend, zExtend, zPop, zPopAt, zReverse, zJoin, zStr1, zIsi, tyD, zCall, zLc, zLcL, zYes, ziR1, ziR2, ziR3, ziAny, ziEnum, Keep, zEnd, List.getElem?_cons_zero, List.getElem?_cons_succ, List.set_cons_zero, List.set_cons_succ, Option.some.injEq, D.int.injEq, D.ref.injEq, D.tup.injEq, D.str.injEq, D.bl.injEq, reduceCtorEq, false_and, and_false, true_and, and_true, exists_eq_left, exists_eq_left', exists_and_left, if_true, if_false, Bool.false_eq_true, ite_false, ite_true, List.cons.injEq, wipeZ, zup_same, atI_zero, atI_one, atI_lit, atI_n, ixN_zero, ixN_one, ixN_lit, ixN_n, List.length_cons, List.length_nil, Nat.reduceAdd, Nat.reduceLT, decide_eq_true_eq, List.append_nil, List.nil_append, ZO.lst.injEq, ZO.dct.injEq, seqIx_n, Bool.not_true, Bool.not_false, isE_snoc, and_assoc, or_false, false_or, exists_eq, exists_eq', isT, String.reduceBEq, Bool.and_false, Bool.and_true, Bool.false_and, Bool.true_and, Bool.or_false, Bool.or_true, Bool.true_or, Bool.false_or, natC, natC0, natC1, plain_int, plain_str, plain_non, depth_int, depth_str, depth_non, Nat.zero_le, true_or, or_true, not_true_eq_false, not_false_eq_true, Int.reduceEq, Int.reduceLT, Int.reduceLE, Int.reduceAdd, Int.reduceSub, Nat.reduceEqDiff, decide_true, decide_false, decide_true]
          exact fin (by rw [lyOf_snoc, h1]; simp) h2
        · simp only [zNext, zBreak, zCont, zDrop, zRet, zRetN, zIfS, zAsg, zAug, zAugS, zDel, zFor, zVar, zC, zOp, zUn, zNil, zCons, zAp, zMt, zB, zTr, zTruth, zAnd, zOr, zNot, zAndV, zOrV, zNotV, zIf, zTup, zLst, zDNew, zBM, zBM0, tyZ, zgName, zgNil, zgCons, zgTup, zgTupT, zgSub, zAdd, zSub, zMul, zMod, zDiv, zPow, zShl, zCmpI, zLt, zLe, zGt, zGe, zEq, zNe, zIs, zIsNot, zIn, zNotIn, zNeg, zEqN, zIsN, scalD, zInN, zIx, zSlice, zPart, zNoPart, zSl, zSet, zIAdd, zGetA, zDelI, zLenA, zListA, zTuple, zInt, zAbs, zMax2, zMin2, zAllL, zAnyL, zSumL, zMaxL, zMinL, zSorted, zAppend, zExtend, zPop, zPopAt, zReverse, zJoin, zStr1, zIsi, tyD, zCall, zLc, zLcL, zYes, ziR1, ziR2, ziR3, ziAny, ziEnum, Keep, zEnd, List.getElem?_cons_zero, List.getElem?_cons_succ, List.set_cons_zero, List.set_cons_succ, Option.some.injEq, D.int.injEq, D.ref.injEq, D.tup.injEq, D.str.injEq, D.bl.injEq, reduceCtorEq, false_and, and_false, true_and, and_true, exists_eq_left, exists_eq_left', exists_and_left, if_true, if_false, Bool.false_eq_true, ite_false, ite_true, List.cons.injEq, wipeZ, zup_same, atI_zero, atI_one, atI_lit, atI_n, ixN_zero, ixN_one, ixN_lit, ixN_n, List.length_cons, List.length_nil, Nat.reduceAdd, Nat.reduceLT, decide_eq_true_eq, List.append_nil, List.nil_append, ZO.lst.injEq, ZO.dct.injEq, seqIx_n, Bool.not_true, Bool.not_false, isE_snoc, and_assoc, or_false, false_or, exists_eq, exists_eq', isT, String.reduceBEq, Bool.and_false, Bool.and_true, Bool.false_and, Bool.true_and, Bool.or_false, Bool.or_true, Bool.true_or, Bool.false_or, natC, natC0, natC1, plain_int, plain_str, plain_non, depth_int, depth_str, depth_non, Nat.zero_le, true_or, or_true, not_true_eq_false, not_false_eq_true, Int.reduceEq, Int.reduceLT, Int.reduceLE, Int.reduceAdd, Int.reduceSub, Nat.reduceEqDiff, decide_true, decide_false, c1, decide_false]
          refine ⟨.inl ⟨hax.plain.1, hs.facts.1, .inl (by have := hax.plain.2; omega)⟩, ?_⟩
          by_cases c2 : x = s
          · subst c2
            simp only [zNext, zBreak, zCont, zDrop, zRet, zRetN, zIfS, zAsg, zAug, zAugS, zDel, zFor, zVar, zC, zOp, zUn, zNil, zCons, zAp, zMt, zB, zTr, zTruth, zAnd, zOr, zNot, zAndV, zOrV, zNotV, zIf, zTup, zLst, zDNew, zBM, zBM0, tyZ, zgName, zgNil, zgCons, zgTup, zgTupT, zgSub, zAdd, zSub, zMul, zMod, zDiv, zPow, zShl, zCmpI, zLt, zLe, zGt, zGe, zEq, zNe, zIs, zIsNot, zIn, zNotIn, zNeg, zEqN, zIsN, scalD, zInN, zIx, zSlice, zPart, zNoPart, zSl, zSet, zIAdd, zGetA, zDelI, zLenA, zListA, zTuple, zInt, zAbs, zMax2, zMin2, zAllL, zAnyL, zSumL, zMaxL, zMinL, zSorted, zAppend, zExtend, zPop, zPopAt, zReverse, zJoin, zStr1, zIsi, tyD, zCall, zLc, zLcL, zYes, ziR1, ziR2, ziR3, ziAny, ziEnum, Keep, zEnd, List.getElem?_cons_zero, List.getElem?_cons_succ, List.set_cons_zero, List.set_cons_succ, Option.some.injEq, D.int.injEq, D.ref.injEq, D.tup.injEq, D.str.injEq, D.bl.injEq, reduceCtorEq, false_and, and_false, true_and, and_true, exists_eq_left, exists_eq_left', exists_and_left, if_true, if_false, Bool.false_eq_true, ite_false, ite_true, List.cons.injEq, wipeZ, zup_same, atI_zero, atI_one, atI_lit, atI_n, ixN_zero, ixN_one, ixN_lit, ixN_n, List.length_cons, List.length_nil, Nat.reduceAdd, Nat.reduceLT, decide_eq_true_eq, List.append_nil, List.nil_append, ZO.lst.injEq, ZO.dct.injEq, seqIx_n, Bool.not_true, Bool.not_false, isE_snoc, and_assoc, or_false, false_or, exists_eq, exists_eq', isT, String.reduceBEq, Bool.and_false, Bool.and_true, Bool.false_and, Bool.true_and, Bool.or_false, Bool.or_true, Bool.true_or, Bool.false_or, natC, natC0, natC1, plain_int, plain_str, plain_non, depth_int, depth_str, depth_non, Nat.zero_le, true_or, or_true, not_true_eq_false, not_false_eq_true, Int.reduceEq, Int.reduceLT, Int.reduceLE, Int.reduceAdd, Int.reduceSub, Nat.reduceEqDiff, decide_true, decide_false, decide_true]
            exact fin (by rw [lyOf_snoc, h1]; simp) h2
          · simp only [zNext, zBreak, zCont, zDrop, zRet, zRetN, zIfS, zAsg, zAug, zAugS, zDel, zFor, zVar, zC, zOp, zUn, zNil, zCons, zAp, zMt, zB, zTr, zTruth, zAnd, zOr, zNot, zAndV, zOrV, zNotV, zIf, zTup, zLst, zDNew, zBM, zBM0, tyZ, zgName, zgNil, zgCons, zgTup, zgTupT, zgSub, zAdd, zSub, zMul, zMod, zDiv, zPow, zShl, zCmpI, zLt, zLe, zGt, zGe, zEq, zNe, zIs, zIsNot, zIn, zNotIn, zNeg, zEqN, zIsN, scalD, zInN, zIx, zSlice, zPart, zNoPart, zSl, zSet, zIAdd, zGetA, zDelI, zLenA, zListA, zTuple, zInt, zAbs, zMax2, zMin2, zAllL, zAnyL, zSumL, zMaxL, zMinL, zSorted, zAppend, zExtend, zPop, zPopAt, zReverse, zJoin, zStr1, zIsi, tyD, zCall, zLc, zLcL, zYes, ziR1, ziR2, ziR3, ziAny, ziEnum, Keep, zEnd, List.getElem?_cons_zero, List.getElem?_cons_succ, List.set_cons_zero, List.set_cons_succ, Option.some.injEq, D.int.injEq, D.ref.injEq, D.tup.injEq, D.str.injEq, D.bl.injEq, reduceCtorEq, false_and, and_false, true_and, and_true, exists_eq_left, exists_eq_left', exists_and_left, if_true, if_false, Bool.false_eq_true, ite_false, ite_true, List.cons.injEq, wipeZ, zup_same, atI_zero, atI_one, atI_lit, atI_n, ixN_zero, ixN_one, ixN_lit, ixN_n, List.length_cons, List.length_nil, Nat.reduceAdd, Nat.reduceLT, decide_eq_true_eq, List.append_nil, List.nil_append, ZO.lst.injEq, ZO.dct.injEq, seqIx_n, Bool.not_true, Bool.not_false, isE_snoc, and_assoc, or_false, false_or, exists_eq, exists_eq', isT, String.reduceBEq, Bool.and_false, Bool.and_true, Bool.false_and, Bool.true_and, Bool.or_false, Bool.or_true, Bool.true_or, Bool.false_or, natC, natC0, natC1, plain_int, plain_str, plain_non, depth_int, depth_str, depth_non, Nat.zero_le, true_or, or_true, not_true_eq_false, not_false_eq_true, Int.reduceEq, Int.reduceLT, Int.reduceLE, Int.reduceAdd, Int.reduceSub, Nat.reduceEqDiff, decide_true, decide_false, c2, decide_false]
            refine ⟨by rw [sizeLine_eq]; omega, fin (by rw [zup_same, lyOf_snoc]; simp [c1, c2]) (h2.upd (.inr hp))⟩
    · exact ⟨⟨none, none, rfl⟩, [], as, rfl, by simp [enumD], zup_same, Ext.refl.new hp⟩
  · rintro δ' S' ⟨hδ, h1, h2⟩
    simp only [zNext, zBreak, zCont, zDrop, zRet, zRetN, zIfS, zAsg, zAug, zAugS, zDel, zFor, zVar, zC, zOp, zUn, zNil, zCons, zAp, zMt, zB, zTr, zTruth, zAnd, zOr, zNot, zAndV, zOrV, zNotV, zIf, zTup, zLst, zDNew, zBM, zBM0, tyZ, zgName, zgNil, zgCons, zgTup, zgTupT, zgSub, zAdd, zSub, zMul, zMod, zDiv, zPow, zShl, zCmpI, zLt, zLe, zGt, zGe, zEq, zNe, zIs, zIsNot, zIn, zNotIn, zNeg, zEqN, zIsN, scalD, zInN, zIx, zSlice, zPart, zNoPart, zSl, zSet, zIAdd, zGetA, zDelI, zLenA, zListA, zTuple, zInt, zAbs, zMax2, zMin2, zAllL, zAnyL, zSumL, zMaxL, zMinL, zSorted, zAppend, zExtend, zPop, zPopAt, zReverse, zJoin, zStr1, zIsi, tyD, zCall, zLc, zLcL, zYes, ziR1, ziR2, ziR3, ziAny, ziEnum, Keep, zEnd, List.getElem?_cons_zero, List.getElem?_cons_succ, List.set_cons_zero, List.set_cons_succ, Option.some.injEq, D.int.injEq, D.ref.injEq, D.tup.injEq, D.str.injEq, D.bl.injEq, reduceCtorEq, false_and, and_false, true_and, and_true, exists_eq_left, exists_eq_left', exists_and_left, if_true, if_false, Bool.false_eq_true, ite_false, ite_true, List.cons.injEq, wipeZ, zup_same, atI_zero, atI_one, atI_lit, atI_n, ixN_zero, ixN_one, ixN_lit, ixN_n, List.length_cons, List.length_nil, Nat.reduceAdd, Nat.reduceLT, decide_eq_true_eq, List.append_nil, List.nil_append, ZO.lst.injEq, ZO.dct.injEq, seqIx_n, Bool.not_true, Bool.not_false, isE_snoc, and_assoc, or_false, false_or, exists_eq, exists_eq', isT, String.reduceBEq, Bool.and_false, Bool.and_true, Bool.false_and, Bool.true_and, Bool.or_false, Bool.or_true, Bool.true_or, Bool.false_or, natC, natC0, natC1, plain_int, plain_str, plain_non, depth_int, depth_str, depth_non, Nat.zero_le, true_or, or_true, not_true_eq_false, not_false_eq_true, Int.reduceEq, Int.reduceLT, Int.reduceLE, Int.reduceAdd, Int.reduceSub, Nat.reduceEqDiff, decide_true, decide_false, hδ]
    refine ⟨.lst p (lyOf as s), lyOf as s, .inl ⟨rfl, .inl h1⟩, S, h2.sub, hq⟩
end K70
namespace K70
open PySem PySem.Spec PyProof.Rows L2 Z ZH
/-! ### possible -/
def sp_possible (K : PySem.W.Frag) : ZSp := fun ds S Q => ∃ (as : List D) (l : Int), ds = [.tup as, .int l] ∧ as.length ≤ 1000 ∧ (∀ x ∈ as, isAns x) ∧ Q (poss as l) S
def z_possible (K : PySem.W.Frag) : ZTS :=
  (zSeq (zIfS (zB (zOp zLe (zAp zLenA (zCons (zCall (sp_spoken K) [] (zCons (zVar 0) zNil)) zNil)) (zVar 1))) (zRet (zC .non)) zNext)
    (zSeq (zAsg zDNew (zgName 2))
    (zSeq (zFor (ziAny K (zCall (sp_spoken K) [] (zCons (zVar 0) zNil))) (zgName 3) (zIfS (zB (zOp zLe (zAp zLenA (zCons (zCall (sp_lying_places K) [] (zCons (zVar 0) (zCons (zVar 3) zNil))) zNil)) (zVar 1))) (zAsg (zC (.bl true)) (zgSub (zVar 2) (zVar 3))) zNext))
    (zRet (zAp (zTuple K) (zCons (zAp (zSorted K) (zCons (zVar 2) zNil)) zNil))))))

/-- those who say another thing -/
theorem ly_len (as : List D) {s : D} (hs : s ≠ .non) : (lyOf as s).length = ((said as).filter fun o => !decide (o = s)).length := by
  have go : ∀ (n : Nat) (as : List D), as.length = n → (lyOf as s).length = ((said as).filter fun o => !decide (o = s)).length := by
    intro n
    induction n with
    | zero => intro as h; have : as = [] := List.length_eq_zero_iff.mp h; subst this; rfl
    | succ n ih =>
      intro as h
      rcases List.eq_nil_or_concat as with rfl | ⟨as, a, rfl⟩
      · simp at h
      rw [List.concat_eq_append] at *
      rw [lyOf_snoc, List.length_append, ih as (by simpa using h)]
      unfold said
      rw [List.filter_append, List.filter_append, List.length_append]
      congr 1
      by_cases h1 : a = .non
      · simp [h1]
      · by_cases h2 : a = s
        · simp [h2, hs]
        · simp [h1, h2]
  exact go _ as rfl
def kvsOf (ks : List D) : List (D × D) := ks.map fun k => (k, .bl true)
theorem put_kvs (ks : List D) (k : D) : zput (kvsOf ks) k (.bl true) = kvsOf (addK ks k) := by
  have hh : zhas (kvsOf ks) k = decide (k ∈ ks) := by
    unfold zhas kvsOf
    rw [List.any_map]
    induction ks with
    | nil => rfl
    | cons x r ih => rw [List.any_cons, ih]; by_cases e : x = k <;> by_cases e2 : k ∈ r <;> simp [e, e2, eq_comm] <;> exact fun h => e h.symm
  unfold zput addK
  rw [hh]
  by_cases h : k ∈ ks
  · simp only [h, decide_true, if_true]
    unfold kvsOf
    rw [List.map_map]
    refine List.map_congr_left fun x _ => ?_
    by_cases e : x = k <;> simp [e]
  · simp [h, kvsOf]
theorem law_possible {K : PySem.W.Frag} (ds : List D) (S : Store) (Q : ZK) (h : sp_possible K ds S Q) : z_possible K (zEnd Q) (zstart ["answers", "liars", "found", "step"] ds) S := by
  obtain ⟨as, l, rfl, hl, ha, hq⟩ := h
  show z_possible K (zEnd Q) [some (.tup as), some (.int l), none, none] S
  unfold z_possible
  have hsl : (said as).length ≤ 1000 := Nat.le_trans (List.length_filter_le _ _) hl
  refine zseq (fun δ' S' => δ' = [some (.tup as), some (.int l), none, none] ∧ ¬ ((said as).length : Int) ≤ l ∧ Ext [] S S') ?_ ?_
  · simp only [zNext, zBreak, zCont, zDrop, zRet, zRetN, zIfS, zAsg, zAug, zAugS, zDel, zFor, zVar, zC, zOp, zUn, zNil, zCons, zAp, zMt, zB, zTr, zTruth, zAnd, zOr, zNot, zAndV, zOrV, zNotV, zIf, zTup, zLst, zDNew, zBM, zBM0, tyZ, zgName, zgNil, zgCons, zgTup, zgTupT, zgSub, zAdd, zSub, zMul, zMod, zDiv, zPow, zShl, zCmpI, zLt, zLe, zGt, zGe, zEq, zNe, zIs, zIsNot, zIn, zNotIn, zNeg, zEqN, zIsN, scalD, zInN, zIx, zSlice, zPart, zNoPart, zSl, zSet, zIAdd, zGetA, zDelI, zLenA, zListA, zTuple, zInt, zAbs, zMax2, zMin2, zAllL, zAnyL, zSumL, zMaxL, zMinL, zSorted, zAppend, zExtend, zPop, zPopAt, zReverse, zJoin, zStr1, zIsi, tyD, zCall, zLc, zLcL, zYes, ziR1, ziR2, ziR3, ziAny, ziEnum, Keep, zEnd, List.getElem?_cons_zero, List.getElem?_cons_succ, List.set_cons_zero, List.set_cons_succ, Option.some.injEq, D.int.injEq, D.ref.injEq, D.tup.injEq, D.str.injEq, D.bl.injEq, reduceCtorEq, false_and, and_false, true_and, and_true, exists_eq_left, exists_eq_left', exists_and_left, if_true, if_false, Bool.false_eq_true, ite_false, ite_true, List.cons.injEq, wipeZ, zup_same, atI_zero, atI_one, atI_lit, atI_n, ixN_zero, ixN_one, ixN_lit, ixN_n, List.length_cons, List.length_nil, Nat.reduceAdd, Nat.reduceLT, decide_eq_true_eq, List.append_nil, List.nil_append, ZO.lst.injEq, ZO.dct.injEq, seqIx_n, Bool.not_true, Bool.not_false, isE_snoc, and_assoc, or_false, false_or, exists_eq, exists_eq', isT, String.reduceBEq, Bool.and_false, Bool.and_true, Bool.false_and, Bool.true_and, Bool.or_false, Bool.or_true, Bool.true_or, Bool.false_or, natC, natC0, natC1, plain_int, plain_str, plain_non, depth_int, depth_str, depth_non, Nat.zero_le, true_or, or_true, not_true_eq_false, not_false_eq_true, Int.reduceEq, Int.reduceLT, Int.reduceLE, Int.reduceAdd, Int.reduceSub, Nat.reduceEqDiff, decide_true, decide_false]
    refine ⟨as, rfl, hl, fun p hp => ?_⟩
    simp only [zNext, zBreak, zCont, zDrop, zRet, zRetN, zIfS, zAsg, zAug, zAugS, zDel, zFor, zVar, zC, zOp, zUn, zNil, zCons, zAp, zMt, zB, zTr, zTruth, zAnd, zOr, zNot, zAndV, zOrV, zNotV, zIf, zTup, zLst, zDNew, zBM, zBM0, tyZ, zgName, zgNil, zgCons, zgTup, zgTupT, zgSub, zAdd, zSub, zMul, zMod, zDiv, zPow, zShl, zCmpI, zLt, zLe, zGt, zGe, zEq, zNe, zIs, zIsNot, zIn, zNotIn, zNeg, zEqN, zIsN, scalD, zInN, zIx, zSlice, zPart, zNoPart, zSl, zSet, zIAdd, zGetA, zDelI, zLenA, zListA, zTuple, zInt, zAbs, zMax2, zMin2, zAllL, zAnyL, zSumL, zMaxL, zMinL, zSorted, zAppend, zExtend, zPop, zPopAt, zReverse, zJoin, zStr1, zIsi, tyD, zCall, zLc, zLcL, zYes, ziR1, ziR2, ziR3, ziAny, ziEnum, Keep, zEnd, List.getElem?_cons_zero, List.getElem?_cons_succ, List.set_cons_zero, List.set_cons_succ, Option.some.injEq, D.int.injEq, D.ref.injEq, D.tup.injEq, D.str.injEq, D.bl.injEq, reduceCtorEq, false_and, and_false, true_and, and_true, exists_eq_left, exists_eq_left', exists_and_left, if_true, if_false, Bool.false_eq_true, ite_false, ite_true, List.cons.injEq, wipeZ, zup_same, atI_zero, atI_one, atI_lit, atI_n, ixN_zero, ixN_one, ixN_lit, ixN_n, List.length_cons, List.length_nil, Nat.reduceAdd, Nat.reduceLT, decide_eq_true_eq, List.append_nil, List.nil_append, ZO.lst.injEq, ZO.dct.injEq, seqIx_n, Bool.not_true, Bool.not_false, isE_snoc, and_assoc, or_false, false_or, exists_eq, exists_eq', isT, String.reduceBEq, Bool.and_false, Bool.and_true, Bool.false_and, Bool.true_and, Bool.or_false, Bool.or_true, Bool.true_or, Bool.false_or, natC, natC0, natC1, plain_int, plain_str, plain_non, depth_int, depth_str, depth_non, Nat.zero_le, true_or, or_true, not_true_eq_false, not_false_eq_true, Int.reduceEq, Int.reduceLT, Int.reduceLE, Int.reduceAdd, Int.reduceSub, Nat.reduceEqDiff, decide_true, decide_false]
    split
    · rename_i hle
      refine ⟨S, Sub.refl.new hp, ?_⟩
      unfold poss at hq
      rw [if_pos hle] at hq
      exact hq
    · rename_i hle
      exact ⟨hle, Ext.refl.new hp⟩
  rintro _ S1 ⟨rfl, hle, hx⟩
  refine zseq_go ?_
  simp only [zNext, zBreak, zCont, zDrop, zRet, zRetN, zIfS, zAsg, zAug, zAugS, zDel, zFor, zVar, zC, zOp, zUn, zNil, zCons, zAp, zMt, zB, zTr, zTruth, zAnd, zOr, zNot, zAndV, zOrV, zNotV, zIf, zTup, zLst, zDNew, zBM, zBM0, tyZ, zgName, zgNil, zgCons, zgTup, zgTupT, zgSub, zAdd, zSub, zMul, zMod, zDiv, zPow, zShl, zCmpI, zLt, zLe, zGt, zGe, zEq, zNe, zIs, zIsNot, zIn, zNotIn, zNeg, zEqN, zIsN, scalD, zInN, zIx, zSlice, zPart, zNoPart, zSl, zSet, zIAdd, zGetA, zDelI, zLenA, zListA, zTuple, zInt, zAbs, zMax2, zMin2, zAllL, zAnyL, zSumL, zMaxL, zMinL, zSorted, zAppend, zExtend, zPop, zPopAt, zReverse, zJoin, zStr1, zIsi, tyD, zCall, zLc, zLcL, zYes, ziR1, ziR2, ziR3, ziAny, ziEnum, Keep, zEnd, List.getElem?_cons_zero, List.getElem?_cons_succ, List.set_cons_zero, List.set_cons_succ, Option.some.injEq, D.int.injEq, D.ref.injEq, D.tup.injEq, D.str.injEq, D.bl.injEq, reduceCtorEq, false_and, and_false, true_and, and_true, exists_eq_left, exists_eq_left', exists_and_left, if_true, if_false, Bool.false_eq_true, ite_false, ite_true, List.cons.injEq, wipeZ, zup_same, atI_zero, atI_one, atI_lit, atI_n, ixN_zero, ixN_one, ixN_lit, ixN_n, List.length_cons, List.length_nil, Nat.reduceAdd, Nat.reduceLT, decide_eq_true_eq, List.append_nil, List.nil_append, ZO.lst.injEq, ZO.dct.injEq, seqIx_n, Bool.not_true, Bool.not_false, isE_snoc, and_assoc, or_false, false_or, exists_eq, exists_eq', isT, String.reduceBEq, Bool.and_false, Bool.and_true, Bool.false_and, Bool.true_and, Bool.or_false, Bool.or_true, Bool.true_or, Bool.false_or, natC, natC0, natC1, plain_int, plain_str, plain_non, depth_int, depth_str, depth_non, Nat.zero_le, true_or, or_true, not_true_eq_false, not_false_eq_true, Int.reduceEq, Int.reduceLT, Int.reduceLE, Int.reduceAdd, Int.reduceSub, Nat.reduceEqDiff, decide_true, decide_false]
  intro q hq0
  have hqS : S q = none := hx.sub.none hq0
  refine zseq (fun δ' S' => δ'[2]? = some (some (.ref q)) ∧ S' q = some (.dct (kvsOf (cand (said as) l))) ∧ Ext [] S S') ?_ ?_
  · simp only [zNext, zBreak, zCont, zDrop, zRet, zRetN, zIfS, zAsg, zAug, zAugS, zDel, zFor, zVar, zC, zOp, zUn, zNil, zCons, zAp, zMt, zB, zTr, zTruth, zAnd, zOr, zNot, zAndV, zOrV, zNotV, zIf, zTup, zLst, zDNew, zBM, zBM0, tyZ, zgName, zgNil, zgCons, zgTup, zgTupT, zgSub, zAdd, zSub, zMul, zMod, zDiv, zPow, zShl, zCmpI, zLt, zLe, zGt, zGe, zEq, zNe, zIs, zIsNot, zIn, zNotIn, zNeg, zEqN, zIsN, scalD, zInN, zIx, zSlice, zPart, zNoPart, zSl, zSet, zIAdd, zGetA, zDelI, zLenA, zListA, zTuple, zInt, zAbs, zMax2, zMin2, zAllL, zAnyL, zSumL, zMaxL, zMinL, zSorted, zAppend, zExtend, zPop, zPopAt, zReverse, zJoin, zStr1, zIsi, tyD, zCall, zLc, zLcL, zYes, ziR1, ziR2, ziR3, ziAny, ziEnum, Keep, zEnd, List.getElem?_cons_zero, List.getElem?_cons_succ, List.set_cons_zero, List.set_cons_succ, Option.some.injEq, D.int.injEq, D.ref.injEq, D.tup.injEq, D.str.injEq, D.bl.injEq, reduceCtorEq, false_and, and_false, true_and, and_true, exists_eq_left, exists_eq_left', exists_and_left, if_true, if_false, Bool.false_eq_true, ite_false, ite_true, List.cons.injEq, wipeZ, zup_same, atI_zero, atI_one, atI_lit, atI_n, ixN_zero, ixN_one, ixN_lit, ixN_n, List.length_cons, List.length_nil, Nat.reduceAdd, Nat.reduceLT, decide_eq_true_eq, List.append_nil, List.nil_append, ZO.lst.injEq, ZO.dct.injEq, seqIx_n, Bool.not_true, Bool.not_false, isE_snoc, and_assoc, or_false, false_or, exists_eq, exists_eq', isT, String.reduceBEq, Bool.and_false, Bool.and_true, Bool.false_and, Bool.true_and, Bool.or_false, Bool.or_true, Bool.true_or, Bool.false_or, natC, natC0, natC1, plain_int, plain_str, plain_non, depth_int, depth_str, depth_non, Nat.zero_le, true_or, or_true, not_true_eq_false, not_false_eq_true, Int.reduceEq, Int.reduceLT, Int.reduceLE, Int.reduceAdd, Int.reduceSub, Nat.reduceEqDiff, decide_true, decide_false]
    refine ⟨as, rfl, hl, fun p hp => ?_⟩
    obtain ⟨hp1, hpq⟩ := zup_no hp
    have hpS : S p = none := hx.sub.none hp1
    refine ⟨.lst p (said as), said as, .inl (.inl ⟨rfl, .inl zup_same⟩), .inl zup_same, ?_⟩
    refine zloop (fun rest δ' S' => (∃ a, δ' = [some (.tup as), some (.int l), some (.ref q), a]) ∧ ∃ done, said as = done ++ rest ∧ S' q = some (.dct (kvsOf ((done.filter fun s => decide (((lyOf as s).length : Int) ≤ l)).foldl addK []))) ∧ S' p = some (.lst (said as)) ∧ Ext [] S S') ?_ ?_ _ _ _ ?_
    · rintro δ' S' ⟨⟨a, rfl⟩, done, e, h1, h2, h3⟩
      rw [List.append_nil] at e
      subst e
      refine ⟨rfl, ?_, h3⟩
      rw [h1]
      unfold cand keep
      congr 4
      refine List.filter_congr fun s hs => ?_
      rw [ly_len as (said_steps ha s hs).facts.2.2.2.2.1]
    · rintro d r δ' S' N ⟨⟨a, rfl⟩, done, e, h1, h2, h3⟩ hN
      have hd : d ∈ said as := by rw [e]; simp
      have hst := said_steps ha d hd
      have e' : said as = done ++ [d] ++ r := by rw [e]; simp
      simp only [zNext, zBreak, zCont, zDrop, zRet, zRetN, zIfS, zAsg, zAug, zAugS, zDel, zFor, zVar, zC, zOp, zUn, zNil, zCons, zAp, zMt, zB, zTr, zTruth, zAnd, zOr, zNot, zAndV, zOrV, zNotV, zIf, zTup, zLst, zDNew, zBM, zBM0, tyZ, zgName, zgNil, zgCons, zgTup, zgTupT, zgSub, zAdd, zSub, zMul, zMod, zDiv, zPow, zShl, zCmpI, zLt, zLe, zGt, zGe, zEq, zNe, zIs, zIsNot, zIn, zNotIn, zNeg, zEqN, zIsN, scalD, zInN, zIx, zSlice, zPart, zNoPart, zSl, zSet, zIAdd, zGetA, zDelI, zLenA, zListA, zTuple, zInt, zAbs, zMax2, zMin2, zAllL, zAnyL, zSumL, zMaxL, zMinL, zSorted, zAppend, zExtend, zPop, zPopAt, zReverse, zJoin, zStr1, zIsi, tyD, zCall, zLc, zLcL, zYes, ziR1, ziR2, ziR3, ziAny, ziEnum, Keep, zEnd, List.getElem?_cons_zero, List.getElem?_cons_succ, List.set_cons_zero, List.set_cons_succ, Option.some.injEq, D.int.injEq, D.ref.injEq, D.tup.injEq, D.str.injEq, D.bl.injEq, reduceCtorEq, false_and, and_false, true_and, and_true, exists_eq_left, exists_eq_left', exists_and_left, if_true, if_false, Bool.false_eq_true, ite_false, ite_true, List.cons.injEq, wipeZ, zup_same, atI_zero, atI_one, atI_lit, atI_n, ixN_zero, ixN_one, ixN_lit, ixN_n, List.length_cons, List.length_nil, Nat.reduceAdd, Nat.reduceLT, decide_eq_true_eq, List.append_nil, List.nil_append, ZO.lst.injEq, ZO.dct.injEq, seqIx_n, Bool.not_true, Bool.not_false, isE_snoc, and_assoc, or_false, false_or, exists_eq, exists_eq', isT, String.reduceBEq, Bool.and_false, Bool.and_true, Bool.false_and, Bool.true_and, Bool.or_false, Bool.or_true, Bool.true_or, Bool.false_or, natC, natC0, natC1, plain_int, plain_str, plain_non, depth_int, depth_str, depth_non, Nat.zero_le, true_or, or_true, not_true_eq_false, not_false_eq_true, Int.reduceEq, Int.reduceLT, Int.reduceLE, Int.reduceAdd, Int.reduceSub, Nat.reduceEqDiff, decide_true, decide_false]
      refine ⟨as, d, rfl, hl, ha, hst, ?_⟩
      simp only [zNext, zBreak, zCont, zDrop, zRet, zRetN, zIfS, zAsg, zAug, zAugS, zDel, zFor, zVar, zC, zOp, zUn, zNil, zCons, zAp, zMt, zB, zTr, zTruth, zAnd, zOr, zNot, zAndV, zOrV, zNotV, zIf, zTup, zLst, zDNew, zBM, zBM0, tyZ, zgName, zgNil, zgCons, zgTup, zgTupT, zgSub, zAdd, zSub, zMul, zMod, zDiv, zPow, zShl, zCmpI, zLt, zLe, zGt, zGe, zEq, zNe, zIs, zIsNot, zIn, zNotIn, zNeg, zEqN, zIsN, scalD, zInN, zIx, zSlice, zPart, zNoPart, zSl, zSet, zIAdd, zGetA, zDelI, zLenA, zListA, zTuple, zInt, zAbs, zMax2, zMin2, zAllL, zAnyL, zSumL, zMaxL, zMinL, zSorted, zAppend, zExtend, zPop, zPopAt, zReverse, zJoin, zStr1, zIsi, tyD, zCall, zLc, zLcL, zYes, ziR1, ziR2, ziR3, ziAny, ziEnum, Keep, zEnd, List.getElem?_cons_zero, List.getElem?_cons_succ, List.set_cons_zero, List.set_cons_succ, Option.some.injEq, D.int.injEq, D.ref.injEq, D.tup.injEq, D.str.injEq, D.bl.injEq, reduceCtorEq, false_and, and_false, true_and, and_true, exists_eq_left, exists_eq_left', exists_and_left, if_true, if_false, Bool.false_eq_true, ite_false, ite_true, List.cons.injEq, wipeZ, zup_same, atI_zero, atI_one, atI_lit, atI_n, ixN_zero, ixN_one, ixN_lit, ixN_n, List.length_cons, List.length_nil, Nat.reduceAdd, Nat.reduceLT, decide_eq_true_eq, List.append_nil, List.nil_append, ZO.lst.injEq, ZO.dct.injEq, seqIx_n, Bool.not_true, Bool.not_false, isE_snoc, and_assoc, or_false, false_or, exists_eq, exists_eq', isT, String.reduceBEq, Bool.and_false, Bool.and_true, Bool.false_and, Bool.true_and, Bool.or_false, Bool.or_true, Bool.true_or, Bool.false_or, natC, natC0, natC1, plain_int, plain_str, plain_non, depth_int, depth_str, depth_non, Nat.zero_le, true_or, or_true, not_true_eq_false, not_false_eq_true, Int.reduceEq, Int.reduceLT, Int.reduceLE, Int.reduceAdd, Int.reduceSub, Nat.reduceEqDiff, decide_true, decide_false]
      have fin : ∀ {S'' : Store}, S'' q = some (.dct (kvsOf (((done ++ [d]).filter fun s => decide (((lyOf as s).length : Int) ≤ l)).foldl addK []))) → S'' p = some (.lst (said as)) → Ext [] S S'' → N [some (.tup as), some (.int l), some (.ref q), some d] S'' := fun g1 g2 g3 =>
        hN _ _ (.inl g2) ⟨⟨_, rfl⟩, done ++ [d], e', g1, g2, g3⟩
      have hle2 : ((done.filter fun s => decide (((lyOf as s).length : Int) ≤ l)).foldl addK []).length ≤ 1000 := by
        have go : ∀ (xs ks : List D), (xs.foldl addK ks).length ≤ ks.length + xs.length := by
          intro xs
          induction xs with
          | nil => simp
          | cons x r ih => intro ks; rw [List.foldl_cons]; have := ih (addK ks x); have : (addK ks x).length ≤ ks.length + 1 := by unfold addK; split <;> simp
                           simp only [List.length_cons]; omega
        have g1 := go (done.filter fun s => decide (((lyOf as s).length : Int) ≤ l)) []
        have g2 := List.length_filter_le (fun s => decide (((lyOf as s).length : Int) ≤ l)) done
        have g3 : done.length ≤ (said as).length := by rw [e]; simp
        simp only [List.length_nil] at g1
        omega
      split
      · rename_i hc
        simp only [zNext, zBreak, zCont, zDrop, zRet, zRetN, zIfS, zAsg, zAug, zAugS, zDel, zFor, zVar, zC, zOp, zUn, zNil, zCons, zAp, zMt, zB, zTr, zTruth, zAnd, zOr, zNot, zAndV, zOrV, zNotV, zIf, zTup, zLst, zDNew, zBM, zBM0, tyZ, zgName, zgNil, zgCons, zgTup, zgTupT, zgSub, zAdd, zSub, zMul, zMod, zDiv, zPow, zShl, zCmpI, zLt, zLe, zGt, zGe, zEq, zNe, zIs, zIsNot, zIn, zNotIn, zNeg, zEqN, zIsN, scalD, zInN, zIx, zSlice, zPart, zNoPart, zSl, zSet, zIAdd, zGetA, zDelI, zLenA, zListA, zTuple, zInt, zAbs, zMax2, zMin2, zAllL, zAnyL, zSumL, zMaxL, zMinL, zSorted, zAppend, zExtend, zPop, zPopAt, zReverse, zJoin, zStr1, zIsi, tyD, zCall, zLc, zLcL, zYes, ziR1, ziR2, ziR3, ziAny, ziEnum, Keep, zEnd, List.getElem?_cons_zero, List.getElem?_cons_succ, List.set_cons_zero, List.set_cons_succ, Option.some.injEq, D.int.injEq, D.ref.injEq, D.tup.injEq, D.str.injEq, D.bl.injEq, reduceCtorEq, false_and, and_false, true_and, and_true, exists_eq_left, exists_eq_left', exists_and_left, if_true, if_false, Bool.false_eq_true, ite_false, ite_true, List.cons.injEq, wipeZ, zup_same, atI_zero, atI_one, atI_lit, atI_n, ixN_zero, ixN_one, ixN_lit, ixN_n, List.length_cons, List.length_nil, Nat.reduceAdd, Nat.reduceLT, decide_eq_true_eq, List.append_nil, List.nil_append, ZO.lst.injEq, ZO.dct.injEq, seqIx_n, Bool.not_true, Bool.not_false, isE_snoc, and_assoc, or_false, false_or, exists_eq, exists_eq', isT, String.reduceBEq, Bool.and_false, Bool.and_true, Bool.false_and, Bool.true_and, Bool.or_false, Bool.or_true, Bool.true_or, Bool.false_or, natC, natC0, natC1, plain_int, plain_str, plain_non, depth_int, depth_str, depth_non, Nat.zero_le, true_or, or_true, not_true_eq_false, not_false_eq_true, Int.reduceEq, Int.reduceLT, Int.reduceLE, Int.reduceAdd, Int.reduceSub, Nat.reduceEqDiff, decide_true, decide_false, h1]
        refine ⟨.inr ⟨hst.facts.2.2.2.1, hst.facts.2.1, by rw [hst.facts.2.2.1]; omega, fun x hx' => ?_⟩, by unfold kvsOf; rw [List.length_map, sizeLine_eq]; omega, ?_⟩
        · obtain ⟨k, hk, rfl⟩ := List.mem_map.mp hx'
          have hk2 : k ∈ done.filter fun s => decide (((lyOf as s).length : Int) ≤ l) := by rcases mem_foldK.mp hk with h | h; exact absurd h (by simp); exact h
          exact (said_steps ha k (by rw [e]; exact List.mem_append_left _ (List.mem_filter.mp hk2).1)).facts.2.2.2.1
        · rw [put_kvs]
          refine fin ?_ (by rw [zup_ne hpq]; exact h2) (h3.upd (.inr hqS))
          rw [zup_same, List.filter_append, List.foldl_append]
          simp [hc]
      · rename_i hc
        refine fin ?_ h2 h3
        rw [h1, List.filter_append, List.foldl_append]
        simp [hc]
    · exact ⟨⟨none, rfl⟩, [], rfl, by rw [zup_of zup_same hp]; rfl, zup_same, (hx.new hq0).new hp⟩
  · rintro δ' S' ⟨hδ, h1, h2⟩
    simp only [zNext, zBreak, zCont, zDrop, zRet, zRetN, zIfS, zAsg, zAug, zAugS, zDel, zFor, zVar, zC, zOp, zUn, zNil, zCons, zAp, zMt, zB, zTr, zTruth, zAnd, zOr, zNot, zAndV, zOrV, zNotV, zIf, zTup, zLst, zDNew, zBM, zBM0, tyZ, zgName, zgNil, zgCons, zgTup, zgTupT, zgSub, zAdd, zSub, zMul, zMod, zDiv, zPow, zShl, zCmpI, zLt, zLe, zGt, zGe, zEq, zNe, zIs, zIsNot, zIn, zNotIn, zNeg, zEqN, zIsN, scalD, zInN, zIx, zSlice, zPart, zNoPart, zSl, zSet, zIAdd, zGetA, zDelI, zLenA, zListA, zTuple, zInt, zAbs, zMax2, zMin2, zAllL, zAnyL, zSumL, zMaxL, zMinL, zSorted, zAppend, zExtend, zPop, zPopAt, zReverse, zJoin, zStr1, zIsi, tyD, zCall, zLc, zLcL, zYes, ziR1, ziR2, ziR3, ziAny, ziEnum, Keep, zEnd, List.getElem?_cons_zero, List.getElem?_cons_succ, List.set_cons_zero, List.set_cons_succ, Option.some.injEq, D.int.injEq, D.ref.injEq, D.tup.injEq, D.str.injEq, D.bl.injEq, reduceCtorEq, false_and, and_false, true_and, and_true, exists_eq_left, exists_eq_left', exists_and_left, if_true, if_false, Bool.false_eq_true, ite_false, ite_true, List.cons.injEq, wipeZ, zup_same, atI_zero, atI_one, atI_lit, atI_n, ixN_zero, ixN_one, ixN_lit, ixN_n, List.length_cons, List.length_nil, Nat.reduceAdd, Nat.reduceLT, decide_eq_true_eq, List.append_nil, List.nil_append, ZO.lst.injEq, ZO.dct.injEq, seqIx_n, Bool.not_true, Bool.not_false, isE_snoc, and_assoc, or_false, false_or, exists_eq, exists_eq', isT, String.reduceBEq, Bool.and_false, Bool.and_true, Bool.false_and, Bool.true_and, Bool.or_false, Bool.or_true, Bool.true_or, Bool.false_or, natC, natC0, natC1, plain_int, plain_str, plain_non, depth_int, depth_str, depth_non, Nat.zero_le, true_or, or_true, not_true_eq_false, not_false_eq_true, Int.reduceEq, Int.reduceLT, Int.reduceLE, Int.reduceAdd, Int.reduceSub, Nat.reduceEqDiff, decide_true, decide_false, hδ]
    have hk : (kvsOf (cand (said as) l)).map (·.1) = cand (said as) l := by unfold kvsOf; rw [List.map_map]; exact List.map_id _
    refine ⟨cand (said as) l, .inr ⟨q, kvsOf (cand (said as) l), rfl, .inl h1, hk.symm⟩, steps_srt (cand_steps (said_steps ha)), fun p hp => ?_⟩
    refine ⟨.lst p (zsort (cand (said as) l)), zsort (cand (said as) l), .inl ⟨rfl, .inl zup_same⟩, S, (h2.new hp).sub, ?_⟩
    unfold poss at hq
    rw [if_neg hle] at hq
    exact hq
/-! ### trusted -/
def sp_trusted (K : PySem.W.Frag) : ZSp := fun ds S Q => ∃ (as : List D) (l : Int), ds = [.tup as, .int l] ∧ as.length ≤ 1000 ∧ (∀ x ∈ as, isAns x) ∧ Q (verd as l) S
def z_trusted (K : PySem.W.Frag) : ZTS :=
  (zSeq (zAsg (zCall (sp_possible K) [] (zCons (zVar 0) (zCons (zVar 1) zNil))) (zgName 2))
    (zSeq (zIfS (zB (zOp zIs (zVar 2) (zC .non))) (zRet (zTup (zCons (zC (.str "open")) zNil))) zNext)
    (zSeq (zIfS (zB (zOp zEq (zAp zLenA (zCons (zVar 2) zNil)) (zC (.int 0)))) (zRet (zTup (zCons (zC (.str "none")) zNil))) zNext)
    (zSeq (zIfS (zB (zOp zEq (zAp zLenA (zCons (zVar 2) zNil)) (zC (.int 1)))) (zRet (zTup (zCons (zC (.str "sure")) (zCons (zOp zIx (zVar 2) (zC (.int 0))) zNil)))) zNext)
    (zRet (zTup (zCons (zC (.str "open")) zNil)))))))

theorem law_trusted {K : PySem.W.Frag} (ds : List D) (S : Store) (Q : ZK) (h : sp_trusted K ds S Q) : z_trusted K (zEnd Q) (zstart ["answers", "liars", "steps"] ds) S := by
  obtain ⟨as, l, rfl, hl, ha, hq⟩ := h
  show z_trusted K (zEnd Q) [some (.tup as), some (.int l), none] S
  unfold z_trusted
  refine zseq_go ?_
  simp only [zNext, zBreak, zCont, zDrop, zRet, zRetN, zIfS, zAsg, zAug, zAugS, zDel, zFor, zVar, zC, zOp, zUn, zNil, zCons, zAp, zMt, zB, zTr, zTruth, zAnd, zOr, zNot, zAndV, zOrV, zNotV, zIf, zTup, zLst, zDNew, zBM, zBM0, tyZ, zgName, zgNil, zgCons, zgTup, zgTupT, zgSub, zAdd, zSub, zMul, zMod, zDiv, zPow, zShl, zCmpI, zLt, zLe, zGt, zGe, zEq, zNe, zIs, zIsNot, zIn, zNotIn, zNeg, zEqN, zIsN, scalD, zInN, zIx, zSlice, zPart, zNoPart, zSl, zSet, zIAdd, zGetA, zDelI, zLenA, zListA, zTuple, zInt, zAbs, zMax2, zMin2, zAllL, zAnyL, zSumL, zMaxL, zMinL, zSorted, zAppend, zExtend, zPop, zPopAt, zReverse, zJoin, zStr1, zIsi, tyD, zCall, zLc, zLcL, zYes, ziR1, ziR2, ziR3, ziAny, ziEnum, Keep, zEnd, List.getElem?_cons_zero, List.getElem?_cons_succ, List.set_cons_zero, List.set_cons_succ, Option.some.injEq, D.int.injEq, D.ref.injEq, D.tup.injEq, D.str.injEq, D.bl.injEq, reduceCtorEq, false_and, and_false, true_and, and_true, exists_eq_left, exists_eq_left', exists_and_left, if_true, if_false, Bool.false_eq_true, ite_false, ite_true, List.cons.injEq, wipeZ, zup_same, atI_zero, atI_one, atI_lit, atI_n, ixN_zero, ixN_one, ixN_lit, ixN_n, List.length_cons, List.length_nil, Nat.reduceAdd, Nat.reduceLT, decide_eq_true_eq, List.append_nil, List.nil_append, ZO.lst.injEq, ZO.dct.injEq, seqIx_n, Bool.not_true, Bool.not_false, isE_snoc, and_assoc, or_false, false_or, exists_eq, exists_eq', isT, String.reduceBEq, Bool.and_false, Bool.and_true, Bool.false_and, Bool.true_and, Bool.or_false, Bool.or_true, Bool.true_or, Bool.false_or, natC, natC0, natC1, plain_int, plain_str, plain_non, depth_int, depth_str, depth_non, Nat.zero_le, true_or, or_true, not_true_eq_false, not_false_eq_true, Int.reduceEq, Int.reduceLT, Int.reduceLE, Int.reduceAdd, Int.reduceSub, Nat.reduceEqDiff, decide_true, decide_false]
  refine ⟨as, l, rfl, hl, ha, ?_⟩
  unfold verd at hq
  have hp : poss as l = .non ∨ ∃ xs, poss as l = .tup xs := by unfold poss; split; exact .inl rfl; exact .inr ⟨_, rfl⟩
  rcases hp with e | ⟨xs, e⟩
  · rw [e] at hq ⊢
    refine zseq (fun _ _ => False) ?_ (fun _ _ h => h.elim)
    simp only [zNext, zBreak, zCont, zDrop, zRet, zRetN, zIfS, zAsg, zAug, zAugS, zDel, zFor, zVar, zC, zOp, zUn, zNil, zCons, zAp, zMt, zB, zTr, zTruth, zAnd, zOr, zNot, zAndV, zOrV, zNotV, zIf, zTup, zLst, zDNew, zBM, zBM0, tyZ, zgName, zgNil, zgCons, zgTup, zgTupT, zgSub, zAdd, zSub, zMul, zMod, zDiv, zPow, zShl, zCmpI, zLt, zLe, zGt, zGe, zEq, zNe, zIs, zIsNot, zIn, zNotIn, zNeg, zEqN, zIsN, scalD, zInN, zIx, zSlice, zPart, zNoPart, zSl, zSet, zIAdd, zGetA, zDelI, zLenA, zListA, zTuple, zInt, zAbs, zMax2, zMin2, zAllL, zAnyL, zSumL, zMaxL, zMinL, zSorted, zAppend, zExtend, zPop, zPopAt, zReverse, zJoin, zStr1, zIsi, tyD, zCall, zLc, zLcL, zYes, ziR1, ziR2, ziR3, ziAny, ziEnum, Keep, zEnd, List.getElem?_cons_zero, List.getElem?_cons_succ, List.set_cons_zero, List.set_cons_succ, Option.some.injEq, D.int.injEq, D.ref.injEq, D.tup.injEq, D.str.injEq, D.bl.injEq, reduceCtorEq, false_and, and_false, true_and, and_true, exists_eq_left, exists_eq_left', exists_and_left, if_true, if_false, Bool.false_eq_true, ite_false, ite_true, List.cons.injEq, wipeZ, zup_same, atI_zero, atI_one, atI_lit, atI_n, ixN_zero, ixN_one, ixN_lit, ixN_n, List.length_cons, List.length_nil, Nat.reduceAdd, Nat.reduceLT, decide_eq_true_eq, List.append_nil, List.nil_append, ZO.lst.injEq, ZO.dct.injEq, seqIx_n, Bool.not_true, Bool.not_false, isE_snoc, and_assoc, or_false, false_or, exists_eq, exists_eq', isT, String.reduceBEq, Bool.and_false, Bool.and_true, Bool.false_and, Bool.true_and, Bool.or_false, Bool.or_true, Bool.true_or, Bool.false_or, natC, natC0, natC1, plain_int, plain_str, plain_non, depth_int, depth_str, depth_non, Nat.zero_le, true_or, or_true, not_true_eq_false, not_false_eq_true, Int.reduceEq, Int.reduceLT, Int.reduceLE, Int.reduceAdd, Int.reduceSub, Nat.reduceEqDiff, decide_true, decide_false, decide_true]
    exact ⟨by decide, S, Sub.refl, hq⟩
  · rw [e] at hq ⊢
    refine zseq_go ?_
    simp only [zNext, zBreak, zCont, zDrop, zRet, zRetN, zIfS, zAsg, zAug, zAugS, zDel, zFor, zVar, zC, zOp, zUn, zNil, zCons, zAp, zMt, zB, zTr, zTruth, zAnd, zOr, zNot, zAndV, zOrV, zNotV, zIf, zTup, zLst, zDNew, zBM, zBM0, tyZ, zgName, zgNil, zgCons, zgTup, zgTupT, zgSub, zAdd, zSub, zMul, zMod, zDiv, zPow, zShl, zCmpI, zLt, zLe, zGt, zGe, zEq, zNe, zIs, zIsNot, zIn, zNotIn, zNeg, zEqN, zIsN, scalD, zInN, zIx, zSlice, zPart, zNoPart, zSl, zSet, zIAdd, zGetA, zDelI, zLenA, zListA, zTuple, zInt, zAbs, zMax2, zMin2, zAllL, zAnyL, zSumL, zMaxL, zMinL, zSorted, zAppend, zExtend, zPop, zPopAt, zReverse, zJoin, zStr1, zIsi, tyD, zCall, zLc, zLcL, zYes, ziR1, ziR2, ziR3, ziAny, ziEnum, Keep, zEnd, List.getElem?_cons_zero, List.getElem?_cons_succ, List.set_cons_zero, List.set_cons_succ, Option.some.injEq, D.int.injEq, D.ref.injEq, D.tup.injEq, D.str.injEq, D.bl.injEq, reduceCtorEq, false_and, and_false, true_and, and_true, exists_eq_left, exists_eq_left', exists_and_left, if_true, if_false, Bool.false_eq_true, ite_false, ite_true, List.cons.injEq, wipeZ, zup_same, atI_zero, atI_one, atI_lit, atI_n, ixN_zero, ixN_one, ixN_lit, ixN_n, List.length_cons, List.length_nil, Nat.reduceAdd, Nat.reduceLT, decide_eq_true_eq, List.append_nil, List.nil_append, ZO.lst.injEq, ZO.dct.injEq, seqIx_n, Bool.not_true, Bool.not_false, isE_snoc, and_assoc, or_false, false_or, exists_eq, exists_eq', isT, String.reduceBEq, Bool.and_false, Bool.and_true, Bool.false_and, Bool.true_and, Bool.or_false, Bool.or_true, Bool.true_or, Bool.false_or, natC, natC0, natC1, plain_int, plain_str, plain_non, depth_int, depth_str, depth_non, Nat.zero_le, true_or, or_true, not_true_eq_false, not_false_eq_true, Int.reduceEq, Int.reduceLT, Int.reduceLE, Int.reduceAdd, Int.reduceSub, Nat.reduceEqDiff, decide_true, decide_false, decide_false]
    match xs, hq with
    | [], hq =>
      refine zseq (fun _ _ => False) ?_ (fun _ _ h => h.elim)
      simp only [zNext, zBreak, zCont, zDrop, zRet, zRetN, zIfS, zAsg, zAug, zAugS, zDel, zFor, zVar, zC, zOp, zUn, zNil, zCons, zAp, zMt, zB, zTr, zTruth, zAnd, zOr, zNot, zAndV, zOrV, zNotV, zIf, zTup, zLst, zDNew, zBM, zBM0, tyZ, zgName, zgNil, zgCons, zgTup, zgTupT, zgSub, zAdd, zSub, zMul, zMod, zDiv, zPow, zShl, zCmpI, zLt, zLe, zGt, zGe, zEq, zNe, zIs, zIsNot, zIn, zNotIn, zNeg, zEqN, zIsN, scalD, zInN, zIx, zSlice, zPart, zNoPart, zSl, zSet, zIAdd, zGetA, zDelI, zLenA, zListA, zTuple, zInt, zAbs, zMax2, zMin2, zAllL, zAnyL, zSumL, zMaxL, zMinL, zSorted, zAppend, zExtend, zPop, zPopAt, zReverse, zJoin, zStr1, zIsi, tyD, zCall, zLc, zLcL, zYes, ziR1, ziR2, ziR3, ziAny, ziEnum, Keep, zEnd, List.getElem?_cons_zero, List.getElem?_cons_succ, List.set_cons_zero, List.set_cons_succ, Option.some.injEq, D.int.injEq, D.ref.injEq, D.tup.injEq, D.str.injEq, D.bl.injEq, reduceCtorEq, false_and, and_false, true_and, and_true, exists_eq_left, exists_eq_left', exists_and_left, if_true, if_false, Bool.false_eq_true, ite_false, ite_true, List.cons.injEq, wipeZ, zup_same, atI_zero, atI_one, atI_lit, atI_n, ixN_zero, ixN_one, ixN_lit, ixN_n, List.length_cons, List.length_nil, Nat.reduceAdd, Nat.reduceLT, decide_eq_true_eq, List.append_nil, List.nil_append, ZO.lst.injEq, ZO.dct.injEq, seqIx_n, Bool.not_true, Bool.not_false, isE_snoc, and_assoc, or_false, false_or, exists_eq, exists_eq', isT, String.reduceBEq, Bool.and_false, Bool.and_true, Bool.false_and, Bool.true_and, Bool.or_false, Bool.or_true, Bool.true_or, Bool.false_or, natC, natC0, natC1, plain_int, plain_str, plain_non, depth_int, depth_str, depth_non, Nat.zero_le, true_or, or_true, not_true_eq_false, not_false_eq_true, Int.reduceEq, Int.reduceLT, Int.reduceLE, Int.reduceAdd, Int.reduceSub, Nat.reduceEqDiff, decide_true, decide_false]
      exact ⟨by decide, S, Sub.refl, hq⟩
    | [x], hq =>
      refine zseq_go ?_
      simp only [zNext, zBreak, zCont, zDrop, zRet, zRetN, zIfS, zAsg, zAug, zAugS, zDel, zFor, zVar, zC, zOp, zUn, zNil, zCons, zAp, zMt, zB, zTr, zTruth, zAnd, zOr, zNot, zAndV, zOrV, zNotV, zIf, zTup, zLst, zDNew, zBM, zBM0, tyZ, zgName, zgNil, zgCons, zgTup, zgTupT, zgSub, zAdd, zSub, zMul, zMod, zDiv, zPow, zShl, zCmpI, zLt, zLe, zGt, zGe, zEq, zNe, zIs, zIsNot, zIn, zNotIn, zNeg, zEqN, zIsN, scalD, zInN, zIx, zSlice, zPart, zNoPart, zSl, zSet, zIAdd, zGetA, zDelI, zLenA, zListA, zTuple, zInt, zAbs, zMax2, zMin2, zAllL, zAnyL, zSumL, zMaxL, zMinL, zSorted, zAppend, zExtend, zPop, zPopAt, zReverse, zJoin, zStr1, zIsi, tyD, zCall, zLc, zLcL, zYes, ziR1, ziR2, ziR3, ziAny, ziEnum, Keep, zEnd, List.getElem?_cons_zero, List.getElem?_cons_succ, List.set_cons_zero, List.set_cons_succ, Option.some.injEq, D.int.injEq, D.ref.injEq, D.tup.injEq, D.str.injEq, D.bl.injEq, reduceCtorEq, false_and, and_false, true_and, and_true, exists_eq_left, exists_eq_left', exists_and_left, if_true, if_false, Bool.false_eq_true, ite_false, ite_true, List.cons.injEq, wipeZ, zup_same, atI_zero, atI_one, atI_lit, atI_n, ixN_zero, ixN_one, ixN_lit, ixN_n, List.length_cons, List.length_nil, Nat.reduceAdd, Nat.reduceLT, decide_eq_true_eq, List.append_nil, List.nil_append, ZO.lst.injEq, ZO.dct.injEq, seqIx_n, Bool.not_true, Bool.not_false, isE_snoc, and_assoc, or_false, false_or, exists_eq, exists_eq', isT, String.reduceBEq, Bool.and_false, Bool.and_true, Bool.false_and, Bool.true_and, Bool.or_false, Bool.or_true, Bool.true_or, Bool.false_or, natC, natC0, natC1, plain_int, plain_str, plain_non, depth_int, depth_str, depth_non, Nat.zero_le, true_or, or_true, not_true_eq_false, not_false_eq_true, Int.reduceEq, Int.reduceLT, Int.reduceLE, Int.reduceAdd, Int.reduceSub, Nat.reduceEqDiff, decide_true, decide_false]
      refine zseq (fun _ _ => False) ?_ (fun _ _ h => h.elim)
      simp only [zNext, zBreak, zCont, zDrop, zRet, zRetN, zIfS, zAsg, zAug, zAugS, zDel, zFor, zVar, zC, zOp, zUn, zNil, zCons, zAp, zMt, zB, zTr, zTruth, zAnd, zOr, zNot, zAndV, zOrV, zNotV, zIf, zTup, zLst, zDNew, zBM, zBM0, tyZ, zgName, zgNil, zgCons, zgTup, zgTupT, zgSub, zAdd, zSub, zMul, zMod, zDiv, zPow, zShl, zCmpI, zLt, zLe, zGt, zGe, zEq, zNe, zIs, zIsNot, zIn, zNotIn, zNeg, zEqN, zIsN, scalD, zInN, zIx, zSlice, zPart, zNoPart, zSl, zSet, zIAdd, zGetA, zDelI, zLenA, zListA, zTuple, zInt, zAbs, zMax2, zMin2, zAllL, zAnyL, zSumL, zMaxL, zMinL, zSorted, zAppend, zExtend, zPop, zPopAt, zReverse, zJoin, zStr1, zIsi, tyD, zCall, zLc, zLcL, zYes, ziR1, ziR2, ziR3, ziAny, ziEnum, Keep, zEnd, List.getElem?_cons_zero, List.getElem?_cons_succ, List.set_cons_zero, List.set_cons_succ, Option.some.injEq, D.int.injEq, D.ref.injEq, D.tup.injEq, D.str.injEq, D.bl.injEq, reduceCtorEq, false_and, and_false, true_and, and_true, exists_eq_left, exists_eq_left', exists_and_left, if_true, if_false, Bool.false_eq_true, ite_false, ite_true, List.cons.injEq, wipeZ, zup_same, atI_zero, atI_one, atI_lit, atI_n, ixN_zero, ixN_one, ixN_lit, ixN_n, List.length_cons, List.length_nil, Nat.reduceAdd, Nat.reduceLT, decide_eq_true_eq, List.append_nil, List.nil_append, ZO.lst.injEq, ZO.dct.injEq, seqIx_n, Bool.not_true, Bool.not_false, isE_snoc, and_assoc, or_false, false_or, exists_eq, exists_eq', isT, String.reduceBEq, Bool.and_false, Bool.and_true, Bool.false_and, Bool.true_and, Bool.or_false, Bool.or_true, Bool.true_or, Bool.false_or, natC, natC0, natC1, plain_int, plain_str, plain_non, depth_int, depth_str, depth_non, Nat.zero_le, true_or, or_true, not_true_eq_false, not_false_eq_true, Int.reduceEq, Int.reduceLT, Int.reduceLE, Int.reduceAdd, Int.reduceSub, Nat.reduceEqDiff, decide_true, decide_false]
      exact ⟨by decide, S, Sub.refl, hq⟩
    | x :: y :: r, hq =>
      have h2 : ¬ (((r.length + 1 + 1 : Nat) : Int) = 0) := by omega
      have h3 : ¬ (((r.length + 1 + 1 : Nat) : Int) = 1) := by omega
      refine zseq_go ?_
      simp only [zNext, zBreak, zCont, zDrop, zRet, zRetN, zIfS, zAsg, zAug, zAugS, zDel, zFor, zVar, zC, zOp, zUn, zNil, zCons, zAp, zMt, zB, zTr, zTruth, zAnd, zOr, zNot, zAndV, zOrV, zNotV, zIf, zTup, zLst, zDNew, zBM, zBM0, tyZ, zgName, zgNil, zgCons, zgTup, zgTupT, zgSub, zAdd, zSub, zMul, zMod, zDiv, zPow, zShl, zCmpI, zLt, zLe, zGt, zGe, zEq, zNe, zIs, zIsNot, zIn, zNotIn, zNeg, zEqN, zIsN, scalD, zInN, zIx, zSlice, zPart, zNoPart, zSl, zSet, zIAdd, zGetA, zDelI, zLenA, zListA, zTuple, zInt, zAbs, zMax2, zMin2, zAllL, zAnyL, zSumL, zMaxL, zMinL, zSorted, zAppend, zExtend, zPop, zPopAt, zReverse, zJoin, zStr1, zIsi, tyD, zCall, zLc, zLcL, zYes, ziR1, ziR2, ziR3, ziAny, ziEnum, Keep, zEnd, List.getElem?_cons_zero, List.getElem?_cons_succ, List.set_cons_zero, List.set_cons_succ, Option.some.injEq, D.int.injEq, D.ref.injEq, D.tup.injEq, D.str.injEq, D.bl.injEq, reduceCtorEq, false_and, and_false, true_and, and_true, exists_eq_left, exists_eq_left', exists_and_left, if_true, if_false, Bool.false_eq_true, ite_false, ite_true, List.cons.injEq, wipeZ, zup_same, atI_zero, atI_one, atI_lit, atI_n, ixN_zero, ixN_one, ixN_lit, ixN_n, List.length_cons, List.length_nil, Nat.reduceAdd, Nat.reduceLT, decide_eq_true_eq, List.append_nil, List.nil_append, ZO.lst.injEq, ZO.dct.injEq, seqIx_n, Bool.not_true, Bool.not_false, isE_snoc, and_assoc, or_false, false_or, exists_eq, exists_eq', isT, String.reduceBEq, Bool.and_false, Bool.and_true, Bool.false_and, Bool.true_and, Bool.or_false, Bool.or_true, Bool.true_or, Bool.false_or, natC, natC0, natC1, plain_int, plain_str, plain_non, depth_int, depth_str, depth_non, Nat.zero_le, true_or, or_true, not_true_eq_false, not_false_eq_true, Int.reduceEq, Int.reduceLT, Int.reduceLE, Int.reduceAdd, Int.reduceSub, Nat.reduceEqDiff, decide_true, decide_false, h2]
      refine zseq_go ?_
      simp only [zNext, zBreak, zCont, zDrop, zRet, zRetN, zIfS, zAsg, zAug, zAugS, zDel, zFor, zVar, zC, zOp, zUn, zNil, zCons, zAp, zMt, zB, zTr, zTruth, zAnd, zOr, zNot, zAndV, zOrV, zNotV, zIf, zTup, zLst, zDNew, zBM, zBM0, tyZ, zgName, zgNil, zgCons, zgTup, zgTupT, zgSub, zAdd, zSub, zMul, zMod, zDiv, zPow, zShl, zCmpI, zLt, zLe, zGt, zGe, zEq, zNe, zIs, zIsNot, zIn, zNotIn, zNeg, zEqN, zIsN, scalD, zInN, zIx, zSlice, zPart, zNoPart, zSl, zSet, zIAdd, zGetA, zDelI, zLenA, zListA, zTuple, zInt, zAbs, zMax2, zMin2, zAllL, zAnyL, zSumL, zMaxL, zMinL, zSorted, zAppend, zExtend, zPop, zPopAt, zReverse, zJoin, zStr1, zIsi, tyD, zCall, zLc, zLcL, zYes, ziR1, ziR2, ziR3, ziAny, ziEnum, Keep, zEnd, List.getElem?_cons_zero, List.getElem?_cons_succ, List.set_cons_zero, List.set_cons_succ, Option.some.injEq, D.int.injEq, D.ref.injEq, D.tup.injEq, D.str.injEq, D.bl.injEq, reduceCtorEq, false_and, and_false, true_and, and_true, exists_eq_left, exists_eq_left', exists_and_left, if_true, if_false, Bool.false_eq_true, ite_false, ite_true, List.cons.injEq, wipeZ, zup_same, atI_zero, atI_one, atI_lit, atI_n, ixN_zero, ixN_one, ixN_lit, ixN_n, List.length_cons, List.length_nil, Nat.reduceAdd, Nat.reduceLT, decide_eq_true_eq, List.append_nil, List.nil_append, ZO.lst.injEq, ZO.dct.injEq, seqIx_n, Bool.not_true, Bool.not_false, isE_snoc, and_assoc, or_false, false_or, exists_eq, exists_eq', isT, String.reduceBEq, Bool.and_false, Bool.and_true, Bool.false_and, Bool.true_and, Bool.or_false, Bool.or_true, Bool.true_or, Bool.false_or, natC, natC0, natC1, plain_int, plain_str, plain_non, depth_int, depth_str, depth_non, Nat.zero_le, true_or, or_true, not_true_eq_false, not_false_eq_true, Int.reduceEq, Int.reduceLT, Int.reduceLE, Int.reduceAdd, Int.reduceSub, Nat.reduceEqDiff, decide_true, decide_false, h3]
      exact ⟨by decide, S, Sub.refl, hq⟩

/-! ### lies -/
def sp_lies (K : PySem.W.Frag) : ZSp := fun ds S Q => ∃ (as : List D) (l : Int) (s : D), ds = [.tup as, .int l, s] ∧ as.length ≤ 1000 ∧ (∀ x ∈ as, isAns x) ∧ isStep s ∧ Q (liesOf as l s) S
def z_lies (K : PySem.W.Frag) : ZTS :=
  (zSeq (zAsg (zCall (sp_lying_places K) [] (zCons (zVar 0) (zCons (zVar 2) zNil))) (zgName 3))
    (zSeq (zIfS (zB (zOp zGt (zAp zLenA (zCons (zVar 3) zNil)) (zVar 1))) (zRet (zC .non)) zNext)
    (zRet (zVar 3))))

theorem law_lies {K : PySem.W.Frag} (ds : List D) (S : Store) (Q : ZK) (h : sp_lies K ds S Q) : z_lies K (zEnd Q) (zstart ["answers", "liars", "step", "places"] ds) S := by
  obtain ⟨as, l, s, rfl, hl, ha, hs, hq⟩ := h
  show z_lies K (zEnd Q) [some (.tup as), some (.int l), some s, none] S
  unfold z_lies
  refine zseq_go ?_
  simp only [zNext, zBreak, zCont, zDrop, zRet, zRetN, zIfS, zAsg, zAug, zAugS, zDel, zFor, zVar, zC, zOp, zUn, zNil, zCons, zAp, zMt, zB, zTr, zTruth, zAnd, zOr, zNot, zAndV, zOrV, zNotV, zIf, zTup, zLst, zDNew, zBM, zBM0, tyZ, zgName, zgNil, zgCons, zgTup, zgTupT, zgSub, zAdd, zSub, zMul, zMod, zDiv, zPow, zShl, zCmpI, zLt, zLe, zGt, zGe, zEq, zNe, zIs, zIsNot, zIn, zNotIn, zNeg, zEqN, zIsN, scalD, zInN, zIx, zSlice, zPart, zNoPart, zSl, zSet, zIAdd, zGetA, zDelI, zLenA, zListA, zTuple, zInt, zAbs, zMax2, zMin2, zAllL, zAnyL, zSumL, zMaxL, zMinL, zSorted, zAppend, zExtend, zPop, zPopAt, zReverse, zJoin, zStr1, zIsi, tyD, zCall, zLc, zLcL, zYes, ziR1, ziR2, ziR3, ziAny, ziEnum, Keep, zEnd, List.getElem?_cons_zero, List.getElem?_cons_succ, List.set_cons_zero, List.set_cons_succ, Option.some.injEq, D.int.injEq, D.ref.injEq, D.tup.injEq, D.str.injEq, D.bl.injEq, reduceCtorEq, false_and, and_false, true_and, and_true, exists_eq_left, exists_eq_left', exists_and_left, if_true, if_false, Bool.false_eq_true, ite_false, ite_true, List.cons.injEq, wipeZ, zup_same, atI_zero, atI_one, atI_lit, atI_n, ixN_zero, ixN_one, ixN_lit, ixN_n, List.length_cons, List.length_nil, Nat.reduceAdd, Nat.reduceLT, decide_eq_true_eq, List.append_nil, List.nil_append, ZO.lst.injEq, ZO.dct.injEq, seqIx_n, Bool.not_true, Bool.not_false, isE_snoc, and_assoc, or_false, false_or, exists_eq, exists_eq', isT, String.reduceBEq, Bool.and_false, Bool.and_true, Bool.false_and, Bool.true_and, Bool.or_false, Bool.or_true, Bool.true_or, Bool.false_or, natC, natC0, natC1, plain_int, plain_str, plain_non, depth_int, depth_str, depth_non, Nat.zero_le, true_or, or_true, not_true_eq_false, not_false_eq_true, Int.reduceEq, Int.reduceLT, Int.reduceLE, Int.reduceAdd, Int.reduceSub, Nat.reduceEqDiff, decide_true, decide_false]
  refine ⟨as, s, rfl, hl, ha, hs, ?_⟩
  unfold liesOf at hq
  by_cases h : ((lyOf as s).length : Int) ≤ l
  · rw [if_pos h] at hq
    refine zseq_go ?_
    simp only [zNext, zBreak, zCont, zDrop, zRet, zRetN, zIfS, zAsg, zAug, zAugS, zDel, zFor, zVar, zC, zOp, zUn, zNil, zCons, zAp, zMt, zB, zTr, zTruth, zAnd, zOr, zNot, zAndV, zOrV, zNotV, zIf, zTup, zLst, zDNew, zBM, zBM0, tyZ, zgName, zgNil, zgCons, zgTup, zgTupT, zgSub, zAdd, zSub, zMul, zMod, zDiv, zPow, zShl, zCmpI, zLt, zLe, zGt, zGe, zEq, zNe, zIs, zIsNot, zIn, zNotIn, zNeg, zEqN, zIsN, scalD, zInN, zIx, zSlice, zPart, zNoPart, zSl, zSet, zIAdd, zGetA, zDelI, zLenA, zListA, zTuple, zInt, zAbs, zMax2, zMin2, zAllL, zAnyL, zSumL, zMaxL, zMinL, zSorted, zAppend, zExtend, zPop, zPopAt, zReverse, zJoin, zStr1, zIsi, tyD, zCall, zLc, zLcL, zYes, ziR1, ziR2, ziR3, ziAny, ziEnum, Keep, zEnd, List.getElem?_cons_zero, List.getElem?_cons_succ, List.set_cons_zero, List.set_cons_succ, Option.some.injEq, D.int.injEq, D.ref.injEq, D.tup.injEq, D.str.injEq, D.bl.injEq, reduceCtorEq, false_and, and_false, true_and, and_true, exists_eq_left, exists_eq_left', exists_and_left, if_true, if_false, Bool.false_eq_true, ite_false, ite_true, List.cons.injEq, wipeZ, zup_same, atI_zero, atI_one, atI_lit, atI_n, ixN_zero, ixN_one, ixN_lit, ixN_n, List.length_cons, List.length_nil, Nat.reduceAdd, Nat.reduceLT, decide_eq_true_eq, List.append_nil, List.nil_append, ZO.lst.injEq, ZO.dct.injEq, seqIx_n, Bool.not_true, Bool.not_false, isE_snoc, and_assoc, or_false, false_or, exists_eq, exists_eq', isT, String.reduceBEq, Bool.and_false, Bool.and_true, Bool.false_and, Bool.true_and, Bool.or_false, Bool.or_true, Bool.true_or, Bool.false_or, natC, natC0, natC1, plain_int, plain_str, plain_non, depth_int, depth_str, depth_non, Nat.zero_le, true_or, or_true, not_true_eq_false, not_false_eq_true, Int.reduceEq, Int.reduceLT, Int.reduceLE, Int.reduceAdd, Int.reduceSub, Nat.reduceEqDiff, decide_true, decide_false, show ¬ (l < ((lyOf as s).length : Int)) by omega]
    exact ⟨S, Sub.refl, hq⟩
  · rw [if_neg h] at hq
    refine zseq (fun _ _ => False) ?_ (fun _ _ h => h.elim)
    simp only [zNext, zBreak, zCont, zDrop, zRet, zRetN, zIfS, zAsg, zAug, zAugS, zDel, zFor, zVar, zC, zOp, zUn, zNil, zCons, zAp, zMt, zB, zTr, zTruth, zAnd, zOr, zNot, zAndV, zOrV, zNotV, zIf, zTup, zLst, zDNew, zBM, zBM0, tyZ, zgName, zgNil, zgCons, zgTup, zgTupT, zgSub, zAdd, zSub, zMul, zMod, zDiv, zPow, zShl, zCmpI, zLt, zLe, zGt, zGe, zEq, zNe, zIs, zIsNot, zIn, zNotIn, zNeg, zEqN, zIsN, scalD, zInN, zIx, zSlice, zPart, zNoPart, zSl, zSet, zIAdd, zGetA, zDelI, zLenA, zListA, zTuple, zInt, zAbs, zMax2, zMin2, zAllL, zAnyL, zSumL, zMaxL, zMinL, zSorted, zAppend, zExtend, zPop, zPopAt, zReverse, zJoin, zStr1, zIsi, tyD, zCall, zLc, zLcL, zYes, ziR1, ziR2, ziR3, ziAny, ziEnum, Keep, zEnd, List.getElem?_cons_zero, List.getElem?_cons_succ, List.set_cons_zero, List.set_cons_succ, Option.some.injEq, D.int.injEq, D.ref.injEq, D.tup.injEq, D.str.injEq, D.bl.injEq, reduceCtorEq, false_and, and_false, true_and, and_true, exists_eq_left, exists_eq_left', exists_and_left, if_true, if_false, Bool.false_eq_true, ite_false, ite_true, List.cons.injEq, wipeZ, zup_same, atI_zero, atI_one, atI_lit, atI_n, ixN_zero, ixN_one, ixN_lit, ixN_n, List.length_cons, List.length_nil, Nat.reduceAdd, Nat.reduceLT, decide_eq_true_eq, List.append_nil, List.nil_append, ZO.lst.injEq, ZO.dct.injEq, seqIx_n, Bool.not_true, Bool.not_false, isE_snoc, and_assoc, or_false, false_or, exists_eq, exists_eq', isT, String.reduceBEq, Bool.and_false, Bool.and_true, Bool.false_and, Bool.true_and, Bool.or_false, Bool.or_true, Bool.true_or, Bool.false_or, natC, natC0, natC1, plain_int, plain_str, plain_non, depth_int, depth_str, depth_non, Nat.zero_le, true_or, or_true, not_true_eq_false, not_false_eq_true, Int.reduceEq, Int.reduceLT, Int.reduceLE, Int.reduceAdd, Int.reduceSub, Nat.reduceEqDiff, decide_true, decide_false, show (l < ((lyOf as s).length : Int)) by omega]
    exact ⟨S, Sub.refl, hq⟩

/-! ### asked_in_turn -/
def sp_asked_in_turn (K : PySem.W.Frag) : ZSp := fun ds S Q => ∃ (as : List D) (l : Int), ds = [.tup as, .int l] ∧ as.length ≤ 1000 ∧ (∀ x ∈ as, isAns x) ∧ Q (askedOf as l) S
def z_asked_in_turn (K : PySem.W.Frag) : ZTS :=
  (zSeq (zFor (ziR2 (zCons (zC (.int 1)) (zCons (zOp zAdd (zAp zLenA (zCons (zVar 0) zNil)) (zC (.int 1))) zNil))) (zgName 2) (zIfS (zB (zOp zEq (zOp zIx (zCall (sp_trusted K) [] (zCons (zSlice (zVar 0) zNoPart (zPart (zVar 2))) (zCons (zVar 1) zNil))) (zC (.int 0))) (zC (.str "sure")))) (zRet (zVar 2)) zNext))
    (zRet (zC .non)))

theorem verd_tup (as : List D) (l : Int) : ∃ t r, verd as l = .tup (.str t :: r) := by
  unfold verd
  split <;> exact ⟨_, _, rfl⟩
theorem law_asked_in_turn {K : PySem.W.Frag} (ds : List D) (S : Store) (Q : ZK) (h : sp_asked_in_turn K ds S Q) : z_asked_in_turn K (zEnd Q) (zstart ["answers", "liars", "many"] ds) S := by
  obtain ⟨as, l, rfl, hl, ha, hq⟩ := h
  show z_asked_in_turn K (zEnd Q) [some (.tup as), some (.int l), none] S
  unfold z_asked_in_turn
  refine zseq (fun δ' S' => S' = S ∧ askedOf as l = .non) ?_ ?_
  · simp only [zNext, zBreak, zCont, zDrop, zRet, zRetN, zIfS, zAsg, zAug, zAugS, zDel, zFor, zVar, zC, zOp, zUn, zNil, zCons, zAp, zMt, zB, zTr, zTruth, zAnd, zOr, zNot, zAndV, zOrV, zNotV, zIf, zTup, zLst, zDNew, zBM, zBM0, tyZ, zgName, zgNil, zgCons, zgTup, zgTupT, zgSub, zAdd, zSub, zMul, zMod, zDiv, zPow, zShl, zCmpI, zLt, zLe, zGt, zGe, zEq, zNe, zIs, zIsNot, zIn, zNotIn, zNeg, zEqN, zIsN, scalD, zInN, zIx, zSlice, zPart, zNoPart, zSl, zSet, zIAdd, zGetA, zDelI, zLenA, zListA, zTuple, zInt, zAbs, zMax2, zMin2, zAllL, zAnyL, zSumL, zMaxL, zMinL, zSorted, zAppend, zExtend, zPop, zPopAt, zReverse, zJoin, zStr1, zIsi, tyD, zCall, zLc, zLcL, zYes, ziR1, ziR2, ziR3, ziAny, ziEnum, Keep, zEnd, List.getElem?_cons_zero, List.getElem?_cons_succ, List.set_cons_zero, List.set_cons_succ, Option.some.injEq, D.int.injEq, D.ref.injEq, D.tup.injEq, D.str.injEq, D.bl.injEq, reduceCtorEq, false_and, and_false, true_and, and_true, exists_eq_left, exists_eq_left', exists_and_left, if_true, if_false, Bool.false_eq_true, ite_false, ite_true, List.cons.injEq, wipeZ, zup_same, atI_zero, atI_one, atI_lit, atI_n, ixN_zero, ixN_one, ixN_lit, ixN_n, List.length_cons, List.length_nil, Nat.reduceAdd, Nat.reduceLT, decide_eq_true_eq, List.append_nil, List.nil_append, ZO.lst.injEq, ZO.dct.injEq, seqIx_n, Bool.not_true, Bool.not_false, isE_snoc, and_assoc, or_false, false_or, exists_eq, exists_eq', isT, String.reduceBEq, Bool.and_false, Bool.and_true, Bool.false_and, Bool.true_and, Bool.or_false, Bool.or_true, Bool.true_or, Bool.false_or, natC, natC0, natC1, plain_int, plain_str, plain_non, depth_int, depth_str, depth_non, Nat.zero_le, true_or, or_true, not_true_eq_false, not_false_eq_true, Int.reduceEq, Int.reduceLT, Int.reduceLE, Int.reduceAdd, Int.reduceSub, Nat.reduceEqDiff, decide_true, decide_false]
    refine ⟨by omega, by omega, by omega, by omega, ?_⟩
    have e0 : ((as.length : Int) + 1 - 1).toNat = as.length := by omega
    rw [e0]
    refine zloop (fun rest δ' S' => S' = S ∧ (∃ a, δ' = [some (.tup as), some (.int l), a]) ∧ ∃ n, n + rest.length = as.length ∧ rest = rangeD (1 + (n : Int)) rest.length ∧ ∀ i, i < n → isSure (verd (as.take (i + 1)) l) = false) ?_ ?_ _ _ _ ?_
    · rintro δ' S' ⟨rfl, _, n, h1, h2, h3⟩
      refine ⟨rfl, ?_⟩
      unfold askedOf
      rw [List.find?_range_eq_none.mpr]
      intro i hi
      simp [h3 i (by simp at h1; omega)]
    · rintro d r δ' S' N ⟨rfl, ⟨a, rfl⟩, n, h1, h2, h3⟩ hN
      simp only [List.length_cons] at h1 h2
      have hd : d = .int ((n + 1 : Nat) : Int) ∧ r = rangeD (1 + ((n + 1 : Nat) : Int)) r.length := by
        unfold rangeD at h2 ⊢
        rw [List.range_succ_eq_map, List.map_cons] at h2
        obtain ⟨e1, e2⟩ := List.cons.inj h2
        refine ⟨by rw [e1]; congr 1; simp; omega, ?_⟩
        rw [List.map_map] at e2
        rw [e2]
        simp only [List.length_map, List.length_range]
        refine List.map_congr_left fun i _ => ?_
        simp
        omega
      obtain ⟨rfl, hr⟩ := hd
      simp only [zNext, zBreak, zCont, zDrop, zRet, zRetN, zIfS, zAsg, zAug, zAugS, zDel, zFor, zVar, zC, zOp, zUn, zNil, zCons, zAp, zMt, zB, zTr, zTruth, zAnd, zOr, zNot, zAndV, zOrV, zNotV, zIf, zTup, zLst, zDNew, zBM, zBM0, tyZ, zgName, zgNil, zgCons, zgTup, zgTupT, zgSub, zAdd, zSub, zMul, zMod, zDiv, zPow, zShl, zCmpI, zLt, zLe, zGt, zGe, zEq, zNe, zIs, zIsNot, zIn, zNotIn, zNeg, zEqN, zIsN, scalD, zInN, zIx, zSlice, zPart, zNoPart, zSl, zSet, zIAdd, zGetA, zDelI, zLenA, zListA, zTuple, zInt, zAbs, zMax2, zMin2, zAllL, zAnyL, zSumL, zMaxL, zMinL, zSorted, zAppend, zExtend, zPop, zPopAt, zReverse, zJoin, zStr1, zIsi, tyD, zCall, zLc, zLcL, zYes, ziR1, ziR2, ziR3, ziAny, ziEnum, Keep, zEnd, List.getElem?_cons_zero, List.getElem?_cons_succ, List.set_cons_zero, List.set_cons_succ, Option.some.injEq, D.int.injEq, D.ref.injEq, D.tup.injEq, D.str.injEq, D.bl.injEq, reduceCtorEq, false_and, and_false, true_and, and_true, exists_eq_left, exists_eq_left', exists_and_left, if_true, if_false, Bool.false_eq_true, ite_false, ite_true, List.cons.injEq, wipeZ, zup_same, atI_zero, atI_one, atI_lit, atI_n, ixN_zero, ixN_one, ixN_lit, ixN_n, List.length_cons, List.length_nil, Nat.reduceAdd, Nat.reduceLT, decide_eq_true_eq, List.append_nil, List.nil_append, ZO.lst.injEq, ZO.dct.injEq, seqIx_n, Bool.not_true, Bool.not_false, isE_snoc, and_assoc, or_false, false_or, exists_eq, exists_eq', isT, String.reduceBEq, Bool.and_false, Bool.and_true, Bool.false_and, Bool.true_and, Bool.or_false, Bool.or_true, Bool.true_or, Bool.false_or, natC, natC0, natC1, plain_int, plain_str, plain_non, depth_int, depth_str, depth_non, Nat.zero_le, true_or, or_true, not_true_eq_false, not_false_eq_true, Int.reduceEq, Int.reduceLT, Int.reduceLE, Int.reduceAdd, Int.reduceSub, Nat.reduceEqDiff, decide_true, decide_false]
      refine ⟨as.take (n + 1), l, by rw [cutD_to], by simp; omega, fun x hx => ha x (List.mem_of_mem_take hx), ?_⟩
      obtain ⟨t, rr, hv⟩ := verd_tup (as.take (n + 1)) l
      rw [hv]
      have hsure : isSure (verd (as.take (n + 1)) l) = decide (t = "sure") := by rw [hv]; rfl
      simp only [zNext, zBreak, zCont, zDrop, zRet, zRetN, zIfS, zAsg, zAug, zAugS, zDel, zFor, zVar, zC, zOp, zUn, zNil, zCons, zAp, zMt, zB, zTr, zTruth, zAnd, zOr, zNot, zAndV, zOrV, zNotV, zIf, zTup, zLst, zDNew, zBM, zBM0, tyZ, zgName, zgNil, zgCons, zgTup, zgTupT, zgSub, zAdd, zSub, zMul, zMod, zDiv, zPow, zShl, zCmpI, zLt, zLe, zGt, zGe, zEq, zNe, zIs, zIsNot, zIn, zNotIn, zNeg, zEqN, zIsN, scalD, zInN, zIx, zSlice, zPart, zNoPart, zSl, zSet, zIAdd, zGetA, zDelI, zLenA, zListA, zTuple, zInt, zAbs, zMax2, zMin2, zAllL, zAnyL, zSumL, zMaxL, zMinL, zSorted, zAppend, zExtend, zPop, zPopAt, zReverse, zJoin, zStr1, zIsi, tyD, zCall, zLc, zLcL, zYes, ziR1, ziR2, ziR3, ziAny, ziEnum, Keep, zEnd, List.getElem?_cons_zero, List.getElem?_cons_succ, List.set_cons_zero, List.set_cons_succ, Option.some.injEq, D.int.injEq, D.ref.injEq, D.tup.injEq, D.str.injEq, D.bl.injEq, reduceCtorEq, false_and, and_false, true_and, and_true, exists_eq_left, exists_eq_left', exists_and_left, if_true, if_false, Bool.false_eq_true, ite_false, ite_true, List.cons.injEq, wipeZ, zup_same, atI_zero, atI_one, atI_lit, atI_n, ixN_zero, ixN_one, ixN_lit, ixN_n, List.length_cons, List.length_nil, Nat.reduceAdd, Nat.reduceLT, decide_eq_true_eq, List.append_nil, List.nil_append, ZO.lst.injEq, ZO.dct.injEq, seqIx_n, Bool.not_true, Bool.not_false, isE_snoc, and_assoc, or_false, false_or, exists_eq, exists_eq', isT, String.reduceBEq, Bool.and_false, Bool.and_true, Bool.false_and, Bool.true_and, Bool.or_false, Bool.or_true, Bool.true_or, Bool.false_or, natC, natC0, natC1, plain_int, plain_str, plain_non, depth_int, depth_str, depth_non, Nat.zero_le, true_or, or_true, not_true_eq_false, not_false_eq_true, Int.reduceEq, Int.reduceLT, Int.reduceLE, Int.reduceAdd, Int.reduceSub, Nat.reduceEqDiff, decide_true, decide_false, List.getElem?_cons_zero]
      by_cases ht : t = "sure"
      · simp only [zNext, zBreak, zCont, zDrop, zRet, zRetN, zIfS, zAsg, zAug, zAugS, zDel, zFor, zVar, zC, zOp, zUn, zNil, zCons, zAp, zMt, zB, zTr, zTruth, zAnd, zOr, zNot, zAndV, zOrV, zNotV, zIf, zTup, zLst, zDNew, zBM, zBM0, tyZ, zgName, zgNil, zgCons, zgTup, zgTupT, zgSub, zAdd, zSub, zMul, zMod, zDiv, zPow, zShl, zCmpI, zLt, zLe, zGt, zGe, zEq, zNe, zIs, zIsNot, zIn, zNotIn, zNeg, zEqN, zIsN, scalD, zInN, zIx, zSlice, zPart, zNoPart, zSl, zSet, zIAdd, zGetA, zDelI, zLenA, zListA, zTuple, zInt, zAbs, zMax2, zMin2, zAllL, zAnyL, zSumL, zMaxL, zMinL, zSorted, zAppend, zExtend, zPop, zPopAt, zReverse, zJoin, zStr1, zIsi, tyD, zCall, zLc, zLcL, zYes, ziR1, ziR2, ziR3, ziAny, ziEnum, Keep, zEnd, List.getElem?_cons_zero, List.getElem?_cons_succ, List.set_cons_zero, List.set_cons_succ, Option.some.injEq, D.int.injEq, D.ref.injEq, D.tup.injEq, D.str.injEq, D.bl.injEq, reduceCtorEq, false_and, and_false, true_and, and_true, exists_eq_left, exists_eq_left', exists_and_left, if_true, if_false, Bool.false_eq_true, ite_false, ite_true, List.cons.injEq, wipeZ, zup_same, atI_zero, atI_one, atI_lit, atI_n, ixN_zero, ixN_one, ixN_lit, ixN_n, List.length_cons, List.length_nil, Nat.reduceAdd, Nat.reduceLT, decide_eq_true_eq, List.append_nil, List.nil_append, ZO.lst.injEq, ZO.dct.injEq, seqIx_n, Bool.not_true, Bool.not_false, isE_snoc, and_assoc, or_false, false_or, exists_eq, exists_eq', isT, String.reduceBEq, Bool.and_false, Bool.and_true, Bool.false_and, Bool.true_and, Bool.or_false, Bool.or_true, Bool.true_or, Bool.false_or, natC, natC0, natC1, plain_int, plain_str, plain_non, depth_int, depth_str, depth_non, Nat.zero_le, true_or, or_true, not_true_eq_false, not_false_eq_true, Int.reduceEq, Int.reduceLT, Int.reduceLE, Int.reduceAdd, Int.reduceSub, Nat.reduceEqDiff, decide_true, decide_false, ht]
        refine ⟨_, Sub.refl, ?_⟩
        unfold askedOf at hq
        rw [List.find?_range_eq_some.mpr ⟨by rw [hsure, ht]; rfl, by simp; omega, fun i hi => by simp [h3 i hi]⟩] at hq
        exact hq
      · simp only [zNext, zBreak, zCont, zDrop, zRet, zRetN, zIfS, zAsg, zAug, zAugS, zDel, zFor, zVar, zC, zOp, zUn, zNil, zCons, zAp, zMt, zB, zTr, zTruth, zAnd, zOr, zNot, zAndV, zOrV, zNotV, zIf, zTup, zLst, zDNew, zBM, zBM0, tyZ, zgName, zgNil, zgCons, zgTup, zgTupT, zgSub, zAdd, zSub, zMul, zMod, zDiv, zPow, zShl, zCmpI, zLt, zLe, zGt, zGe, zEq, zNe, zIs, zIsNot, zIn, zNotIn, zNeg, zEqN, zIsN, scalD, zInN, zIx, zSlice, zPart, zNoPart, zSl, zSet, zIAdd, zGetA, zDelI, zLenA, zListA, zTuple, zInt, zAbs, zMax2, zMin2, zAllL, zAnyL, zSumL, zMaxL, zMinL, zSorted, zAppend, zExtend, zPop, zPopAt, zReverse, zJoin, zStr1, zIsi, tyD, zCall, zLc, zLcL, zYes, ziR1, ziR2, ziR3, ziAny, ziEnum, Keep, zEnd, List.getElem?_cons_zero, List.getElem?_cons_succ, List.set_cons_zero, List.set_cons_succ, Option.some.injEq, D.int.injEq, D.ref.injEq, D.tup.injEq, D.str.injEq, D.bl.injEq, reduceCtorEq, false_and, and_false, true_and, and_true, exists_eq_left, exists_eq_left', exists_and_left, if_true, if_false, Bool.false_eq_true, ite_false, ite_true, List.cons.injEq, wipeZ, zup_same, atI_zero, atI_one, atI_lit, atI_n, ixN_zero, ixN_one, ixN_lit, ixN_n, List.length_cons, List.length_nil, Nat.reduceAdd, Nat.reduceLT, decide_eq_true_eq, List.append_nil, List.nil_append, ZO.lst.injEq, ZO.dct.injEq, seqIx_n, Bool.not_true, Bool.not_false, isE_snoc, and_assoc, or_false, false_or, exists_eq, exists_eq', isT, String.reduceBEq, Bool.and_false, Bool.and_true, Bool.false_and, Bool.true_and, Bool.or_false, Bool.or_true, Bool.true_or, Bool.false_or, natC, natC0, natC1, plain_int, plain_str, plain_non, depth_int, depth_str, depth_non, Nat.zero_le, true_or, or_true, not_true_eq_false, not_false_eq_true, Int.reduceEq, Int.reduceLT, Int.reduceLE, Int.reduceAdd, Int.reduceSub, Nat.reduceEqDiff, decide_true, decide_false, ht]
        refine hN _ _ trivial ⟨rfl, ⟨_, rfl⟩, n + 1, by omega, hr, fun i hi => ?_⟩
        by_cases hin : i < n
        · exact h3 i hin
        · have : i = n := by omega
          subst this
          rw [hsure]; simp [ht]
    · exact ⟨rfl, ⟨none, rfl⟩, 0, by rw [rangeD_len]; simp, by rw [rangeD_len]; rfl, by simp⟩
  · rintro δ' S' ⟨rfl, e⟩
    rw [e] at hq
    simp only [zNext, zBreak, zCont, zDrop, zRet, zRetN, zIfS, zAsg, zAug, zAugS, zDel, zFor, zVar, zC, zOp, zUn, zNil, zCons, zAp, zMt, zB, zTr, zTruth, zAnd, zOr, zNot, zAndV, zOrV, zNotV, zIf, zTup, zLst, zDNew, zBM, zBM0, tyZ, zgName, zgNil, zgCons, zgTup, zgTupT, zgSub, zAdd, zSub, zMul, zMod, zDiv, zPow, zShl, zCmpI, zLt, zLe, zGt, zGe, zEq, zNe, zIs, zIsNot, zIn, zNotIn, zNeg, zEqN, zIsN, scalD, zInN, zIx, zSlice, zPart, zNoPart, zSl, zSet, zIAdd, zGetA, zDelI, zLenA, zListA, zTuple, zInt, zAbs, zMax2, zMin2, zAllL, zAnyL, zSumL, zMaxL, zMinL, zSorted, zAppend, zExtend, zPop, zPopAt, zReverse, zJoin, zStr1, zIsi, tyD, zCall, zLc, zLcL, zYes, ziR1, ziR2, ziR3, ziAny, ziEnum, Keep, zEnd, List.getElem?_cons_zero, List.getElem?_cons_succ, List.set_cons_zero, List.set_cons_succ, Option.some.injEq, D.int.injEq, D.ref.injEq, D.tup.injEq, D.str.injEq, D.bl.injEq, reduceCtorEq, false_and, and_false, true_and, and_true, exists_eq_left, exists_eq_left', exists_and_left, if_true, if_false, Bool.false_eq_true, ite_false, ite_true, List.cons.injEq, wipeZ, zup_same, atI_zero, atI_one, atI_lit, atI_n, ixN_zero, ixN_one, ixN_lit, ixN_n, List.length_cons, List.length_nil, Nat.reduceAdd, Nat.reduceLT, decide_eq_true_eq, List.append_nil, List.nil_append, ZO.lst.injEq, ZO.dct.injEq, seqIx_n, Bool.not_true, Bool.not_false, isE_snoc, and_assoc, or_false, false_or, exists_eq, exists_eq', isT, String.reduceBEq, Bool.and_false, Bool.and_true, Bool.false_and, Bool.true_and, Bool.or_false, Bool.or_true, Bool.true_or, Bool.false_or, natC, natC0, natC1, plain_int, plain_str, plain_non, depth_int, depth_str, depth_non, Nat.zero_le, true_or, or_true, not_true_eq_false, not_false_eq_true, Int.reduceEq, Int.reduceLT, Int.reduceLE, Int.reduceAdd, Int.reduceSub, Nat.reduceEqDiff, decide_true, decide_false]
    exact ⟨_, Sub.refl, hq⟩
end K70
namespace ZH
open PySem PySem.Spec PyProof.Rows L2 Z
/-- what a def that draws has come to -/
def At (S : Store) (a : Addr) (bn : Addr × List Int) (S1 : Store) : Prop := Ext [a] S S1 ∧ Dr S1 a bn
section
variable {S S1 S2 : Store} {a p c : Addr} {bn : Addr × List Int} {o z : ZO}
theorem At.refl (h : Dr S a bn) : At S a bn S := ⟨Ext.refl, h⟩
theorem At.draw (h : At S a bn S1) (d : DrN S1 S2 a bn) : At S a bn S2 := ⟨h.1.trans d.ext, d.2⟩
theorem At.new (h : At S a bn S1) (hp : S1 p = none) : At S a bn (zup S1 p o) :=
  ⟨h.1.new hp, h.2.of (zup_ne fun e => h.2.some.1 (by rw [e]; exact hp)) (zup_ne fun e => h.2.some.2 (by rw [e]; exact hp))⟩
theorem At.upd (h : At S a bn S1) (hp : S p = none) (hd : Dr S a bn) : At S a bn (zup S1 p o) :=
  ⟨h.1.upd (.inr hp), h.2.of (zup_ne fun e => hd.some.1 (by rw [e]; exact hp)) (zup_ne fun e => hd.some.2 (by rw [e]; exact hp))⟩
theorem At.fin (h : At S a bn S1) (hd : Dr S a bn) : DrN S (cutS1 [a] S S1) a bn ∧ Z.Sub (cutS1 [a] S S1) S1 := drn_end hd h.1 h.2
theorem At.at (h : At S a bn S1) (hc : c ≠ a) (e : S c = some z) : S1 c = some z := h.1 c z (by simpa using hc) e
theorem At.none (h : At S a bn S1) (hp : S1 p = Option.none) (hd : Dr S a bn) : S p = Option.none := by
  by_cases e : p = a
  · subst e; exact absurd hp h.2.some.1
  · cases q : S p with
    | none => rfl
    | some z => rw [h.at e q] at hp; cases hp
theorem DrN.at (h : DrN S S1 a bn) (hc : c ≠ a) (e : S c = some z) : S1 c = some z := (h.1 c hc).trans e
theorem Dr.ne (hd : Dr S a bn) (hp : S p = Option.none) : p ≠ a := fun e => hd.some.1 (by rw [← e]; exact hp)
/-- the end of a def that returns no object -/
theorem At.ret {Q : Store → Prop} (h : At S a bn S1) (hd : Dr S a bn) (hq : ∀ S2, DrN S S2 a bn → Q S2) : ∃ S2, Z.Sub S2 S1 ∧ Q S2 := ⟨_, (h.fin hd).2, hq _ (h.fin hd).1⟩
/-- .. that returns a new list -/
theorem At.retL {Q : Store → Prop} (h : At S a bn S1) (hd : Dr S a bn) (hp : S p = Option.none) (e : S1 p = Option.some o) (hq : ∀ S2, DrN S S2 a bn → S2 p = Option.none → Q (zup S2 p o)) : ∃ S2, Z.Sub S2 S1 ∧ Q S2 := by
  refine ⟨_, ?_, hq _ (h.fin hd).1 ((h.fin hd).1.none hd hp)⟩
  intro x u q
  by_cases hx : x = p
  · subst hx; rw [zup_same] at q; rw [← q]; exact e
  · rw [zup_ne hx] at q; exact (h.fin hd).2 x u q
end
theorem cutS_len (z : Str) (lo hi : Option Int) : (cutS z lo hi).length ≤ z.length := by
  unfold cutS
  show (List.toArray _).size ≤ z.length
  rw [List.size_toArray, List.length_take, List.length_drop]
  have : z.cps.toList.length = z.length := rfl
  omega
theorem sumOnes : ∀ cs : List Nat, (cs.map fun _ => 1).sum = cs.length
  | [] => rfl
  | _ :: r => by rw [List.map_cons, List.sum_cons, sumOnes r, List.length_cons, Nat.add_comm]
theorem joinOne (cs : List Nat) : (Txt.join "" (cs.map fun c => (⟨#[c]⟩ : Str))).length = cs.length := by
  have e : (cs.map fun c => (⟨#[c]⟩ : Str)) = (cs.map fun c => [c]).map SX.S := by rw [List.map_map]; rfl
  have e2 : ("" : Str) = SX.S [] := rfl
  rw [e, e2, SX.join_S, SX.S_len]
  induction cs with
  | nil => rfl
  | cons c r ih =>
    cases r with
    | nil => rfl
    | cons d r => simp [TL.joinL] at ih ⊢; exact ih
end ZH
namespace K70
open PySem PySem.Spec PyProof.Rows L2 Z ZH
/-! ### _law_string -/
def sp__law_string (K : PySem.W.Frag) : ZSp := fun ds S Q => ∃ (a : Addr) (bn : Addr × List Int), ds = [.ref a] ∧ Dr S a bn ∧ ∀ w S1, w.length ≤ 40 → DrN S S1 a bn → Q (.str w) S1
def z__law_string (K : PySem.W.Frag) : ZTS :=
  (zSeq (zAsg (zC (.str "abcdefghijklmnopqrstuvwxyzABCXYZ0189 _-+.,:;!?()[]{}<>=/'\"&#@*\n\t")) (zgName 1))
    (zSeq (zAsg (zCall (sp__law_pick K) [] (zCons (zVar 0) (zCons (zLst (zCons (zC (.int 0)) (zCons (zC (.int 1)) (zCons (zC (.int 2)) (zCons (zC (.int 3)) (zCons (zC (.int 8)) (zCons (zC (.int 9)) (zCons (zC (.int 11)) (zCons (zC (.int 12)) (zCons (zC (.int 14)) (zCons (zC (.int 40)) (zCons (zC (.int 40)) zNil)))))))))))) zNil))) (zgName 2))
    (zRet (zBM "str" (zJoin K) (zC (.str "")) (zCons (zLc (ziR1 (zCons (zVar 2) zNil)) (zgName 3) zYes (zOp zIx (zVar 1) (zCall (sp__law_draw K) [] (zCons (zVar 0) (zCons (zAp zLenA (zCons (zVar 1) zNil)) zNil)))) [3]) zNil)))))

theorem law_string {K : PySem.W.Frag} (ds : List D) (S : Store) (Q : ZK) (h : sp__law_string K ds S Q) : z__law_string K (zEnd Q) (zstart ["d", "signs", "size", "k"] ds) S := by
  obtain ⟨a, bn, rfl, hd, hq⟩ := h
  show z__law_string K (zEnd Q) [some (.ref a), none, none, none] S
  unfold z__law_string
  refine zseq_go ?_
  have hsg : (Str.ofString "abcdefghijklmnopqrstuvwxyzABCXYZ0189 _-+.,:;!?()[]{}<>=/'\"&#@*\n\t").length = 64 := by decide +kernel
  generalize Str.ofString "abcdefghijklmnopqrstuvwxyzABCXYZ0189 _-+.,:;!?()[]{}<>=/'\"&#@*\n\t" = sg at hsg ⊢
  simp only [zNext, zBreak, zCont, zDrop, zRet, zRetN, zIfS, zAsg, zAug, zAugS, zDel, zFor, zVar, zC, zOp, zUn, zNil, zCons, zAp, zMt, zB, zTr, zTruth, zAnd, zOr, zNot, zAndV, zOrV, zNotV, zIf, zTup, zLst, zDNew, zBM, zBM0, tyZ, zgName, zgNil, zgCons, zgTup, zgTupT, zgSub, zAdd, zSub, zMul, zMod, zDiv, zPow, zShl, zCmpI, zLt, zLe, zGt, zGe, zEq, zNe, zIs, zIsNot, zIn, zNotIn, zNeg, zEqN, zIsN, scalD, zInN, zIx, zSlice, zPart, zNoPart, zSl, zSet, zIAdd, zGetA, zDelI, zLenA, zListA, zTuple, zInt, zAbs, zMax2, zMin2, zAllL, zAnyL, zSumL, zMaxL, zMinL, zSorted, zAppend, zExtend, zPop, zPopAt, zReverse, zJoin, zStr1, zIsi, tyD, zCall, zLc, zLcL, zYes, ziR1, ziR2, ziR3, ziAny, ziEnum, Keep, zEnd, List.getElem?_cons_zero, List.getElem?_cons_succ, List.set_cons_zero, List.set_cons_succ, Option.some.injEq, D.int.injEq, D.ref.injEq, D.tup.injEq, D.str.injEq, D.bl.injEq, reduceCtorEq, false_and, and_false, true_and, and_true, exists_eq_left, exists_eq_left', exists_and_left, if_true, if_false, Bool.false_eq_true, ite_false, ite_true, List.cons.injEq, wipeZ, zup_same, atI_zero, atI_one, atI_lit, atI_n, ixN_zero, ixN_one, ixN_lit, ixN_n, List.length_cons, List.length_nil, Nat.reduceAdd, Nat.reduceLT, decide_eq_true_eq, List.append_nil, List.nil_append, ZO.lst.injEq, ZO.dct.injEq, seqIx_n, Bool.not_true, Bool.not_false, isE_snoc, and_assoc, or_false, false_or, exists_eq, exists_eq', isT, String.reduceBEq, Bool.and_false, Bool.and_true, Bool.false_and, Bool.true_and, Bool.or_false, Bool.or_true, Bool.true_or, Bool.false_or, natC, natC0, natC1, plain_int, plain_str, plain_non, depth_int, depth_str, depth_non, Nat.zero_le, true_or, or_true, not_true_eq_false, not_false_eq_true, Int.reduceEq, Int.reduceLT, Int.reduceLE, Int.reduceAdd, Int.reduceSub, Nat.reduceEqDiff, decide_true, decide_false]
  refine zseq (fun δ' S' => ∃ n : Int, δ' = [some (.ref a), some (.str sg), some (.int n), none] ∧ 0 ≤ n ∧ n ≤ 40 ∧ At S a bn S') ?_ ?_
  · simp only [zNext, zBreak, zCont, zDrop, zRet, zRetN, zIfS, zAsg, zAug, zAugS, zDel, zFor, zVar, zC, zOp, zUn, zNil, zCons, zAp, zMt, zB, zTr, zTruth, zAnd, zOr, zNot, zAndV, zOrV, zNotV, zIf, zTup, zLst, zDNew, zBM, zBM0, tyZ, zgName, zgNil, zgCons, zgTup, zgTupT, zgSub, zAdd, zSub, zMul, zMod, zDiv, zPow, zShl, zCmpI, zLt, zLe, zGt, zGe, zEq, zNe, zIs, zIsNot, zIn, zNotIn, zNeg, zEqN, zIsN, scalD, zInN, zIx, zSlice, zPart, zNoPart, zSl, zSet, zIAdd, zGetA, zDelI, zLenA, zListA, zTuple, zInt, zAbs, zMax2, zMin2, zAllL, zAnyL, zSumL, zMaxL, zMinL, zSorted, zAppend, zExtend, zPop, zPopAt, zReverse, zJoin, zStr1, zIsi, tyD, zCall, zLc, zLcL, zYes, ziR1, ziR2, ziR3, ziAny, ziEnum, Keep, zEnd, List.getElem?_cons_zero, List.getElem?_cons_succ, List.set_cons_zero, List.set_cons_succ, Option.some.injEq, D.int.injEq, D.ref.injEq, D.tup.injEq, D.str.injEq, D.bl.injEq, reduceCtorEq, false_and, and_false, true_and, and_true, exists_eq_left, exists_eq_left', exists_and_left, if_true, if_false, Bool.false_eq_true, ite_false, ite_true, List.cons.injEq, wipeZ, zup_same, atI_zero, atI_one, atI_lit, atI_n, ixN_zero, ixN_one, ixN_lit, ixN_n, List.length_cons, List.length_nil, Nat.reduceAdd, Nat.reduceLT, decide_eq_true_eq, List.append_nil, List.nil_append, ZO.lst.injEq, ZO.dct.injEq, seqIx_n, Bool.not_true, Bool.not_false, isE_snoc, and_assoc, or_false, false_or, exists_eq, exists_eq', isT, String.reduceBEq, Bool.and_false, Bool.and_true, Bool.false_and, Bool.true_and, Bool.or_false, Bool.or_true, Bool.true_or, Bool.false_or, natC, natC0, natC1, plain_int, plain_str, plain_non, depth_int, depth_str, depth_non, Nat.zero_le, true_or, or_true, not_true_eq_false, not_false_eq_true, Int.reduceEq, Int.reduceLT, Int.reduceLE, Int.reduceAdd, Int.reduceSub, Nat.reduceEqDiff, decide_true, decide_false]
    refine ⟨by decide, fun p hp => ⟨a, bn, .ref p, _, rfl, .inr ⟨p, rfl, zup_same⟩, fun e => hd.ne hp (by cases e; rfl), (At.new (At.refl hd) hp).2, by decide, by decide, fun x S1 hx hdn => ?_⟩⟩
    have ha := ((At.refl hd).new hp).draw hdn
    simp only [List.mem_cons, List.not_mem_nil, or_false] at hx
    rcases hx with rfl | rfl | rfl | rfl | rfl | rfl | rfl | rfl | rfl | rfl | rfl <;> exact ⟨_, rfl, by decide, by decide, ha⟩
  · rintro _ S1 ⟨n, rfl, n0, n1, ha⟩
    simp only [zNext, zBreak, zCont, zDrop, zRet, zRetN, zIfS, zAsg, zAug, zAugS, zDel, zFor, zVar, zC, zOp, zUn, zNil, zCons, zAp, zMt, zB, zTr, zTruth, zAnd, zOr, zNot, zAndV, zOrV, zNotV, zIf, zTup, zLst, zDNew, zBM, zBM0, tyZ, zgName, zgNil, zgCons, zgTup, zgTupT, zgSub, zAdd, zSub, zMul, zMod, zDiv, zPow, zShl, zCmpI, zLt, zLe, zGt, zGe, zEq, zNe, zIs, zIsNot, zIn, zNotIn, zNeg, zEqN, zIsN, scalD, zInN, zIx, zSlice, zPart, zNoPart, zSl, zSet, zIAdd, zGetA, zDelI, zLenA, zListA, zTuple, zInt, zAbs, zMax2, zMin2, zAllL, zAnyL, zSumL, zMaxL, zMinL, zSorted, zAppend, zExtend, zPop, zPopAt, zReverse, zJoin, zStr1, zIsi, tyD, zCall, zLc, zLcL, zYes, ziR1, ziR2, ziR3, ziAny, ziEnum, Keep, zEnd, List.getElem?_cons_zero, List.getElem?_cons_succ, List.set_cons_zero, List.set_cons_succ, Option.some.injEq, D.int.injEq, D.ref.injEq, D.tup.injEq, D.str.injEq, D.bl.injEq, reduceCtorEq, false_and, and_false, true_and, and_true, exists_eq_left, exists_eq_left', exists_and_left, if_true, if_false, Bool.false_eq_true, ite_false, ite_true, List.cons.injEq, wipeZ, zup_same, atI_zero, atI_one, atI_lit, atI_n, ixN_zero, ixN_one, ixN_lit, ixN_n, List.length_cons, List.length_nil, Nat.reduceAdd, Nat.reduceLT, decide_eq_true_eq, List.append_nil, List.nil_append, ZO.lst.injEq, ZO.dct.injEq, seqIx_n, Bool.not_true, Bool.not_false, isE_snoc, and_assoc, or_false, false_or, exists_eq, exists_eq', isT, String.reduceBEq, Bool.and_false, Bool.and_true, Bool.false_and, Bool.true_and, Bool.or_false, Bool.or_true, Bool.true_or, Bool.false_or, natC, natC0, natC1, plain_int, plain_str, plain_non, depth_int, depth_str, depth_non, Nat.zero_le, true_or, or_true, not_true_eq_false, not_false_eq_true, Int.reduceEq, Int.reduceLT, Int.reduceLE, Int.reduceAdd, Int.reduceSub, Nat.reduceEqDiff, decide_true, decide_false]
    refine ⟨by omega, by omega, ?_⟩
    refine zlcl (fun rest acc S' => At S a bn S' ∧ ∃ cs : List Nat, acc = cs.map (fun c => D.str ⟨#[c]⟩) ∧ cs.length + rest.length = n.toNat) ?_ ?_ _ _ _ ?_
    · rintro acc S' ⟨ha, cs, rfl, hl⟩ p hp
      refine ⟨.lst p _, cs.map fun c => ⟨#[c]⟩, .inl ⟨rfl, .inl (by rw [zup_same, List.map_map]; rfl)⟩, ?_, ?_⟩
      · have h1 : ((cs.map fun c => (⟨#[c]⟩ : Str)).map (·.length)) = cs.map fun _ => 1 := by rw [List.map_map]; rfl
        rw [h1]
        rw [sumOnes]
        simp at hl ⊢
        show cs.length + cs.length * 0 ≤ 16777216
        omega
      · exact (ha.new hp).ret hd fun S2 h2 => hq _ _ (by rw [joinOne]; simp at hl; omega) h2
    · rintro d r acc S' N ⟨ha, cs, rfl, hl⟩ hN
      simp only [zNext, zBreak, zCont, zDrop, zRet, zRetN, zIfS, zAsg, zAug, zAugS, zDel, zFor, zVar, zC, zOp, zUn, zNil, zCons, zAp, zMt, zB, zTr, zTruth, zAnd, zOr, zNot, zAndV, zOrV, zNotV, zIf, zTup, zLst, zDNew, zBM, zBM0, tyZ, zgName, zgNil, zgCons, zgTup, zgTupT, zgSub, zAdd, zSub, zMul, zMod, zDiv, zPow, zShl, zCmpI, zLt, zLe, zGt, zGe, zEq, zNe, zIs, zIsNot, zIn, zNotIn, zNeg, zEqN, zIsN, scalD, zInN, zIx, zSlice, zPart, zNoPart, zSl, zSet, zIAdd, zGetA, zDelI, zLenA, zListA, zTuple, zInt, zAbs, zMax2, zMin2, zAllL, zAnyL, zSumL, zMaxL, zMinL, zSorted, zAppend, zExtend, zPop, zPopAt, zReverse, zJoin, zStr1, zIsi, tyD, zCall, zLc, zLcL, zYes, ziR1, ziR2, ziR3, ziAny, ziEnum, Keep, zEnd, List.getElem?_cons_zero, List.getElem?_cons_succ, List.set_cons_zero, List.set_cons_succ, Option.some.injEq, D.int.injEq, D.ref.injEq, D.tup.injEq, D.str.injEq, D.bl.injEq, reduceCtorEq, false_and, and_false, true_and, and_true, exists_eq_left, exists_eq_left', exists_and_left, if_true, if_false, Bool.false_eq_true, ite_false, ite_true, List.cons.injEq, wipeZ, zup_same, atI_zero, atI_one, atI_lit, atI_n, ixN_zero, ixN_one, ixN_lit, ixN_n, List.length_cons, List.length_nil, Nat.reduceAdd, Nat.reduceLT, decide_eq_true_eq, List.append_nil, List.nil_append, ZO.lst.injEq, ZO.dct.injEq, seqIx_n, Bool.not_true, Bool.not_false, isE_snoc, and_assoc, or_false, false_or, exists_eq, exists_eq', isT, String.reduceBEq, Bool.and_false, Bool.and_true, Bool.false_and, Bool.true_and, Bool.or_false, Bool.or_true, Bool.true_or, Bool.false_or, natC, natC0, natC1, plain_int, plain_str, plain_non, depth_int, depth_str, depth_non, Nat.zero_le, true_or, or_true, not_true_eq_false, not_false_eq_true, Int.reduceEq, Int.reduceLT, Int.reduceLE, Int.reduceAdd, Int.reduceSub, Nat.reduceEqDiff, decide_true, decide_false]
      refine ⟨by rw [sizeLine_eq]; omega, a, bn, 64, by rw [hsg]; rfl, by omega, by omega, ha.2, fun x S2 x0 x1 hdn => ?_⟩
      obtain ⟨i, rfl⟩ := Int.eq_ofNat_of_zero_le x0
      have hi : i < sg.cps.toList.length := by have : sg.cps.toList.length = sg.length := rfl; omega
      simp only [zNext, zBreak, zCont, zDrop, zRet, zRetN, zIfS, zAsg, zAug, zAugS, zDel, zFor, zVar, zC, zOp, zUn, zNil, zCons, zAp, zMt, zB, zTr, zTruth, zAnd, zOr, zNot, zAndV, zOrV, zNotV, zIf, zTup, zLst, zDNew, zBM, zBM0, tyZ, zgName, zgNil, zgCons, zgTup, zgTupT, zgSub, zAdd, zSub, zMul, zMod, zDiv, zPow, zShl, zCmpI, zLt, zLe, zGt, zGe, zEq, zNe, zIs, zIsNot, zIn, zNotIn, zNeg, zEqN, zIsN, scalD, zInN, zIx, zSlice, zPart, zNoPart, zSl, zSet, zIAdd, zGetA, zDelI, zLenA, zListA, zTuple, zInt, zAbs, zMax2, zMin2, zAllL, zAnyL, zSumL, zMaxL, zMinL, zSorted, zAppend, zExtend, zPop, zPopAt, zReverse, zJoin, zStr1, zIsi, tyD, zCall, zLc, zLcL, zYes, ziR1, ziR2, ziR3, ziAny, ziEnum, Keep, zEnd, List.getElem?_cons_zero, List.getElem?_cons_succ, List.set_cons_zero, List.set_cons_succ, Option.some.injEq, D.int.injEq, D.ref.injEq, D.tup.injEq, D.str.injEq, D.bl.injEq, reduceCtorEq, false_and, and_false, true_and, and_true, exists_eq_left, exists_eq_left', exists_and_left, if_true, if_false, Bool.false_eq_true, ite_false, ite_true, List.cons.injEq, wipeZ, zup_same, atI_zero, atI_one, atI_lit, atI_n, ixN_zero, ixN_one, ixN_lit, ixN_n, List.length_cons, List.length_nil, Nat.reduceAdd, Nat.reduceLT, decide_eq_true_eq, List.append_nil, List.nil_append, ZO.lst.injEq, ZO.dct.injEq, seqIx_n, Bool.not_true, Bool.not_false, isE_snoc, and_assoc, or_false, false_or, exists_eq, exists_eq', isT, String.reduceBEq, Bool.and_false, Bool.and_true, Bool.false_and, Bool.true_and, Bool.or_false, Bool.or_true, Bool.true_or, Bool.false_or, natC, natC0, natC1, plain_int, plain_str, plain_non, depth_int, depth_str, depth_non, Nat.zero_le, true_or, or_true, not_true_eq_false, not_false_eq_true, Int.reduceEq, Int.reduceLT, Int.reduceLE, Int.reduceAdd, Int.reduceSub, Nat.reduceEqDiff, decide_true, decide_false, List.getElem?_eq_getElem hi]
      refine ⟨by rw [sizeLine_eq]; omega, by simp at hl ⊢; rw [sizeLine_eq]; omega, hN _ _ trivial ⟨ha.draw hdn, cs ++ [sg.cps.toList[i]], by simp, by simp at hl ⊢; omega⟩⟩
    · exact ⟨ha, [], rfl, by rw [rangeD_len]; simp⟩

/-! ### _law_near_string -/
def sp__law_near_string (K : PySem.W.Frag) : ZSp := fun ds S Q => ∃ (a : Addr) (bn : Addr × List Int) (word : Str), ds = [.ref a, .str word] ∧ word.length ≤ 40 ∧ Dr S a bn ∧ ∀ w S1, DrN S S1 a bn → Q (.str w) S1
def z__law_near_string (K : PySem.W.Frag) : ZTS :=
  (zSeq (zAsg (zCall (sp__law_draw K) [] (zCons (zVar 0) (zCons (zC (.int 5)) zNil))) (zgName 2))
    (zSeq (zAsg (zCall (sp__law_draw K) [] (zCons (zVar 0) (zCons (zOp zAdd (zAp zLenA (zCons (zVar 1) zNil)) (zC (.int 1))) zNil))) (zgName 3))
    (zSeq (zAsg (zOp zIx (zC (.str "abxyzQ7 ")) (zCall (sp__law_draw K) [] (zCons (zVar 0) (zCons (zC (.int 8)) zNil)))) (zgName 4))
    (zSeq (zIfS (zB (zOp zEq (zVar 2) (zC (.int 0)))) (zRet (zOp zAdd (zSlice (zVar 1) zNoPart (zPart (zC (.int 40)))) (zVar 4))) zNext)
    (zSeq (zIfS (zB (zOp zEq (zVar 2) (zC (.int 1)))) (zRet (zSlice (zVar 1) zNoPart (zPart (zUn zNeg (zC (.int 1)))))) zNext)
    (zSeq (zIfS (zB (zOp zEq (zVar 2) (zC (.int 2)))) (zRet (zIf (zB (zOp zNe (zBM0 "str" (zStr1 5592405 fun z => .str (Txt.upper z)) (zVar 1)) (zVar 1))) (zBM0 "str" (zStr1 5592405 fun z => .str (Txt.upper z)) (zVar 1)) (zBM0 "str" (zStr1 5592405 fun z => .str (Txt.lower z)) (zVar 1)))) zNext)
    (zRet (zOp zAdd (zOp zAdd (zSlice (zVar 1) zNoPart (zPart (zVar 3))) (zVar 4)) (zSlice (zVar 1) (zPart (zOp zAdd (zVar 3) (zC (.int 1)))) zNoPart)))))))))

theorem law_near_string {K : PySem.W.Frag} (ds : List D) (S : Store) (Q : ZK) (h : sp__law_near_string K ds S Q) : z__law_near_string K (zEnd Q) (zstart ["d", "word", "way", "at", "sign"] ds) S := by
  obtain ⟨a, bn, word, rfl, hw, hd, hq⟩ := h
  show z__law_near_string K (zEnd Q) [some (.ref a), some (.str word), none, none, none] S
  unfold z__law_near_string
  have hsz : word.length ≤ sizeLine := by rw [sizeLine_eq]; omega
  refine zseq_go ?_
  simp only [zNext, zBreak, zCont, zDrop, zRet, zRetN, zIfS, zAsg, zAug, zAugS, zDel, zFor, zVar, zC, zOp, zUn, zNil, zCons, zAp, zMt, zB, zTr, zTruth, zAnd, zOr, zNot, zAndV, zOrV, zNotV, zIf, zTup, zLst, zDNew, zBM, zBM0, tyZ, zgName, zgNil, zgCons, zgTup, zgTupT, zgSub, zAdd, zSub, zMul, zMod, zDiv, zPow, zShl, zCmpI, zLt, zLe, zGt, zGe, zEq, zNe, zIs, zIsNot, zIn, zNotIn, zNeg, zEqN, zIsN, scalD, zInN, zIx, zSlice, zPart, zNoPart, zSl, zSet, zIAdd, zGetA, zDelI, zLenA, zListA, zTuple, zInt, zAbs, zMax2, zMin2, zAllL, zAnyL, zSumL, zMaxL, zMinL, zSorted, zAppend, zExtend, zPop, zPopAt, zReverse, zJoin, zStr1, zIsi, tyD, zCall, zLc, zLcL, zYes, ziR1, ziR2, ziR3, ziAny, ziEnum, Keep, zEnd, List.getElem?_cons_zero, List.getElem?_cons_succ, List.set_cons_zero, List.set_cons_succ, Option.some.injEq, D.int.injEq, D.ref.injEq, D.tup.injEq, D.str.injEq, D.bl.injEq, reduceCtorEq, false_and, and_false, true_and, and_true, exists_eq_left, exists_eq_left', exists_and_left, if_true, if_false, Bool.false_eq_true, ite_false, ite_true, List.cons.injEq, wipeZ, zup_same, atI_zero, atI_one, atI_lit, atI_n, ixN_zero, ixN_one, ixN_lit, ixN_n, List.length_cons, List.length_nil, Nat.reduceAdd, Nat.reduceLT, decide_eq_true_eq, List.append_nil, List.nil_append, ZO.lst.injEq, ZO.dct.injEq, seqIx_n, Bool.not_true, Bool.not_false, isE_snoc, and_assoc, or_false, false_or, exists_eq, exists_eq', isT, String.reduceBEq, Bool.and_false, Bool.and_true, Bool.false_and, Bool.true_and, Bool.or_false, Bool.or_true, Bool.true_or, Bool.false_or, natC, natC0, natC1, plain_int, plain_str, plain_non, depth_int, depth_str, depth_non, Nat.zero_le, true_or, or_true, not_true_eq_false, not_false_eq_true, Int.reduceEq, Int.reduceLT, Int.reduceLE, Int.reduceAdd, Int.reduceSub, Nat.reduceEqDiff, decide_true, decide_false]
  refine ⟨a, bn, 5, rfl, by omega, by omega, hd, fun way S1 _ _ h1 => ?_⟩
  refine zseq_go ?_
  simp only [zNext, zBreak, zCont, zDrop, zRet, zRetN, zIfS, zAsg, zAug, zAugS, zDel, zFor, zVar, zC, zOp, zUn, zNil, zCons, zAp, zMt, zB, zTr, zTruth, zAnd, zOr, zNot, zAndV, zOrV, zNotV, zIf, zTup, zLst, zDNew, zBM, zBM0, tyZ, zgName, zgNil, zgCons, zgTup, zgTupT, zgSub, zAdd, zSub, zMul, zMod, zDiv, zPow, zShl, zCmpI, zLt, zLe, zGt, zGe, zEq, zNe, zIs, zIsNot, zIn, zNotIn, zNeg, zEqN, zIsN, scalD, zInN, zIx, zSlice, zPart, zNoPart, zSl, zSet, zIAdd, zGetA, zDelI, zLenA, zListA, zTuple, zInt, zAbs, zMax2, zMin2, zAllL, zAnyL, zSumL, zMaxL, zMinL, zSorted, zAppend, zExtend, zPop, zPopAt, zReverse, zJoin, zStr1, zIsi, tyD, zCall, zLc, zLcL, zYes, ziR1, ziR2, ziR3, ziAny, ziEnum, Keep, zEnd, List.getElem?_cons_zero, List.getElem?_cons_succ, List.set_cons_zero, List.set_cons_succ, Option.some.injEq, D.int.injEq, D.ref.injEq, D.tup.injEq, D.str.injEq, D.bl.injEq, reduceCtorEq, false_and, and_false, true_and, and_true, exists_eq_left, exists_eq_left', exists_and_left, if_true, if_false, Bool.false_eq_true, ite_false, ite_true, List.cons.injEq, wipeZ, zup_same, atI_zero, atI_one, atI_lit, atI_n, ixN_zero, ixN_one, ixN_lit, ixN_n, List.length_cons, List.length_nil, Nat.reduceAdd, Nat.reduceLT, decide_eq_true_eq, List.append_nil, List.nil_append, ZO.lst.injEq, ZO.dct.injEq, seqIx_n, Bool.not_true, Bool.not_false, isE_snoc, and_assoc, or_false, false_or, exists_eq, exists_eq', isT, String.reduceBEq, Bool.and_false, Bool.and_true, Bool.false_and, Bool.true_and, Bool.or_false, Bool.or_true, Bool.true_or, Bool.false_or, natC, natC0, natC1, plain_int, plain_str, plain_non, depth_int, depth_str, depth_non, Nat.zero_le, true_or, or_true, not_true_eq_false, not_false_eq_true, Int.reduceEq, Int.reduceLT, Int.reduceLE, Int.reduceAdd, Int.reduceSub, Nat.reduceEqDiff, decide_true, decide_false]
  refine ⟨hsz, a, bn, _, rfl, by omega, by omega, h1.2, fun k S2 k0 k1 h2 => ?_⟩
  refine zseq_go ?_
  simp only [zNext, zBreak, zCont, zDrop, zRet, zRetN, zIfS, zAsg, zAug, zAugS, zDel, zFor, zVar, zC, zOp, zUn, zNil, zCons, zAp, zMt, zB, zTr, zTruth, zAnd, zOr, zNot, zAndV, zOrV, zNotV, zIf, zTup, zLst, zDNew, zBM, zBM0, tyZ, zgName, zgNil, zgCons, zgTup, zgTupT, zgSub, zAdd, zSub, zMul, zMod, zDiv, zPow, zShl, zCmpI, zLt, zLe, zGt, zGe, zEq, zNe, zIs, zIsNot, zIn, zNotIn, zNeg, zEqN, zIsN, scalD, zInN, zIx, zSlice, zPart, zNoPart, zSl, zSet, zIAdd, zGetA, zDelI, zLenA, zListA, zTuple, zInt, zAbs, zMax2, zMin2, zAllL, zAnyL, zSumL, zMaxL, zMinL, zSorted, zAppend, zExtend, zPop, zPopAt, zReverse, zJoin, zStr1, zIsi, tyD, zCall, zLc, zLcL, zYes, ziR1, ziR2, ziR3, ziAny, ziEnum, Keep, zEnd, List.getElem?_cons_zero, List.getElem?_cons_succ, List.set_cons_zero, List.set_cons_succ, Option.some.injEq, D.int.injEq, D.ref.injEq, D.tup.injEq, D.str.injEq, D.bl.injEq, reduceCtorEq, false_and, and_false, true_and, and_true, exists_eq_left, exists_eq_left', exists_and_left, if_true, if_false, Bool.false_eq_true, ite_false, ite_true, List.cons.injEq, wipeZ, zup_same, atI_zero, atI_one, atI_lit, atI_n, ixN_zero, ixN_one, ixN_lit, ixN_n, List.length_cons, List.length_nil, Nat.reduceAdd, Nat.reduceLT, decide_eq_true_eq, List.append_nil, List.nil_append, ZO.lst.injEq, ZO.dct.injEq, seqIx_n, Bool.not_true, Bool.not_false, isE_snoc, and_assoc, or_false, false_or, exists_eq, exists_eq', isT, String.reduceBEq, Bool.and_false, Bool.and_true, Bool.false_and, Bool.true_and, Bool.or_false, Bool.or_true, Bool.true_or, Bool.false_or, natC, natC0, natC1, plain_int, plain_str, plain_non, depth_int, depth_str, depth_non, Nat.zero_le, true_or, or_true, not_true_eq_false, not_false_eq_true, Int.reduceEq, Int.reduceLT, Int.reduceLE, Int.reduceAdd, Int.reduceSub, Nat.reduceEqDiff, decide_true, decide_false]
  refine ⟨a, bn, 8, rfl, by omega, by omega, h2.2, fun j S3 j0 j1 h3 => ?_⟩
  have fin : ∀ w : Str, ∃ S4, Z.Sub S4 S3 ∧ Q (.str w) S4 := fun w => ⟨_, Sub.refl, hq _ _ ((h1.trans h2).trans h3)⟩
  have h8 : (Str.ofString "abxyzQ7 ").cps.toList.length = 8 := by decide +kernel
  have h9 : (Str.ofString "abxyzQ7 ").length ≤ sizeLine := by decide +kernel
  obtain ⟨i, rfl⟩ := Int.eq_ofNat_of_zero_le j0
  have hi : i < (Str.ofString "abxyzQ7 ").cps.toList.length := by omega
  have hcut : ∀ (lo hi : Option Int) , (cutS word lo hi).length ≤ 40 := fun lo hi => Nat.le_trans (cutS_len _ _ _) hw
  simp only [zNext, zBreak, zCont, zDrop, zRet, zRetN, zIfS, zAsg, zAug, zAugS, zDel, zFor, zVar, zC, zOp, zUn, zNil, zCons, zAp, zMt, zB, zTr, zTruth, zAnd, zOr, zNot, zAndV, zOrV, zNotV, zIf, zTup, zLst, zDNew, zBM, zBM0, tyZ, zgName, zgNil, zgCons, zgTup, zgTupT, zgSub, zAdd, zSub, zMul, zMod, zDiv, zPow, zShl, zCmpI, zLt, zLe, zGt, zGe, zEq, zNe, zIs, zIsNot, zIn, zNotIn, zNeg, zEqN, zIsN, scalD, zInN, zIx, zSlice, zPart, zNoPart, zSl, zSet, zIAdd, zGetA, zDelI, zLenA, zListA, zTuple, zInt, zAbs, zMax2, zMin2, zAllL, zAnyL, zSumL, zMaxL, zMinL, zSorted, zAppend, zExtend, zPop, zPopAt, zReverse, zJoin, zStr1, zIsi, tyD, zCall, zLc, zLcL, zYes, ziR1, ziR2, ziR3, ziAny, ziEnum, Keep, zEnd, List.getElem?_cons_zero, List.getElem?_cons_succ, List.set_cons_zero, List.set_cons_succ, Option.some.injEq, D.int.injEq, D.ref.injEq, D.tup.injEq, D.str.injEq, D.bl.injEq, reduceCtorEq, false_and, and_false, true_and, and_true, exists_eq_left, exists_eq_left', exists_and_left, if_true, if_false, Bool.false_eq_true, ite_false, ite_true, List.cons.injEq, wipeZ, zup_same, atI_zero, atI_one, atI_lit, atI_n, ixN_zero, ixN_one, ixN_lit, ixN_n, List.length_cons, List.length_nil, Nat.reduceAdd, Nat.reduceLT, decide_eq_true_eq, List.append_nil, List.nil_append, ZO.lst.injEq, ZO.dct.injEq, seqIx_n, Bool.not_true, Bool.not_false, isE_snoc, and_assoc, or_false, false_or, exists_eq, exists_eq', isT, String.reduceBEq, Bool.and_false, Bool.and_true, Bool.false_and, Bool.true_and, Bool.or_false, Bool.or_true, Bool.true_or, Bool.false_or, natC, natC0, natC1, plain_int, plain_str, plain_non, depth_int, depth_str, depth_non, Nat.zero_le, true_or, or_true, not_true_eq_false, not_false_eq_true, Int.reduceEq, Int.reduceLT, Int.reduceLE, Int.reduceAdd, Int.reduceSub, Nat.reduceEqDiff, decide_true, decide_false, List.getElem?_eq_getElem hi]
  refine ⟨h9, ?_⟩
  generalize (Str.ofString "abxyzQ7 ").cps.toList[i] = sg
  have h1s : (⟨#[sg]⟩ : Str).length = 1 := rfl
  refine zseq (fun δ' S' => δ' = [some (.ref a), some (.str word), some (.int way), some (.int k), some (.str ⟨#[sg]⟩)] ∧ S3 = S') ?_ ?_
  · simp only [zNext, zBreak, zCont, zDrop, zRet, zRetN, zIfS, zAsg, zAug, zAugS, zDel, zFor, zVar, zC, zOp, zUn, zNil, zCons, zAp, zMt, zB, zTr, zTruth, zAnd, zOr, zNot, zAndV, zOrV, zNotV, zIf, zTup, zLst, zDNew, zBM, zBM0, tyZ, zgName, zgNil, zgCons, zgTup, zgTupT, zgSub, zAdd, zSub, zMul, zMod, zDiv, zPow, zShl, zCmpI, zLt, zLe, zGt, zGe, zEq, zNe, zIs, zIsNot, zIn, zNotIn, zNeg, zEqN, zIsN, scalD, zInN, zIx, zSlice, zPart, zNoPart, zSl, zSet, zIAdd, zGetA, zDelI, zLenA, zListA, zTuple, zInt, zAbs, zMax2, zMin2, zAllL, zAnyL, zSumL, zMaxL, zMinL, zSorted, zAppend, zExtend, zPop, zPopAt, zReverse, zJoin, zStr1, zIsi, tyD, zCall, zLc, zLcL, zYes, ziR1, ziR2, ziR3, ziAny, ziEnum, Keep, zEnd, List.getElem?_cons_zero, List.getElem?_cons_succ, List.set_cons_zero, List.set_cons_succ, Option.some.injEq, D.int.injEq, D.ref.injEq, D.tup.injEq, D.str.injEq, D.bl.injEq, reduceCtorEq, false_and, and_false, true_and, and_true, exists_eq_left, exists_eq_left', exists_and_left, if_true, if_false, Bool.false_eq_true, ite_false, ite_true, List.cons.injEq, wipeZ, zup_same, atI_zero, atI_one, atI_lit, atI_n, ixN_zero, ixN_one, ixN_lit, ixN_n, List.length_cons, List.length_nil, Nat.reduceAdd, Nat.reduceLT, decide_eq_true_eq, List.append_nil, List.nil_append, ZO.lst.injEq, ZO.dct.injEq, seqIx_n, Bool.not_true, Bool.not_false, isE_snoc, and_assoc, or_false, false_or, exists_eq, exists_eq', isT, String.reduceBEq, Bool.and_false, Bool.and_true, Bool.false_and, Bool.true_and, Bool.or_false, Bool.or_true, Bool.true_or, Bool.false_or, natC, natC0, natC1, plain_int, plain_str, plain_non, depth_int, depth_str, depth_non, Nat.zero_le, true_or, or_true, not_true_eq_false, not_false_eq_true, Int.reduceEq, Int.reduceLT, Int.reduceLE, Int.reduceAdd, Int.reduceSub, Nat.reduceEqDiff, decide_true, decide_false]
    split
    · exact ⟨hsz, by rw [h1s, sizeLine_eq]; have := hcut none (some 40); omega, fin _⟩
    · trivial
  rintro _ _ ⟨rfl, rfl⟩
  refine zseq (fun δ' S' => δ' = [some (.ref a), some (.str word), some (.int way), some (.int k), some (.str ⟨#[sg]⟩)] ∧ S3 = S') ?_ ?_
  · simp only [zNext, zBreak, zCont, zDrop, zRet, zRetN, zIfS, zAsg, zAug, zAugS, zDel, zFor, zVar, zC, zOp, zUn, zNil, zCons, zAp, zMt, zB, zTr, zTruth, zAnd, zOr, zNot, zAndV, zOrV, zNotV, zIf, zTup, zLst, zDNew, zBM, zBM0, tyZ, zgName, zgNil, zgCons, zgTup, zgTupT, zgSub, zAdd, zSub, zMul, zMod, zDiv, zPow, zShl, zCmpI, zLt, zLe, zGt, zGe, zEq, zNe, zIs, zIsNot, zIn, zNotIn, zNeg, zEqN, zIsN, scalD, zInN, zIx, zSlice, zPart, zNoPart, zSl, zSet, zIAdd, zGetA, zDelI, zLenA, zListA, zTuple, zInt, zAbs, zMax2, zMin2, zAllL, zAnyL, zSumL, zMaxL, zMinL, zSorted, zAppend, zExtend, zPop, zPopAt, zReverse, zJoin, zStr1, zIsi, tyD, zCall, zLc, zLcL, zYes, ziR1, ziR2, ziR3, ziAny, ziEnum, Keep, zEnd, List.getElem?_cons_zero, List.getElem?_cons_succ, List.set_cons_zero, List.set_cons_succ, Option.some.injEq, D.int.injEq, D.ref.injEq, D.tup.injEq, D.str.injEq, D.bl.injEq, reduceCtorEq, false_and, and_false, true_and, and_true, exists_eq_left, exists_eq_left', exists_and_left, if_true, if_false, Bool.false_eq_true, ite_false, ite_true, List.cons.injEq, wipeZ, zup_same, atI_zero, atI_one, atI_lit, atI_n, ixN_zero, ixN_one, ixN_lit, ixN_n, List.length_cons, List.length_nil, Nat.reduceAdd, Nat.reduceLT, decide_eq_true_eq, List.append_nil, List.nil_append, ZO.lst.injEq, ZO.dct.injEq, seqIx_n, Bool.not_true, Bool.not_false, isE_snoc, and_assoc, or_false, false_or, exists_eq, exists_eq', isT, String.reduceBEq, Bool.and_false, Bool.and_true, Bool.false_and, Bool.true_and, Bool.or_false, Bool.or_true, Bool.true_or, Bool.false_or, natC, natC0, natC1, plain_int, plain_str, plain_non, depth_int, depth_str, depth_non, Nat.zero_le, true_or, or_true, not_true_eq_false, not_false_eq_true, Int.reduceEq, Int.reduceLT, Int.reduceLE, Int.reduceAdd, Int.reduceSub, Nat.reduceEqDiff, decide_true, decide_false]
    split
    · exact ⟨hsz, fin _⟩
    · trivial
  rintro _ _ ⟨rfl, rfl⟩
  refine zseq (fun δ' S' => δ' = [some (.ref a), some (.str word), some (.int way), some (.int k), some (.str ⟨#[sg]⟩)] ∧ S3 = S') ?_ ?_
  · simp only [zNext, zBreak, zCont, zDrop, zRet, zRetN, zIfS, zAsg, zAug, zAugS, zDel, zFor, zVar, zC, zOp, zUn, zNil, zCons, zAp, zMt, zB, zTr, zTruth, zAnd, zOr, zNot, zAndV, zOrV, zNotV, zIf, zTup, zLst, zDNew, zBM, zBM0, tyZ, zgName, zgNil, zgCons, zgTup, zgTupT, zgSub, zAdd, zSub, zMul, zMod, zDiv, zPow, zShl, zCmpI, zLt, zLe, zGt, zGe, zEq, zNe, zIs, zIsNot, zIn, zNotIn, zNeg, zEqN, zIsN, scalD, zInN, zIx, zSlice, zPart, zNoPart, zSl, zSet, zIAdd, zGetA, zDelI, zLenA, zListA, zTuple, zInt, zAbs, zMax2, zMin2, zAllL, zAnyL, zSumL, zMaxL, zMinL, zSorted, zAppend, zExtend, zPop, zPopAt, zReverse, zJoin, zStr1, zIsi, tyD, zCall, zLc, zLcL, zYes, ziR1, ziR2, ziR3, ziAny, ziEnum, Keep, zEnd, List.getElem?_cons_zero, List.getElem?_cons_succ, List.set_cons_zero, List.set_cons_succ, Option.some.injEq, D.int.injEq, D.ref.injEq, D.tup.injEq, D.str.injEq, D.bl.injEq, reduceCtorEq, false_and, and_false, true_and, and_true, exists_eq_left, exists_eq_left', exists_and_left, if_true, if_false, Bool.false_eq_true, ite_false, ite_true, List.cons.injEq, wipeZ, zup_same, atI_zero, atI_one, atI_lit, atI_n, ixN_zero, ixN_one, ixN_lit, ixN_n, List.length_cons, List.length_nil, Nat.reduceAdd, Nat.reduceLT, decide_eq_true_eq, List.append_nil, List.nil_append, ZO.lst.injEq, ZO.dct.injEq, seqIx_n, Bool.not_true, Bool.not_false, isE_snoc, and_assoc, or_false, false_or, exists_eq, exists_eq', isT, String.reduceBEq, Bool.and_false, Bool.and_true, Bool.false_and, Bool.true_and, Bool.or_false, Bool.or_true, Bool.true_or, Bool.false_or, natC, natC0, natC1, plain_int, plain_str, plain_non, depth_int, depth_str, depth_non, Nat.zero_le, true_or, or_true, not_true_eq_false, not_false_eq_true, Int.reduceEq, Int.reduceLT, Int.reduceLE, Int.reduceAdd, Int.reduceSub, Nat.reduceEqDiff, decide_true, decide_false]
    split
    · refine ⟨by omega, ?_⟩
      split
      · exact ⟨by omega, fin _⟩
      · exact ⟨by omega, fin _⟩
    · trivial
  rintro _ _ ⟨rfl, rfl⟩
  simp only [zNext, zBreak, zCont, zDrop, zRet, zRetN, zIfS, zAsg, zAug, zAugS, zDel, zFor, zVar, zC, zOp, zUn, zNil, zCons, zAp, zMt, zB, zTr, zTruth, zAnd, zOr, zNot, zAndV, zOrV, zNotV, zIf, zTup, zLst, zDNew, zBM, zBM0, tyZ, zgName, zgNil, zgCons, zgTup, zgTupT, zgSub, zAdd, zSub, zMul, zMod, zDiv, zPow, zShl, zCmpI, zLt, zLe, zGt, zGe, zEq, zNe, zIs, zIsNot, zIn, zNotIn, zNeg, zEqN, zIsN, scalD, zInN, zIx, zSlice, zPart, zNoPart, zSl, zSet, zIAdd, zGetA, zDelI, zLenA, zListA, zTuple, zInt, zAbs, zMax2, zMin2, zAllL, zAnyL, zSumL, zMaxL, zMinL, zSorted, zAppend, zExtend, zPop, zPopAt, zReverse, zJoin, zStr1, zIsi, tyD, zCall, zLc, zLcL, zYes, ziR1, ziR2, ziR3, ziAny, ziEnum, Keep, zEnd, List.getElem?_cons_zero, List.getElem?_cons_succ, List.set_cons_zero, List.set_cons_succ, Option.some.injEq, D.int.injEq, D.ref.injEq, D.tup.injEq, D.str.injEq, D.bl.injEq, reduceCtorEq, false_and, and_false, true_and, and_true, exists_eq_left, exists_eq_left', exists_and_left, if_true, if_false, Bool.false_eq_true, ite_false, ite_true, List.cons.injEq, wipeZ, zup_same, atI_zero, atI_one, atI_lit, atI_n, ixN_zero, ixN_one, ixN_lit, ixN_n, List.length_cons, List.length_nil, Nat.reduceAdd, Nat.reduceLT, decide_eq_true_eq, List.append_nil, List.nil_append, ZO.lst.injEq, ZO.dct.injEq, seqIx_n, Bool.not_true, Bool.not_false, isE_snoc, and_assoc, or_false, false_or, exists_eq, exists_eq', isT, String.reduceBEq, Bool.and_false, Bool.and_true, Bool.false_and, Bool.true_and, Bool.or_false, Bool.or_true, Bool.true_or, Bool.false_or, natC, natC0, natC1, plain_int, plain_str, plain_non, depth_int, depth_str, depth_non, Nat.zero_le, true_or, or_true, not_true_eq_false, not_false_eq_true, Int.reduceEq, Int.reduceLT, Int.reduceLE, Int.reduceAdd, Int.reduceSub, Nat.reduceEqDiff, decide_true, decide_false]
  have e1 := hcut none (some k)
  have e2 := hcut (some (k + 1)) none
  have e3 : (cutS word none (some k) ++ (⟨#[sg]⟩ : Str)).length = (cutS word none (some k)).length + 1 := by
    show (_ ++ _ : Array Nat).size = _
    rw [Array.size_append]; rfl
  exact ⟨hsz, by rw [h1s, sizeLine_eq]; omega, hsz, by rw [e3, sizeLine_eq]; omega, fin _⟩
end K70
namespace K70
open PySem PySem.Spec PyProof.Rows L2 Z ZH
/-! ### _law_pool -/
def goodPool (ps : List D) : Prop := (∀ x ∈ ps, isStep x) ∧ ps.Nodup ∧ 3 ≤ ps.length ∧ ps.length ≤ 9
def sp__law_pool (K : PySem.W.Frag) : ZSp := fun ds S Q => ∃ (a : Addr) (bn : Addr × List Int), ds = [.ref a] ∧ Dr S a bn ∧ ∀ ps S1 p, goodPool ps → DrN S S1 a bn → S1 p = none → Q (.ref p) (zup S1 p (.lst ps))
def z__law_pool (K : PySem.W.Frag) : ZTS :=
  (zSeq (zAsg (zCall (sp__law_string K) [] (zCons (zVar 0) zNil)) (zgName 1))
    (zSeq (zAsg (zLst (zCons (zVar 1) (zCons (zCall (sp__law_near_string K) [] (zCons (zVar 0) (zCons (zVar 1) zNil))) (zCons (zCall (sp__law_near_string K) [] (zCons (zVar 0) (zCons (zVar 1) zNil))) (zCons (zCall (sp__law_string K) [] (zCons (zVar 0) zNil)) zNil))))) (zgName 2))
    (zSeq (zAsg (zCall (sp__law_pick K) [] (zCons (zVar 0) (zCons (zLst (zCons (zC (.int 0)) (zCons (zC (.int 1)) (zCons (zC (.int 3)) (zCons (zUn zNeg (zC (.int 1))) (zCons (zUn zNeg (zC (.int 1000))) (zCons (zC (.int 998)) (zCons (zOp zSub (zCall (sp__law_draw K) [] (zCons (zVar 0) (zCons (zC (.int 1999)) zNil))) (zC (.int 1000))) zNil)))))))) zNil))) (zgName 3))
    (zSeq (zAsg (zLst (zCons (zTup (zCons (zC (.str "done")) zNil)) (zCons (zTup (zCons (zC (.str "put")) (zCons (zVar 1) (zCons (zVar 3) zNil)))) (zCons (zTup (zCons (zC (.str "put")) (zCons (zVar 1) (zCons (zOp zAdd (zVar 3) (zC (.int 1))) zNil)))) (zCons (zTup (zCons (zC (.str "put")) (zCons (zVar 1) (zCons (zC (.int 1000)) zNil)))) (zCons (zTup (zCons (zC (.str "put")) (zCons (zVar 1) (zCons (zUn zNeg (zC (.int 1000))) zNil)))) zNil)))))) (zgName 4))
    (zSeq (zFor (ziAny K (zVar 2)) (zgName 5) (zDrop (zBM "list" zExtend (zVar 4) (zCons (zLst (zCons (zTup (zCons (zC (.str "ask")) (zCons (zVar 5) zNil))) (zCons (zTup (zCons (zC (.str "see")) (zCons (zVar 5) zNil))) (zCons (zTup (zCons (zC (.str "put")) (zCons (zVar 5) (zCons (zVar 3) zNil)))) (zCons (zTup (zCons (zC (.str "put")) (zCons (zVar 5) (zCons (zOp zAdd (zVar 3) (zC (.int 2))) zNil)))) zNil))))) zNil))))
    (zSeq (zAsg (zLst (zCons (zTup (zCons (zC (.str "see")) (zCons (zVar 1) zNil))) (zCons (zTup (zCons (zC (.str "ask")) (zCons (zVar 1) zNil))) zNil))) (zgName 6))
    (zSeq (zFor (ziAny K (zCall (sp__law_shuffled K) [] (zCons (zVar 0) (zCons (zVar 4) zNil)))) (zgName 7) (zIfS (zAnd (zB (zOp zNotIn (zVar 7) (zVar 6))) (zB (zOp zLt (zAp zLenA (zCons (zVar 6) zNil)) (zC (.int 9))))) (zDrop (zBM "list" zAppend (zVar 6) (zCons (zVar 7) zNil))) zNext))
    (zRet (zCall (sp__law_shuffled K) [] (zCons (zVar 0) (zCons (zVar 6) zNil)))))))))))

theorem law_pool {K : PySem.W.Frag} (ds : List D) (S : Store) (Q : ZK) (h : sp__law_pool K ds S Q) : z__law_pool K (zEnd Q) (zstart ["d", "word", "near", "content", "drawn", "one", "found", "step"] ds) S := by
  obtain ⟨a, bn, rfl, hd, hq⟩ := h
  show z__law_pool K (zEnd Q) [some (.ref a), none, none, none, none, none, none, none] S
  unfold z__law_pool
  have h2s : 2 ≤ sizeLine := by decide
  have h3s : 3 ≤ sizeLine := by decide
  have h4s : 4 ≤ sizeLine := by decide
  have h5s : 5 ≤ sizeLine := by decide
  have h1s : 1 ≤ sizeLine := by decide
  have h7s : 7 ≤ sizeLine := by decide
  refine zseq_go ?_
  simp only [zNext, zBreak, zCont, zDrop, zRet, zRetN, zIfS, zAsg, zAug, zAugS, zDel, zFor, zVar, zC, zOp, zUn, zNil, zCons, zAp, zMt, zB, zTr, zTruth, zAnd, zOr, zNot, zAndV, zOrV, zNotV, zIf, zTup, zLst, zDNew, zBM, zBM0, tyZ, zgName, zgNil, zgCons, zgTup, zgTupT, zgSub, zAdd, zSub, zMul, zMod, zDiv, zPow, zShl, zCmpI, zLt, zLe, zGt, zGe, zEq, zNe, zIs, zIsNot, zIn, zNotIn, zNeg, zEqN, zIsN, scalD, zInN, zIx, zSlice, zPart, zNoPart, zSl, zSet, zIAdd, zGetA, zDelI, zLenA, zListA, zTuple, zInt, zAbs, zMax2, zMin2, zAllL, zAnyL, zSumL, zMaxL, zMinL, zSorted, zAppend, zExtend, zPop, zPopAt, zReverse, zJoin, zStr1, zIsi, tyD, zCall, zLc, zLcL, zYes, ziR1, ziR2, ziR3, ziAny, ziEnum, Keep, zEnd, List.getElem?_cons_zero, List.getElem?_cons_succ, List.set_cons_zero, List.set_cons_succ, Option.some.injEq, D.int.injEq, D.ref.injEq, D.tup.injEq, D.str.injEq, D.bl.injEq, reduceCtorEq, false_and, and_false, true_and, and_true, exists_eq_left, exists_eq_left', exists_and_left, if_true, if_false, Bool.false_eq_true, ite_false, ite_true, List.cons.injEq, wipeZ, zup_same, atI_zero, atI_one, atI_lit, atI_n, ixN_zero, ixN_one, ixN_lit, ixN_n, List.length_cons, List.length_nil, Nat.reduceAdd, Nat.reduceLT, decide_eq_true_eq, List.append_nil, List.nil_append, ZO.lst.injEq, ZO.dct.injEq, seqIx_n, Bool.not_true, Bool.not_false, isE_snoc, and_assoc, or_false, false_or, exists_eq, exists_eq', isT, String.reduceBEq, Bool.and_false, Bool.and_true, Bool.false_and, Bool.true_and, Bool.or_false, Bool.or_true, Bool.true_or, Bool.false_or, natC, natC0, natC1, plain_int, plain_str, plain_non, depth_int, depth_str, depth_non, Nat.zero_le, true_or, or_true, not_true_eq_false, not_false_eq_true, Int.reduceEq, Int.reduceLT, Int.reduceLE, Int.reduceAdd, Int.reduceSub, Nat.reduceEqDiff, decide_true, decide_false]
  refine ⟨a, bn, rfl, hd, fun word S1 hw h1 => ?_⟩
  have a1 := (At.refl hd).draw h1
  refine zseqN (fun δ' S' => ∃ pn nr, δ' = [some (.ref a), some (.str word), some (.ref pn), none, none, none, none, none] ∧ S pn = none ∧ At S a bn S' ∧ S' pn = some (.lst nr) ∧ (∀ x ∈ nr, ∃ w, x = .str w) ∧ nr.length = 4) (fun M hM => ?_) ?_
  · simp only [zNext, zBreak, zCont, zDrop, zRet, zRetN, zIfS, zAsg, zAug, zAugS, zDel, zFor, zVar, zC, zOp, zUn, zNil, zCons, zAp, zMt, zB, zTr, zTruth, zAnd, zOr, zNot, zAndV, zOrV, zNotV, zIf, zTup, zLst, zDNew, zBM, zBM0, tyZ, zgName, zgNil, zgCons, zgTup, zgTupT, zgSub, zAdd, zSub, zMul, zMod, zDiv, zPow, zShl, zCmpI, zLt, zLe, zGt, zGe, zEq, zNe, zIs, zIsNot, zIn, zNotIn, zNeg, zEqN, zIsN, scalD, zInN, zIx, zSlice, zPart, zNoPart, zSl, zSet, zIAdd, zGetA, zDelI, zLenA, zListA, zTuple, zInt, zAbs, zMax2, zMin2, zAllL, zAnyL, zSumL, zMaxL, zMinL, zSorted, zAppend, zExtend, zPop, zPopAt, zReverse, zJoin, zStr1, zIsi, tyD, zCall, zLc, zLcL, zYes, ziR1, ziR2, ziR3, ziAny, ziEnum, Keep, zEnd, List.getElem?_cons_zero, List.getElem?_cons_succ, List.set_cons_zero, List.set_cons_succ, Option.some.injEq, D.int.injEq, D.ref.injEq, D.tup.injEq, D.str.injEq, D.bl.injEq, reduceCtorEq, false_and, and_false, true_and, and_true, exists_eq_left, exists_eq_left', exists_and_left, if_true, if_false, Bool.false_eq_true, ite_false, ite_true, List.cons.injEq, wipeZ, zup_same, atI_zero, atI_one, atI_lit, atI_n, ixN_zero, ixN_one, ixN_lit, ixN_n, List.length_cons, List.length_nil, Nat.reduceAdd, Nat.reduceLT, decide_eq_true_eq, List.append_nil, List.nil_append, ZO.lst.injEq, ZO.dct.injEq, seqIx_n, Bool.not_true, Bool.not_false, isE_snoc, and_assoc, or_false, false_or, exists_eq, exists_eq', isT, String.reduceBEq, Bool.and_false, Bool.and_true, Bool.false_and, Bool.true_and, Bool.or_false, Bool.or_true, Bool.true_or, Bool.false_or, natC, natC0, natC1, plain_int, plain_str, plain_non, depth_int, depth_str, depth_non, Nat.zero_le, true_or, or_true, not_true_eq_false, not_false_eq_true, Int.reduceEq, Int.reduceLT, Int.reduceLE, Int.reduceAdd, Int.reduceSub, Nat.reduceEqDiff, decide_true, decide_false]
    refine ⟨a, bn, word, rfl, hw, a1.2, fun n1 S2 h2 => ?_⟩
    simp only [zNext, zBreak, zCont, zDrop, zRet, zRetN, zIfS, zAsg, zAug, zAugS, zDel, zFor, zVar, zC, zOp, zUn, zNil, zCons, zAp, zMt, zB, zTr, zTruth, zAnd, zOr, zNot, zAndV, zOrV, zNotV, zIf, zTup, zLst, zDNew, zBM, zBM0, tyZ, zgName, zgNil, zgCons, zgTup, zgTupT, zgSub, zAdd, zSub, zMul, zMod, zDiv, zPow, zShl, zCmpI, zLt, zLe, zGt, zGe, zEq, zNe, zIs, zIsNot, zIn, zNotIn, zNeg, zEqN, zIsN, scalD, zInN, zIx, zSlice, zPart, zNoPart, zSl, zSet, zIAdd, zGetA, zDelI, zLenA, zListA, zTuple, zInt, zAbs, zMax2, zMin2, zAllL, zAnyL, zSumL, zMaxL, zMinL, zSorted, zAppend, zExtend, zPop, zPopAt, zReverse, zJoin, zStr1, zIsi, tyD, zCall, zLc, zLcL, zYes, ziR1, ziR2, ziR3, ziAny, ziEnum, Keep, zEnd, List.getElem?_cons_zero, List.getElem?_cons_succ, List.set_cons_zero, List.set_cons_succ, Option.some.injEq, D.int.injEq, D.ref.injEq, D.tup.injEq, D.str.injEq, D.bl.injEq, reduceCtorEq, false_and, and_false, true_and, and_true, exists_eq_left, exists_eq_left', exists_and_left, if_true, if_false, Bool.false_eq_true, ite_false, ite_true, List.cons.injEq, wipeZ, zup_same, atI_zero, atI_one, atI_lit, atI_n, ixN_zero, ixN_one, ixN_lit, ixN_n, List.length_cons, List.length_nil, Nat.reduceAdd, Nat.reduceLT, decide_eq_true_eq, List.append_nil, List.nil_append, ZO.lst.injEq, ZO.dct.injEq, seqIx_n, Bool.not_true, Bool.not_false, isE_snoc, and_assoc, or_false, false_or, exists_eq, exists_eq', isT, String.reduceBEq, Bool.and_false, Bool.and_true, Bool.false_and, Bool.true_and, Bool.or_false, Bool.or_true, Bool.true_or, Bool.false_or, natC, natC0, natC1, plain_int, plain_str, plain_non, depth_int, depth_str, depth_non, Nat.zero_le, true_or, or_true, not_true_eq_false, not_false_eq_true, Int.reduceEq, Int.reduceLT, Int.reduceLE, Int.reduceAdd, Int.reduceSub, Nat.reduceEqDiff, decide_true, decide_false]
    refine ⟨a, bn, word, rfl, hw, h2.2, fun n2 S3 h3 => ?_⟩
    simp only [zNext, zBreak, zCont, zDrop, zRet, zRetN, zIfS, zAsg, zAug, zAugS, zDel, zFor, zVar, zC, zOp, zUn, zNil, zCons, zAp, zMt, zB, zTr, zTruth, zAnd, zOr, zNot, zAndV, zOrV, zNotV, zIf, zTup, zLst, zDNew, zBM, zBM0, tyZ, zgName, zgNil, zgCons, zgTup, zgTupT, zgSub, zAdd, zSub, zMul, zMod, zDiv, zPow, zShl, zCmpI, zLt, zLe, zGt, zGe, zEq, zNe, zIs, zIsNot, zIn, zNotIn, zNeg, zEqN, zIsN, scalD, zInN, zIx, zSlice, zPart, zNoPart, zSl, zSet, zIAdd, zGetA, zDelI, zLenA, zListA, zTuple, zInt, zAbs, zMax2, zMin2, zAllL, zAnyL, zSumL, zMaxL, zMinL, zSorted, zAppend, zExtend, zPop, zPopAt, zReverse, zJoin, zStr1, zIsi, tyD, zCall, zLc, zLcL, zYes, ziR1, ziR2, ziR3, ziAny, ziEnum, Keep, zEnd, List.getElem?_cons_zero, List.getElem?_cons_succ, List.set_cons_zero, List.set_cons_succ, Option.some.injEq, D.int.injEq, D.ref.injEq, D.tup.injEq, D.str.injEq, D.bl.injEq, reduceCtorEq, false_and, and_false, true_and, and_true, exists_eq_left, exists_eq_left', exists_and_left, if_true, if_false, Bool.false_eq_true, ite_false, ite_true, List.cons.injEq, wipeZ, zup_same, atI_zero, atI_one, atI_lit, atI_n, ixN_zero, ixN_one, ixN_lit, ixN_n, List.length_cons, List.length_nil, Nat.reduceAdd, Nat.reduceLT, decide_eq_true_eq, List.append_nil, List.nil_append, ZO.lst.injEq, ZO.dct.injEq, seqIx_n, Bool.not_true, Bool.not_false, isE_snoc, and_assoc, or_false, false_or, exists_eq, exists_eq', isT, String.reduceBEq, Bool.and_false, Bool.and_true, Bool.false_and, Bool.true_and, Bool.or_false, Bool.or_true, Bool.true_or, Bool.false_or, natC, natC0, natC1, plain_int, plain_str, plain_non, depth_int, depth_str, depth_non, Nat.zero_le, true_or, or_true, not_true_eq_false, not_false_eq_true, Int.reduceEq, Int.reduceLT, Int.reduceLE, Int.reduceAdd, Int.reduceSub, Nat.reduceEqDiff, decide_true, decide_false]
    refine ⟨a, bn, rfl, h3.2, fun n3 S4 _ h4 => ?_⟩
    simp only [zNext, zBreak, zCont, zDrop, zRet, zRetN, zIfS, zAsg, zAug, zAugS, zDel, zFor, zVar, zC, zOp, zUn, zNil, zCons, zAp, zMt, zB, zTr, zTruth, zAnd, zOr, zNot, zAndV, zOrV, zNotV, zIf, zTup, zLst, zDNew, zBM, zBM0, tyZ, zgName, zgNil, zgCons, zgTup, zgTupT, zgSub, zAdd, zSub, zMul, zMod, zDiv, zPow, zShl, zCmpI, zLt, zLe, zGt, zGe, zEq, zNe, zIs, zIsNot, zIn, zNotIn, zNeg, zEqN, zIsN, scalD, zInN, zIx, zSlice, zPart, zNoPart, zSl, zSet, zIAdd, zGetA, zDelI, zLenA, zListA, zTuple, zInt, zAbs, zMax2, zMin2, zAllL, zAnyL, zSumL, zMaxL, zMinL, zSorted, zAppend, zExtend, zPop, zPopAt, zReverse, zJoin, zStr1, zIsi, tyD, zCall, zLc, zLcL, zYes, ziR1, ziR2, ziR3, ziAny, ziEnum, Keep, zEnd, List.getElem?_cons_zero, List.getElem?_cons_succ, List.set_cons_zero, List.set_cons_succ, Option.some.injEq, D.int.injEq, D.ref.injEq, D.tup.injEq, D.str.injEq, D.bl.injEq, reduceCtorEq, false_and, and_false, true_and, and_true, exists_eq_left, exists_eq_left', exists_and_left, if_true, if_false, Bool.false_eq_true, ite_false, ite_true, List.cons.injEq, wipeZ, zup_same, atI_zero, atI_one, atI_lit, atI_n, ixN_zero, ixN_one, ixN_lit, ixN_n, List.length_cons, List.length_nil, Nat.reduceAdd, Nat.reduceLT, decide_eq_true_eq, List.append_nil, List.nil_append, ZO.lst.injEq, ZO.dct.injEq, seqIx_n, Bool.not_true, Bool.not_false, isE_snoc, and_assoc, or_false, false_or, exists_eq, exists_eq', isT, String.reduceBEq, Bool.and_false, Bool.and_true, Bool.false_and, Bool.true_and, Bool.or_false, Bool.or_true, Bool.true_or, Bool.false_or, natC, natC0, natC1, plain_int, plain_str, plain_non, depth_int, depth_str, depth_non, Nat.zero_le, true_or, or_true, not_true_eq_false, not_false_eq_true, Int.reduceEq, Int.reduceLT, Int.reduceLE, Int.reduceAdd, Int.reduceSub, Nat.reduceEqDiff, decide_true, decide_false]
    refine ⟨h4s, fun pn hpn => ?_⟩
    have a4 := ((a1.draw h2).draw h3).draw h4
    exact hM _ _ ⟨pn, _, rfl, a4.none hpn hd, a4.new hpn, zup_same, by simp, rfl⟩
  rintro _ S2 ⟨pn, nr, rfl, hpn, a2, e2, hnr, hnl⟩
  refine zseqN (fun δ' S' => ∃ c : Int, δ' = [some (.ref a), some (.str word), some (.ref pn), some (.int c), none, none, none, none] ∧ At S a bn S' ∧ S' pn = some (.lst nr)) (fun M hM => ?_) ?_
  · simp only [zNext, zBreak, zCont, zDrop, zRet, zRetN, zIfS, zAsg, zAug, zAugS, zDel, zFor, zVar, zC, zOp, zUn, zNil, zCons, zAp, zMt, zB, zTr, zTruth, zAnd, zOr, zNot, zAndV, zOrV, zNotV, zIf, zTup, zLst, zDNew, zBM, zBM0, tyZ, zgName, zgNil, zgCons, zgTup, zgTupT, zgSub, zAdd, zSub, zMul, zMod, zDiv, zPow, zShl, zCmpI, zLt, zLe, zGt, zGe, zEq, zNe, zIs, zIsNot, zIn, zNotIn, zNeg, zEqN, zIsN, scalD, zInN, zIx, zSlice, zPart, zNoPart, zSl, zSet, zIAdd, zGetA, zDelI, zLenA, zListA, zTuple, zInt, zAbs, zMax2, zMin2, zAllL, zAnyL, zSumL, zMaxL, zMinL, zSorted, zAppend, zExtend, zPop, zPopAt, zReverse, zJoin, zStr1, zIsi, tyD, zCall, zLc, zLcL, zYes, ziR1, ziR2, ziR3, ziAny, ziEnum, Keep, zEnd, List.getElem?_cons_zero, List.getElem?_cons_succ, List.set_cons_zero, List.set_cons_succ, Option.some.injEq, D.int.injEq, D.ref.injEq, D.tup.injEq, D.str.injEq, D.bl.injEq, reduceCtorEq, false_and, and_false, true_and, and_true, exists_eq_left, exists_eq_left', exists_and_left, if_true, if_false, Bool.false_eq_true, ite_false, ite_true, List.cons.injEq, wipeZ, zup_same, atI_zero, atI_one, atI_lit, atI_n, ixN_zero, ixN_one, ixN_lit, ixN_n, List.length_cons, List.length_nil, Nat.reduceAdd, Nat.reduceLT, decide_eq_true_eq, List.append_nil, List.nil_append, ZO.lst.injEq, ZO.dct.injEq, seqIx_n, Bool.not_true, Bool.not_false, isE_snoc, and_assoc, or_false, false_or, exists_eq, exists_eq', isT, String.reduceBEq, Bool.and_false, Bool.and_true, Bool.false_and, Bool.true_and, Bool.or_false, Bool.or_true, Bool.true_or, Bool.false_or, natC, natC0, natC1, plain_int, plain_str, plain_non, depth_int, depth_str, depth_non, Nat.zero_le, true_or, or_true, not_true_eq_false, not_false_eq_true, Int.reduceEq, Int.reduceLT, Int.reduceLE, Int.reduceAdd, Int.reduceSub, Nat.reduceEqDiff, decide_true, decide_false]
    refine ⟨a, bn, 1999, rfl, by omega, by omega, a2.2, fun x S3 _ _ h3 => ?_⟩
    have a3 := a2.draw h3
    simp only [zNext, zBreak, zCont, zDrop, zRet, zRetN, zIfS, zAsg, zAug, zAugS, zDel, zFor, zVar, zC, zOp, zUn, zNil, zCons, zAp, zMt, zB, zTr, zTruth, zAnd, zOr, zNot, zAndV, zOrV, zNotV, zIf, zTup, zLst, zDNew, zBM, zBM0, tyZ, zgName, zgNil, zgCons, zgTup, zgTupT, zgSub, zAdd, zSub, zMul, zMod, zDiv, zPow, zShl, zCmpI, zLt, zLe, zGt, zGe, zEq, zNe, zIs, zIsNot, zIn, zNotIn, zNeg, zEqN, zIsN, scalD, zInN, zIx, zSlice, zPart, zNoPart, zSl, zSet, zIAdd, zGetA, zDelI, zLenA, zListA, zTuple, zInt, zAbs, zMax2, zMin2, zAllL, zAnyL, zSumL, zMaxL, zMinL, zSorted, zAppend, zExtend, zPop, zPopAt, zReverse, zJoin, zStr1, zIsi, tyD, zCall, zLc, zLcL, zYes, ziR1, ziR2, ziR3, ziAny, ziEnum, Keep, zEnd, List.getElem?_cons_zero, List.getElem?_cons_succ, List.set_cons_zero, List.set_cons_succ, Option.some.injEq, D.int.injEq, D.ref.injEq, D.tup.injEq, D.str.injEq, D.bl.injEq, reduceCtorEq, false_and, and_false, true_and, and_true, exists_eq_left, exists_eq_left', exists_and_left, if_true, if_false, Bool.false_eq_true, ite_false, ite_true, List.cons.injEq, wipeZ, zup_same, atI_zero, atI_one, atI_lit, atI_n, ixN_zero, ixN_one, ixN_lit, ixN_n, List.length_cons, List.length_nil, Nat.reduceAdd, Nat.reduceLT, decide_eq_true_eq, List.append_nil, List.nil_append, ZO.lst.injEq, ZO.dct.injEq, seqIx_n, Bool.not_true, Bool.not_false, isE_snoc, and_assoc, or_false, false_or, exists_eq, exists_eq', isT, String.reduceBEq, Bool.and_false, Bool.and_true, Bool.false_and, Bool.true_and, Bool.or_false, Bool.or_true, Bool.true_or, Bool.false_or, natC, natC0, natC1, plain_int, plain_str, plain_non, depth_int, depth_str, depth_non, Nat.zero_le, true_or, or_true, not_true_eq_false, not_false_eq_true, Int.reduceEq, Int.reduceLT, Int.reduceLE, Int.reduceAdd, Int.reduceSub, Nat.reduceEqDiff, decide_true, decide_false]
    refine ⟨h7s, fun p hp => ⟨a, bn, .ref p, _, rfl, .inr ⟨p, rfl, zup_same⟩, fun e => hd.ne (a3.none hp hd) (by cases e; rfl), (a3.new hp).2, by simp, by simp, fun y S4 hy h4 => ?_⟩⟩
    have hy' : ∃ c : Int, y = .int c := by
      simp only [List.mem_cons, List.not_mem_nil, or_false] at hy
      rcases hy with rfl | rfl | rfl | rfl | rfl | rfl | rfl <;> exact ⟨_, rfl⟩
    obtain ⟨c, rfl⟩ := hy'
    refine hM _ _ ⟨c, rfl, (a3.new hp).draw h4, ?_⟩
    have e3 := h3.at (hd.ne hpn) e2
    exact h4.at (hd.ne hpn) (zup_of e3 hp)
  rintro _ S3 ⟨c, rfl, a3, e3⟩
  refine zseqN (fun δ' S' => ∃ pd xs, δ' = [some (.ref a), some (.str word), some (.ref pn), some (.int c), some (.ref pd), none, none, none] ∧ S pd = none ∧ pd ≠ pn ∧ At S a bn S' ∧ S' pn = some (.lst nr) ∧ S' pd = some (.lst xs) ∧ (∀ x ∈ xs, isStep x) ∧ D.tup [.str "done"] ∈ xs ∧ xs.length = 5) (fun M hM => ?_) ?_
  · simp only [zNext, zBreak, zCont, zDrop, zRet, zRetN, zIfS, zAsg, zAug, zAugS, zDel, zFor, zVar, zC, zOp, zUn, zNil, zCons, zAp, zMt, zB, zTr, zTruth, zAnd, zOr, zNot, zAndV, zOrV, zNotV, zIf, zTup, zLst, zDNew, zBM, zBM0, tyZ, zgName, zgNil, zgCons, zgTup, zgTupT, zgSub, zAdd, zSub, zMul, zMod, zDiv, zPow, zShl, zCmpI, zLt, zLe, zGt, zGe, zEq, zNe, zIs, zIsNot, zIn, zNotIn, zNeg, zEqN, zIsN, scalD, zInN, zIx, zSlice, zPart, zNoPart, zSl, zSet, zIAdd, zGetA, zDelI, zLenA, zListA, zTuple, zInt, zAbs, zMax2, zMin2, zAllL, zAnyL, zSumL, zMaxL, zMinL, zSorted, zAppend, zExtend, zPop, zPopAt, zReverse, zJoin, zStr1, zIsi, tyD, zCall, zLc, zLcL, zYes, ziR1, ziR2, ziR3, ziAny, ziEnum, Keep, zEnd, List.getElem?_cons_zero, List.getElem?_cons_succ, List.set_cons_zero, List.set_cons_succ, Option.some.injEq, D.int.injEq, D.ref.injEq, D.tup.injEq, D.str.injEq, D.bl.injEq, reduceCtorEq, false_and, and_false, true_and, and_true, exists_eq_left, exists_eq_left', exists_and_left, if_true, if_false, Bool.false_eq_true, ite_false, ite_true, List.cons.injEq, wipeZ, zup_same, atI_zero, atI_one, atI_lit, atI_n, ixN_zero, ixN_one, ixN_lit, ixN_n, List.length_cons, List.length_nil, Nat.reduceAdd, Nat.reduceLT, decide_eq_true_eq, List.append_nil, List.nil_append, ZO.lst.injEq, ZO.dct.injEq, seqIx_n, Bool.not_true, Bool.not_false, isE_snoc, and_assoc, or_false, false_or, exists_eq, exists_eq', isT, String.reduceBEq, Bool.and_false, Bool.and_true, Bool.false_and, Bool.true_and, Bool.or_false, Bool.or_true, Bool.true_or, Bool.false_or, natC, natC0, natC1, plain_int, plain_str, plain_non, depth_int, depth_str, depth_non, Nat.zero_le, true_or, or_true, not_true_eq_false, not_false_eq_true, Int.reduceEq, Int.reduceLT, Int.reduceLE, Int.reduceAdd, Int.reduceSub, Nat.reduceEqDiff, decide_true, decide_false]
    refine ⟨h1s, h3s, h3s, h3s, h3s, h5s, fun pd hpd => ?_⟩
    refine hM _ _ ⟨pd, _, rfl, a3.none hpd hd, ?_, a3.new hpd, zup_of e3 hpd, zup_same, ?_, by simp, rfl⟩
    · rintro rfl; rw [e3] at hpd; cases hpd
    · intro x hx
      simp only [List.mem_cons, List.not_mem_nil, or_false] at hx
      rcases hx with rfl | rfl | rfl | rfl | rfl
      · exact .inl ⟨_, rfl⟩
      all_goals exact .inr (.inr ⟨_, _, _, rfl⟩)
  rintro _ S4 ⟨pd, xs, rfl, hpd, hne, a4, e4, f4, hxs, hdone, hxl⟩
  refine zseqN (fun δ' S' => ∃ o ys, δ' = [some (.ref a), some (.str word), some (.ref pn), some (.int c), some (.ref pd), o, none, none] ∧ At S a bn S' ∧ S' pd = some (.lst ys) ∧ (∀ x ∈ ys, isStep x) ∧ D.tup [.str "done"] ∈ ys ∧ ys.length ≤ 100) (fun M hM => ?_) ?_
  · simp only [zNext, zBreak, zCont, zDrop, zRet, zRetN, zIfS, zAsg, zAug, zAugS, zDel, zFor, zVar, zC, zOp, zUn, zNil, zCons, zAp, zMt, zB, zTr, zTruth, zAnd, zOr, zNot, zAndV, zOrV, zNotV, zIf, zTup, zLst, zDNew, zBM, zBM0, tyZ, zgName, zgNil, zgCons, zgTup, zgTupT, zgSub, zAdd, zSub, zMul, zMod, zDiv, zPow, zShl, zCmpI, zLt, zLe, zGt, zGe, zEq, zNe, zIs, zIsNot, zIn, zNotIn, zNeg, zEqN, zIsN, scalD, zInN, zIx, zSlice, zPart, zNoPart, zSl, zSet, zIAdd, zGetA, zDelI, zLenA, zListA, zTuple, zInt, zAbs, zMax2, zMin2, zAllL, zAnyL, zSumL, zMaxL, zMinL, zSorted, zAppend, zExtend, zPop, zPopAt, zReverse, zJoin, zStr1, zIsi, tyD, zCall, zLc, zLcL, zYes, ziR1, ziR2, ziR3, ziAny, ziEnum, Keep, zEnd, List.getElem?_cons_zero, List.getElem?_cons_succ, List.set_cons_zero, List.set_cons_succ, Option.some.injEq, D.int.injEq, D.ref.injEq, D.tup.injEq, D.str.injEq, D.bl.injEq, reduceCtorEq, false_and, and_false, true_and, and_true, exists_eq_left, exists_eq_left', exists_and_left, if_true, if_false, Bool.false_eq_true, ite_false, ite_true, List.cons.injEq, wipeZ, zup_same, atI_zero, atI_one, atI_lit, atI_n, ixN_zero, ixN_one, ixN_lit, ixN_n, List.length_cons, List.length_nil, Nat.reduceAdd, Nat.reduceLT, decide_eq_true_eq, List.append_nil, List.nil_append, ZO.lst.injEq, ZO.dct.injEq, seqIx_n, Bool.not_true, Bool.not_false, isE_snoc, and_assoc, or_false, false_or, exists_eq, exists_eq', isT, String.reduceBEq, Bool.and_false, Bool.and_true, Bool.false_and, Bool.true_and, Bool.or_false, Bool.or_true, Bool.true_or, Bool.false_or, natC, natC0, natC1, plain_int, plain_str, plain_non, depth_int, depth_str, depth_non, Nat.zero_le, true_or, or_true, not_true_eq_false, not_false_eq_true, Int.reduceEq, Int.reduceLT, Int.reduceLE, Int.reduceAdd, Int.reduceSub, Nat.reduceEqDiff, decide_true, decide_false]
    refine ⟨.lst pn nr, nr, .inl (.inl ⟨rfl, .inl e4⟩), .inl e4, ?_⟩
    refine zloop (fun rest δ' S' => (∃ o, δ' = [some (.ref a), some (.str word), some (.ref pn), some (.int c), some (.ref pd), o, none, none]) ∧ (∀ x ∈ rest, ∃ w, x = D.str w) ∧ At S a bn S' ∧ S' pn = some (.lst nr) ∧ ∃ ys, S' pd = some (.lst ys) ∧ (∀ x ∈ ys, isStep x) ∧ D.tup [.str "done"] ∈ ys ∧ ys.length + 4 * rest.length ≤ 100) ?_ ?_ _ _ _ ?_
    · rintro δ' S' ⟨⟨o, rfl⟩, _, ha, _, ys, f, h1, h2, h3⟩
      exact hM _ _ ⟨o, ys, rfl, ha, f, h1, h2, by simpa using h3⟩
    · rintro d r δ' S' N ⟨⟨o, rfl⟩, hr, ha, e, ys, f, g1, g2, g3⟩ hN
      obtain ⟨w, rfl⟩ := hr d (by simp)
      simp only [List.length_cons] at g3
      simp only [zNext, zBreak, zCont, zDrop, zRet, zRetN, zIfS, zAsg, zAug, zAugS, zDel, zFor, zVar, zC, zOp, zUn, zNil, zCons, zAp, zMt, zB, zTr, zTruth, zAnd, zOr, zNot, zAndV, zOrV, zNotV, zIf, zTup, zLst, zDNew, zBM, zBM0, tyZ, zgName, zgNil, zgCons, zgTup, zgTupT, zgSub, zAdd, zSub, zMul, zMod, zDiv, zPow, zShl, zCmpI, zLt, zLe, zGt, zGe, zEq, zNe, zIs, zIsNot, zIn, zNotIn, zNeg, zEqN, zIsN, scalD, zInN, zIx, zSlice, zPart, zNoPart, zSl, zSet, zIAdd, zGetA, zDelI, zLenA, zListA, zTuple, zInt, zAbs, zMax2, zMin2, zAllL, zAnyL, zSumL, zMaxL, zMinL, zSorted, zAppend, zExtend, zPop, zPopAt, zReverse, zJoin, zStr1, zIsi, tyD, zCall, zLc, zLcL, zYes, ziR1, ziR2, ziR3, ziAny, ziEnum, Keep, zEnd, List.getElem?_cons_zero, List.getElem?_cons_succ, List.set_cons_zero, List.set_cons_succ, Option.some.injEq, D.int.injEq, D.ref.injEq, D.tup.injEq, D.str.injEq, D.bl.injEq, reduceCtorEq, false_and, and_false, true_and, and_true, exists_eq_left, exists_eq_left', exists_and_left, if_true, if_false, Bool.false_eq_true, ite_false, ite_true, List.cons.injEq, wipeZ, zup_same, atI_zero, atI_one, atI_lit, atI_n, ixN_zero, ixN_one, ixN_lit, ixN_n, List.length_cons, List.length_nil, Nat.reduceAdd, Nat.reduceLT, decide_eq_true_eq, List.append_nil, List.nil_append, ZO.lst.injEq, ZO.dct.injEq, seqIx_n, Bool.not_true, Bool.not_false, isE_snoc, and_assoc, or_false, false_or, exists_eq, exists_eq', isT, String.reduceBEq, Bool.and_false, Bool.and_true, Bool.false_and, Bool.true_and, Bool.or_false, Bool.or_true, Bool.true_or, Bool.false_or, natC, natC0, natC1, plain_int, plain_str, plain_non, depth_int, depth_str, depth_non, Nat.zero_le, true_or, or_true, not_true_eq_false, not_false_eq_true, Int.reduceEq, Int.reduceLT, Int.reduceLE, Int.reduceAdd, Int.reduceSub, Nat.reduceEqDiff, decide_true, decide_false, f]
      refine ⟨h2s, h2s, h3s, h3s, h4s, fun q hq0 => ?_⟩
      have hqd : q ≠ pd := by rintro rfl; rw [f] at hq0; cases hq0
      have hqn : q ≠ pn := by rintro rfl; rw [e] at hq0; cases hq0
      refine ⟨ys, zup_of f hq0, by rw [sizeLine_eq]; omega, ?_⟩
      have e' : zup (zup S' q (.lst [D.tup [.str "ask", .str w], .tup [.str "see", .str w], .tup [.str "put", .str w, .int c], .tup [.str "put", .str w, .int (c + 2)]])) pd (.lst (ys ++ [D.tup [.str "ask", .str w], .tup [.str "see", .str w], .tup [.str "put", .str w, .int c], .tup [.str "put", .str w, .int (c + 2)]])) pn = some (.lst nr) := by
        rw [zup_ne (Ne.symm hne), zup_ne (Ne.symm hqn)]; exact e
      refine hN _ _ (.inl e') ⟨⟨_, rfl⟩, fun x hx => hr x (by simp [hx]), (ha.new hq0).upd hpd hd, e', _, zup_same, ?_, by simp [g2], by simp; omega⟩
      intro x hx
      rcases List.mem_append.mp hx with hx | hx
      · exact g1 x hx
      · simp only [List.mem_cons, List.not_mem_nil, or_false] at hx
        rcases hx with rfl | rfl | rfl | rfl
        · exact .inr (.inl ⟨_, _, rfl⟩)
        · exact .inr (.inl ⟨_, _, rfl⟩)
        · exact .inr (.inr ⟨_, _, _, rfl⟩)
        · exact .inr (.inr ⟨_, _, _, rfl⟩)
    · exact ⟨⟨none, rfl⟩, hnr, a4, e4, xs, f4, hxs, hdone, by omega⟩
  rintro _ S5 ⟨o, ys, rfl, a5, f5, hys, hdone, hyl⟩
  refine zseqN (fun δ' S' => ∃ pf, δ' = [some (.ref a), some (.str word), some (.ref pn), some (.int c), some (.ref pd), o, some (.ref pf), none] ∧ S pf = none ∧ pf ≠ pd ∧ At S a bn S' ∧ S' pd = some (.lst ys) ∧ S' pf = some (.lst [.tup [.str "see", .str word], .tup [.str "ask", .str word]])) (fun M hM => ?_) ?_
  · simp only [zNext, zBreak, zCont, zDrop, zRet, zRetN, zIfS, zAsg, zAug, zAugS, zDel, zFor, zVar, zC, zOp, zUn, zNil, zCons, zAp, zMt, zB, zTr, zTruth, zAnd, zOr, zNot, zAndV, zOrV, zNotV, zIf, zTup, zLst, zDNew, zBM, zBM0, tyZ, zgName, zgNil, zgCons, zgTup, zgTupT, zgSub, zAdd, zSub, zMul, zMod, zDiv, zPow, zShl, zCmpI, zLt, zLe, zGt, zGe, zEq, zNe, zIs, zIsNot, zIn, zNotIn, zNeg, zEqN, zIsN, scalD, zInN, zIx, zSlice, zPart, zNoPart, zSl, zSet, zIAdd, zGetA, zDelI, zLenA, zListA, zTuple, zInt, zAbs, zMax2, zMin2, zAllL, zAnyL, zSumL, zMaxL, zMinL, zSorted, zAppend, zExtend, zPop, zPopAt, zReverse, zJoin, zStr1, zIsi, tyD, zCall, zLc, zLcL, zYes, ziR1, ziR2, ziR3, ziAny, ziEnum, Keep, zEnd, List.getElem?_cons_zero, List.getElem?_cons_succ, List.set_cons_zero, List.set_cons_succ, Option.some.injEq, D.int.injEq, D.ref.injEq, D.tup.injEq, D.str.injEq, D.bl.injEq, reduceCtorEq, false_and, and_false, true_and, and_true, exists_eq_left, exists_eq_left', exists_and_left, if_true, if_false, Bool.false_eq_true, ite_false, ite_true, List.cons.injEq, wipeZ, zup_same, atI_zero, atI_one, atI_lit, atI_n, ixN_zero, ixN_one, ixN_lit, ixN_n, List.length_cons, List.length_nil, Nat.reduceAdd, Nat.reduceLT, decide_eq_true_eq, List.append_nil, List.nil_append, ZO.lst.injEq, ZO.dct.injEq, seqIx_n, Bool.not_true, Bool.not_false, isE_snoc, and_assoc, or_false, false_or, exists_eq, exists_eq', isT, String.reduceBEq, Bool.and_false, Bool.and_true, Bool.false_and, Bool.true_and, Bool.or_false, Bool.or_true, Bool.true_or, Bool.false_or, natC, natC0, natC1, plain_int, plain_str, plain_non, depth_int, depth_str, depth_non, Nat.zero_le, true_or, or_true, not_true_eq_false, not_false_eq_true, Int.reduceEq, Int.reduceLT, Int.reduceLE, Int.reduceAdd, Int.reduceSub, Nat.reduceEqDiff, decide_true, decide_false]
    refine ⟨h2s, h2s, h2s, fun pf hpf => hM _ _ ⟨pf, rfl, a5.none hpf hd, ?_, a5.new hpf, zup_of f5 hpf, zup_same⟩⟩
    rintro rfl; rw [f5] at hpf; cases hpf
  rintro _ S6 ⟨pf, rfl, hpf, hfd, a6, f6, g6⟩
  refine zseqN (fun δ' S' => ∃ fs, δ'[0]? = some (some (.ref a)) ∧ δ'[6]? = some (some (.ref pf)) ∧ At S a bn S' ∧ S' pf = some (.lst fs) ∧ goodPool fs) (fun M hM => ?_) ?_
  · simp only [zNext, zBreak, zCont, zDrop, zRet, zRetN, zIfS, zAsg, zAug, zAugS, zDel, zFor, zVar, zC, zOp, zUn, zNil, zCons, zAp, zMt, zB, zTr, zTruth, zAnd, zOr, zNot, zAndV, zOrV, zNotV, zIf, zTup, zLst, zDNew, zBM, zBM0, tyZ, zgName, zgNil, zgCons, zgTup, zgTupT, zgSub, zAdd, zSub, zMul, zMod, zDiv, zPow, zShl, zCmpI, zLt, zLe, zGt, zGe, zEq, zNe, zIs, zIsNot, zIn, zNotIn, zNeg, zEqN, zIsN, scalD, zInN, zIx, zSlice, zPart, zNoPart, zSl, zSet, zIAdd, zGetA, zDelI, zLenA, zListA, zTuple, zInt, zAbs, zMax2, zMin2, zAllL, zAnyL, zSumL, zMaxL, zMinL, zSorted, zAppend, zExtend, zPop, zPopAt, zReverse, zJoin, zStr1, zIsi, tyD, zCall, zLc, zLcL, zYes, ziR1, ziR2, ziR3, ziAny, ziEnum, Keep, zEnd, List.getElem?_cons_zero, List.getElem?_cons_succ, List.set_cons_zero, List.set_cons_succ, Option.some.injEq, D.int.injEq, D.ref.injEq, D.tup.injEq, D.str.injEq, D.bl.injEq, reduceCtorEq, false_and, and_false, true_and, and_true, exists_eq_left, exists_eq_left', exists_and_left, if_true, if_false, Bool.false_eq_true, ite_false, ite_true, List.cons.injEq, wipeZ, zup_same, atI_zero, atI_one, atI_lit, atI_n, ixN_zero, ixN_one, ixN_lit, ixN_n, List.length_cons, List.length_nil, Nat.reduceAdd, Nat.reduceLT, decide_eq_true_eq, List.append_nil, List.nil_append, ZO.lst.injEq, ZO.dct.injEq, seqIx_n, Bool.not_true, Bool.not_false, isE_snoc, and_assoc, or_false, false_or, exists_eq, exists_eq', isT, String.reduceBEq, Bool.and_false, Bool.and_true, Bool.false_and, Bool.true_and, Bool.or_false, Bool.or_true, Bool.true_or, Bool.false_or, natC, natC0, natC1, plain_int, plain_str, plain_non, depth_int, depth_str, depth_non, Nat.zero_le, true_or, or_true, not_true_eq_false, not_false_eq_true, Int.reduceEq, Int.reduceLT, Int.reduceLE, Int.reduceAdd, Int.reduceSub, Nat.reduceEqDiff, decide_true, decide_false]
    refine ⟨a, bn, pd, ys, rfl, f6, hd.ne hpd, a6.2, by omega, fun zs S7 p hperm h7 hp => ?_⟩
    have a7 := a6.draw h7
    have g7 := h7.at (hd.ne hpf) g6
    have hpp : p ≠ pf := by rintro rfl; rw [g7] at hp; cases hp
    refine ⟨.lst p zs, zs, .inl (.inl ⟨rfl, .inl zup_same⟩), .inl zup_same, ?_⟩
    refine zloop (fun rest δ' S' => (∃ o2, δ' = [some (.ref a), some (.str word), some (.ref pn), some (.int c), some (.ref pd), o, some (.ref pf), o2]) ∧ (∀ x ∈ rest, isStep x) ∧ At S a bn S' ∧ S' p = some (.lst zs) ∧
      ∃ gs, S' pf = some (.lst ([.tup [.str "see", .str word], .tup [.str "ask", .str word]] ++ gs)) ∧ (∀ x ∈ gs, isStep x) ∧ (D.tup [.str "see", .str word] :: .tup [.str "ask", .str word] :: gs).Nodup ∧ gs.length ≤ 7 ∧ (D.tup [.str "done"] ∈ rest ∨ gs ≠ [])) ?_ ?_ _ _ _ ?_
    · rintro δ' S' ⟨⟨o2, rfl⟩, _, ha, _, gs, h1, h2, h3, h4, h5⟩
      refine hM _ _ ⟨_, rfl, rfl, ha, h1, ?_, h3, ?_, by simp; omega⟩
      · intro x hx
        simp only [List.cons_append, List.nil_append, List.mem_cons] at hx
        rcases hx with rfl | rfl | hx
        · exact .inr (.inl ⟨_, _, rfl⟩)
        · exact .inr (.inl ⟨_, _, rfl⟩)
        · exact h2 x hx
      · rcases h5 with h5 | h5
        · simp at h5
        · have := List.length_pos_iff.mpr h5
          simp; omega
    · rintro d r δ' S' N ⟨⟨o2, rfl⟩, hr, ha, e, gs, h1, h2, h3, h4, h5⟩ hN
      have hst := hr d (by simp)
      have skip : (D.tup [.str "done"] ∈ r ∨ gs ≠ []) → N [some (.ref a), some (.str word), some (.ref pn), some (.int c), some (.ref pd), o, some (.ref pf), some d] S' := fun h =>
        hN _ _ (.inl e) ⟨⟨_, rfl⟩, fun x hx => hr x (by simp [hx]), ha, e, gs, h1, h2, h3, h4, h⟩
      simp only [zNext, zBreak, zCont, zDrop, zRet, zRetN, zIfS, zAsg, zAug, zAugS, zDel, zFor, zVar, zC, zOp, zUn, zNil, zCons, zAp, zMt, zB, zTr, zTruth, zAnd, zOr, zNot, zAndV, zOrV, zNotV, zIf, zTup, zLst, zDNew, zBM, zBM0, tyZ, zgName, zgNil, zgCons, zgTup, zgTupT, zgSub, zAdd, zSub, zMul, zMod, zDiv, zPow, zShl, zCmpI, zLt, zLe, zGt, zGe, zEq, zNe, zIs, zIsNot, zIn, zNotIn, zNeg, zEqN, zIsN, scalD, zInN, zIx, zSlice, zPart, zNoPart, zSl, zSet, zIAdd, zGetA, zDelI, zLenA, zListA, zTuple, zInt, zAbs, zMax2, zMin2, zAllL, zAnyL, zSumL, zMaxL, zMinL, zSorted, zAppend, zExtend, zPop, zPopAt, zReverse, zJoin, zStr1, zIsi, tyD, zCall, zLc, zLcL, zYes, ziR1, ziR2, ziR3, ziAny, ziEnum, Keep, zEnd, List.getElem?_cons_zero, List.getElem?_cons_succ, List.set_cons_zero, List.set_cons_succ, Option.some.injEq, D.int.injEq, D.ref.injEq, D.tup.injEq, D.str.injEq, D.bl.injEq, reduceCtorEq, false_and, and_false, true_and, and_true, exists_eq_left, exists_eq_left', exists_and_left, if_true, if_false, Bool.false_eq_true, ite_false, ite_true, List.cons.injEq, wipeZ, zup_same, atI_zero, atI_one, atI_lit, atI_n, ixN_zero, ixN_one, ixN_lit, ixN_n, List.length_cons, List.length_nil, Nat.reduceAdd, Nat.reduceLT, decide_eq_true_eq, List.append_nil, List.nil_append, ZO.lst.injEq, ZO.dct.injEq, seqIx_n, Bool.not_true, Bool.not_false, isE_snoc, and_assoc, or_false, false_or, exists_eq, exists_eq', isT, String.reduceBEq, Bool.and_false, Bool.and_true, Bool.false_and, Bool.true_and, Bool.or_false, Bool.or_true, Bool.true_or, Bool.false_or, natC, natC0, natC1, plain_int, plain_str, plain_non, depth_int, depth_str, depth_non, Nat.zero_le, true_or, or_true, not_true_eq_false, not_false_eq_true, Int.reduceEq, Int.reduceLT, Int.reduceLE, Int.reduceAdd, Int.reduceSub, Nat.reduceEqDiff, decide_true, decide_false, h1]
      have keepD : (D.tup [.str "done"] = d → gs ≠ []) → (D.tup [.str "done"] ∈ r ∨ gs ≠ []) := fun h => by
        rcases h5 with h5 | h5
        · rcases List.mem_cons.mp h5 with h6 | h6
          · exact .inr (h h6)
          · exact .inl h6
        · exact .inr h5
      refine ⟨hst.facts.1, ?_, by rw [hst.facts.2.2.1]; omega, ?_⟩
      · refine D.plainL_iff.mpr fun x hx => ?_
        simp only [List.cons_append, List.nil_append, List.mem_cons] at hx
        rcases hx with rfl | rfl | hx
        · rfl
        · rfl
        · exact (h2 x hx).facts.1
      · by_cases hin : d ∈ [D.tup [.str "see", .str word], .tup [.str "ask", .str word]] ++ gs
        · simp only [zNext, zBreak, zCont, zDrop, zRet, zRetN, zIfS, zAsg, zAug, zAugS, zDel, zFor, zVar, zC, zOp, zUn, zNil, zCons, zAp, zMt, zB, zTr, zTruth, zAnd, zOr, zNot, zAndV, zOrV, zNotV, zIf, zTup, zLst, zDNew, zBM, zBM0, tyZ, zgName, zgNil, zgCons, zgTup, zgTupT, zgSub, zAdd, zSub, zMul, zMod, zDiv, zPow, zShl, zCmpI, zLt, zLe, zGt, zGe, zEq, zNe, zIs, zIsNot, zIn, zNotIn, zNeg, zEqN, zIsN, scalD, zInN, zIx, zSlice, zPart, zNoPart, zSl, zSet, zIAdd, zGetA, zDelI, zLenA, zListA, zTuple, zInt, zAbs, zMax2, zMin2, zAllL, zAnyL, zSumL, zMaxL, zMinL, zSorted, zAppend, zExtend, zPop, zPopAt, zReverse, zJoin, zStr1, zIsi, tyD, zCall, zLc, zLcL, zYes, ziR1, ziR2, ziR3, ziAny, ziEnum, Keep, zEnd, List.getElem?_cons_zero, List.getElem?_cons_succ, List.set_cons_zero, List.set_cons_succ, Option.some.injEq, D.int.injEq, D.ref.injEq, D.tup.injEq, D.str.injEq, D.bl.injEq, reduceCtorEq, false_and, and_false, true_and, and_true, exists_eq_left, exists_eq_left', exists_and_left, if_true, if_false, Bool.false_eq_true, ite_false, ite_true, List.cons.injEq, wipeZ, zup_same, atI_zero, atI_one, atI_lit, atI_n, ixN_zero, ixN_one, ixN_lit, ixN_n, List.length_cons, List.length_nil, Nat.reduceAdd, Nat.reduceLT, decide_eq_true_eq, List.append_nil, List.nil_append, ZO.lst.injEq, ZO.dct.injEq, seqIx_n, Bool.not_true, Bool.not_false, isE_snoc, and_assoc, or_false, false_or, exists_eq, exists_eq', isT, String.reduceBEq, Bool.and_false, Bool.and_true, Bool.false_and, Bool.true_and, Bool.or_false, Bool.or_true, Bool.true_or, Bool.false_or, natC, natC0, natC1, plain_int, plain_str, plain_non, depth_int, depth_str, depth_non, Nat.zero_le, true_or, or_true, not_true_eq_false, not_false_eq_true, Int.reduceEq, Int.reduceLT, Int.reduceLE, Int.reduceAdd, Int.reduceSub, Nat.reduceEqDiff, decide_true, decide_false, hin]
          refine skip (keepD fun e => ?_)
          subst e
          rintro rfl
          simp at hin
        · simp only [zNext, zBreak, zCont, zDrop, zRet, zRetN, zIfS, zAsg, zAug, zAugS, zDel, zFor, zVar, zC, zOp, zUn, zNil, zCons, zAp, zMt, zB, zTr, zTruth, zAnd, zOr, zNot, zAndV, zOrV, zNotV, zIf, zTup, zLst, zDNew, zBM, zBM0, tyZ, zgName, zgNil, zgCons, zgTup, zgTupT, zgSub, zAdd, zSub, zMul, zMod, zDiv, zPow, zShl, zCmpI, zLt, zLe, zGt, zGe, zEq, zNe, zIs, zIsNot, zIn, zNotIn, zNeg, zEqN, zIsN, scalD, zInN, zIx, zSlice, zPart, zNoPart, zSl, zSet, zIAdd, zGetA, zDelI, zLenA, zListA, zTuple, zInt, zAbs, zMax2, zMin2, zAllL, zAnyL, zSumL, zMaxL, zMinL, zSorted, zAppend, zExtend, zPop, zPopAt, zReverse, zJoin, zStr1, zIsi, tyD, zCall, zLc, zLcL, zYes, ziR1, ziR2, ziR3, ziAny, ziEnum, Keep, zEnd, List.getElem?_cons_zero, List.getElem?_cons_succ, List.set_cons_zero, List.set_cons_succ, Option.some.injEq, D.int.injEq, D.ref.injEq, D.tup.injEq, D.str.injEq, D.bl.injEq, reduceCtorEq, false_and, and_false, true_and, and_true, exists_eq_left, exists_eq_left', exists_and_left, if_true, if_false, Bool.false_eq_true, ite_false, ite_true, List.cons.injEq, wipeZ, zup_same, atI_zero, atI_one, atI_lit, atI_n, ixN_zero, ixN_one, ixN_lit, ixN_n, List.length_cons, List.length_nil, Nat.reduceAdd, Nat.reduceLT, decide_eq_true_eq, List.append_nil, List.nil_append, ZO.lst.injEq, ZO.dct.injEq, seqIx_n, Bool.not_true, Bool.not_false, isE_snoc, and_assoc, or_false, false_or, exists_eq, exists_eq', isT, String.reduceBEq, Bool.and_false, Bool.and_true, Bool.false_and, Bool.true_and, Bool.or_false, Bool.or_true, Bool.true_or, Bool.false_or, natC, natC0, natC1, plain_int, plain_str, plain_non, depth_int, depth_str, depth_non, Nat.zero_le, true_or, or_true, not_true_eq_false, not_false_eq_true, Int.reduceEq, Int.reduceLT, Int.reduceLE, Int.reduceAdd, Int.reduceSub, Nat.reduceEqDiff, decide_true, decide_false, hin]
          split
          · rename_i hlt
            have hgl : gs.length + 1 ≤ 7 := by simp at hlt; omega
            have e' : zup S' pf (.lst ([D.tup [.str "see", .str word], .tup [.str "ask", .str word]] ++ gs ++ [d])) p = some (.lst zs) := by rw [zup_ne hpp]; exact e
            refine ⟨by simp [sizeLine_eq]; omega, hN _ _ (.inl e') ⟨⟨_, rfl⟩, fun x hx => hr x (by simp [hx]), ha.upd hpf hd, e', gs ++ [d], by rw [zup_same, List.append_assoc], ?_, ?_, by simp; omega, .inr (by simp)⟩⟩
            · intro x hx
              rcases List.mem_append.mp hx with hx | hx
              · exact h2 x hx
              · rw [List.mem_singleton.mp hx]; exact hst
            · rw [← List.cons_append, ← List.cons_append]
              refine List.nodup_append.mpr ⟨h3, by simp, ?_⟩
              intro x hx y hy
              rw [List.mem_singleton.mp hy]
              rintro rfl
              exact hin (by simpa using hx)
          · rename_i hlt
            refine skip (.inr fun e => ?_)
            subst e
            simp at hlt
    · refine ⟨⟨none, rfl⟩, fun x hx => hys x (hperm.mem_iff.mp hx), a7.new hp, zup_same, [], zup_of g7 hp, by simp, by simp; decide, by simp, .inl (hperm.mem_iff.mpr hdone)⟩
  · rintro δ' S7 ⟨fs, d0, d6, a7, e7, hgood⟩
    simp only [zNext, zBreak, zCont, zDrop, zRet, zRetN, zIfS, zAsg, zAug, zAugS, zDel, zFor, zVar, zC, zOp, zUn, zNil, zCons, zAp, zMt, zB, zTr, zTruth, zAnd, zOr, zNot, zAndV, zOrV, zNotV, zIf, zTup, zLst, zDNew, zBM, zBM0, tyZ, zgName, zgNil, zgCons, zgTup, zgTupT, zgSub, zAdd, zSub, zMul, zMod, zDiv, zPow, zShl, zCmpI, zLt, zLe, zGt, zGe, zEq, zNe, zIs, zIsNot, zIn, zNotIn, zNeg, zEqN, zIsN, scalD, zInN, zIx, zSlice, zPart, zNoPart, zSl, zSet, zIAdd, zGetA, zDelI, zLenA, zListA, zTuple, zInt, zAbs, zMax2, zMin2, zAllL, zAnyL, zSumL, zMaxL, zMinL, zSorted, zAppend, zExtend, zPop, zPopAt, zReverse, zJoin, zStr1, zIsi, tyD, zCall, zLc, zLcL, zYes, ziR1, ziR2, ziR3, ziAny, ziEnum, Keep, zEnd, List.getElem?_cons_zero, List.getElem?_cons_succ, List.set_cons_zero, List.set_cons_succ, Option.some.injEq, D.int.injEq, D.ref.injEq, D.tup.injEq, D.str.injEq, D.bl.injEq, reduceCtorEq, false_and, and_false, true_and, and_true, exists_eq_left, exists_eq_left', exists_and_left, if_true, if_false, Bool.false_eq_true, ite_false, ite_true, List.cons.injEq, wipeZ, zup_same, atI_zero, atI_one, atI_lit, atI_n, ixN_zero, ixN_one, ixN_lit, ixN_n, List.length_cons, List.length_nil, Nat.reduceAdd, Nat.reduceLT, decide_eq_true_eq, List.append_nil, List.nil_append, ZO.lst.injEq, ZO.dct.injEq, seqIx_n, Bool.not_true, Bool.not_false, isE_snoc, and_assoc, or_false, false_or, exists_eq, exists_eq', isT, String.reduceBEq, Bool.and_false, Bool.and_true, Bool.false_and, Bool.true_and, Bool.or_false, Bool.or_true, Bool.true_or, Bool.false_or, natC, natC0, natC1, plain_int, plain_str, plain_non, depth_int, depth_str, depth_non, Nat.zero_le, true_or, or_true, not_true_eq_false, not_false_eq_true, Int.reduceEq, Int.reduceLT, Int.reduceLE, Int.reduceAdd, Int.reduceSub, Nat.reduceEqDiff, decide_true, decide_false, d0, d6]
    refine ⟨a, bn, pf, fs, rfl, e7, hd.ne hpf, a7.2, by have := hgood.2.2.2; omega, fun zs S8 p hperm h8 hp => ?_⟩
    have a8 := a7.draw h8
    exact (a8.new hp).retL hd (a8.none hp hd) zup_same fun S9 h9 hp9 => hq zs _ p ⟨fun x hx => hgood.1 x (hperm.mem_iff.mp hx), hperm.nodup_iff.mpr hgood.2.1, by rw [hperm.length_eq]; exact hgood.2.2.1, by rw [hperm.length_eq]; exact hgood.2.2.2⟩ h9 hp9
end K70
namespace K70
open PySem PySem.Spec PyProof.Rows L2 Z ZH
/-! ### _law_row_of -/
def goodRow (as : List D) : Prop := (∀ x ∈ as, isAns x) ∧ as.length ≤ 100
def sp__law_row_of (K : PySem.W.Frag) : ZSp := fun ds S Q => ∃ (a : Addr) (bn : Addr × List Int) (pp : Addr) (ps : List D), ds = [.ref a, .ref pp] ∧ S pp = some (.lst ps) ∧ pp ≠ a ∧ goodPool ps ∧ Dr S a bn ∧
  ∀ as (l : Int) S1 p q, goodRow as → DrN S S1 a bn → S1 p = none → S1 q = none → p ≠ q → Q (.ref q) (zup (zup S1 p (.lst as)) q (.lst [.ref p, .int l]))
def z__law_row_of (K : PySem.W.Frag) : ZTS :=
  (zSeq (zAsg (zCall (sp__law_draw K) [] (zCons (zVar 0) (zCons (zC (.int 5)) zNil))) (zgName 2))
    (zSeq (zIfS (zB (zOp zEq (zVar 2) (zC (.int 0)))) (zSeq (zAsg (zOp zAdd (zSlice (zVar 1) zNoPart (zPart (zOp zAdd (zC (.int 1)) (zCall (sp__law_draw K) [] (zCons (zVar 0) (zCons (zAp zLenA (zCons (zVar 1) zNil)) zNil)))))) (zLst (zCons (zC .non) zNil))) (zgName 3))
    (zRet (zLst (zCons (zLc (ziR1 (zCons (zOp zAdd (zC (.int 1)) (zCall (sp__law_draw K) [] (zCons (zVar 0) (zCons (zC (.int 9)) zNil)))) zNil)) (zgName 7) zYes (zCall (sp__law_pick K) [] (zCons (zVar 0) (zCons (zVar 3) zNil))) [7]) (zCons (zCall (sp__law_draw K) [] (zCons (zVar 0) (zCons (zC (.int 10)) zNil))) zNil))))) zNext)
    (zSeq (zIfS (zB (zOp zEq (zVar 2) (zC (.int 1)))) (zSeq (zAsg (zOp zAdd (zC (.int 1)) (zCall (sp__law_draw K) [] (zCons (zVar 0) (zCons (zAp zLenA (zCons (zVar 1) zNil)) zNil)))) (zgName 4))
    (zRet (zLst (zCons (zSlice (zVar 1) zNoPart (zPart (zVar 4))) (zCons (zAp zMin2 (zCons (zAp zMax2 (zCons (zOp zAdd (zOp zSub (zVar 4) (zC (.int 2))) (zCall (sp__law_draw K) [] (zCons (zVar 0) (zCons (zC (.int 3)) zNil)))) (zCons (zC (.int 0)) zNil))) (zCons (zC (.int 9)) zNil))) zNil))))) zNext)
    (zSeq (zIfS (zB (zOp zEq (zVar 2) (zC (.int 2)))) (zSeq (zAsg (zOp zAdd (zC (.int 1)) (zCall (sp__law_draw K) [] (zCons (zVar 0) (zCons (zC (.int 4)) zNil)))) (zgName 4))
    (zRet (zLst (zCons (zCall (sp__law_shuffled K) [] (zCons (zVar 0) (zCons (zOp zAdd (zOp zMul (zSlice (zVar 1) zNoPart (zPart (zC (.int 2)))) (zVar 4)) (zOp zMul (zLst (zCons (zC .non) zNil)) (zCall (sp__law_draw K) [] (zCons (zVar 0) (zCons (zC (.int 2)) zNil))))) zNil))) (zCons (zAp zMax2 (zCons (zOp zAdd (zOp zSub (zVar 4) (zC (.int 1))) (zCall (sp__law_draw K) [] (zCons (zVar 0) (zCons (zC (.int 3)) zNil)))) (zCons (zC (.int 0)) zNil))) zNil))))) zNext)
    (zSeq (zAsg (zSlice (zVar 1) (zPart (zC (.int 1))) (zPart (zOp zAdd (zC (.int 3)) (zCall (sp__law_draw K) [] (zCons (zVar 0) (zCons (zAp zMin2 (zCons (zC (.int 5)) (zCons (zOp zSub (zAp zLenA (zCons (zVar 1) zNil)) (zC (.int 2))) zNil))) zNil)))))) (zgName 5))
    (zSeq (zAsg (zOp zAdd (zOp zMul (zLst (zCons (zOp zIx (zVar 1) (zC (.int 0))) zNil)) (zOp zAdd (zC (.int 2)) (zCall (sp__law_draw K) [] (zCons (zVar 0) (zCons (zC (.int 2)) zNil))))) (zVar 5)) (zgName 6))
    (zSeq (zAsg (zOp zAdd (zSlice (zVar 6) zNoPart (zPart (zC (.int 9)))) (zOp zMul (zLst (zCons (zC .non) zNil)) (zCall (sp__law_draw K) [] (zCons (zVar 0) (zCons (zOp zSub (zC (.int 10)) (zAp zMin2 (zCons (zAp zLenA (zCons (zVar 6) zNil)) (zCons (zC (.int 9)) zNil)))) zNil))))) (zgName 6))
    (zRet (zLst (zCons (zCall (sp__law_shuffled K) [] (zCons (zVar 0) (zCons (zVar 6) zNil))) (zCons (zAp zMax2 (zCons (zOp zAdd (zOp zSub (zAp zLenA (zCons (zVar 5) zNil)) (zC (.int 1))) (zCall (sp__law_draw K) [] (zCons (zVar 0) (zCons (zC (.int 3)) zNil)))) (zCons (zC (.int 0)) zNil))) zNil)))))))))))

theorem cutD_0 (xs : List D) (k : Nat) : Z.cutD xs (some ((k : Nat) : Int)) none = xs.drop k := cutD_from xs k
theorem cut_sub {xs : List D} {lo hi : Option Int} {x : D} (h : x ∈ Z.cutD xs lo hi) : x ∈ xs := List.mem_of_mem_drop (List.mem_of_mem_take h)
theorem cut_len (xs : List D) (lo hi : Option Int) : (Z.cutD xs lo hi).length ≤ xs.length := by unfold Z.cutD; rw [List.length_take, List.length_drop]; omega
theorem rep_mem {α : Type} {x : α} {xs : List α} : ∀ {n : Nat}, x ∈ (List.replicate n xs).flatten → x ∈ xs
  | 0, h => by simp at h
  | n + 1, h => by
    rw [List.replicate_succ, List.flatten_cons] at h
    rcases List.mem_append.mp h with h | h
    · exact h
    · exact rep_mem h
theorem rep_len {α : Type} (xs : List α) : ∀ n : Nat, (List.replicate n xs).flatten.length = n * xs.length
  | 0 => by simp
  | n + 1 => by rw [List.replicate_succ, List.flatten_cons, List.length_append, rep_len xs n, Nat.succ_mul, Nat.add_comm]
theorem law_row_of {K : PySem.W.Frag} (ds : List D) (S : Store) (Q : ZK) (h : sp__law_row_of K ds S Q) : z__law_row_of K (zEnd Q) (zstart ["d", "pool", "way", "some", "many", "others", "row", "k"] ds) S := by
  obtain ⟨a, bn, pp, ps, rfl, hpp, hne, hps, hd, hq⟩ := h
  show z__law_row_of K (zEnd Q) [some (.ref a), some (.ref pp), none, none, none, none, none, none] S
  unfold z__law_row_of
  have hpl : 3 ≤ ps.length := hps.2.2.1
  have hpl2 : ps.length ≤ 9 := hps.2.2.2
  have h1s : 1 ≤ sizeLine := by decide
  have h2s : 2 ≤ sizeLine := by decide
  have ans : ∀ x ∈ ps, isAns x := fun x hx => .inr (hps.1 x hx)
  -- the end: a list of answers at p, the pair at q
  have fin : ∀ {S' : Store} {p : Addr} {as : List D} (l : Int), At S a bn S' → S p = none → S' p = some (.lst as) → goodRow as → ∀ q, S' q = none → ∃ S1, Z.Sub S1 (zup S' q (.lst [.ref p, .int l])) ∧ Q (.ref q) S1 := fun {S' p as} l ha hp e hg q hq0 => by
    have hqS := ha.none hq0 hd
    have hpq : p ≠ q := by rintro rfl; rw [e] at hq0; cases hq0
    have hN := (ha.fin hd).1
    refine ⟨_, ?_, hq as l _ p q hg hN (hN.none hd hp) (hN.none hd hqS) hpq⟩
    intro x u h
    by_cases h1 : x = q
    · subst h1; rw [zup_same] at h; rw [zup_same]; exact h
    · rw [zup_ne h1] at h ⊢
      by_cases h2 : x = p
      · subst h2; rw [zup_same] at h; rw [← h]; exact e
      · rw [zup_ne h2] at h; exact (ha.fin hd).2 x u h
  refine zseq_go ?_
  simp only [zNext, zBreak, zCont, zDrop, zRet, zRetN, zIfS, zAsg, zAug, zAugS, zDel, zFor, zVar, zC, zOp, zUn, zNil, zCons, zAp, zMt, zB, zTr, zTruth, zAnd, zOr, zNot, zAndV, zOrV, zNotV, zIf, zTup, zLst, zDNew, zBM, zBM0, tyZ, zgName, zgNil, zgCons, zgTup, zgTupT, zgSub, zAdd, zSub, zMul, zMod, zDiv, zPow, zShl, zCmpI, zLt, zLe, zGt, zGe, zEq, zNe, zIs, zIsNot, zIn, zNotIn, zNeg, zEqN, zIsN, scalD, zInN, zIx, zSlice, zPart, zNoPart, zSl, zSet, zIAdd, zGetA, zDelI, zLenA, zListA, zTuple, zInt, zAbs, zMax2, zMin2, zAllL, zAnyL, zSumL, zMaxL, zMinL, zSorted, zAppend, zExtend, zPop, zPopAt, zReverse, zJoin, zStr1, zIsi, tyD, zCall, zLc, zLcL, zYes, ziR1, ziR2, ziR3, ziAny, ziEnum, Keep, zEnd, List.getElem?_cons_zero, List.getElem?_cons_succ, List.set_cons_zero, List.set_cons_succ, Option.some.injEq, D.int.injEq, D.ref.injEq, D.tup.injEq, D.str.injEq, D.bl.injEq, reduceCtorEq, false_and, and_false, true_and, and_true, exists_eq_left, exists_eq_left', exists_and_left, if_true, if_false, Bool.false_eq_true, ite_false, ite_true, List.cons.injEq, wipeZ, zup_same, atI_zero, atI_one, atI_lit, atI_n, ixN_zero, ixN_one, ixN_lit, ixN_n, List.length_cons, List.length_nil, Nat.reduceAdd, Nat.reduceLT, decide_eq_true_eq, List.append_nil, List.nil_append, ZO.lst.injEq, ZO.dct.injEq, seqIx_n, Bool.not_true, Bool.not_false, isE_snoc, and_assoc, or_false, false_or, exists_eq, exists_eq', isT, String.reduceBEq, Bool.and_false, Bool.and_true, Bool.false_and, Bool.true_and, Bool.or_false, Bool.or_true, Bool.true_or, Bool.false_or, natC, natC0, natC1, plain_int, plain_str, plain_non, depth_int, depth_str, depth_non, Nat.zero_le, true_or, or_true, not_true_eq_false, not_false_eq_true, Int.reduceEq, Int.reduceLT, Int.reduceLE, Int.reduceAdd, Int.reduceSub, Nat.reduceEqDiff, decide_true, decide_false]
  refine ⟨a, bn, 5, rfl, by omega, by omega, hd, fun way S1 _ _ h1 => ?_⟩
  have a1 := (At.refl hd).draw h1
  have e1 : S1 pp = some (.lst ps) := h1.at hne hpp
  -- way == 0
  refine zseqN (fun δ' S' => δ' = [some (.ref a), some (.ref pp), some (.int way), none, none, none, none, none] ∧ S1 = S') (fun M hM => ?_) ?_
  · simp only [zNext, zBreak, zCont, zDrop, zRet, zRetN, zIfS, zAsg, zAug, zAugS, zDel, zFor, zVar, zC, zOp, zUn, zNil, zCons, zAp, zMt, zB, zTr, zTruth, zAnd, zOr, zNot, zAndV, zOrV, zNotV, zIf, zTup, zLst, zDNew, zBM, zBM0, tyZ, zgName, zgNil, zgCons, zgTup, zgTupT, zgSub, zAdd, zSub, zMul, zMod, zDiv, zPow, zShl, zCmpI, zLt, zLe, zGt, zGe, zEq, zNe, zIs, zIsNot, zIn, zNotIn, zNeg, zEqN, zIsN, scalD, zInN, zIx, zSlice, zPart, zNoPart, zSl, zSet, zIAdd, zGetA, zDelI, zLenA, zListA, zTuple, zInt, zAbs, zMax2, zMin2, zAllL, zAnyL, zSumL, zMaxL, zMinL, zSorted, zAppend, zExtend, zPop, zPopAt, zReverse, zJoin, zStr1, zIsi, tyD, zCall, zLc, zLcL, zYes, ziR1, ziR2, ziR3, ziAny, ziEnum, Keep, zEnd, List.getElem?_cons_zero, List.getElem?_cons_succ, List.set_cons_zero, List.set_cons_succ, Option.some.injEq, D.int.injEq, D.ref.injEq, D.tup.injEq, D.str.injEq, D.bl.injEq, reduceCtorEq, false_and, and_false, true_and, and_true, exists_eq_left, exists_eq_left', exists_and_left, if_true, if_false, Bool.false_eq_true, ite_false, ite_true, List.cons.injEq, wipeZ, zup_same, atI_zero, atI_one, atI_lit, atI_n, ixN_zero, ixN_one, ixN_lit, ixN_n, List.length_cons, List.length_nil, Nat.reduceAdd, Nat.reduceLT, decide_eq_true_eq, List.append_nil, List.nil_append, ZO.lst.injEq, ZO.dct.injEq, seqIx_n, Bool.not_true, Bool.not_false, isE_snoc, and_assoc, or_false, false_or, exists_eq, exists_eq', isT, String.reduceBEq, Bool.and_false, Bool.and_true, Bool.false_and, Bool.true_and, Bool.or_false, Bool.or_true, Bool.true_or, Bool.false_or, natC, natC0, natC1, plain_int, plain_str, plain_non, depth_int, depth_str, depth_non, Nat.zero_le, true_or, or_true, not_true_eq_false, not_false_eq_true, Int.reduceEq, Int.reduceLT, Int.reduceLE, Int.reduceAdd, Int.reduceSub, Nat.reduceEqDiff, decide_true, decide_false]
    by_cases hw : way = 0
    · simp only [zNext, zBreak, zCont, zDrop, zRet, zRetN, zIfS, zAsg, zAug, zAugS, zDel, zFor, zVar, zC, zOp, zUn, zNil, zCons, zAp, zMt, zB, zTr, zTruth, zAnd, zOr, zNot, zAndV, zOrV, zNotV, zIf, zTup, zLst, zDNew, zBM, zBM0, tyZ, zgName, zgNil, zgCons, zgTup, zgTupT, zgSub, zAdd, zSub, zMul, zMod, zDiv, zPow, zShl, zCmpI, zLt, zLe, zGt, zGe, zEq, zNe, zIs, zIsNot, zIn, zNotIn, zNeg, zEqN, zIsN, scalD, zInN, zIx, zSlice, zPart, zNoPart, zSl, zSet, zIAdd, zGetA, zDelI, zLenA, zListA, zTuple, zInt, zAbs, zMax2, zMin2, zAllL, zAnyL, zSumL, zMaxL, zMinL, zSorted, zAppend, zExtend, zPop, zPopAt, zReverse, zJoin, zStr1, zIsi, tyD, zCall, zLc, zLcL, zYes, ziR1, ziR2, ziR3, ziAny, ziEnum, Keep, zEnd, List.getElem?_cons_zero, List.getElem?_cons_succ, List.set_cons_zero, List.set_cons_succ, Option.some.injEq, D.int.injEq, D.ref.injEq, D.tup.injEq, D.str.injEq, D.bl.injEq, reduceCtorEq, false_and, and_false, true_and, and_true, exists_eq_left, exists_eq_left', exists_and_left, if_true, if_false, Bool.false_eq_true, ite_false, ite_true, List.cons.injEq, wipeZ, zup_same, atI_zero, atI_one, atI_lit, atI_n, ixN_zero, ixN_one, ixN_lit, ixN_n, List.length_cons, List.length_nil, Nat.reduceAdd, Nat.reduceLT, decide_eq_true_eq, List.append_nil, List.nil_append, ZO.lst.injEq, ZO.dct.injEq, seqIx_n, Bool.not_true, Bool.not_false, isE_snoc, and_assoc, or_false, false_or, exists_eq, exists_eq', isT, String.reduceBEq, Bool.and_false, Bool.and_true, Bool.false_and, Bool.true_and, Bool.or_false, Bool.or_true, Bool.true_or, Bool.false_or, natC, natC0, natC1, plain_int, plain_str, plain_non, depth_int, depth_str, depth_non, Nat.zero_le, true_or, or_true, not_true_eq_false, not_false_eq_true, Int.reduceEq, Int.reduceLT, Int.reduceLE, Int.reduceAdd, Int.reduceSub, Nat.reduceEqDiff, decide_true, decide_false, hw]
      refine zseq_go ?_
      simp only [zNext, zBreak, zCont, zDrop, zRet, zRetN, zIfS, zAsg, zAug, zAugS, zDel, zFor, zVar, zC, zOp, zUn, zNil, zCons, zAp, zMt, zB, zTr, zTruth, zAnd, zOr, zNot, zAndV, zOrV, zNotV, zIf, zTup, zLst, zDNew, zBM, zBM0, tyZ, zgName, zgNil, zgCons, zgTup, zgTupT, zgSub, zAdd, zSub, zMul, zMod, zDiv, zPow, zShl, zCmpI, zLt, zLe, zGt, zGe, zEq, zNe, zIs, zIsNot, zIn, zNotIn, zNeg, zEqN, zIsN, scalD, zInN, zIx, zSlice, zPart, zNoPart, zSl, zSet, zIAdd, zGetA, zDelI, zLenA, zListA, zTuple, zInt, zAbs, zMax2, zMin2, zAllL, zAnyL, zSumL, zMaxL, zMinL, zSorted, zAppend, zExtend, zPop, zPopAt, zReverse, zJoin, zStr1, zIsi, tyD, zCall, zLc, zLcL, zYes, ziR1, ziR2, ziR3, ziAny, ziEnum, Keep, zEnd, List.getElem?_cons_zero, List.getElem?_cons_succ, List.set_cons_zero, List.set_cons_succ, Option.some.injEq, D.int.injEq, D.ref.injEq, D.tup.injEq, D.str.injEq, D.bl.injEq, reduceCtorEq, false_and, and_false, true_and, and_true, exists_eq_left, exists_eq_left', exists_and_left, if_true, if_false, Bool.false_eq_true, ite_false, ite_true, List.cons.injEq, wipeZ, zup_same, atI_zero, atI_one, atI_lit, atI_n, ixN_zero, ixN_one, ixN_lit, ixN_n, List.length_cons, List.length_nil, Nat.reduceAdd, Nat.reduceLT, decide_eq_true_eq, List.append_nil, List.nil_append, ZO.lst.injEq, ZO.dct.injEq, seqIx_n, Bool.not_true, Bool.not_false, isE_snoc, and_assoc, or_false, false_or, exists_eq, exists_eq', isT, String.reduceBEq, Bool.and_false, Bool.and_true, Bool.false_and, Bool.true_and, Bool.or_false, Bool.or_true, Bool.true_or, Bool.false_or, natC, natC0, natC1, plain_int, plain_str, plain_non, depth_int, depth_str, depth_non, Nat.zero_le, true_or, or_true, not_true_eq_false, not_false_eq_true, Int.reduceEq, Int.reduceLT, Int.reduceLE, Int.reduceAdd, Int.reduceSub, Nat.reduceEqDiff, decide_true, decide_false, e1]
      refine ⟨a, bn, ps.length, rfl, by omega, by omega, a1.2, fun x S2 x0 x1 h2 => ?_⟩
      have a2 := a1.draw h2
      have e2 := h2.at hne e1
      simp only [zNext, zBreak, zCont, zDrop, zRet, zRetN, zIfS, zAsg, zAug, zAugS, zDel, zFor, zVar, zC, zOp, zUn, zNil, zCons, zAp, zMt, zB, zTr, zTruth, zAnd, zOr, zNot, zAndV, zOrV, zNotV, zIf, zTup, zLst, zDNew, zBM, zBM0, tyZ, zgName, zgNil, zgCons, zgTup, zgTupT, zgSub, zAdd, zSub, zMul, zMod, zDiv, zPow, zShl, zCmpI, zLt, zLe, zGt, zGe, zEq, zNe, zIs, zIsNot, zIn, zNotIn, zNeg, zEqN, zIsN, scalD, zInN, zIx, zSlice, zPart, zNoPart, zSl, zSet, zIAdd, zGetA, zDelI, zLenA, zListA, zTuple, zInt, zAbs, zMax2, zMin2, zAllL, zAnyL, zSumL, zMaxL, zMinL, zSorted, zAppend, zExtend, zPop, zPopAt, zReverse, zJoin, zStr1, zIsi, tyD, zCall, zLc, zLcL, zYes, ziR1, ziR2, ziR3, ziAny, ziEnum, Keep, zEnd, List.getElem?_cons_zero, List.getElem?_cons_succ, List.set_cons_zero, List.set_cons_succ, Option.some.injEq, D.int.injEq, D.ref.injEq, D.tup.injEq, D.str.injEq, D.bl.injEq, reduceCtorEq, false_and, and_false, true_and, and_true, exists_eq_left, exists_eq_left', exists_and_left, if_true, if_false, Bool.false_eq_true, ite_false, ite_true, List.cons.injEq, wipeZ, zup_same, atI_zero, atI_one, atI_lit, atI_n, ixN_zero, ixN_one, ixN_lit, ixN_n, List.length_cons, List.length_nil, Nat.reduceAdd, Nat.reduceLT, decide_eq_true_eq, List.append_nil, List.nil_append, ZO.lst.injEq, ZO.dct.injEq, seqIx_n, Bool.not_true, Bool.not_false, isE_snoc, and_assoc, or_false, false_or, exists_eq, exists_eq', isT, String.reduceBEq, Bool.and_false, Bool.and_true, Bool.false_and, Bool.true_and, Bool.or_false, Bool.or_true, Bool.true_or, Bool.false_or, natC, natC0, natC1, plain_int, plain_str, plain_non, depth_int, depth_str, depth_non, Nat.zero_le, true_or, or_true, not_true_eq_false, not_false_eq_true, Int.reduceEq, Int.reduceLT, Int.reduceLE, Int.reduceAdd, Int.reduceSub, Nat.reduceEqDiff, decide_true, decide_false, e2]
      intro p hp
      refine ⟨h1s, fun p2 hp2 => ?_⟩
      have hpp2 : p ≠ p2 := by rintro rfl; rw [zup_same] at hp2; cases hp2
      have hcl := cut_len ps none (some (1 + x))
      refine ⟨Z.cutD ps none (some (1 + x)), zup_of zup_same hp2, by rw [sizeLine_eq]; omega, fun p3 hp3 => ?_⟩
      have a3 := ((a2.new hp (o := .lst (Z.cutD ps none (some (1 + x))))).new hp2 (o := .lst [.non])).new hp3 (o := .lst (Z.cutD ps none (some (1 + x)) ++ [.non]))
      have hp3S := ((a2.new hp (o := .lst (Z.cutD ps none (some (1 + x))))).new hp2 (o := .lst [.non])).none hp3 hd
      generalize hS3 : zup (zup (zup S2 p (.lst (Z.cutD ps none (some (1 + x))))) p2 (.lst [.non])) p3 (.lst (Z.cutD ps none (some (1 + x)) ++ [.non])) = S3 at a3 ⊢
      have e3 : S3 p3 = some (.lst (Z.cutD ps none (some (1 + x)) ++ [.non])) := by rw [← hS3]; exact zup_same
      refine ⟨a, bn, 9, rfl, by omega, by omega, a3.2, fun n S4 n0 n1 h4 => ?_⟩
      have a4 := a3.draw h4
      have e4 := h4.at (hd.ne hp3S) e3
      simp only [zNext, zBreak, zCont, zDrop, zRet, zRetN, zIfS, zAsg, zAug, zAugS, zDel, zFor, zVar, zC, zOp, zUn, zNil, zCons, zAp, zMt, zB, zTr, zTruth, zAnd, zOr, zNot, zAndV, zOrV, zNotV, zIf, zTup, zLst, zDNew, zBM, zBM0, tyZ, zgName, zgNil, zgCons, zgTup, zgTupT, zgSub, zAdd, zSub, zMul, zMod, zDiv, zPow, zShl, zCmpI, zLt, zLe, zGt, zGe, zEq, zNe, zIs, zIsNot, zIn, zNotIn, zNeg, zEqN, zIsN, scalD, zInN, zIx, zSlice, zPart, zNoPart, zSl, zSet, zIAdd, zGetA, zDelI, zLenA, zListA, zTuple, zInt, zAbs, zMax2, zMin2, zAllL, zAnyL, zSumL, zMaxL, zMinL, zSorted, zAppend, zExtend, zPop, zPopAt, zReverse, zJoin, zStr1, zIsi, tyD, zCall, zLc, zLcL, zYes, ziR1, ziR2, ziR3, ziAny, ziEnum, Keep, zEnd, List.getElem?_cons_zero, List.getElem?_cons_succ, List.set_cons_zero, List.set_cons_succ, Option.some.injEq, D.int.injEq, D.ref.injEq, D.tup.injEq, D.str.injEq, D.bl.injEq, reduceCtorEq, false_and, and_false, true_and, and_true, exists_eq_left, exists_eq_left', exists_and_left, if_true, if_false, Bool.false_eq_true, ite_false, ite_true, List.cons.injEq, wipeZ, zup_same, atI_zero, atI_one, atI_lit, atI_n, ixN_zero, ixN_one, ixN_lit, ixN_n, List.length_cons, List.length_nil, Nat.reduceAdd, Nat.reduceLT, decide_eq_true_eq, List.append_nil, List.nil_append, ZO.lst.injEq, ZO.dct.injEq, seqIx_n, Bool.not_true, Bool.not_false, isE_snoc, and_assoc, or_false, false_or, exists_eq, exists_eq', isT, String.reduceBEq, Bool.and_false, Bool.and_true, Bool.false_and, Bool.true_and, Bool.or_false, Bool.or_true, Bool.true_or, Bool.false_or, natC, natC0, natC1, plain_int, plain_str, plain_non, depth_int, depth_str, depth_non, Nat.zero_le, true_or, or_true, not_true_eq_false, not_false_eq_true, Int.reduceEq, Int.reduceLT, Int.reduceLE, Int.reduceAdd, Int.reduceSub, Nat.reduceEqDiff, decide_true, decide_false]
      refine ⟨by omega, by omega, ?_⟩
      refine zlcl (fun rest acc S' => At S a bn S' ∧ S' p3 = some (.lst (Z.cutD ps none (some (1 + x)) ++ [.non])) ∧ (∀ y ∈ acc, isAns y) ∧ acc.length + rest.length ≤ 10) ?_ ?_ _ _ _ ?_
      · rintro acc S5 ⟨a5, _, hacc, hl⟩ q hq0
        have a6 := a5.new hq0 (o := .lst acc)
        refine ⟨a, bn, 10, rfl, by omega, by omega, a6.2, fun l S7 _ _ h7 => ⟨h2s, fun q2 hq2 => ?_⟩⟩
        have hqS := a5.none hq0 hd
        exact fin l (a6.draw h7) hqS (h7.at (hd.ne hqS) zup_same) ⟨hacc, by simp at hl; omega⟩ q2 hq2
      · rintro d r acc S5 N ⟨a5, e5, hacc, hl⟩ hN
        simp only [zNext, zBreak, zCont, zDrop, zRet, zRetN, zIfS, zAsg, zAug, zAugS, zDel, zFor, zVar, zC, zOp, zUn, zNil, zCons, zAp, zMt, zB, zTr, zTruth, zAnd, zOr, zNot, zAndV, zOrV, zNotV, zIf, zTup, zLst, zDNew, zBM, zBM0, tyZ, zgName, zgNil, zgCons, zgTup, zgTupT, zgSub, zAdd, zSub, zMul, zMod, zDiv, zPow, zShl, zCmpI, zLt, zLe, zGt, zGe, zEq, zNe, zIs, zIsNot, zIn, zNotIn, zNeg, zEqN, zIsN, scalD, zInN, zIx, zSlice, zPart, zNoPart, zSl, zSet, zIAdd, zGetA, zDelI, zLenA, zListA, zTuple, zInt, zAbs, zMax2, zMin2, zAllL, zAnyL, zSumL, zMaxL, zMinL, zSorted, zAppend, zExtend, zPop, zPopAt, zReverse, zJoin, zStr1, zIsi, tyD, zCall, zLc, zLcL, zYes, ziR1, ziR2, ziR3, ziAny, ziEnum, Keep, zEnd, List.getElem?_cons_zero, List.getElem?_cons_succ, List.set_cons_zero, List.set_cons_succ, Option.some.injEq, D.int.injEq, D.ref.injEq, D.tup.injEq, D.str.injEq, D.bl.injEq, reduceCtorEq, false_and, and_false, true_and, and_true, exists_eq_left, exists_eq_left', exists_and_left, if_true, if_false, Bool.false_eq_true, ite_false, ite_true, List.cons.injEq, wipeZ, zup_same, atI_zero, atI_one, atI_lit, atI_n, ixN_zero, ixN_one, ixN_lit, ixN_n, List.length_cons, List.length_nil, Nat.reduceAdd, Nat.reduceLT, decide_eq_true_eq, List.append_nil, List.nil_append, ZO.lst.injEq, ZO.dct.injEq, seqIx_n, Bool.not_true, Bool.not_false, isE_snoc, and_assoc, or_false, false_or, exists_eq, exists_eq', isT, String.reduceBEq, Bool.and_false, Bool.and_true, Bool.false_and, Bool.true_and, Bool.or_false, Bool.or_true, Bool.true_or, Bool.false_or, natC, natC0, natC1, plain_int, plain_str, plain_non, depth_int, depth_str, depth_non, Nat.zero_le, true_or, or_true, not_true_eq_false, not_false_eq_true, Int.reduceEq, Int.reduceLT, Int.reduceLE, Int.reduceAdd, Int.reduceSub, Nat.reduceEqDiff, decide_true, decide_false]
        refine ⟨a, bn, .ref p3, _, rfl, .inr ⟨p3, rfl, e5⟩, fun e => hd.ne hp3S (by cases e; rfl), a5.2, by simp, by simp; omega, fun y S6 hy h6 => ?_⟩
        simp only [List.length_cons] at hl
        refine ⟨by rw [sizeLine_eq]; omega, hN _ _ trivial ⟨a5.draw h6, h6.at (hd.ne hp3S) e5, ?_, by simp; omega⟩⟩
        intro z hz
        rcases List.mem_append.mp hz with hz | hz
        · exact hacc z hz
        · rw [List.mem_singleton.mp hz]
          rcases List.mem_append.mp hy with hy | hy
          · exact ans y (cut_sub hy)
          · exact .inl (List.mem_singleton.mp hy)
      · exact ⟨a4, e4, by simp, by rw [rangeD_len]; simp; omega⟩
    · simp only [zNext, zBreak, zCont, zDrop, zRet, zRetN, zIfS, zAsg, zAug, zAugS, zDel, zFor, zVar, zC, zOp, zUn, zNil, zCons, zAp, zMt, zB, zTr, zTruth, zAnd, zOr, zNot, zAndV, zOrV, zNotV, zIf, zTup, zLst, zDNew, zBM, zBM0, tyZ, zgName, zgNil, zgCons, zgTup, zgTupT, zgSub, zAdd, zSub, zMul, zMod, zDiv, zPow, zShl, zCmpI, zLt, zLe, zGt, zGe, zEq, zNe, zIs, zIsNot, zIn, zNotIn, zNeg, zEqN, zIsN, scalD, zInN, zIx, zSlice, zPart, zNoPart, zSl, zSet, zIAdd, zGetA, zDelI, zLenA, zListA, zTuple, zInt, zAbs, zMax2, zMin2, zAllL, zAnyL, zSumL, zMaxL, zMinL, zSorted, zAppend, zExtend, zPop, zPopAt, zReverse, zJoin, zStr1, zIsi, tyD, zCall, zLc, zLcL, zYes, ziR1, ziR2, ziR3, ziAny, ziEnum, Keep, zEnd, List.getElem?_cons_zero, List.getElem?_cons_succ, List.set_cons_zero, List.set_cons_succ, Option.some.injEq, D.int.injEq, D.ref.injEq, D.tup.injEq, D.str.injEq, D.bl.injEq, reduceCtorEq, false_and, and_false, true_and, and_true, exists_eq_left, exists_eq_left', exists_and_left, if_true, if_false, Bool.false_eq_true, ite_false, ite_true, List.cons.injEq, wipeZ, zup_same, atI_zero, atI_one, atI_lit, atI_n, ixN_zero, ixN_one, ixN_lit, ixN_n, List.length_cons, List.length_nil, Nat.reduceAdd, Nat.reduceLT, decide_eq_true_eq, List.append_nil, List.nil_append, ZO.lst.injEq, ZO.dct.injEq, seqIx_n, Bool.not_true, Bool.not_false, isE_snoc, and_assoc, or_false, false_or, exists_eq, exists_eq', isT, String.reduceBEq, Bool.and_false, Bool.and_true, Bool.false_and, Bool.true_and, Bool.or_false, Bool.or_true, Bool.true_or, Bool.false_or, natC, natC0, natC1, plain_int, plain_str, plain_non, depth_int, depth_str, depth_non, Nat.zero_le, true_or, or_true, not_true_eq_false, not_false_eq_true, Int.reduceEq, Int.reduceLT, Int.reduceLE, Int.reduceAdd, Int.reduceSub, Nat.reduceEqDiff, decide_true, decide_false, hw]
      exact hM _ _ ⟨rfl, rfl⟩
  rintro _ _ ⟨rfl, rfl⟩
  -- way == 1
  refine zseqN (fun δ' S' => δ' = [some (.ref a), some (.ref pp), some (.int way), none, none, none, none, none] ∧ S1 = S') (fun M hM => ?_) ?_
  · simp only [zNext, zBreak, zCont, zDrop, zRet, zRetN, zIfS, zAsg, zAug, zAugS, zDel, zFor, zVar, zC, zOp, zUn, zNil, zCons, zAp, zMt, zB, zTr, zTruth, zAnd, zOr, zNot, zAndV, zOrV, zNotV, zIf, zTup, zLst, zDNew, zBM, zBM0, tyZ, zgName, zgNil, zgCons, zgTup, zgTupT, zgSub, zAdd, zSub, zMul, zMod, zDiv, zPow, zShl, zCmpI, zLt, zLe, zGt, zGe, zEq, zNe, zIs, zIsNot, zIn, zNotIn, zNeg, zEqN, zIsN, scalD, zInN, zIx, zSlice, zPart, zNoPart, zSl, zSet, zIAdd, zGetA, zDelI, zLenA, zListA, zTuple, zInt, zAbs, zMax2, zMin2, zAllL, zAnyL, zSumL, zMaxL, zMinL, zSorted, zAppend, zExtend, zPop, zPopAt, zReverse, zJoin, zStr1, zIsi, tyD, zCall, zLc, zLcL, zYes, ziR1, ziR2, ziR3, ziAny, ziEnum, Keep, zEnd, List.getElem?_cons_zero, List.getElem?_cons_succ, List.set_cons_zero, List.set_cons_succ, Option.some.injEq, D.int.injEq, D.ref.injEq, D.tup.injEq, D.str.injEq, D.bl.injEq, reduceCtorEq, false_and, and_false, true_and, and_true, exists_eq_left, exists_eq_left', exists_and_left, if_true, if_false, Bool.false_eq_true, ite_false, ite_true, List.cons.injEq, wipeZ, zup_same, atI_zero, atI_one, atI_lit, atI_n, ixN_zero, ixN_one, ixN_lit, ixN_n, List.length_cons, List.length_nil, Nat.reduceAdd, Nat.reduceLT, decide_eq_true_eq, List.append_nil, List.nil_append, ZO.lst.injEq, ZO.dct.injEq, seqIx_n, Bool.not_true, Bool.not_false, isE_snoc, and_assoc, or_false, false_or, exists_eq, exists_eq', isT, String.reduceBEq, Bool.and_false, Bool.and_true, Bool.false_and, Bool.true_and, Bool.or_false, Bool.or_true, Bool.true_or, Bool.false_or, natC, natC0, natC1, plain_int, plain_str, plain_non, depth_int, depth_str, depth_non, Nat.zero_le, true_or, or_true, not_true_eq_false, not_false_eq_true, Int.reduceEq, Int.reduceLT, Int.reduceLE, Int.reduceAdd, Int.reduceSub, Nat.reduceEqDiff, decide_true, decide_false]
    by_cases hw : way = 1
    · simp only [zNext, zBreak, zCont, zDrop, zRet, zRetN, zIfS, zAsg, zAug, zAugS, zDel, zFor, zVar, zC, zOp, zUn, zNil, zCons, zAp, zMt, zB, zTr, zTruth, zAnd, zOr, zNot, zAndV, zOrV, zNotV, zIf, zTup, zLst, zDNew, zBM, zBM0, tyZ, zgName, zgNil, zgCons, zgTup, zgTupT, zgSub, zAdd, zSub, zMul, zMod, zDiv, zPow, zShl, zCmpI, zLt, zLe, zGt, zGe, zEq, zNe, zIs, zIsNot, zIn, zNotIn, zNeg, zEqN, zIsN, scalD, zInN, zIx, zSlice, zPart, zNoPart, zSl, zSet, zIAdd, zGetA, zDelI, zLenA, zListA, zTuple, zInt, zAbs, zMax2, zMin2, zAllL, zAnyL, zSumL, zMaxL, zMinL, zSorted, zAppend, zExtend, zPop, zPopAt, zReverse, zJoin, zStr1, zIsi, tyD, zCall, zLc, zLcL, zYes, ziR1, ziR2, ziR3, ziAny, ziEnum, Keep, zEnd, List.getElem?_cons_zero, List.getElem?_cons_succ, List.set_cons_zero, List.set_cons_succ, Option.some.injEq, D.int.injEq, D.ref.injEq, D.tup.injEq, D.str.injEq, D.bl.injEq, reduceCtorEq, false_and, and_false, true_and, and_true, exists_eq_left, exists_eq_left', exists_and_left, if_true, if_false, Bool.false_eq_true, ite_false, ite_true, List.cons.injEq, wipeZ, zup_same, atI_zero, atI_one, atI_lit, atI_n, ixN_zero, ixN_one, ixN_lit, ixN_n, List.length_cons, List.length_nil, Nat.reduceAdd, Nat.reduceLT, decide_eq_true_eq, List.append_nil, List.nil_append, ZO.lst.injEq, ZO.dct.injEq, seqIx_n, Bool.not_true, Bool.not_false, isE_snoc, and_assoc, or_false, false_or, exists_eq, exists_eq', isT, String.reduceBEq, Bool.and_false, Bool.and_true, Bool.false_and, Bool.true_and, Bool.or_false, Bool.or_true, Bool.true_or, Bool.false_or, natC, natC0, natC1, plain_int, plain_str, plain_non, depth_int, depth_str, depth_non, Nat.zero_le, true_or, or_true, not_true_eq_false, not_false_eq_true, Int.reduceEq, Int.reduceLT, Int.reduceLE, Int.reduceAdd, Int.reduceSub, Nat.reduceEqDiff, decide_true, decide_false, hw]
      refine zseq_go ?_
      simp only [zNext, zBreak, zCont, zDrop, zRet, zRetN, zIfS, zAsg, zAug, zAugS, zDel, zFor, zVar, zC, zOp, zUn, zNil, zCons, zAp, zMt, zB, zTr, zTruth, zAnd, zOr, zNot, zAndV, zOrV, zNotV, zIf, zTup, zLst, zDNew, zBM, zBM0, tyZ, zgName, zgNil, zgCons, zgTup, zgTupT, zgSub, zAdd, zSub, zMul, zMod, zDiv, zPow, zShl, zCmpI, zLt, zLe, zGt, zGe, zEq, zNe, zIs, zIsNot, zIn, zNotIn, zNeg, zEqN, zIsN, scalD, zInN, zIx, zSlice, zPart, zNoPart, zSl, zSet, zIAdd, zGetA, zDelI, zLenA, zListA, zTuple, zInt, zAbs, zMax2, zMin2, zAllL, zAnyL, zSumL, zMaxL, zMinL, zSorted, zAppend, zExtend, zPop, zPopAt, zReverse, zJoin, zStr1, zIsi, tyD, zCall, zLc, zLcL, zYes, ziR1, ziR2, ziR3, ziAny, ziEnum, Keep, zEnd, List.getElem?_cons_zero, List.getElem?_cons_succ, List.set_cons_zero, List.set_cons_succ, Option.some.injEq, D.int.injEq, D.ref.injEq, D.tup.injEq, D.str.injEq, D.bl.injEq, reduceCtorEq, false_and, and_false, true_and, and_true, exists_eq_left, exists_eq_left', exists_and_left, if_true, if_false, Bool.false_eq_true, ite_false, ite_true, List.cons.injEq, wipeZ, zup_same, atI_zero, atI_one, atI_lit, atI_n, ixN_zero, ixN_one, ixN_lit, ixN_n, List.length_cons, List.length_nil, Nat.reduceAdd, Nat.reduceLT, decide_eq_true_eq, List.append_nil, List.nil_append, ZO.lst.injEq, ZO.dct.injEq, seqIx_n, Bool.not_true, Bool.not_false, isE_snoc, and_assoc, or_false, false_or, exists_eq, exists_eq', isT, String.reduceBEq, Bool.and_false, Bool.and_true, Bool.false_and, Bool.true_and, Bool.or_false, Bool.or_true, Bool.true_or, Bool.false_or, natC, natC0, natC1, plain_int, plain_str, plain_non, depth_int, depth_str, depth_non, Nat.zero_le, true_or, or_true, not_true_eq_false, not_false_eq_true, Int.reduceEq, Int.reduceLT, Int.reduceLE, Int.reduceAdd, Int.reduceSub, Nat.reduceEqDiff, decide_true, decide_false, e1]
      refine ⟨a, bn, ps.length, rfl, by omega, by omega, a1.2, fun x S2 x0 x1 h2 => ?_⟩
      have a2 := a1.draw h2
      have e2 := h2.at hne e1
      simp only [zNext, zBreak, zCont, zDrop, zRet, zRetN, zIfS, zAsg, zAug, zAugS, zDel, zFor, zVar, zC, zOp, zUn, zNil, zCons, zAp, zMt, zB, zTr, zTruth, zAnd, zOr, zNot, zAndV, zOrV, zNotV, zIf, zTup, zLst, zDNew, zBM, zBM0, tyZ, zgName, zgNil, zgCons, zgTup, zgTupT, zgSub, zAdd, zSub, zMul, zMod, zDiv, zPow, zShl, zCmpI, zLt, zLe, zGt, zGe, zEq, zNe, zIs, zIsNot, zIn, zNotIn, zNeg, zEqN, zIsN, scalD, zInN, zIx, zSlice, zPart, zNoPart, zSl, zSet, zIAdd, zGetA, zDelI, zLenA, zListA, zTuple, zInt, zAbs, zMax2, zMin2, zAllL, zAnyL, zSumL, zMaxL, zMinL, zSorted, zAppend, zExtend, zPop, zPopAt, zReverse, zJoin, zStr1, zIsi, tyD, zCall, zLc, zLcL, zYes, ziR1, ziR2, ziR3, ziAny, ziEnum, Keep, zEnd, List.getElem?_cons_zero, List.getElem?_cons_succ, List.set_cons_zero, List.set_cons_succ, Option.some.injEq, D.int.injEq, D.ref.injEq, D.tup.injEq, D.str.injEq, D.bl.injEq, reduceCtorEq, false_and, and_false, true_and, and_true, exists_eq_left, exists_eq_left', exists_and_left, if_true, if_false, Bool.false_eq_true, ite_false, ite_true, List.cons.injEq, wipeZ, zup_same, atI_zero, atI_one, atI_lit, atI_n, ixN_zero, ixN_one, ixN_lit, ixN_n, List.length_cons, List.length_nil, Nat.reduceAdd, Nat.reduceLT, decide_eq_true_eq, List.append_nil, List.nil_append, ZO.lst.injEq, ZO.dct.injEq, seqIx_n, Bool.not_true, Bool.not_false, isE_snoc, and_assoc, or_false, false_or, exists_eq, exists_eq', isT, String.reduceBEq, Bool.and_false, Bool.and_true, Bool.false_and, Bool.true_and, Bool.or_false, Bool.or_true, Bool.true_or, Bool.false_or, natC, natC0, natC1, plain_int, plain_str, plain_non, depth_int, depth_str, depth_non, Nat.zero_le, true_or, or_true, not_true_eq_false, not_false_eq_true, Int.reduceEq, Int.reduceLT, Int.reduceLE, Int.reduceAdd, Int.reduceSub, Nat.reduceEqDiff, decide_true, decide_false, e2]
      intro p hp
      refine ⟨a, bn, 3, rfl, by omega, by omega, (a2.new hp).2, fun l S4 _ _ h4 => ?_⟩
      simp only [zNext, zBreak, zCont, zDrop, zRet, zRetN, zIfS, zAsg, zAug, zAugS, zDel, zFor, zVar, zC, zOp, zUn, zNil, zCons, zAp, zMt, zB, zTr, zTruth, zAnd, zOr, zNot, zAndV, zOrV, zNotV, zIf, zTup, zLst, zDNew, zBM, zBM0, tyZ, zgName, zgNil, zgCons, zgTup, zgTupT, zgSub, zAdd, zSub, zMul, zMod, zDiv, zPow, zShl, zCmpI, zLt, zLe, zGt, zGe, zEq, zNe, zIs, zIsNot, zIn, zNotIn, zNeg, zEqN, zIsN, scalD, zInN, zIx, zSlice, zPart, zNoPart, zSl, zSet, zIAdd, zGetA, zDelI, zLenA, zListA, zTuple, zInt, zAbs, zMax2, zMin2, zAllL, zAnyL, zSumL, zMaxL, zMinL, zSorted, zAppend, zExtend, zPop, zPopAt, zReverse, zJoin, zStr1, zIsi, tyD, zCall, zLc, zLcL, zYes, ziR1, ziR2, ziR3, ziAny, ziEnum, Keep, zEnd, List.getElem?_cons_zero, List.getElem?_cons_succ, List.set_cons_zero, List.set_cons_succ, Option.some.injEq, D.int.injEq, D.ref.injEq, D.tup.injEq, D.str.injEq, D.bl.injEq, reduceCtorEq, false_and, and_false, true_and, and_true, exists_eq_left, exists_eq_left', exists_and_left, if_true, if_false, Bool.false_eq_true, ite_false, ite_true, List.cons.injEq, wipeZ, zup_same, atI_zero, atI_one, atI_lit, atI_n, ixN_zero, ixN_one, ixN_lit, ixN_n, List.length_cons, List.length_nil, Nat.reduceAdd, Nat.reduceLT, decide_eq_true_eq, List.append_nil, List.nil_append, ZO.lst.injEq, ZO.dct.injEq, seqIx_n, Bool.not_true, Bool.not_false, isE_snoc, and_assoc, or_false, false_or, exists_eq, exists_eq', isT, String.reduceBEq, Bool.and_false, Bool.and_true, Bool.false_and, Bool.true_and, Bool.or_false, Bool.or_true, Bool.true_or, Bool.false_or, natC, natC0, natC1, plain_int, plain_str, plain_non, depth_int, depth_str, depth_non, Nat.zero_le, true_or, or_true, not_true_eq_false, not_false_eq_true, Int.reduceEq, Int.reduceLT, Int.reduceLE, Int.reduceAdd, Int.reduceSub, Nat.reduceEqDiff, decide_true, decide_false]
      refine ⟨h2s, fun q hq0 => ?_⟩
      have hpS := a2.none hp hd
      exact fin _ ((a2.new hp).draw h4) hpS (h4.at (hd.ne hpS) zup_same) ⟨fun y hy => ans y (cut_sub hy), by have := cut_len ps none (some (1 + x)); omega⟩ q hq0
    · simp only [zNext, zBreak, zCont, zDrop, zRet, zRetN, zIfS, zAsg, zAug, zAugS, zDel, zFor, zVar, zC, zOp, zUn, zNil, zCons, zAp, zMt, zB, zTr, zTruth, zAnd, zOr, zNot, zAndV, zOrV, zNotV, zIf, zTup, zLst, zDNew, zBM, zBM0, tyZ, zgName, zgNil, zgCons, zgTup, zgTupT, zgSub, zAdd, zSub, zMul, zMod, zDiv, zPow, zShl, zCmpI, zLt, zLe, zGt, zGe, zEq, zNe, zIs, zIsNot, zIn, zNotIn, zNeg, zEqN, zIsN, scalD, zInN, zIx, zSlice, zPart, zNoPart, zSl, zSet, zIAdd, zGetA, zDelI, zLenA, zListA, zTuple, zInt, zAbs, zMax2, zMin2, zAllL, zAnyL, zSumL, zMaxL, zMinL, zSorted, zAppend, zExtend, zPop, zPopAt, zReverse, zJoin, zStr1, zIsi, tyD, zCall, zLc, zLcL, zYes, ziR1, ziR2, ziR3, ziAny, ziEnum, Keep, zEnd, List.getElem?_cons_zero, List.getElem?_cons_succ, List.set_cons_zero, List.set_cons_succ, Option.some.injEq, D.int.injEq, D.ref.injEq, D.tup.injEq, D.str.injEq, D.bl.injEq, reduceCtorEq, false_and, and_false, true_and, and_true, exists_eq_left, exists_eq_left', exists_and_left, if_true, if_false, Bool.false_eq_true, ite_false, ite_true, List.cons.injEq, wipeZ, zup_same, atI_zero, atI_one, atI_lit, atI_n, ixN_zero, ixN_one, ixN_lit, ixN_n, List.length_cons, List.length_nil, Nat.reduceAdd, Nat.reduceLT, decide_eq_true_eq, List.append_nil, List.nil_append, ZO.lst.injEq, ZO.dct.injEq, seqIx_n, Bool.not_true, Bool.not_false, isE_snoc, and_assoc, or_false, false_or, exists_eq, exists_eq', isT, String.reduceBEq, Bool.and_false, Bool.and_true, Bool.false_and, Bool.true_and, Bool.or_false, Bool.or_true, Bool.true_or, Bool.false_or, natC, natC0, natC1, plain_int, plain_str, plain_non, depth_int, depth_str, depth_non, Nat.zero_le, true_or, or_true, not_true_eq_false, not_false_eq_true, Int.reduceEq, Int.reduceLT, Int.reduceLE, Int.reduceAdd, Int.reduceSub, Nat.reduceEqDiff, decide_true, decide_false, hw]
      exact hM _ _ ⟨rfl, rfl⟩
  rintro _ _ ⟨rfl, rfl⟩
  -- way == 2
  refine zseqN (fun δ' S' => δ' = [some (.ref a), some (.ref pp), some (.int way), none, none, none, none, none] ∧ S1 = S') (fun M hM => ?_) ?_
  · simp only [zNext, zBreak, zCont, zDrop, zRet, zRetN, zIfS, zAsg, zAug, zAugS, zDel, zFor, zVar, zC, zOp, zUn, zNil, zCons, zAp, zMt, zB, zTr, zTruth, zAnd, zOr, zNot, zAndV, zOrV, zNotV, zIf, zTup, zLst, zDNew, zBM, zBM0, tyZ, zgName, zgNil, zgCons, zgTup, zgTupT, zgSub, zAdd, zSub, zMul, zMod, zDiv, zPow, zShl, zCmpI, zLt, zLe, zGt, zGe, zEq, zNe, zIs, zIsNot, zIn, zNotIn, zNeg, zEqN, zIsN, scalD, zInN, zIx, zSlice, zPart, zNoPart, zSl, zSet, zIAdd, zGetA, zDelI, zLenA, zListA, zTuple, zInt, zAbs, zMax2, zMin2, zAllL, zAnyL, zSumL, zMaxL, zMinL, zSorted, zAppend, zExtend, zPop, zPopAt, zReverse, zJoin, zStr1, zIsi, tyD, zCall, zLc, zLcL, zYes, ziR1, ziR2, ziR3, ziAny, ziEnum, Keep, zEnd, List.getElem?_cons_zero, List.getElem?_cons_succ, List.set_cons_zero, List.set_cons_succ, Option.some.injEq, D.int.injEq, D.ref.injEq, D.tup.injEq, D.str.injEq, D.bl.injEq, reduceCtorEq, false_and, and_false, true_and, and_true, exists_eq_left, exists_eq_left', exists_and_left, if_true, if_false, Bool.false_eq_true, ite_false, ite_true, List.cons.injEq, wipeZ, zup_same, atI_zero, atI_one, atI_lit, atI_n, ixN_zero, ixN_one, ixN_lit, ixN_n, List.length_cons, List.length_nil, Nat.reduceAdd, Nat.reduceLT, decide_eq_true_eq, List.append_nil, List.nil_append, ZO.lst.injEq, ZO.dct.injEq, seqIx_n, Bool.not_true, Bool.not_false, isE_snoc, and_assoc, or_false, false_or, exists_eq, exists_eq', isT, String.reduceBEq, Bool.and_false, Bool.and_true, Bool.false_and, Bool.true_and, Bool.or_false, Bool.or_true, Bool.true_or, Bool.false_or, natC, natC0, natC1, plain_int, plain_str, plain_non, depth_int, depth_str, depth_non, Nat.zero_le, true_or, or_true, not_true_eq_false, not_false_eq_true, Int.reduceEq, Int.reduceLT, Int.reduceLE, Int.reduceAdd, Int.reduceSub, Nat.reduceEqDiff, decide_true, decide_false]
    by_cases hw : way = 2
    · simp only [zNext, zBreak, zCont, zDrop, zRet, zRetN, zIfS, zAsg, zAug, zAugS, zDel, zFor, zVar, zC, zOp, zUn, zNil, zCons, zAp, zMt, zB, zTr, zTruth, zAnd, zOr, zNot, zAndV, zOrV, zNotV, zIf, zTup, zLst, zDNew, zBM, zBM0, tyZ, zgName, zgNil, zgCons, zgTup, zgTupT, zgSub, zAdd, zSub, zMul, zMod, zDiv, zPow, zShl, zCmpI, zLt, zLe, zGt, zGe, zEq, zNe, zIs, zIsNot, zIn, zNotIn, zNeg, zEqN, zIsN, scalD, zInN, zIx, zSlice, zPart, zNoPart, zSl, zSet, zIAdd, zGetA, zDelI, zLenA, zListA, zTuple, zInt, zAbs, zMax2, zMin2, zAllL, zAnyL, zSumL, zMaxL, zMinL, zSorted, zAppend, zExtend, zPop, zPopAt, zReverse, zJoin, zStr1, zIsi, tyD, zCall, zLc, zLcL, zYes, ziR1, ziR2, ziR3, ziAny, ziEnum, Keep, zEnd, List.getElem?_cons_zero, List.getElem?_cons_succ, List.set_cons_zero, List.set_cons_succ, Option.some.injEq, D.int.injEq, D.ref.injEq, D.tup.injEq, D.str.injEq, D.bl.injEq, reduceCtorEq, false_and, and_false, true_and, and_true, exists_eq_left, exists_eq_left', exists_and_left, if_true, if_false, Bool.false_eq_true, ite_false, ite_true, List.cons.injEq, wipeZ, zup_same, atI_zero, atI_one, atI_lit, atI_n, ixN_zero, ixN_one, ixN_lit, ixN_n, List.length_cons, List.length_nil, Nat.reduceAdd, Nat.reduceLT, decide_eq_true_eq, List.append_nil, List.nil_append, ZO.lst.injEq, ZO.dct.injEq, seqIx_n, Bool.not_true, Bool.not_false, isE_snoc, and_assoc, or_false, false_or, exists_eq, exists_eq', isT, String.reduceBEq, Bool.and_false, Bool.and_true, Bool.false_and, Bool.true_and, Bool.or_false, Bool.or_true, Bool.true_or, Bool.false_or, natC, natC0, natC1, plain_int, plain_str, plain_non, depth_int, depth_str, depth_non, Nat.zero_le, true_or, or_true, not_true_eq_false, not_false_eq_true, Int.reduceEq, Int.reduceLT, Int.reduceLE, Int.reduceAdd, Int.reduceSub, Nat.reduceEqDiff, decide_true, decide_false, hw]
      refine zseq_go ?_
      simp only [zNext, zBreak, zCont, zDrop, zRet, zRetN, zIfS, zAsg, zAug, zAugS, zDel, zFor, zVar, zC, zOp, zUn, zNil, zCons, zAp, zMt, zB, zTr, zTruth, zAnd, zOr, zNot, zAndV, zOrV, zNotV, zIf, zTup, zLst, zDNew, zBM, zBM0, tyZ, zgName, zgNil, zgCons, zgTup, zgTupT, zgSub, zAdd, zSub, zMul, zMod, zDiv, zPow, zShl, zCmpI, zLt, zLe, zGt, zGe, zEq, zNe, zIs, zIsNot, zIn, zNotIn, zNeg, zEqN, zIsN, scalD, zInN, zIx, zSlice, zPart, zNoPart, zSl, zSet, zIAdd, zGetA, zDelI, zLenA, zListA, zTuple, zInt, zAbs, zMax2, zMin2, zAllL, zAnyL, zSumL, zMaxL, zMinL, zSorted, zAppend, zExtend, zPop, zPopAt, zReverse, zJoin, zStr1, zIsi, tyD, zCall, zLc, zLcL, zYes, ziR1, ziR2, ziR3, ziAny, ziEnum, Keep, zEnd, List.getElem?_cons_zero, List.getElem?_cons_succ, List.set_cons_zero, List.set_cons_succ, Option.some.injEq, D.int.injEq, D.ref.injEq, D.tup.injEq, D.str.injEq, D.bl.injEq, reduceCtorEq, false_and, and_false, true_and, and_true, exists_eq_left, exists_eq_left', exists_and_left, if_true, if_false, Bool.false_eq_true, ite_false, ite_true, List.cons.injEq, wipeZ, zup_same, atI_zero, atI_one, atI_lit, atI_n, ixN_zero, ixN_one, ixN_lit, ixN_n, List.length_cons, List.length_nil, Nat.reduceAdd, Nat.reduceLT, decide_eq_true_eq, List.append_nil, List.nil_append, ZO.lst.injEq, ZO.dct.injEq, seqIx_n, Bool.not_true, Bool.not_false, isE_snoc, and_assoc, or_false, false_or, exists_eq, exists_eq', isT, String.reduceBEq, Bool.and_false, Bool.and_true, Bool.false_and, Bool.true_and, Bool.or_false, Bool.or_true, Bool.true_or, Bool.false_or, natC, natC0, natC1, plain_int, plain_str, plain_non, depth_int, depth_str, depth_non, Nat.zero_le, true_or, or_true, not_true_eq_false, not_false_eq_true, Int.reduceEq, Int.reduceLT, Int.reduceLE, Int.reduceAdd, Int.reduceSub, Nat.reduceEqDiff, decide_true, decide_false, e1]
      refine ⟨a, bn, 4, rfl, by omega, by omega, a1.2, fun x S2 x0 x1 h2 => ?_⟩
      have a2 := a1.draw h2
      have e2 := h2.at hne e1
      simp only [zNext, zBreak, zCont, zDrop, zRet, zRetN, zIfS, zAsg, zAug, zAugS, zDel, zFor, zVar, zC, zOp, zUn, zNil, zCons, zAp, zMt, zB, zTr, zTruth, zAnd, zOr, zNot, zAndV, zOrV, zNotV, zIf, zTup, zLst, zDNew, zBM, zBM0, tyZ, zgName, zgNil, zgCons, zgTup, zgTupT, zgSub, zAdd, zSub, zMul, zMod, zDiv, zPow, zShl, zCmpI, zLt, zLe, zGt, zGe, zEq, zNe, zIs, zIsNot, zIn, zNotIn, zNeg, zEqN, zIsN, scalD, zInN, zIx, zSlice, zPart, zNoPart, zSl, zSet, zIAdd, zGetA, zDelI, zLenA, zListA, zTuple, zInt, zAbs, zMax2, zMin2, zAllL, zAnyL, zSumL, zMaxL, zMinL, zSorted, zAppend, zExtend, zPop, zPopAt, zReverse, zJoin, zStr1, zIsi, tyD, zCall, zLc, zLcL, zYes, ziR1, ziR2, ziR3, ziAny, ziEnum, Keep, zEnd, List.getElem?_cons_zero, List.getElem?_cons_succ, List.set_cons_zero, List.set_cons_succ, Option.some.injEq, D.int.injEq, D.ref.injEq, D.tup.injEq, D.str.injEq, D.bl.injEq, reduceCtorEq, false_and, and_false, true_and, and_true, exists_eq_left, exists_eq_left', exists_and_left, if_true, if_false, Bool.false_eq_true, ite_false, ite_true, List.cons.injEq, wipeZ, zup_same, atI_zero, atI_one, atI_lit, atI_n, ixN_zero, ixN_one, ixN_lit, ixN_n, List.length_cons, List.length_nil, Nat.reduceAdd, Nat.reduceLT, decide_eq_true_eq, List.append_nil, List.nil_append, ZO.lst.injEq, ZO.dct.injEq, seqIx_n, Bool.not_true, Bool.not_false, isE_snoc, and_assoc, or_false, false_or, exists_eq, exists_eq', isT, String.reduceBEq, Bool.and_false, Bool.and_true, Bool.false_and, Bool.true_and, Bool.or_false, Bool.or_true, Bool.true_or, Bool.false_or, natC, natC0, natC1, plain_int, plain_str, plain_non, depth_int, depth_str, depth_non, Nat.zero_le, true_or, or_true, not_true_eq_false, not_false_eq_true, Int.reduceEq, Int.reduceLT, Int.reduceLE, Int.reduceAdd, Int.reduceSub, Nat.reduceEqDiff, decide_true, decide_false, e2]
      intro p hp
      have hc2 := cut_len ps none (some 2)
      have hc2' : (Z.cutD ps none (some 2)).length ≤ 2 := by
        have : Z.cutD ps none (some 2) = ps.take 2 := cutD_to ps 2
        rw [this, List.length_take]; omega
      have hrl : (List.replicate (1 + x).toNat (Z.cutD ps none (some 2))).flatten.length ≤ 8 := by
        rw [rep_len]
        have : (1 + x).toNat ≤ 4 := by omega
        exact Nat.le_trans (Nat.mul_le_mul this hc2') (by decide)
      have hrm : ∀ y ∈ (List.replicate (1 + x).toNat (Z.cutD ps none (some 2))).flatten, isAns y := fun y hy => ans y (cut_sub (rep_mem hy))
      have hmul : (Z.cutD ps none (some 2)).length * (1 + x).toNat ≤ sizeLine := by
        have : (1 + x).toNat ≤ 4 := by omega
        exact Nat.le_trans (Nat.mul_le_mul hc2' this) (by rw [sizeLine_eq]; omega)
      refine ⟨by omega, by omega, hmul, fun p1 hp1 => ⟨h1s, fun p2 hp2 => ?_⟩⟩
      generalize (List.replicate (1 + x).toNat (Z.cutD ps none (some 2))).flatten = rp at hrl hrm hp2 ⊢
      have b1 := a2.new hp (o := .lst (Z.cutD ps none (some 2)))
      have b2 := b1.new hp1 (o := .lst rp)
      have b3 := b2.new hp2 (o := .lst [.non])
      have p1S := b1.none hp1 hd
      have p2S := b2.none hp2 hd
      have n12 : p1 ≠ p2 := by rintro rfl; rw [zup_same] at hp2; cases hp2
      refine ⟨a, bn, 2, rfl, by omega, by omega, b3.2, fun y S4 y0 y1 h4 => ?_⟩
      have b4 := b3.draw h4
      have f2 : S4 p2 = some (.lst [.non]) := h4.at (hd.ne p2S) zup_same
      have f1 : S4 p1 = some (.lst rp) := h4.at (hd.ne p1S) (zup_of zup_same hp2)
      simp only [zNext, zBreak, zCont, zDrop, zRet, zRetN, zIfS, zAsg, zAug, zAugS, zDel, zFor, zVar, zC, zOp, zUn, zNil, zCons, zAp, zMt, zB, zTr, zTruth, zAnd, zOr, zNot, zAndV, zOrV, zNotV, zIf, zTup, zLst, zDNew, zBM, zBM0, tyZ, zgName, zgNil, zgCons, zgTup, zgTupT, zgSub, zAdd, zSub, zMul, zMod, zDiv, zPow, zShl, zCmpI, zLt, zLe, zGt, zGe, zEq, zNe, zIs, zIsNot, zIn, zNotIn, zNeg, zEqN, zIsN, scalD, zInN, zIx, zSlice, zPart, zNoPart, zSl, zSet, zIAdd, zGetA, zDelI, zLenA, zListA, zTuple, zInt, zAbs, zMax2, zMin2, zAllL, zAnyL, zSumL, zMaxL, zMinL, zSorted, zAppend, zExtend, zPop, zPopAt, zReverse, zJoin, zStr1, zIsi, tyD, zCall, zLc, zLcL, zYes, ziR1, ziR2, ziR3, ziAny, ziEnum, Keep, zEnd, List.getElem?_cons_zero, List.getElem?_cons_succ, List.set_cons_zero, List.set_cons_succ, Option.some.injEq, D.int.injEq, D.ref.injEq, D.tup.injEq, D.str.injEq, D.bl.injEq, reduceCtorEq, false_and, and_false, true_and, and_true, exists_eq_left, exists_eq_left', exists_and_left, if_true, if_false, Bool.false_eq_true, ite_false, ite_true, List.cons.injEq, wipeZ, zup_same, atI_zero, atI_one, atI_lit, atI_n, ixN_zero, ixN_one, ixN_lit, ixN_n, List.length_cons, List.length_nil, Nat.reduceAdd, Nat.reduceLT, decide_eq_true_eq, List.append_nil, List.nil_append, ZO.lst.injEq, ZO.dct.injEq, seqIx_n, Bool.not_true, Bool.not_false, isE_snoc, and_assoc, or_false, false_or, exists_eq, exists_eq', isT, String.reduceBEq, Bool.and_false, Bool.and_true, Bool.false_and, Bool.true_and, Bool.or_false, Bool.or_true, Bool.true_or, Bool.false_or, natC, natC0, natC1, plain_int, plain_str, plain_non, depth_int, depth_str, depth_non, Nat.zero_le, true_or, or_true, not_true_eq_false, not_false_eq_true, Int.reduceEq, Int.reduceLT, Int.reduceLE, Int.reduceAdd, Int.reduceSub, Nat.reduceEqDiff, decide_true, decide_false, f2]
      refine ⟨y0, by omega, by rw [sizeLine_eq]; omega, fun p3 hp3 => ?_⟩
      have hyl : (List.replicate y.toNat [D.non]).flatten.length ≤ 1 := by rw [rep_len]; simp; omega
      have hym : ∀ z ∈ (List.replicate y.toNat [D.non]).flatten, isAns z := fun z hz => .inl (List.mem_singleton.mp (rep_mem hz))
      generalize (List.replicate y.toNat [D.non]).flatten = rn at hyl hym ⊢
      have b5 := b4.new hp3 (o := .lst rn)
      refine ⟨rp, zup_of f1 hp3, by rw [sizeLine_eq]; omega, fun p4 hp4 => ?_⟩
      have p4S := b5.none hp4 hd
      have b6 := b5.new hp4 (o := .lst (rp ++ rn))
      refine ⟨a, bn, p4, rp ++ rn, rfl, zup_same, hd.ne p4S, b6.2, by simp; omega, fun ys S7 q hperm h7 hq7 => ?_⟩
      have b7 := b6.draw h7
      have qS := b7.none hq7 hd
      refine ⟨a, bn, 3, rfl, by omega, by omega, (b7.new hq7).2, fun l S8 _ _ h8 => ?_⟩
      simp only [zNext, zBreak, zCont, zDrop, zRet, zRetN, zIfS, zAsg, zAug, zAugS, zDel, zFor, zVar, zC, zOp, zUn, zNil, zCons, zAp, zMt, zB, zTr, zTruth, zAnd, zOr, zNot, zAndV, zOrV, zNotV, zIf, zTup, zLst, zDNew, zBM, zBM0, tyZ, zgName, zgNil, zgCons, zgTup, zgTupT, zgSub, zAdd, zSub, zMul, zMod, zDiv, zPow, zShl, zCmpI, zLt, zLe, zGt, zGe, zEq, zNe, zIs, zIsNot, zIn, zNotIn, zNeg, zEqN, zIsN, scalD, zInN, zIx, zSlice, zPart, zNoPart, zSl, zSet, zIAdd, zGetA, zDelI, zLenA, zListA, zTuple, zInt, zAbs, zMax2, zMin2, zAllL, zAnyL, zSumL, zMaxL, zMinL, zSorted, zAppend, zExtend, zPop, zPopAt, zReverse, zJoin, zStr1, zIsi, tyD, zCall, zLc, zLcL, zYes, ziR1, ziR2, ziR3, ziAny, ziEnum, Keep, zEnd, List.getElem?_cons_zero, List.getElem?_cons_succ, List.set_cons_zero, List.set_cons_succ, Option.some.injEq, D.int.injEq, D.ref.injEq, D.tup.injEq, D.str.injEq, D.bl.injEq, reduceCtorEq, false_and, and_false, true_and, and_true, exists_eq_left, exists_eq_left', exists_and_left, if_true, if_false, Bool.false_eq_true, ite_false, ite_true, List.cons.injEq, wipeZ, zup_same, atI_zero, atI_one, atI_lit, atI_n, ixN_zero, ixN_one, ixN_lit, ixN_n, List.length_cons, List.length_nil, Nat.reduceAdd, Nat.reduceLT, decide_eq_true_eq, List.append_nil, List.nil_append, ZO.lst.injEq, ZO.dct.injEq, seqIx_n, Bool.not_true, Bool.not_false, isE_snoc, and_assoc, or_false, false_or, exists_eq, exists_eq', isT, String.reduceBEq, Bool.and_false, Bool.and_true, Bool.false_and, Bool.true_and, Bool.or_false, Bool.or_true, Bool.true_or, Bool.false_or, natC, natC0, natC1, plain_int, plain_str, plain_non, depth_int, depth_str, depth_non, Nat.zero_le, true_or, or_true, not_true_eq_false, not_false_eq_true, Int.reduceEq, Int.reduceLT, Int.reduceLE, Int.reduceAdd, Int.reduceSub, Nat.reduceEqDiff, decide_true, decide_false]
      refine ⟨h2s, fun q2 hq2 => ?_⟩
      refine fin _ ((b7.new hq7).draw h8) qS (h8.at (hd.ne qS) zup_same) ⟨fun z hz => ?_, by rw [hperm.length_eq]; simp; omega⟩ q2 hq2
      rcases List.mem_append.mp (hperm.mem_iff.mp hz) with hz | hz
      · exact hrm z hz
      · exact hym z hz
    · simp only [zNext, zBreak, zCont, zDrop, zRet, zRetN, zIfS, zAsg, zAug, zAugS, zDel, zFor, zVar, zC, zOp, zUn, zNil, zCons, zAp, zMt, zB, zTr, zTruth, zAnd, zOr, zNot, zAndV, zOrV, zNotV, zIf, zTup, zLst, zDNew, zBM, zBM0, tyZ, zgName, zgNil, zgCons, zgTup, zgTupT, zgSub, zAdd, zSub, zMul, zMod, zDiv, zPow, zShl, zCmpI, zLt, zLe, zGt, zGe, zEq, zNe, zIs, zIsNot, zIn, zNotIn, zNeg, zEqN, zIsN, scalD, zInN, zIx, zSlice, zPart, zNoPart, zSl, zSet, zIAdd, zGetA, zDelI, zLenA, zListA, zTuple, zInt, zAbs, zMax2, zMin2, zAllL, zAnyL, zSumL, zMaxL, zMinL, zSorted, zAppend, zExtend, zPop, zPopAt, zReverse, zJoin, zStr1, zIsi, tyD, zCall, zLc, zLcL, zYes, ziR1, ziR2, ziR3, ziAny, ziEnum, Keep, zEnd, List.getElem?_cons_zero, List.getElem?_cons_succ, List.set_cons_zero, List.set_cons_succ, Option.some.injEq, D.int.injEq, D.ref.injEq, D.tup.injEq, D.str.injEq, D.bl.injEq, reduceCtorEq, false_and, and_false, true_and, and_true, exists_eq_left, exists_eq_left', exists_and_left, if_true, if_false, Bool.false_eq_true, ite_false, ite_true, List.cons.injEq, wipeZ, zup_same, atI_zero, atI_one, atI_lit, atI_n, ixN_zero, ixN_one, ixN_lit, ixN_n, List.length_cons, List.length_nil, Nat.reduceAdd, Nat.reduceLT, decide_eq_true_eq, List.append_nil, List.nil_append, ZO.lst.injEq, ZO.dct.injEq, seqIx_n, Bool.not_true, Bool.not_false, isE_snoc, and_assoc, or_false, false_or, exists_eq, exists_eq', isT, String.reduceBEq, Bool.and_false, Bool.and_true, Bool.false_and, Bool.true_and, Bool.or_false, Bool.or_true, Bool.true_or, Bool.false_or, natC, natC0, natC1, plain_int, plain_str, plain_non, depth_int, depth_str, depth_non, Nat.zero_le, true_or, or_true, not_true_eq_false, not_false_eq_true, Int.reduceEq, Int.reduceLT, Int.reduceLE, Int.reduceAdd, Int.reduceSub, Nat.reduceEqDiff, decide_true, decide_false, hw]
      exact hM _ _ ⟨rfl, rfl⟩
  rintro _ _ ⟨rfl, rfl⟩
  -- else
  refine zseqN (fun δ' S' => ∃ po os, δ' = [some (.ref a), some (.ref pp), some (.int way), none, none, some (.ref po), none, none] ∧ At S a bn S' ∧ S' pp = some (.lst ps) ∧ S po = none ∧ po ≠ pp ∧ S' po = some (.lst os) ∧ (∀ x ∈ os, isAns x) ∧ os.length ≤ 9) (fun M hM => ?_) ?_
  · simp only [zNext, zBreak, zCont, zDrop, zRet, zRetN, zIfS, zAsg, zAug, zAugS, zDel, zFor, zVar, zC, zOp, zUn, zNil, zCons, zAp, zMt, zB, zTr, zTruth, zAnd, zOr, zNot, zAndV, zOrV, zNotV, zIf, zTup, zLst, zDNew, zBM, zBM0, tyZ, zgName, zgNil, zgCons, zgTup, zgTupT, zgSub, zAdd, zSub, zMul, zMod, zDiv, zPow, zShl, zCmpI, zLt, zLe, zGt, zGe, zEq, zNe, zIs, zIsNot, zIn, zNotIn, zNeg, zEqN, zIsN, scalD, zInN, zIx, zSlice, zPart, zNoPart, zSl, zSet, zIAdd, zGetA, zDelI, zLenA, zListA, zTuple, zInt, zAbs, zMax2, zMin2, zAllL, zAnyL, zSumL, zMaxL, zMinL, zSorted, zAppend, zExtend, zPop, zPopAt, zReverse, zJoin, zStr1, zIsi, tyD, zCall, zLc, zLcL, zYes, ziR1, ziR2, ziR3, ziAny, ziEnum, Keep, zEnd, List.getElem?_cons_zero, List.getElem?_cons_succ, List.set_cons_zero, List.set_cons_succ, Option.some.injEq, D.int.injEq, D.ref.injEq, D.tup.injEq, D.str.injEq, D.bl.injEq, reduceCtorEq, false_and, and_false, true_and, and_true, exists_eq_left, exists_eq_left', exists_and_left, if_true, if_false, Bool.false_eq_true, ite_false, ite_true, List.cons.injEq, wipeZ, zup_same, atI_zero, atI_one, atI_lit, atI_n, ixN_zero, ixN_one, ixN_lit, ixN_n, List.length_cons, List.length_nil, Nat.reduceAdd, Nat.reduceLT, decide_eq_true_eq, List.append_nil, List.nil_append, ZO.lst.injEq, ZO.dct.injEq, seqIx_n, Bool.not_true, Bool.not_false, isE_snoc, and_assoc, or_false, false_or, exists_eq, exists_eq', isT, String.reduceBEq, Bool.and_false, Bool.and_true, Bool.false_and, Bool.true_and, Bool.or_false, Bool.or_true, Bool.true_or, Bool.false_or, natC, natC0, natC1, plain_int, plain_str, plain_non, depth_int, depth_str, depth_non, Nat.zero_le, true_or, or_true, not_true_eq_false, not_false_eq_true, Int.reduceEq, Int.reduceLT, Int.reduceLE, Int.reduceAdd, Int.reduceSub, Nat.reduceEqDiff, decide_true, decide_false, e1]
    refine ⟨a, bn, _, rfl, by split <;> omega, by split <;> omega, a1.2, fun x S2 x0 x1 h2 => ?_⟩
    have a2 := a1.draw h2
    have e2 := h2.at hne e1
    simp only [zNext, zBreak, zCont, zDrop, zRet, zRetN, zIfS, zAsg, zAug, zAugS, zDel, zFor, zVar, zC, zOp, zUn, zNil, zCons, zAp, zMt, zB, zTr, zTruth, zAnd, zOr, zNot, zAndV, zOrV, zNotV, zIf, zTup, zLst, zDNew, zBM, zBM0, tyZ, zgName, zgNil, zgCons, zgTup, zgTupT, zgSub, zAdd, zSub, zMul, zMod, zDiv, zPow, zShl, zCmpI, zLt, zLe, zGt, zGe, zEq, zNe, zIs, zIsNot, zIn, zNotIn, zNeg, zEqN, zIsN, scalD, zInN, zIx, zSlice, zPart, zNoPart, zSl, zSet, zIAdd, zGetA, zDelI, zLenA, zListA, zTuple, zInt, zAbs, zMax2, zMin2, zAllL, zAnyL, zSumL, zMaxL, zMinL, zSorted, zAppend, zExtend, zPop, zPopAt, zReverse, zJoin, zStr1, zIsi, tyD, zCall, zLc, zLcL, zYes, ziR1, ziR2, ziR3, ziAny, ziEnum, Keep, zEnd, List.getElem?_cons_zero, List.getElem?_cons_succ, List.set_cons_zero, List.set_cons_succ, Option.some.injEq, D.int.injEq, D.ref.injEq, D.tup.injEq, D.str.injEq, D.bl.injEq, reduceCtorEq, false_and, and_false, true_and, and_true, exists_eq_left, exists_eq_left', exists_and_left, if_true, if_false, Bool.false_eq_true, ite_false, ite_true, List.cons.injEq, wipeZ, zup_same, atI_zero, atI_one, atI_lit, atI_n, ixN_zero, ixN_one, ixN_lit, ixN_n, List.length_cons, List.length_nil, Nat.reduceAdd, Nat.reduceLT, decide_eq_true_eq, List.append_nil, List.nil_append, ZO.lst.injEq, ZO.dct.injEq, seqIx_n, Bool.not_true, Bool.not_false, isE_snoc, and_assoc, or_false, false_or, exists_eq, exists_eq', isT, String.reduceBEq, Bool.and_false, Bool.and_true, Bool.false_and, Bool.true_and, Bool.or_false, Bool.or_true, Bool.true_or, Bool.false_or, natC, natC0, natC1, plain_int, plain_str, plain_non, depth_int, depth_str, depth_non, Nat.zero_le, true_or, or_true, not_true_eq_false, not_false_eq_true, Int.reduceEq, Int.reduceLT, Int.reduceLE, Int.reduceAdd, Int.reduceSub, Nat.reduceEqDiff, decide_true, decide_false, e2]
    intro po hpo
    exact hM _ _ ⟨po, _, rfl, a2.new hpo, zup_of e2 hpo, a2.none hpo hd, (by rintro rfl; rw [e2] at hpo; cases hpo), zup_same, fun y hy => ans y (cut_sub hy), by have := cut_len ps (some 1) (some (3 + x)); omega⟩
  rintro _ S2 ⟨po, os, rfl, a2, e2, hpo, hpn, f2, hos, hol⟩
  obtain ⟨p0, pr, hps0⟩ : ∃ p0 pr, ps = p0 :: pr := by
    cases ps with
    | nil => simp at hpl
    | cons x r => exact ⟨x, r, rfl⟩
  refine zseqN (fun δ' S' => ∃ pr rs, δ' = [some (.ref a), some (.ref pp), some (.int way), none, none, some (.ref po), some (.ref pr), none] ∧ At S a bn S' ∧ S pr = none ∧ S' po = some (.lst os) ∧ S' pr = some (.lst rs) ∧ (∀ x ∈ rs, isAns x) ∧ rs.length ≤ 12) (fun M hM => ?_) ?_
  · have g0 : S2 pp = some (.lst (p0 :: pr)) := by rw [e2, hps0]
    simp only [zNext, zBreak, zCont, zDrop, zRet, zRetN, zIfS, zAsg, zAug, zAugS, zDel, zFor, zVar, zC, zOp, zUn, zNil, zCons, zAp, zMt, zB, zTr, zTruth, zAnd, zOr, zNot, zAndV, zOrV, zNotV, zIf, zTup, zLst, zDNew, zBM, zBM0, tyZ, zgName, zgNil, zgCons, zgTup, zgTupT, zgSub, zAdd, zSub, zMul, zMod, zDiv, zPow, zShl, zCmpI, zLt, zLe, zGt, zGe, zEq, zNe, zIs, zIsNot, zIn, zNotIn, zNeg, zEqN, zIsN, scalD, zInN, zIx, zSlice, zPart, zNoPart, zSl, zSet, zIAdd, zGetA, zDelI, zLenA, zListA, zTuple, zInt, zAbs, zMax2, zMin2, zAllL, zAnyL, zSumL, zMaxL, zMinL, zSorted, zAppend, zExtend, zPop, zPopAt, zReverse, zJoin, zStr1, zIsi, tyD, zCall, zLc, zLcL, zYes, ziR1, ziR2, ziR3, ziAny, ziEnum, Keep, zEnd, List.getElem?_cons_zero, List.getElem?_cons_succ, List.set_cons_zero, List.set_cons_succ, Option.some.injEq, D.int.injEq, D.ref.injEq, D.tup.injEq, D.str.injEq, D.bl.injEq, reduceCtorEq, false_and, and_false, true_and, and_true, exists_eq_left, exists_eq_left', exists_and_left, if_true, if_false, Bool.false_eq_true, ite_false, ite_true, List.cons.injEq, wipeZ, zup_same, atI_zero, atI_one, atI_lit, atI_n, ixN_zero, ixN_one, ixN_lit, ixN_n, List.length_cons, List.length_nil, Nat.reduceAdd, Nat.reduceLT, decide_eq_true_eq, List.append_nil, List.nil_append, ZO.lst.injEq, ZO.dct.injEq, seqIx_n, Bool.not_true, Bool.not_false, isE_snoc, and_assoc, or_false, false_or, exists_eq, exists_eq', isT, String.reduceBEq, Bool.and_false, Bool.and_true, Bool.false_and, Bool.true_and, Bool.or_false, Bool.or_true, Bool.true_or, Bool.false_or, natC, natC0, natC1, plain_int, plain_str, plain_non, depth_int, depth_str, depth_non, Nat.zero_le, true_or, or_true, not_true_eq_false, not_false_eq_true, Int.reduceEq, Int.reduceLT, Int.reduceLE, Int.reduceAdd, Int.reduceSub, Nat.reduceEqDiff, decide_true, decide_false, g0]
    refine ⟨h1s, fun p hp => ?_⟩
    have b1 := a2.new hp (o := .lst [p0])
    refine ⟨a, bn, 2, rfl, by omega, by omega, b1.2, fun x S3 x0 x1 h3 => ?_⟩
    have b2 := b1.draw h3
    have pS := a2.none hp hd
    have g1 : S3 p = some (.lst [p0]) := h3.at (hd.ne pS) zup_same
    have g2 : S3 po = some (.lst os) := h3.at (hd.ne hpo) (zup_of f2 hp)
    simp only [zNext, zBreak, zCont, zDrop, zRet, zRetN, zIfS, zAsg, zAug, zAugS, zDel, zFor, zVar, zC, zOp, zUn, zNil, zCons, zAp, zMt, zB, zTr, zTruth, zAnd, zOr, zNot, zAndV, zOrV, zNotV, zIf, zTup, zLst, zDNew, zBM, zBM0, tyZ, zgName, zgNil, zgCons, zgTup, zgTupT, zgSub, zAdd, zSub, zMul, zMod, zDiv, zPow, zShl, zCmpI, zLt, zLe, zGt, zGe, zEq, zNe, zIs, zIsNot, zIn, zNotIn, zNeg, zEqN, zIsN, scalD, zInN, zIx, zSlice, zPart, zNoPart, zSl, zSet, zIAdd, zGetA, zDelI, zLenA, zListA, zTuple, zInt, zAbs, zMax2, zMin2, zAllL, zAnyL, zSumL, zMaxL, zMinL, zSorted, zAppend, zExtend, zPop, zPopAt, zReverse, zJoin, zStr1, zIsi, tyD, zCall, zLc, zLcL, zYes, ziR1, ziR2, ziR3, ziAny, ziEnum, Keep, zEnd, List.getElem?_cons_zero, List.getElem?_cons_succ, List.set_cons_zero, List.set_cons_succ, Option.some.injEq, D.int.injEq, D.ref.injEq, D.tup.injEq, D.str.injEq, D.bl.injEq, reduceCtorEq, false_and, and_false, true_and, and_true, exists_eq_left, exists_eq_left', exists_and_left, if_true, if_false, Bool.false_eq_true, ite_false, ite_true, List.cons.injEq, wipeZ, zup_same, atI_zero, atI_one, atI_lit, atI_n, ixN_zero, ixN_one, ixN_lit, ixN_n, List.length_cons, List.length_nil, Nat.reduceAdd, Nat.reduceLT, decide_eq_true_eq, List.append_nil, List.nil_append, ZO.lst.injEq, ZO.dct.injEq, seqIx_n, Bool.not_true, Bool.not_false, isE_snoc, and_assoc, or_false, false_or, exists_eq, exists_eq', isT, String.reduceBEq, Bool.and_false, Bool.and_true, Bool.false_and, Bool.true_and, Bool.or_false, Bool.or_true, Bool.true_or, Bool.false_or, natC, natC0, natC1, plain_int, plain_str, plain_non, depth_int, depth_str, depth_non, Nat.zero_le, true_or, or_true, not_true_eq_false, not_false_eq_true, Int.reduceEq, Int.reduceLT, Int.reduceLE, Int.reduceAdd, Int.reduceSub, Nat.reduceEqDiff, decide_true, decide_false, g1]
    refine ⟨by omega, by omega, by rw [sizeLine_eq]; omega, fun p2 hp2 => ?_⟩
    have hyl : (List.replicate (2 + x).toNat [p0]).flatten.length ≤ 3 := by rw [rep_len]; simp; omega
    have hym : ∀ z ∈ (List.replicate (2 + x).toNat [p0]).flatten, isAns z := fun z hz => by rw [List.mem_singleton.mp (rep_mem hz)]; exact ans p0 (by rw [hps0]; simp)
    generalize (List.replicate (2 + x).toNat [p0]).flatten = rn at hyl hym ⊢
    have b3 := b2.new hp2 (o := .lst rn)
    refine ⟨os, zup_of g2 hp2, by rw [sizeLine_eq]; omega, fun p3 hp3 => ?_⟩
    refine hM _ _ ⟨p3, _, rfl, b3.new hp3, b3.none hp3 hd, zup_of (zup_of g2 hp2) hp3, zup_same, fun z hz => ?_, by simp; omega⟩
    rcases List.mem_append.mp hz with hz | hz
    · exact hym z hz
    · exact hos z hz
  rintro _ S3 ⟨pr', rs, rfl, a3, hpr, f3, g3, hrs, hrl⟩
  refine zseqN (fun δ' S' => ∃ pr rs, δ' = [some (.ref a), some (.ref pp), some (.int way), none, none, some (.ref po), some (.ref pr), none] ∧ At S a bn S' ∧ S pr = none ∧ S' po = some (.lst os) ∧ S' pr = some (.lst rs) ∧ (∀ x ∈ rs, isAns x) ∧ rs.length ≤ 30) (fun M hM => ?_) ?_
  · simp only [zNext, zBreak, zCont, zDrop, zRet, zRetN, zIfS, zAsg, zAug, zAugS, zDel, zFor, zVar, zC, zOp, zUn, zNil, zCons, zAp, zMt, zB, zTr, zTruth, zAnd, zOr, zNot, zAndV, zOrV, zNotV, zIf, zTup, zLst, zDNew, zBM, zBM0, tyZ, zgName, zgNil, zgCons, zgTup, zgTupT, zgSub, zAdd, zSub, zMul, zMod, zDiv, zPow, zShl, zCmpI, zLt, zLe, zGt, zGe, zEq, zNe, zIs, zIsNot, zIn, zNotIn, zNeg, zEqN, zIsN, scalD, zInN, zIx, zSlice, zPart, zNoPart, zSl, zSet, zIAdd, zGetA, zDelI, zLenA, zListA, zTuple, zInt, zAbs, zMax2, zMin2, zAllL, zAnyL, zSumL, zMaxL, zMinL, zSorted, zAppend, zExtend, zPop, zPopAt, zReverse, zJoin, zStr1, zIsi, tyD, zCall, zLc, zLcL, zYes, ziR1, ziR2, ziR3, ziAny, ziEnum, Keep, zEnd, List.getElem?_cons_zero, List.getElem?_cons_succ, List.set_cons_zero, List.set_cons_succ, Option.some.injEq, D.int.injEq, D.ref.injEq, D.tup.injEq, D.str.injEq, D.bl.injEq, reduceCtorEq, false_and, and_false, true_and, and_true, exists_eq_left, exists_eq_left', exists_and_left, if_true, if_false, Bool.false_eq_true, ite_false, ite_true, List.cons.injEq, wipeZ, zup_same, atI_zero, atI_one, atI_lit, atI_n, ixN_zero, ixN_one, ixN_lit, ixN_n, List.length_cons, List.length_nil, Nat.reduceAdd, Nat.reduceLT, decide_eq_true_eq, List.append_nil, List.nil_append, ZO.lst.injEq, ZO.dct.injEq, seqIx_n, Bool.not_true, Bool.not_false, isE_snoc, and_assoc, or_false, false_or, exists_eq, exists_eq', isT, String.reduceBEq, Bool.and_false, Bool.and_true, Bool.false_and, Bool.true_and, Bool.or_false, Bool.or_true, Bool.true_or, Bool.false_or, natC, natC0, natC1, plain_int, plain_str, plain_non, depth_int, depth_str, depth_non, Nat.zero_le, true_or, or_true, not_true_eq_false, not_false_eq_true, Int.reduceEq, Int.reduceLT, Int.reduceLE, Int.reduceAdd, Int.reduceSub, Nat.reduceEqDiff, decide_true, decide_false, g3]
    intro p hp
    have b1 := a3.new hp (o := .lst (Z.cutD rs none (some 9)))
    have pS := a3.none hp hd
    refine ⟨h1s, fun p2 hp2 => ?_⟩
    have b2 := b1.new hp2 (o := .lst [.non])
    have p2S := b1.none hp2 hd
    have g4 : zup (zup S3 p (.lst (Z.cutD rs none (some 9)))) p2 (.lst [.non]) pr' = some (.lst rs) := zup_of (zup_of g3 hp) hp2
    simp only [zNext, zBreak, zCont, zDrop, zRet, zRetN, zIfS, zAsg, zAug, zAugS, zDel, zFor, zVar, zC, zOp, zUn, zNil, zCons, zAp, zMt, zB, zTr, zTruth, zAnd, zOr, zNot, zAndV, zOrV, zNotV, zIf, zTup, zLst, zDNew, zBM, zBM0, tyZ, zgName, zgNil, zgCons, zgTup, zgTupT, zgSub, zAdd, zSub, zMul, zMod, zDiv, zPow, zShl, zCmpI, zLt, zLe, zGt, zGe, zEq, zNe, zIs, zIsNot, zIn, zNotIn, zNeg, zEqN, zIsN, scalD, zInN, zIx, zSlice, zPart, zNoPart, zSl, zSet, zIAdd, zGetA, zDelI, zLenA, zListA, zTuple, zInt, zAbs, zMax2, zMin2, zAllL, zAnyL, zSumL, zMaxL, zMinL, zSorted, zAppend, zExtend, zPop, zPopAt, zReverse, zJoin, zStr1, zIsi, tyD, zCall, zLc, zLcL, zYes, ziR1, ziR2, ziR3, ziAny, ziEnum, Keep, zEnd, List.getElem?_cons_zero, List.getElem?_cons_succ, List.set_cons_zero, List.set_cons_succ, Option.some.injEq, D.int.injEq, D.ref.injEq, D.tup.injEq, D.str.injEq, D.bl.injEq, reduceCtorEq, false_and, and_false, true_and, and_true, exists_eq_left, exists_eq_left', exists_and_left, if_true, if_false, Bool.false_eq_true, ite_false, ite_true, List.cons.injEq, wipeZ, zup_same, atI_zero, atI_one, atI_lit, atI_n, ixN_zero, ixN_one, ixN_lit, ixN_n, List.length_cons, List.length_nil, Nat.reduceAdd, Nat.reduceLT, decide_eq_true_eq, List.append_nil, List.nil_append, ZO.lst.injEq, ZO.dct.injEq, seqIx_n, Bool.not_true, Bool.not_false, isE_snoc, and_assoc, or_false, false_or, exists_eq, exists_eq', isT, String.reduceBEq, Bool.and_false, Bool.and_true, Bool.false_and, Bool.true_and, Bool.or_false, Bool.or_true, Bool.true_or, Bool.false_or, natC, natC0, natC1, plain_int, plain_str, plain_non, depth_int, depth_str, depth_non, Nat.zero_le, true_or, or_true, not_true_eq_false, not_false_eq_true, Int.reduceEq, Int.reduceLT, Int.reduceLE, Int.reduceAdd, Int.reduceSub, Nat.reduceEqDiff, decide_true, decide_false, g4]
    refine ⟨a, bn, _, rfl, by split <;> omega, by split <;> omega, b2.2, fun x S4 x0 x1 h4 => ?_⟩
    have b3 := b2.draw h4
    have k1 : S4 p2 = some (.lst [.non]) := h4.at (hd.ne p2S) zup_same
    have k2 : S4 p = some (.lst (Z.cutD rs none (some 9))) := h4.at (hd.ne pS) (zup_of zup_same hp2)
    have k3 : S4 po = some (.lst os) := h4.at (hd.ne hpo) (zup_of (zup_of f3 hp) hp2)
    have hx10 : x ≤ 10 := by revert x1; split <;> omega
    simp only [zNext, zBreak, zCont, zDrop, zRet, zRetN, zIfS, zAsg, zAug, zAugS, zDel, zFor, zVar, zC, zOp, zUn, zNil, zCons, zAp, zMt, zB, zTr, zTruth, zAnd, zOr, zNot, zAndV, zOrV, zNotV, zIf, zTup, zLst, zDNew, zBM, zBM0, tyZ, zgName, zgNil, zgCons, zgTup, zgTupT, zgSub, zAdd, zSub, zMul, zMod, zDiv, zPow, zShl, zCmpI, zLt, zLe, zGt, zGe, zEq, zNe, zIs, zIsNot, zIn, zNotIn, zNeg, zEqN, zIsN, scalD, zInN, zIx, zSlice, zPart, zNoPart, zSl, zSet, zIAdd, zGetA, zDelI, zLenA, zListA, zTuple, zInt, zAbs, zMax2, zMin2, zAllL, zAnyL, zSumL, zMaxL, zMinL, zSorted, zAppend, zExtend, zPop, zPopAt, zReverse, zJoin, zStr1, zIsi, tyD, zCall, zLc, zLcL, zYes, ziR1, ziR2, ziR3, ziAny, ziEnum, Keep, zEnd, List.getElem?_cons_zero, List.getElem?_cons_succ, List.set_cons_zero, List.set_cons_succ, Option.some.injEq, D.int.injEq, D.ref.injEq, D.tup.injEq, D.str.injEq, D.bl.injEq, reduceCtorEq, false_and, and_false, true_and, and_true, exists_eq_left, exists_eq_left', exists_and_left, if_true, if_false, Bool.false_eq_true, ite_false, ite_true, List.cons.injEq, wipeZ, zup_same, atI_zero, atI_one, atI_lit, atI_n, ixN_zero, ixN_one, ixN_lit, ixN_n, List.length_cons, List.length_nil, Nat.reduceAdd, Nat.reduceLT, decide_eq_true_eq, List.append_nil, List.nil_append, ZO.lst.injEq, ZO.dct.injEq, seqIx_n, Bool.not_true, Bool.not_false, isE_snoc, and_assoc, or_false, false_or, exists_eq, exists_eq', isT, String.reduceBEq, Bool.and_false, Bool.and_true, Bool.false_and, Bool.true_and, Bool.or_false, Bool.or_true, Bool.true_or, Bool.false_or, natC, natC0, natC1, plain_int, plain_str, plain_non, depth_int, depth_str, depth_non, Nat.zero_le, true_or, or_true, not_true_eq_false, not_false_eq_true, Int.reduceEq, Int.reduceLT, Int.reduceLE, Int.reduceAdd, Int.reduceSub, Nat.reduceEqDiff, decide_true, decide_false, k1]
    refine ⟨x0, by omega, by rw [sizeLine_eq]; omega, fun p3 hp3 => ?_⟩
    have hyl : (List.replicate x.toNat [D.non]).flatten.length ≤ 10 := by rw [rep_len]; simp; omega
    have hym : ∀ z ∈ (List.replicate x.toNat [D.non]).flatten, isAns z := fun z hz => .inl (List.mem_singleton.mp (rep_mem hz))
    generalize (List.replicate x.toNat [D.non]).flatten = rn at hyl hym ⊢
    have hcl := cut_len rs none (some 9)
    refine ⟨_, zup_of k2 hp3, by rw [sizeLine_eq]; omega, fun p4 hp4 => ?_⟩
    have b4 := b3.new hp3 (o := .lst rn)
    refine hM _ _ ⟨p4, _, rfl, b4.new hp4, b4.none hp4 hd, zup_of (zup_of k3 hp3) hp4, zup_same, fun z hz => ?_, by simp; omega⟩
    rcases List.mem_append.mp hz with hz | hz
    · exact hrs z (cut_sub hz)
    · exact hym z hz
  rintro _ S4 ⟨pr2, rs2, rfl, a4, hpr2, f4, g4, hrs2, hrl2⟩
  simp only [zNext, zBreak, zCont, zDrop, zRet, zRetN, zIfS, zAsg, zAug, zAugS, zDel, zFor, zVar, zC, zOp, zUn, zNil, zCons, zAp, zMt, zB, zTr, zTruth, zAnd, zOr, zNot, zAndV, zOrV, zNotV, zIf, zTup, zLst, zDNew, zBM, zBM0, tyZ, zgName, zgNil, zgCons, zgTup, zgTupT, zgSub, zAdd, zSub, zMul, zMod, zDiv, zPow, zShl, zCmpI, zLt, zLe, zGt, zGe, zEq, zNe, zIs, zIsNot, zIn, zNotIn, zNeg, zEqN, zIsN, scalD, zInN, zIx, zSlice, zPart, zNoPart, zSl, zSet, zIAdd, zGetA, zDelI, zLenA, zListA, zTuple, zInt, zAbs, zMax2, zMin2, zAllL, zAnyL, zSumL, zMaxL, zMinL, zSorted, zAppend, zExtend, zPop, zPopAt, zReverse, zJoin, zStr1, zIsi, tyD, zCall, zLc, zLcL, zYes, ziR1, ziR2, ziR3, ziAny, ziEnum, Keep, zEnd, List.getElem?_cons_zero, List.getElem?_cons_succ, List.set_cons_zero, List.set_cons_succ, Option.some.injEq, D.int.injEq, D.ref.injEq, D.tup.injEq, D.str.injEq, D.bl.injEq, reduceCtorEq, false_and, and_false, true_and, and_true, exists_eq_left, exists_eq_left', exists_and_left, if_true, if_false, Bool.false_eq_true, ite_false, ite_true, List.cons.injEq, wipeZ, zup_same, atI_zero, atI_one, atI_lit, atI_n, ixN_zero, ixN_one, ixN_lit, ixN_n, List.length_cons, List.length_nil, Nat.reduceAdd, Nat.reduceLT, decide_eq_true_eq, List.append_nil, List.nil_append, ZO.lst.injEq, ZO.dct.injEq, seqIx_n, Bool.not_true, Bool.not_false, isE_snoc, and_assoc, or_false, false_or, exists_eq, exists_eq', isT, String.reduceBEq, Bool.and_false, Bool.and_true, Bool.false_and, Bool.true_and, Bool.or_false, Bool.or_true, Bool.true_or, Bool.false_or, natC, natC0, natC1, plain_int, plain_str, plain_non, depth_int, depth_str, depth_non, Nat.zero_le, true_or, or_true, not_true_eq_false, not_false_eq_true, Int.reduceEq, Int.reduceLT, Int.reduceLE, Int.reduceAdd, Int.reduceSub, Nat.reduceEqDiff, decide_true, decide_false]
  refine ⟨a, bn, pr2, rs2, rfl, g4, hd.ne hpr2, a4.2, by omega, fun ys S5 q hperm h5 hq5 => ?_⟩
  have a5 := a4.draw h5
  have f5 : zup S5 q (.lst ys) po = some (.lst os) := zup_of (h5.at (hd.ne hpo) f4) hq5
  have qS := a5.none hq5 hd
  simp only [zNext, zBreak, zCont, zDrop, zRet, zRetN, zIfS, zAsg, zAug, zAugS, zDel, zFor, zVar, zC, zOp, zUn, zNil, zCons, zAp, zMt, zB, zTr, zTruth, zAnd, zOr, zNot, zAndV, zOrV, zNotV, zIf, zTup, zLst, zDNew, zBM, zBM0, tyZ, zgName, zgNil, zgCons, zgTup, zgTupT, zgSub, zAdd, zSub, zMul, zMod, zDiv, zPow, zShl, zCmpI, zLt, zLe, zGt, zGe, zEq, zNe, zIs, zIsNot, zIn, zNotIn, zNeg, zEqN, zIsN, scalD, zInN, zIx, zSlice, zPart, zNoPart, zSl, zSet, zIAdd, zGetA, zDelI, zLenA, zListA, zTuple, zInt, zAbs, zMax2, zMin2, zAllL, zAnyL, zSumL, zMaxL, zMinL, zSorted, zAppend, zExtend, zPop, zPopAt, zReverse, zJoin, zStr1, zIsi, tyD, zCall, zLc, zLcL, zYes, ziR1, ziR2, ziR3, ziAny, ziEnum, Keep, zEnd, List.getElem?_cons_zero, List.getElem?_cons_succ, List.set_cons_zero, List.set_cons_succ, Option.some.injEq, D.int.injEq, D.ref.injEq, D.tup.injEq, D.str.injEq, D.bl.injEq, reduceCtorEq, false_and, and_false, true_and, and_true, exists_eq_left, exists_eq_left', exists_and_left, if_true, if_false, Bool.false_eq_true, ite_false, ite_true, List.cons.injEq, wipeZ, zup_same, atI_zero, atI_one, atI_lit, atI_n, ixN_zero, ixN_one, ixN_lit, ixN_n, List.length_cons, List.length_nil, Nat.reduceAdd, Nat.reduceLT, decide_eq_true_eq, List.append_nil, List.nil_append, ZO.lst.injEq, ZO.dct.injEq, seqIx_n, Bool.not_true, Bool.not_false, isE_snoc, and_assoc, or_false, false_or, exists_eq, exists_eq', isT, String.reduceBEq, Bool.and_false, Bool.and_true, Bool.false_and, Bool.true_and, Bool.or_false, Bool.or_true, Bool.true_or, Bool.false_or, natC, natC0, natC1, plain_int, plain_str, plain_non, depth_int, depth_str, depth_non, Nat.zero_le, true_or, or_true, not_true_eq_false, not_false_eq_true, Int.reduceEq, Int.reduceLT, Int.reduceLE, Int.reduceAdd, Int.reduceSub, Nat.reduceEqDiff, decide_true, decide_false, f5]
  refine ⟨a, bn, 3, rfl, by omega, by omega, (a5.new hq5).2, fun l S6 _ _ h6 => ?_⟩
  simp only [zNext, zBreak, zCont, zDrop, zRet, zRetN, zIfS, zAsg, zAug, zAugS, zDel, zFor, zVar, zC, zOp, zUn, zNil, zCons, zAp, zMt, zB, zTr, zTruth, zAnd, zOr, zNot, zAndV, zOrV, zNotV, zIf, zTup, zLst, zDNew, zBM, zBM0, tyZ, zgName, zgNil, zgCons, zgTup, zgTupT, zgSub, zAdd, zSub, zMul, zMod, zDiv, zPow, zShl, zCmpI, zLt, zLe, zGt, zGe, zEq, zNe, zIs, zIsNot, zIn, zNotIn, zNeg, zEqN, zIsN, scalD, zInN, zIx, zSlice, zPart, zNoPart, zSl, zSet, zIAdd, zGetA, zDelI, zLenA, zListA, zTuple, zInt, zAbs, zMax2, zMin2, zAllL, zAnyL, zSumL, zMaxL, zMinL, zSorted, zAppend, zExtend, zPop, zPopAt, zReverse, zJoin, zStr1, zIsi, tyD, zCall, zLc, zLcL, zYes, ziR1, ziR2, ziR3, ziAny, ziEnum, Keep, zEnd, List.getElem?_cons_zero, List.getElem?_cons_succ, List.set_cons_zero, List.set_cons_succ, Option.some.injEq, D.int.injEq, D.ref.injEq, D.tup.injEq, D.str.injEq, D.bl.injEq, reduceCtorEq, false_and, and_false, true_and, and_true, exists_eq_left, exists_eq_left', exists_and_left, if_true, if_false, Bool.false_eq_true, ite_false, ite_true, List.cons.injEq, wipeZ, zup_same, atI_zero, atI_one, atI_lit, atI_n, ixN_zero, ixN_one, ixN_lit, ixN_n, List.length_cons, List.length_nil, Nat.reduceAdd, Nat.reduceLT, decide_eq_true_eq, List.append_nil, List.nil_append, ZO.lst.injEq, ZO.dct.injEq, seqIx_n, Bool.not_true, Bool.not_false, isE_snoc, and_assoc, or_false, false_or, exists_eq, exists_eq', isT, String.reduceBEq, Bool.and_false, Bool.and_true, Bool.false_and, Bool.true_and, Bool.or_false, Bool.or_true, Bool.true_or, Bool.false_or, natC, natC0, natC1, plain_int, plain_str, plain_non, depth_int, depth_str, depth_non, Nat.zero_le, true_or, or_true, not_true_eq_false, not_false_eq_true, Int.reduceEq, Int.reduceLT, Int.reduceLE, Int.reduceAdd, Int.reduceSub, Nat.reduceEqDiff, decide_true, decide_false]
  refine ⟨h2s, fun q2 hq2 => ?_⟩
  exact fin _ ((a5.new hq5).draw h6) qS (h6.at (hd.ne qS) zup_same) ⟨fun z hz => hrs2 z (hperm.mem_iff.mp hz), by rw [hperm.length_eq]; omega⟩ q2 hq2
end K70
namespace K70
open PySem PySem.Spec PyProof.Rows L2 Z ZH
/-! ### _law_possible -/
def sp__law_possible (K : PySem.W.Frag) : ZSp := fun ds S Q => ∃ (pa : Addr) (as : List D) (l : Int), ds = [.ref pa, .int l] ∧ S pa = some (.lst as) ∧ as.length ≤ 1000 ∧ (∀ x ∈ as, isAns x) ∧ Q (poss as l) S
def z__law_possible (K : PySem.W.Frag) : ZTS :=
  (zSeq (zAsg (zLc (ziAny K (zVar 0)) (zgName 5) (zB (zOp zIsNot (zVar 5) (zC .non))) (zVar 5) [5]) (zgName 2))
    (zSeq (zIfS (zB (zOp zLe (zAp zLenA (zCons (zVar 2) zNil)) (zVar 1))) (zRet (zC .non)) zNext)
    (zSeq (zAsg (zLst zNil) (zgName 3))
    (zSeq (zFor (ziAny K (zVar 2)) (zgName 4) (zIfS (zAnd (zB (zOp zNotIn (zVar 4) (zVar 3))) (zB (zOp zLe (zAp zLenA (zCons (zLc (ziAny K (zVar 2)) (zgName 5) (zB (zOp zNe (zVar 5) (zVar 4))) (zVar 5) [5]) zNil)) (zVar 1)))) (zDrop (zBM "list" zAppend (zVar 3) (zCons (zVar 4) zNil))) zNext))
    (zRet (zAp (zTuple K) (zCons (zAp (zSorted K) (zCons (zVar 3) zNil)) zNil)))))))

theorem foldK_len (xs : List D) : (xs.foldl addK []).length ≤ xs.length := by
  have go : ∀ (xs ks : List D), (xs.foldl addK ks).length ≤ ks.length + xs.length := by
    intro xs
    induction xs with
    | nil => simp
    | cons x r ih => intro ks; rw [List.foldl_cons]; have := ih (addK ks x); have : (addK ks x).length ≤ ks.length + 1 := by unfold addK; split <;> simp
                     simp only [List.length_cons]; omega
  have := go xs []
  simpa using this
theorem law_possible2 {K : PySem.W.Frag} (ds : List D) (S : Store) (Q : ZK) (h : sp__law_possible K ds S Q) : z__law_possible K (zEnd Q) (zstart ["answers", "liars", "said", "found", "step", "one"] ds) S := by
  obtain ⟨pa, as, l, rfl, hpa, hl, ha, hq⟩ := h
  show z__law_possible K (zEnd Q) [some (.ref pa), some (.int l), none, none, none, none] S
  unfold z__law_possible
  have hsl : (said as).length ≤ 1000 := Nat.le_trans (List.length_filter_le _ _) hl
  refine zseqN (fun δ' S' => ∃ p, δ' = [some (.ref pa), some (.int l), some (.ref p), none, none, none] ∧ Ext [] S S' ∧ S p = none ∧ S' p = some (.lst (said as))) (fun M hM => ?_) ?_
  · simp only [zNext, zBreak, zCont, zDrop, zRet, zRetN, zIfS, zAsg, zAug, zAugS, zDel, zFor, zVar, zC, zOp, zUn, zNil, zCons, zAp, zMt, zB, zTr, zTruth, zAnd, zOr, zNot, zAndV, zOrV, zNotV, zIf, zTup, zLst, zDNew, zBM, zBM0, tyZ, zgName, zgNil, zgCons, zgTup, zgTupT, zgSub, zAdd, zSub, zMul, zMod, zDiv, zPow, zShl, zCmpI, zLt, zLe, zGt, zGe, zEq, zNe, zIs, zIsNot, zIn, zNotIn, zNeg, zEqN, zIsN, scalD, zInN, zIx, zSlice, zPart, zNoPart, zSl, zSet, zIAdd, zGetA, zDelI, zLenA, zListA, zTuple, zInt, zAbs, zMax2, zMin2, zAllL, zAnyL, zSumL, zMaxL, zMinL, zSorted, zAppend, zExtend, zPop, zPopAt, zReverse, zJoin, zStr1, zIsi, tyD, zCall, zLc, zLcL, zYes, ziR1, ziR2, ziR3, ziAny, ziEnum, Keep, zEnd, List.getElem?_cons_zero, List.getElem?_cons_succ, List.set_cons_zero, List.set_cons_succ, Option.some.injEq, D.int.injEq, D.ref.injEq, D.tup.injEq, D.str.injEq, D.bl.injEq, reduceCtorEq, false_and, and_false, true_and, and_true, exists_eq_left, exists_eq_left', exists_and_left, if_true, if_false, Bool.false_eq_true, ite_false, ite_true, List.cons.injEq, wipeZ, zup_same, atI_zero, atI_one, atI_lit, atI_n, ixN_zero, ixN_one, ixN_lit, ixN_n, List.length_cons, List.length_nil, Nat.reduceAdd, Nat.reduceLT, decide_eq_true_eq, List.append_nil, List.nil_append, ZO.lst.injEq, ZO.dct.injEq, seqIx_n, Bool.not_true, Bool.not_false, isE_snoc, and_assoc, or_false, false_or, exists_eq, exists_eq', isT, String.reduceBEq, Bool.and_false, Bool.and_true, Bool.false_and, Bool.true_and, Bool.or_false, Bool.or_true, Bool.true_or, Bool.false_or, natC, natC0, natC1, plain_int, plain_str, plain_non, depth_int, depth_str, depth_non, Nat.zero_le, true_or, or_true, not_true_eq_false, not_false_eq_true, Int.reduceEq, Int.reduceLT, Int.reduceLE, Int.reduceAdd, Int.reduceSub, Nat.reduceEqDiff, decide_true, decide_false]
    refine ⟨.lst pa as, as, .inl (.inl ⟨rfl, .inl hpa⟩), .inl hpa, ?_⟩
    refine zlcl_pure (src := .lst pa as) (fun d => if (!decide (d = .non)) = true then some d else none) (.inl hpa) _ _ (fun d hd Y N hy hn => ?_) (by simp [sizeLine_eq]; omega) ?_
    · simp only [zNext, zBreak, zCont, zDrop, zRet, zRetN, zIfS, zAsg, zAug, zAugS, zDel, zFor, zVar, zC, zOp, zUn, zNil, zCons, zAp, zMt, zB, zTr, zTruth, zAnd, zOr, zNot, zAndV, zOrV, zNotV, zIf, zTup, zLst, zDNew, zBM, zBM0, tyZ, zgName, zgNil, zgCons, zgTup, zgTupT, zgSub, zAdd, zSub, zMul, zMod, zDiv, zPow, zShl, zCmpI, zLt, zLe, zGt, zGe, zEq, zNe, zIs, zIsNot, zIn, zNotIn, zNeg, zEqN, zIsN, scalD, zInN, zIx, zSlice, zPart, zNoPart, zSl, zSet, zIAdd, zGetA, zDelI, zLenA, zListA, zTuple, zInt, zAbs, zMax2, zMin2, zAllL, zAnyL, zSumL, zMaxL, zMinL, zSorted, zAppend, zExtend, zPop, zPopAt, zReverse, zJoin, zStr1, zIsi, tyD, zCall, zLc, zLcL, zYes, ziR1, ziR2, ziR3, ziAny, ziEnum, Keep, zEnd, List.getElem?_cons_zero, List.getElem?_cons_succ, List.set_cons_zero, List.set_cons_succ, Option.some.injEq, D.int.injEq, D.ref.injEq, D.tup.injEq, D.str.injEq, D.bl.injEq, reduceCtorEq, false_and, and_false, true_and, and_true, exists_eq_left, exists_eq_left', exists_and_left, if_true, if_false, Bool.false_eq_true, ite_false, ite_true, List.cons.injEq, wipeZ, zup_same, atI_zero, atI_one, atI_lit, atI_n, ixN_zero, ixN_one, ixN_lit, ixN_n, List.length_cons, List.length_nil, Nat.reduceAdd, Nat.reduceLT, decide_eq_true_eq, List.append_nil, List.nil_append, ZO.lst.injEq, ZO.dct.injEq, seqIx_n, Bool.not_true, Bool.not_false, isE_snoc, and_assoc, or_false, false_or, exists_eq, exists_eq', isT, String.reduceBEq, Bool.and_false, Bool.and_true, Bool.false_and, Bool.true_and, Bool.or_false, Bool.or_true, Bool.true_or, Bool.false_or, natC, natC0, natC1, plain_int, plain_str, plain_non, depth_int, depth_str, depth_non, Nat.zero_le, true_or, or_true, not_true_eq_false, not_false_eq_true, Int.reduceEq, Int.reduceLT, Int.reduceLE, Int.reduceAdd, Int.reduceSub, Nat.reduceEqDiff, decide_true, decide_false]
      by_cases e : d = .non
      · simp only [e, decide_true, Bool.not_true, Bool.false_eq_true, if_false]
        exact hn (by simp [e])
      · simp only [e, decide_false, Bool.not_false, if_true]
        exact hy _ (by simp [e])
    · intro p hp
      rw [filt_map]
      exact hM _ _ ⟨p, rfl, Ext.refl.new hp, hp, zup_same⟩
  rintro _ S1 ⟨p, rfl, x1, hp, e1⟩
  refine zseqN (fun δ' S' => δ' = [some (.ref pa), some (.int l), some (.ref p), none, none, none] ∧ ¬ ((said as).length : Int) ≤ l ∧ S1 = S') (fun M hM => ?_) ?_
  · simp only [zNext, zBreak, zCont, zDrop, zRet, zRetN, zIfS, zAsg, zAug, zAugS, zDel, zFor, zVar, zC, zOp, zUn, zNil, zCons, zAp, zMt, zB, zTr, zTruth, zAnd, zOr, zNot, zAndV, zOrV, zNotV, zIf, zTup, zLst, zDNew, zBM, zBM0, tyZ, zgName, zgNil, zgCons, zgTup, zgTupT, zgSub, zAdd, zSub, zMul, zMod, zDiv, zPow, zShl, zCmpI, zLt, zLe, zGt, zGe, zEq, zNe, zIs, zIsNot, zIn, zNotIn, zNeg, zEqN, zIsN, scalD, zInN, zIx, zSlice, zPart, zNoPart, zSl, zSet, zIAdd, zGetA, zDelI, zLenA, zListA, zTuple, zInt, zAbs, zMax2, zMin2, zAllL, zAnyL, zSumL, zMaxL, zMinL, zSorted, zAppend, zExtend, zPop, zPopAt, zReverse, zJoin, zStr1, zIsi, tyD, zCall, zLc, zLcL, zYes, ziR1, ziR2, ziR3, ziAny, ziEnum, Keep, zEnd, List.getElem?_cons_zero, List.getElem?_cons_succ, List.set_cons_zero, List.set_cons_succ, Option.some.injEq, D.int.injEq, D.ref.injEq, D.tup.injEq, D.str.injEq, D.bl.injEq, reduceCtorEq, false_and, and_false, true_and, and_true, exists_eq_left, exists_eq_left', exists_and_left, if_true, if_false, Bool.false_eq_true, ite_false, ite_true, List.cons.injEq, wipeZ, zup_same, atI_zero, atI_one, atI_lit, atI_n, ixN_zero, ixN_one, ixN_lit, ixN_n, List.length_cons, List.length_nil, Nat.reduceAdd, Nat.reduceLT, decide_eq_true_eq, List.append_nil, List.nil_append, ZO.lst.injEq, ZO.dct.injEq, seqIx_n, Bool.not_true, Bool.not_false, isE_snoc, and_assoc, or_false, false_or, exists_eq, exists_eq', isT, String.reduceBEq, Bool.and_false, Bool.and_true, Bool.false_and, Bool.true_and, Bool.or_false, Bool.or_true, Bool.true_or, Bool.false_or, natC, natC0, natC1, plain_int, plain_str, plain_non, depth_int, depth_str, depth_non, Nat.zero_le, true_or, or_true, not_true_eq_false, not_false_eq_true, Int.reduceEq, Int.reduceLT, Int.reduceLE, Int.reduceAdd, Int.reduceSub, Nat.reduceEqDiff, decide_true, decide_false, e1]
    split
    · rename_i hle
      refine ⟨S, x1.sub, ?_⟩
      unfold poss at hq
      rw [if_pos hle] at hq
      exact hq
    · rename_i hle
      exact hM _ _ ⟨rfl, hle, rfl⟩
  rintro _ _ ⟨rfl, hle, rfl⟩
  refine zseq_go ?_
  simp only [zNext, zBreak, zCont, zDrop, zRet, zRetN, zIfS, zAsg, zAug, zAugS, zDel, zFor, zVar, zC, zOp, zUn, zNil, zCons, zAp, zMt, zB, zTr, zTruth, zAnd, zOr, zNot, zAndV, zOrV, zNotV, zIf, zTup, zLst, zDNew, zBM, zBM0, tyZ, zgName, zgNil, zgCons, zgTup, zgTupT, zgSub, zAdd, zSub, zMul, zMod, zDiv, zPow, zShl, zCmpI, zLt, zLe, zGt, zGe, zEq, zNe, zIs, zIsNot, zIn, zNotIn, zNeg, zEqN, zIsN, scalD, zInN, zIx, zSlice, zPart, zNoPart, zSl, zSet, zIAdd, zGetA, zDelI, zLenA, zListA, zTuple, zInt, zAbs, zMax2, zMin2, zAllL, zAnyL, zSumL, zMaxL, zMinL, zSorted, zAppend, zExtend, zPop, zPopAt, zReverse, zJoin, zStr1, zIsi, tyD, zCall, zLc, zLcL, zYes, ziR1, ziR2, ziR3, ziAny, ziEnum, Keep, zEnd, List.getElem?_cons_zero, List.getElem?_cons_succ, List.set_cons_zero, List.set_cons_succ, Option.some.injEq, D.int.injEq, D.ref.injEq, D.tup.injEq, D.str.injEq, D.bl.injEq, reduceCtorEq, false_and, and_false, true_and, and_true, exists_eq_left, exists_eq_left', exists_and_left, if_true, if_false, Bool.false_eq_true, ite_false, ite_true, List.cons.injEq, wipeZ, zup_same, atI_zero, atI_one, atI_lit, atI_n, ixN_zero, ixN_one, ixN_lit, ixN_n, List.length_cons, List.length_nil, Nat.reduceAdd, Nat.reduceLT, decide_eq_true_eq, List.append_nil, List.nil_append, ZO.lst.injEq, ZO.dct.injEq, seqIx_n, Bool.not_true, Bool.not_false, isE_snoc, and_assoc, or_false, false_or, exists_eq, exists_eq', isT, String.reduceBEq, Bool.and_false, Bool.and_true, Bool.false_and, Bool.true_and, Bool.or_false, Bool.or_true, Bool.true_or, Bool.false_or, natC, natC0, natC1, plain_int, plain_str, plain_non, depth_int, depth_str, depth_non, Nat.zero_le, true_or, or_true, not_true_eq_false, not_false_eq_true, Int.reduceEq, Int.reduceLT, Int.reduceLE, Int.reduceAdd, Int.reduceSub, Nat.reduceEqDiff, decide_true, decide_false]
  intro q hq0
  have hqS : S q = none := x1.sub.none hq0
  have hqp : q ≠ p := by rintro rfl; rw [e1] at hq0; cases hq0
  refine zseqN (fun δ' S' => δ'[3]? = some (some (.ref q)) ∧ S' q = some (.lst (cand (said as) l)) ∧ Ext [] S S') (fun M hM => ?_) ?_
  · simp only [zNext, zBreak, zCont, zDrop, zRet, zRetN, zIfS, zAsg, zAug, zAugS, zDel, zFor, zVar, zC, zOp, zUn, zNil, zCons, zAp, zMt, zB, zTr, zTruth, zAnd, zOr, zNot, zAndV, zOrV, zNotV, zIf, zTup, zLst, zDNew, zBM, zBM0, tyZ, zgName, zgNil, zgCons, zgTup, zgTupT, zgSub, zAdd, zSub, zMul, zMod, zDiv, zPow, zShl, zCmpI, zLt, zLe, zGt, zGe, zEq, zNe, zIs, zIsNot, zIn, zNotIn, zNeg, zEqN, zIsN, scalD, zInN, zIx, zSlice, zPart, zNoPart, zSl, zSet, zIAdd, zGetA, zDelI, zLenA, zListA, zTuple, zInt, zAbs, zMax2, zMin2, zAllL, zAnyL, zSumL, zMaxL, zMinL, zSorted, zAppend, zExtend, zPop, zPopAt, zReverse, zJoin, zStr1, zIsi, tyD, zCall, zLc, zLcL, zYes, ziR1, ziR2, ziR3, ziAny, ziEnum, Keep, zEnd, List.getElem?_cons_zero, List.getElem?_cons_succ, List.set_cons_zero, List.set_cons_succ, Option.some.injEq, D.int.injEq, D.ref.injEq, D.tup.injEq, D.str.injEq, D.bl.injEq, reduceCtorEq, false_and, and_false, true_and, and_true, exists_eq_left, exists_eq_left', exists_and_left, if_true, if_false, Bool.false_eq_true, ite_false, ite_true, List.cons.injEq, wipeZ, zup_same, atI_zero, atI_one, atI_lit, atI_n, ixN_zero, ixN_one, ixN_lit, ixN_n, List.length_cons, List.length_nil, Nat.reduceAdd, Nat.reduceLT, decide_eq_true_eq, List.append_nil, List.nil_append, ZO.lst.injEq, ZO.dct.injEq, seqIx_n, Bool.not_true, Bool.not_false, isE_snoc, and_assoc, or_false, false_or, exists_eq, exists_eq', isT, String.reduceBEq, Bool.and_false, Bool.and_true, Bool.false_and, Bool.true_and, Bool.or_false, Bool.or_true, Bool.true_or, Bool.false_or, natC, natC0, natC1, plain_int, plain_str, plain_non, depth_int, depth_str, depth_non, Nat.zero_le, true_or, or_true, not_true_eq_false, not_false_eq_true, Int.reduceEq, Int.reduceLT, Int.reduceLE, Int.reduceAdd, Int.reduceSub, Nat.reduceEqDiff, decide_true, decide_false]
    have e1' : zup S1 q (.lst []) p = some (.lst (said as)) := zup_of e1 hq0
    refine ⟨.lst p (said as), said as, .inl (.inl ⟨rfl, .inl e1'⟩), .inl e1', ?_⟩
    refine zloop (fun rest δ' S' => (∃ a b, δ' = [some (.ref pa), some (.int l), some (.ref p), some (.ref q), a, b]) ∧ ∃ done, said as = done ++ rest ∧ S' q = some (.lst ((done.filter fun s => decide ((((said as).filter fun o => !decide (o = s)).length : Int) ≤ l)).foldl addK [])) ∧ S' p = some (.lst (said as)) ∧ Ext [] S S') ?_ ?_ _ _ _ ?_
    · rintro δ' S' ⟨⟨a, b, rfl⟩, done, e, h1, h2, h3⟩
      rw [List.append_nil] at e
      subst e
      exact hM _ _ ⟨rfl, h1, h3⟩
    · rintro d r δ' S' N ⟨⟨a, b, rfl⟩, done, e, h1, h2, h3⟩ hN
      have hd : d ∈ said as := by rw [e]; simp
      have hst := said_steps ha d hd
      have e' : said as = done ++ [d] ++ r := by rw [e]; simp
      have fin : ∀ {b' : Option D} {S'' : Store}, S'' q = some (.lst (((done ++ [d]).filter fun s => decide ((((said as).filter fun o => !decide (o = s)).length : Int) ≤ l)).foldl addK [])) → S'' p = some (.lst (said as)) → Ext [] S S'' → N [some (.ref pa), some (.int l), some (.ref p), some (.ref q), some d, b'] S'' := fun {b' S''} g1 g2 g3 =>
        hN _ _ (.inl g2) ⟨⟨_, _, rfl⟩, done ++ [d], e', g1, g2, g3⟩
      generalize hks : (done.filter fun s => decide ((((said as).filter fun o => !decide (o = s)).length : Int) ≤ l)).foldl addK [] = ks at h1
      have hkl : ks.length ≤ 1000 := by
        rw [← hks]
        have g1 := foldK_len (done.filter fun s => decide ((((said as).filter fun o => !decide (o = s)).length : Int) ≤ l))
        have g2 := List.length_filter_le (fun s => decide ((((said as).filter fun o => !decide (o = s)).length : Int) ≤ l)) done
        have g3 : done.length ≤ (said as).length := by rw [e]; simp
        omega
      have hkm : ∀ x ∈ ks, isStep x := fun x hx => by
        rw [← hks] at hx
        rcases mem_foldK.mp hx with h | h
        · exact absurd h (by simp)
        · exact said_steps ha x (by rw [e]; exact List.mem_append_left _ (List.mem_filter.mp h).1)
      have stay : d ∈ ks → N [some (.ref pa), some (.int l), some (.ref p), some (.ref q), some d, b] S' := fun hin => by
        refine fin ?_ h2 h3
        rw [List.filter_append, List.foldl_append, hks]
        by_cases hc : (((said as).filter fun o => !decide (o = d)).length : Int) ≤ l
        · simp [hc, addK, hin, h1]
        · simp [hc, h1]
      simp only [zNext, zBreak, zCont, zDrop, zRet, zRetN, zIfS, zAsg, zAug, zAugS, zDel, zFor, zVar, zC, zOp, zUn, zNil, zCons, zAp, zMt, zB, zTr, zTruth, zAnd, zOr, zNot, zAndV, zOrV, zNotV, zIf, zTup, zLst, zDNew, zBM, zBM0, tyZ, zgName, zgNil, zgCons, zgTup, zgTupT, zgSub, zAdd, zSub, zMul, zMod, zDiv, zPow, zShl, zCmpI, zLt, zLe, zGt, zGe, zEq, zNe, zIs, zIsNot, zIn, zNotIn, zNeg, zEqN, zIsN, scalD, zInN, zIx, zSlice, zPart, zNoPart, zSl, zSet, zIAdd, zGetA, zDelI, zLenA, zListA, zTuple, zInt, zAbs, zMax2, zMin2, zAllL, zAnyL, zSumL, zMaxL, zMinL, zSorted, zAppend, zExtend, zPop, zPopAt, zReverse, zJoin, zStr1, zIsi, tyD, zCall, zLc, zLcL, zYes, ziR1, ziR2, ziR3, ziAny, ziEnum, Keep, zEnd, List.getElem?_cons_zero, List.getElem?_cons_succ, List.set_cons_zero, List.set_cons_succ, Option.some.injEq, D.int.injEq, D.ref.injEq, D.tup.injEq, D.str.injEq, D.bl.injEq, reduceCtorEq, false_and, and_false, true_and, and_true, exists_eq_left, exists_eq_left', exists_and_left, if_true, if_false, Bool.false_eq_true, ite_false, ite_true, List.cons.injEq, wipeZ, zup_same, atI_zero, atI_one, atI_lit, atI_n, ixN_zero, ixN_one, ixN_lit, ixN_n, List.length_cons, List.length_nil, Nat.reduceAdd, Nat.reduceLT, decide_eq_true_eq, List.append_nil, List.nil_append, ZO.lst.injEq, ZO.dct.injEq, seqIx_n, Bool.not_true, Bool.not_false, isE_snoc, and_assoc, or_false, false_or, exists_eq, exists_eq', isT, String.reduceBEq, Bool.and_false, Bool.and_true, Bool.false_and, Bool.true_and, Bool.or_false, Bool.or_true, Bool.true_or, Bool.false_or, natC, natC0, natC1, plain_int, plain_str, plain_non, depth_int, depth_str, depth_non, Nat.zero_le, true_or, or_true, not_true_eq_false, not_false_eq_true, Int.reduceEq, Int.reduceLT, Int.reduceLE, Int.reduceAdd, Int.reduceSub, Nat.reduceEqDiff, decide_true, decide_false, h1]
      refine ⟨hst.facts.1, D.plainL_iff.mpr fun x hx => (hkm x hx).facts.1, by rw [hst.facts.2.2.1]; omega, ?_⟩
      by_cases hin : d ∈ ks
      · simp only [zNext, zBreak, zCont, zDrop, zRet, zRetN, zIfS, zAsg, zAug, zAugS, zDel, zFor, zVar, zC, zOp, zUn, zNil, zCons, zAp, zMt, zB, zTr, zTruth, zAnd, zOr, zNot, zAndV, zOrV, zNotV, zIf, zTup, zLst, zDNew, zBM, zBM0, tyZ, zgName, zgNil, zgCons, zgTup, zgTupT, zgSub, zAdd, zSub, zMul, zMod, zDiv, zPow, zShl, zCmpI, zLt, zLe, zGt, zGe, zEq, zNe, zIs, zIsNot, zIn, zNotIn, zNeg, zEqN, zIsN, scalD, zInN, zIx, zSlice, zPart, zNoPart, zSl, zSet, zIAdd, zGetA, zDelI, zLenA, zListA, zTuple, zInt, zAbs, zMax2, zMin2, zAllL, zAnyL, zSumL, zMaxL, zMinL, zSorted, zAppend, zExtend, zPop, zPopAt, zReverse, zJoin, zStr1, zIsi, tyD, zCall, zLc, zLcL, zYes, ziR1, ziR2, ziR3, ziAny, ziEnum, Keep, zEnd, List.getElem?_cons_zero, List.getElem?_cons_succ, List.set_cons_zero, List.set_cons_succ, Option.some.injEq, D.int.injEq, D.ref.injEq, D.tup.injEq, D.str.injEq, D.bl.injEq, reduceCtorEq, false_and, and_false, true_and, and_true, exists_eq_left, exists_eq_left', exists_and_left, if_true, if_false, Bool.false_eq_true, ite_false, ite_true, List.cons.injEq, wipeZ, zup_same, atI_zero, atI_one, atI_lit, atI_n, ixN_zero, ixN_one, ixN_lit, ixN_n, List.length_cons, List.length_nil, Nat.reduceAdd, Nat.reduceLT, decide_eq_true_eq, List.append_nil, List.nil_append, ZO.lst.injEq, ZO.dct.injEq, seqIx_n, Bool.not_true, Bool.not_false, isE_snoc, and_assoc, or_false, false_or, exists_eq, exists_eq', isT, String.reduceBEq, Bool.and_false, Bool.and_true, Bool.false_and, Bool.true_and, Bool.or_false, Bool.or_true, Bool.true_or, Bool.false_or, natC, natC0, natC1, plain_int, plain_str, plain_non, depth_int, depth_str, depth_non, Nat.zero_le, true_or, or_true, not_true_eq_false, not_false_eq_true, Int.reduceEq, Int.reduceLT, Int.reduceLE, Int.reduceAdd, Int.reduceSub, Nat.reduceEqDiff, decide_true, decide_false, hin]
        exact stay hin
      · simp only [zNext, zBreak, zCont, zDrop, zRet, zRetN, zIfS, zAsg, zAug, zAugS, zDel, zFor, zVar, zC, zOp, zUn, zNil, zCons, zAp, zMt, zB, zTr, zTruth, zAnd, zOr, zNot, zAndV, zOrV, zNotV, zIf, zTup, zLst, zDNew, zBM, zBM0, tyZ, zgName, zgNil, zgCons, zgTup, zgTupT, zgSub, zAdd, zSub, zMul, zMod, zDiv, zPow, zShl, zCmpI, zLt, zLe, zGt, zGe, zEq, zNe, zIs, zIsNot, zIn, zNotIn, zNeg, zEqN, zIsN, scalD, zInN, zIx, zSlice, zPart, zNoPart, zSl, zSet, zIAdd, zGetA, zDelI, zLenA, zListA, zTuple, zInt, zAbs, zMax2, zMin2, zAllL, zAnyL, zSumL, zMaxL, zMinL, zSorted, zAppend, zExtend, zPop, zPopAt, zReverse, zJoin, zStr1, zIsi, tyD, zCall, zLc, zLcL, zYes, ziR1, ziR2, ziR3, ziAny, ziEnum, Keep, zEnd, List.getElem?_cons_zero, List.getElem?_cons_succ, List.set_cons_zero, List.set_cons_succ, Option.some.injEq, D.int.injEq, D.ref.injEq, D.tup.injEq, D.str.injEq, D.bl.injEq, reduceCtorEq, false_and, and_false, true_and, and_true, exists_eq_left, exists_eq_left', exists_and_left, if_true, if_false, Bool.false_eq_true, ite_false, ite_true, List.cons.injEq, wipeZ, zup_same, atI_zero, atI_one, atI_lit, atI_n, ixN_zero, ixN_one, ixN_lit, ixN_n, List.length_cons, List.length_nil, Nat.reduceAdd, Nat.reduceLT, decide_eq_true_eq, List.append_nil, List.nil_append, ZO.lst.injEq, ZO.dct.injEq, seqIx_n, Bool.not_true, Bool.not_false, isE_snoc, and_assoc, or_false, false_or, exists_eq, exists_eq', isT, String.reduceBEq, Bool.and_false, Bool.and_true, Bool.false_and, Bool.true_and, Bool.or_false, Bool.or_true, Bool.true_or, Bool.false_or, natC, natC0, natC1, plain_int, plain_str, plain_non, depth_int, depth_str, depth_non, Nat.zero_le, true_or, or_true, not_true_eq_false, not_false_eq_true, Int.reduceEq, Int.reduceLT, Int.reduceLE, Int.reduceAdd, Int.reduceSub, Nat.reduceEqDiff, decide_true, decide_false, hin]
        refine ⟨.lst p (said as), said as, .inl (.inl ⟨rfl, .inl h2⟩), .inl h2, ?_⟩
        refine zlcl_pure (src := .lst p (said as)) (fun o => if (!decide (o = d)) = true then some o else none) (.inl h2) _ _ (fun o ho Y N' hy hn => ?_) (by simp [sizeLine_eq]; omega) ?_
        · simp only [zNext, zBreak, zCont, zDrop, zRet, zRetN, zIfS, zAsg, zAug, zAugS, zDel, zFor, zVar, zC, zOp, zUn, zNil, zCons, zAp, zMt, zB, zTr, zTruth, zAnd, zOr, zNot, zAndV, zOrV, zNotV, zIf, zTup, zLst, zDNew, zBM, zBM0, tyZ, zgName, zgNil, zgCons, zgTup, zgTupT, zgSub, zAdd, zSub, zMul, zMod, zDiv, zPow, zShl, zCmpI, zLt, zLe, zGt, zGe, zEq, zNe, zIs, zIsNot, zIn, zNotIn, zNeg, zEqN, zIsN, scalD, zInN, zIx, zSlice, zPart, zNoPart, zSl, zSet, zIAdd, zGetA, zDelI, zLenA, zListA, zTuple, zInt, zAbs, zMax2, zMin2, zAllL, zAnyL, zSumL, zMaxL, zMinL, zSorted, zAppend, zExtend, zPop, zPopAt, zReverse, zJoin, zStr1, zIsi, tyD, zCall, zLc, zLcL, zYes, ziR1, ziR2, ziR3, ziAny, ziEnum, Keep, zEnd, List.getElem?_cons_zero, List.getElem?_cons_succ, List.set_cons_zero, List.set_cons_succ, Option.some.injEq, D.int.injEq, D.ref.injEq, D.tup.injEq, D.str.injEq, D.bl.injEq, reduceCtorEq, false_and, and_false, true_and, and_true, exists_eq_left, exists_eq_left', exists_and_left, if_true, if_false, Bool.false_eq_true, ite_false, ite_true, List.cons.injEq, wipeZ, zup_same, atI_zero, atI_one, atI_lit, atI_n, ixN_zero, ixN_one, ixN_lit, ixN_n, List.length_cons, List.length_nil, Nat.reduceAdd, Nat.reduceLT, decide_eq_true_eq, List.append_nil, List.nil_append, ZO.lst.injEq, ZO.dct.injEq, seqIx_n, Bool.not_true, Bool.not_false, isE_snoc, and_assoc, or_false, false_or, exists_eq, exists_eq', isT, String.reduceBEq, Bool.and_false, Bool.and_true, Bool.false_and, Bool.true_and, Bool.or_false, Bool.or_true, Bool.true_or, Bool.false_or, natC, natC0, natC1, plain_int, plain_str, plain_non, depth_int, depth_str, depth_non, Nat.zero_le, true_or, or_true, not_true_eq_false, not_false_eq_true, Int.reduceEq, Int.reduceLT, Int.reduceLE, Int.reduceAdd, Int.reduceSub, Nat.reduceEqDiff, decide_true, decide_false]
          refine ⟨.inl ⟨(said_steps ha o ho).facts.1, hst.facts.1, .inl (by rw [(said_steps ha o ho).facts.2.2.1]; omega)⟩, ?_⟩
          by_cases e3 : o = d
          · simp only [e3, decide_true, Bool.not_true, Bool.false_eq_true, if_false]
            exact hn (by simp [e3])
          · simp only [e3, decide_false, Bool.not_false, if_true]
            exact hy _ (by simp [e3])
        · intro t ht
          rw [filt_map]
          simp only [zNext, zBreak, zCont, zDrop, zRet, zRetN, zIfS, zAsg, zAug, zAugS, zDel, zFor, zVar, zC, zOp, zUn, zNil, zCons, zAp, zMt, zB, zTr, zTruth, zAnd, zOr, zNot, zAndV, zOrV, zNotV, zIf, zTup, zLst, zDNew, zBM, zBM0, tyZ, zgName, zgNil, zgCons, zgTup, zgTupT, zgSub, zAdd, zSub, zMul, zMod, zDiv, zPow, zShl, zCmpI, zLt, zLe, zGt, zGe, zEq, zNe, zIs, zIsNot, zIn, zNotIn, zNeg, zEqN, zIsN, scalD, zInN, zIx, zSlice, zPart, zNoPart, zSl, zSet, zIAdd, zGetA, zDelI, zLenA, zListA, zTuple, zInt, zAbs, zMax2, zMin2, zAllL, zAnyL, zSumL, zMaxL, zMinL, zSorted, zAppend, zExtend, zPop, zPopAt, zReverse, zJoin, zStr1, zIsi, tyD, zCall, zLc, zLcL, zYes, ziR1, ziR2, ziR3, ziAny, ziEnum, Keep, zEnd, List.getElem?_cons_zero, List.getElem?_cons_succ, List.set_cons_zero, List.set_cons_succ, Option.some.injEq, D.int.injEq, D.ref.injEq, D.tup.injEq, D.str.injEq, D.bl.injEq, reduceCtorEq, false_and, and_false, true_and, and_true, exists_eq_left, exists_eq_left', exists_and_left, if_true, if_false, Bool.false_eq_true, ite_false, ite_true, List.cons.injEq, wipeZ, zup_same, atI_zero, atI_one, atI_lit, atI_n, ixN_zero, ixN_one, ixN_lit, ixN_n, List.length_cons, List.length_nil, Nat.reduceAdd, Nat.reduceLT, decide_eq_true_eq, List.append_nil, List.nil_append, ZO.lst.injEq, ZO.dct.injEq, seqIx_n, Bool.not_true, Bool.not_false, isE_snoc, and_assoc, or_false, false_or, exists_eq, exists_eq', isT, String.reduceBEq, Bool.and_false, Bool.and_true, Bool.false_and, Bool.true_and, Bool.or_false, Bool.or_true, Bool.true_or, Bool.false_or, natC, natC0, natC1, plain_int, plain_str, plain_non, depth_int, depth_str, depth_non, Nat.zero_le, true_or, or_true, not_true_eq_false, not_false_eq_true, Int.reduceEq, Int.reduceLT, Int.reduceLE, Int.reduceAdd, Int.reduceSub, Nat.reduceEqDiff, decide_true, decide_false]
          have htq : t ≠ q := by rintro rfl; rw [h1] at ht; cases ht
          split
          · rename_i hc
            simp only [zNext, zBreak, zCont, zDrop, zRet, zRetN, zIfS, zAsg, zAug, zAugS, zDel, zFor, zVar, zC, zOp, zUn, zNil, zCons, zAp, zMt, zB, zTr, zTruth, zAnd, zOr, zNot, zAndV, zOrV, zNotV, zIf, zTup, zLst, zDNew, zBM, zBM0, tyZ, zgName, zgNil, zgCons, zgTup, zgTupT, zgSub, zAdd, zSub, zMul, zMod, zDiv, zPow, zShl, zCmpI, zLt, zLe, zGt, zGe, zEq, zNe, zIs, zIsNot, zIn, zNotIn, zNeg, zEqN, zIsN, scalD, zInN, zIx, zSlice, zPart, zNoPart, zSl, zSet, zIAdd, zGetA, zDelI, zLenA, zListA, zTuple, zInt, zAbs, zMax2, zMin2, zAllL, zAnyL, zSumL, zMaxL, zMinL, zSorted, zAppend, zExtend, zPop, zPopAt, zReverse, zJoin, zStr1, zIsi, tyD, zCall, zLc, zLcL, zYes, ziR1, ziR2, ziR3, ziAny, ziEnum, Keep, zEnd, List.getElem?_cons_zero, List.getElem?_cons_succ, List.set_cons_zero, List.set_cons_succ, Option.some.injEq, D.int.injEq, D.ref.injEq, D.tup.injEq, D.str.injEq, D.bl.injEq, reduceCtorEq, false_and, and_false, true_and, and_true, exists_eq_left, exists_eq_left', exists_and_left, if_true, if_false, Bool.false_eq_true, ite_false, ite_true, List.cons.injEq, wipeZ, zup_same, atI_zero, atI_one, atI_lit, atI_n, ixN_zero, ixN_one, ixN_lit, ixN_n, List.length_cons, List.length_nil, Nat.reduceAdd, Nat.reduceLT, decide_eq_true_eq, List.append_nil, List.nil_append, ZO.lst.injEq, ZO.dct.injEq, seqIx_n, Bool.not_true, Bool.not_false, isE_snoc, and_assoc, or_false, false_or, exists_eq, exists_eq', isT, String.reduceBEq, Bool.and_false, Bool.and_true, Bool.false_and, Bool.true_and, Bool.or_false, Bool.or_true, Bool.true_or, Bool.false_or, natC, natC0, natC1, plain_int, plain_str, plain_non, depth_int, depth_str, depth_non, Nat.zero_le, true_or, or_true, not_true_eq_false, not_false_eq_true, Int.reduceEq, Int.reduceLT, Int.reduceLE, Int.reduceAdd, Int.reduceSub, Nat.reduceEqDiff, decide_true, decide_false, zup_of h1 ht]
            refine ⟨by rw [sizeLine_eq]; omega, fin ?_ (by rw [zup_ne (Ne.symm hqp)]; exact zup_of h2 ht) ((h3.new ht).upd (.inr hqS))⟩
            rw [zup_same, List.filter_append, List.foldl_append, hks]
            simp [hc, addK, hin]
          · rename_i hc
            refine fin ?_ (zup_of h2 ht) (h3.new ht)
            rw [zup_of h1 ht, List.filter_append, List.foldl_append, hks]
            simp [hc]
    · exact ⟨⟨none, none, rfl⟩, [], rfl, zup_same, e1', x1.new hq0⟩
  · rintro δ' S' ⟨hδ, h1, h2⟩
    simp only [zNext, zBreak, zCont, zDrop, zRet, zRetN, zIfS, zAsg, zAug, zAugS, zDel, zFor, zVar, zC, zOp, zUn, zNil, zCons, zAp, zMt, zB, zTr, zTruth, zAnd, zOr, zNot, zAndV, zOrV, zNotV, zIf, zTup, zLst, zDNew, zBM, zBM0, tyZ, zgName, zgNil, zgCons, zgTup, zgTupT, zgSub, zAdd, zSub, zMul, zMod, zDiv, zPow, zShl, zCmpI, zLt, zLe, zGt, zGe, zEq, zNe, zIs, zIsNot, zIn, zNotIn, zNeg, zEqN, zIsN, scalD, zInN, zIx, zSlice, zPart, zNoPart, zSl, zSet, zIAdd, zGetA, zDelI, zLenA, zListA, zTuple, zInt, zAbs, zMax2, zMin2, zAllL, zAnyL, zSumL, zMaxL, zMinL, zSorted, zAppend, zExtend, zPop, zPopAt, zReverse, zJoin, zStr1, zIsi, tyD, zCall, zLc, zLcL, zYes, ziR1, ziR2, ziR3, ziAny, ziEnum, Keep, zEnd, List.getElem?_cons_zero, List.getElem?_cons_succ, List.set_cons_zero, List.set_cons_succ, Option.some.injEq, D.int.injEq, D.ref.injEq, D.tup.injEq, D.str.injEq, D.bl.injEq, reduceCtorEq, false_and, and_false, true_and, and_true, exists_eq_left, exists_eq_left', exists_and_left, if_true, if_false, Bool.false_eq_true, ite_false, ite_true, List.cons.injEq, wipeZ, zup_same, atI_zero, atI_one, atI_lit, atI_n, ixN_zero, ixN_one, ixN_lit, ixN_n, List.length_cons, List.length_nil, Nat.reduceAdd, Nat.reduceLT, decide_eq_true_eq, List.append_nil, List.nil_append, ZO.lst.injEq, ZO.dct.injEq, seqIx_n, Bool.not_true, Bool.not_false, isE_snoc, and_assoc, or_false, false_or, exists_eq, exists_eq', isT, String.reduceBEq, Bool.and_false, Bool.and_true, Bool.false_and, Bool.true_and, Bool.or_false, Bool.or_true, Bool.true_or, Bool.false_or, natC, natC0, natC1, plain_int, plain_str, plain_non, depth_int, depth_str, depth_non, Nat.zero_le, true_or, or_true, not_true_eq_false, not_false_eq_true, Int.reduceEq, Int.reduceLT, Int.reduceLE, Int.reduceAdd, Int.reduceSub, Nat.reduceEqDiff, decide_true, decide_false, hδ]
    refine ⟨cand (said as) l, .inl ⟨.lst q _, .inl ⟨rfl, .inl h1⟩⟩, steps_srt (cand_steps (said_steps ha)), fun t ht => ?_⟩
    refine ⟨.lst t (zsort (cand (said as) l)), zsort (cand (said as) l), .inl ⟨rfl, .inl zup_same⟩, S, (h2.new ht).sub, ?_⟩
    unfold poss at hq
    rw [if_neg hle] at hq
    exact hq
/-! ### _law_verdict -/
def sp__law_verdict (K : PySem.W.Frag) : ZSp := fun ds S Q => ∃ (pa : Addr) (as : List D) (l : Int), ds = [.ref pa, .int l] ∧ S pa = some (.lst as) ∧ as.length ≤ 1000 ∧ (∀ x ∈ as, isAns x) ∧ Q (verd as l) S
def z__law_verdict (K : PySem.W.Frag) : ZTS :=
  (zSeq (zAsg (zCall (sp__law_possible K) [] (zCons (zVar 0) (zCons (zVar 1) zNil))) (zgName 2))
    (zSeq (zIfS (zOr (zB (zOp zIs (zVar 2) (zC .non))) (zB (zOp zGt (zAp zLenA (zCons (zVar 2) zNil)) (zC (.int 1))))) (zRet (zTup (zCons (zC (.str "open")) zNil))) zNext)
    (zRet (zIf (zTruth (zVar 2)) (zTup (zCons (zC (.str "sure")) (zCons (zOp zIx (zVar 2) (zC (.int 0))) zNil))) (zTup (zCons (zC (.str "none")) zNil))))))

theorem law_verdict {K : PySem.W.Frag} (ds : List D) (S : Store) (Q : ZK) (h : sp__law_verdict K ds S Q) : z__law_verdict K (zEnd Q) (zstart ["answers", "liars", "steps"] ds) S := by
  obtain ⟨pa, as, l, rfl, hpa, hl, ha, hq⟩ := h
  show z__law_verdict K (zEnd Q) [some (.ref pa), some (.int l), none] S
  unfold z__law_verdict
  have h1s : 1 ≤ sizeLine := by decide
  have h2s : 2 ≤ sizeLine := by decide
  refine zseq_go ?_
  simp only [zNext, zBreak, zCont, zDrop, zRet, zRetN, zIfS, zAsg, zAug, zAugS, zDel, zFor, zVar, zC, zOp, zUn, zNil, zCons, zAp, zMt, zB, zTr, zTruth, zAnd, zOr, zNot, zAndV, zOrV, zNotV, zIf, zTup, zLst, zDNew, zBM, zBM0, tyZ, zgName, zgNil, zgCons, zgTup, zgTupT, zgSub, zAdd, zSub, zMul, zMod, zDiv, zPow, zShl, zCmpI, zLt, zLe, zGt, zGe, zEq, zNe, zIs, zIsNot, zIn, zNotIn, zNeg, zEqN, zIsN, scalD, zInN, zIx, zSlice, zPart, zNoPart, zSl, zSet, zIAdd, zGetA, zDelI, zLenA, zListA, zTuple, zInt, zAbs, zMax2, zMin2, zAllL, zAnyL, zSumL, zMaxL, zMinL, zSorted, zAppend, zExtend, zPop, zPopAt, zReverse, zJoin, zStr1, zIsi, tyD, zCall, zLc, zLcL, zYes, ziR1, ziR2, ziR3, ziAny, ziEnum, Keep, zEnd, List.getElem?_cons_zero, List.getElem?_cons_succ, List.set_cons_zero, List.set_cons_succ, Option.some.injEq, D.int.injEq, D.ref.injEq, D.tup.injEq, D.str.injEq, D.bl.injEq, reduceCtorEq, false_and, and_false, true_and, and_true, exists_eq_left, exists_eq_left', exists_and_left, if_true, if_false, Bool.false_eq_true, ite_false, ite_true, List.cons.injEq, wipeZ, zup_same, atI_zero, atI_one, atI_lit, atI_n, ixN_zero, ixN_one, ixN_lit, ixN_n, List.length_cons, List.length_nil, Nat.reduceAdd, Nat.reduceLT, decide_eq_true_eq, List.append_nil, List.nil_append, ZO.lst.injEq, ZO.dct.injEq, seqIx_n, Bool.not_true, Bool.not_false, isE_snoc, and_assoc, or_false, false_or, exists_eq, exists_eq', isT, String.reduceBEq, Bool.and_false, Bool.and_true, Bool.false_and, Bool.true_and, Bool.or_false, Bool.or_true, Bool.true_or, Bool.false_or, natC, natC0, natC1, plain_int, plain_str, plain_non, depth_int, depth_str, depth_non, Nat.zero_le, true_or, or_true, not_true_eq_false, not_false_eq_true, Int.reduceEq, Int.reduceLT, Int.reduceLE, Int.reduceAdd, Int.reduceSub, Nat.reduceEqDiff, decide_true, decide_false]
  refine ⟨pa, as, l, rfl, hpa, hl, ha, ?_⟩
  unfold verd at hq
  have hp : poss as l = .non ∨ ∃ xs, poss as l = .tup xs := by unfold poss; split; exact .inl rfl; exact .inr ⟨_, rfl⟩
  rcases hp with e | ⟨xs, e⟩
  · rw [e] at hq ⊢
    refine zseqN (fun _ _ => False) (fun M hM => ?_) (fun _ _ h => h.elim)
    simp only [zNext, zBreak, zCont, zDrop, zRet, zRetN, zIfS, zAsg, zAug, zAugS, zDel, zFor, zVar, zC, zOp, zUn, zNil, zCons, zAp, zMt, zB, zTr, zTruth, zAnd, zOr, zNot, zAndV, zOrV, zNotV, zIf, zTup, zLst, zDNew, zBM, zBM0, tyZ, zgName, zgNil, zgCons, zgTup, zgTupT, zgSub, zAdd, zSub, zMul, zMod, zDiv, zPow, zShl, zCmpI, zLt, zLe, zGt, zGe, zEq, zNe, zIs, zIsNot, zIn, zNotIn, zNeg, zEqN, zIsN, scalD, zInN, zIx, zSlice, zPart, zNoPart, zSl, zSet, zIAdd, zGetA, zDelI, zLenA, zListA, zTuple, zInt, zAbs, zMax2, zMin2, zAllL, zAnyL, zSumL, zMaxL, zMinL, zSorted, zAppend, zExtend, zPop, zPopAt, zReverse, zJoin, zStr1, zIsi, tyD, zCall, zLc, zLcL, zYes, ziR1, ziR2, ziR3, ziAny, ziEnum, Keep, zEnd, List.getElem?_cons_zero, List.getElem?_cons_succ, List.set_cons_zero, List.set_cons_succ, Option.some.injEq, D.int.injEq, D.ref.injEq, D.tup.injEq, D.str.injEq, D.bl.injEq, reduceCtorEq, false_and, and_false, true_and, and_true, exists_eq_left, exists_eq_left', exists_and_left, if_true, if_false, Bool.false_eq_true, ite_false, ite_true, List.cons.injEq, wipeZ, zup_same, atI_zero, atI_one, atI_lit, atI_n, ixN_zero, ixN_one, ixN_lit, ixN_n, List.length_cons, List.length_nil, Nat.reduceAdd, Nat.reduceLT, decide_eq_true_eq, List.append_nil, List.nil_append, ZO.lst.injEq, ZO.dct.injEq, seqIx_n, Bool.not_true, Bool.not_false, isE_snoc, and_assoc, or_false, false_or, exists_eq, exists_eq', isT, String.reduceBEq, Bool.and_false, Bool.and_true, Bool.false_and, Bool.true_and, Bool.or_false, Bool.or_true, Bool.true_or, Bool.false_or, natC, natC0, natC1, plain_int, plain_str, plain_non, depth_int, depth_str, depth_non, Nat.zero_le, true_or, or_true, not_true_eq_false, not_false_eq_true, Int.reduceEq, Int.reduceLT, Int.reduceLE, Int.reduceAdd, Int.reduceSub, Nat.reduceEqDiff, decide_true, decide_false]
    exact ⟨h1s, S, Sub.refl, hq⟩
  · rw [e] at hq ⊢
    match xs, hq with
    | [], hq =>
      refine zseq_go ?_
      simp only [zNext, zBreak, zCont, zDrop, zRet, zRetN, zIfS, zAsg, zAug, zAugS, zDel, zFor, zVar, zC, zOp, zUn, zNil, zCons, zAp, zMt, zB, zTr, zTruth, zAnd, zOr, zNot, zAndV, zOrV, zNotV, zIf, zTup, zLst, zDNew, zBM, zBM0, tyZ, zgName, zgNil, zgCons, zgTup, zgTupT, zgSub, zAdd, zSub, zMul, zMod, zDiv, zPow, zShl, zCmpI, zLt, zLe, zGt, zGe, zEq, zNe, zIs, zIsNot, zIn, zNotIn, zNeg, zEqN, zIsN, scalD, zInN, zIx, zSlice, zPart, zNoPart, zSl, zSet, zIAdd, zGetA, zDelI, zLenA, zListA, zTuple, zInt, zAbs, zMax2, zMin2, zAllL, zAnyL, zSumL, zMaxL, zMinL, zSorted, zAppend, zExtend, zPop, zPopAt, zReverse, zJoin, zStr1, zIsi, tyD, zCall, zLc, zLcL, zYes, ziR1, ziR2, ziR3, ziAny, ziEnum, Keep, zEnd, List.getElem?_cons_zero, List.getElem?_cons_succ, List.set_cons_zero, List.set_cons_succ, Option.some.injEq, D.int.injEq, D.ref.injEq, D.tup.injEq, D.str.injEq, D.bl.injEq, reduceCtorEq, false_and, and_false, true_and, and_true, exists_eq_left, exists_eq_left', exists_and_left, if_true, if_false, Bool.false_eq_true, ite_false, ite_true, List.cons.injEq, wipeZ, zup_same, atI_zero, atI_one, atI_lit, atI_n, ixN_zero, ixN_one, ixN_lit, ixN_n, List.length_cons, List.length_nil, Nat.reduceAdd, Nat.reduceLT, decide_eq_true_eq, List.append_nil, List.nil_append, ZO.lst.injEq, ZO.dct.injEq, seqIx_n, Bool.not_true, Bool.not_false, isE_snoc, and_assoc, or_false, false_or, exists_eq, exists_eq', isT, String.reduceBEq, Bool.and_false, Bool.and_true, Bool.false_and, Bool.true_and, Bool.or_false, Bool.or_true, Bool.true_or, Bool.false_or, natC, natC0, natC1, plain_int, plain_str, plain_non, depth_int, depth_str, depth_non, Nat.zero_le, true_or, or_true, not_true_eq_false, not_false_eq_true, Int.reduceEq, Int.reduceLT, Int.reduceLE, Int.reduceAdd, Int.reduceSub, Nat.reduceEqDiff, decide_true, decide_false]
      simp only [zNext, zBreak, zCont, zDrop, zRet, zRetN, zIfS, zAsg, zAug, zAugS, zDel, zFor, zVar, zC, zOp, zUn, zNil, zCons, zAp, zMt, zB, zTr, zTruth, zAnd, zOr, zNot, zAndV, zOrV, zNotV, zIf, zTup, zLst, zDNew, zBM, zBM0, tyZ, zgName, zgNil, zgCons, zgTup, zgTupT, zgSub, zAdd, zSub, zMul, zMod, zDiv, zPow, zShl, zCmpI, zLt, zLe, zGt, zGe, zEq, zNe, zIs, zIsNot, zIn, zNotIn, zNeg, zEqN, zIsN, scalD, zInN, zIx, zSlice, zPart, zNoPart, zSl, zSet, zIAdd, zGetA, zDelI, zLenA, zListA, zTuple, zInt, zAbs, zMax2, zMin2, zAllL, zAnyL, zSumL, zMaxL, zMinL, zSorted, zAppend, zExtend, zPop, zPopAt, zReverse, zJoin, zStr1, zIsi, tyD, zCall, zLc, zLcL, zYes, ziR1, ziR2, ziR3, ziAny, ziEnum, Keep, zEnd, List.getElem?_cons_zero, List.getElem?_cons_succ, List.set_cons_zero, List.set_cons_succ, Option.some.injEq, D.int.injEq, D.ref.injEq, D.tup.injEq, D.str.injEq, D.bl.injEq, reduceCtorEq, false_and, and_false, true_and, and_true, exists_eq_left, exists_eq_left', exists_and_left, if_true, if_false, Bool.false_eq_true, ite_false, ite_true, List.cons.injEq, wipeZ, zup_same, atI_zero, atI_one, atI_lit, atI_n, ixN_zero, ixN_one, ixN_lit, ixN_n, List.length_cons, List.length_nil, Nat.reduceAdd, Nat.reduceLT, decide_eq_true_eq, List.append_nil, List.nil_append, ZO.lst.injEq, ZO.dct.injEq, seqIx_n, Bool.not_true, Bool.not_false, isE_snoc, and_assoc, or_false, false_or, exists_eq, exists_eq', isT, String.reduceBEq, Bool.and_false, Bool.and_true, Bool.false_and, Bool.true_and, Bool.or_false, Bool.or_true, Bool.true_or, Bool.false_or, natC, natC0, natC1, plain_int, plain_str, plain_non, depth_int, depth_str, depth_non, Nat.zero_le, true_or, or_true, not_true_eq_false, not_false_eq_true, Int.reduceEq, Int.reduceLT, Int.reduceLE, Int.reduceAdd, Int.reduceSub, Nat.reduceEqDiff, decide_true, decide_false, List.isEmpty_nil]
      exact ⟨h1s, S, Sub.refl, hq⟩
    | [x], hq =>
      refine zseq_go ?_
      simp only [zNext, zBreak, zCont, zDrop, zRet, zRetN, zIfS, zAsg, zAug, zAugS, zDel, zFor, zVar, zC, zOp, zUn, zNil, zCons, zAp, zMt, zB, zTr, zTruth, zAnd, zOr, zNot, zAndV, zOrV, zNotV, zIf, zTup, zLst, zDNew, zBM, zBM0, tyZ, zgName, zgNil, zgCons, zgTup, zgTupT, zgSub, zAdd, zSub, zMul, zMod, zDiv, zPow, zShl, zCmpI, zLt, zLe, zGt, zGe, zEq, zNe, zIs, zIsNot, zIn, zNotIn, zNeg, zEqN, zIsN, scalD, zInN, zIx, zSlice, zPart, zNoPart, zSl, zSet, zIAdd, zGetA, zDelI, zLenA, zListA, zTuple, zInt, zAbs, zMax2, zMin2, zAllL, zAnyL, zSumL, zMaxL, zMinL, zSorted, zAppend, zExtend, zPop, zPopAt, zReverse, zJoin, zStr1, zIsi, tyD, zCall, zLc, zLcL, zYes, ziR1, ziR2, ziR3, ziAny, ziEnum, Keep, zEnd, List.getElem?_cons_zero, List.getElem?_cons_succ, List.set_cons_zero, List.set_cons_succ, Option.some.injEq, D.int.injEq, D.ref.injEq, D.tup.injEq, D.str.injEq, D.bl.injEq, reduceCtorEq, false_and, and_false, true_and, and_true, exists_eq_left, exists_eq_left', exists_and_left, if_true, if_false, Bool.false_eq_true, ite_false, ite_true, List.cons.injEq, wipeZ, zup_same, atI_zero, atI_one, atI_lit, atI_n, ixN_zero, ixN_one, ixN_lit, ixN_n, List.length_cons, List.length_nil, Nat.reduceAdd, Nat.reduceLT, decide_eq_true_eq, List.append_nil, List.nil_append, ZO.lst.injEq, ZO.dct.injEq, seqIx_n, Bool.not_true, Bool.not_false, isE_snoc, and_assoc, or_false, false_or, exists_eq, exists_eq', isT, String.reduceBEq, Bool.and_false, Bool.and_true, Bool.false_and, Bool.true_and, Bool.or_false, Bool.or_true, Bool.true_or, Bool.false_or, natC, natC0, natC1, plain_int, plain_str, plain_non, depth_int, depth_str, depth_non, Nat.zero_le, true_or, or_true, not_true_eq_false, not_false_eq_true, Int.reduceEq, Int.reduceLT, Int.reduceLE, Int.reduceAdd, Int.reduceSub, Nat.reduceEqDiff, decide_true, decide_false]
      simp only [zNext, zBreak, zCont, zDrop, zRet, zRetN, zIfS, zAsg, zAug, zAugS, zDel, zFor, zVar, zC, zOp, zUn, zNil, zCons, zAp, zMt, zB, zTr, zTruth, zAnd, zOr, zNot, zAndV, zOrV, zNotV, zIf, zTup, zLst, zDNew, zBM, zBM0, tyZ, zgName, zgNil, zgCons, zgTup, zgTupT, zgSub, zAdd, zSub, zMul, zMod, zDiv, zPow, zShl, zCmpI, zLt, zLe, zGt, zGe, zEq, zNe, zIs, zIsNot, zIn, zNotIn, zNeg, zEqN, zIsN, scalD, zInN, zIx, zSlice, zPart, zNoPart, zSl, zSet, zIAdd, zGetA, zDelI, zLenA, zListA, zTuple, zInt, zAbs, zMax2, zMin2, zAllL, zAnyL, zSumL, zMaxL, zMinL, zSorted, zAppend, zExtend, zPop, zPopAt, zReverse, zJoin, zStr1, zIsi, tyD, zCall, zLc, zLcL, zYes, ziR1, ziR2, ziR3, ziAny, ziEnum, Keep, zEnd, List.getElem?_cons_zero, List.getElem?_cons_succ, List.set_cons_zero, List.set_cons_succ, Option.some.injEq, D.int.injEq, D.ref.injEq, D.tup.injEq, D.str.injEq, D.bl.injEq, reduceCtorEq, false_and, and_false, true_and, and_true, exists_eq_left, exists_eq_left', exists_and_left, if_true, if_false, Bool.false_eq_true, ite_false, ite_true, List.cons.injEq, wipeZ, zup_same, atI_zero, atI_one, atI_lit, atI_n, ixN_zero, ixN_one, ixN_lit, ixN_n, List.length_cons, List.length_nil, Nat.reduceAdd, Nat.reduceLT, decide_eq_true_eq, List.append_nil, List.nil_append, ZO.lst.injEq, ZO.dct.injEq, seqIx_n, Bool.not_true, Bool.not_false, isE_snoc, and_assoc, or_false, false_or, exists_eq, exists_eq', isT, String.reduceBEq, Bool.and_false, Bool.and_true, Bool.false_and, Bool.true_and, Bool.or_false, Bool.or_true, Bool.true_or, Bool.false_or, natC, natC0, natC1, plain_int, plain_str, plain_non, depth_int, depth_str, depth_non, Nat.zero_le, true_or, or_true, not_true_eq_false, not_false_eq_true, Int.reduceEq, Int.reduceLT, Int.reduceLE, Int.reduceAdd, Int.reduceSub, Nat.reduceEqDiff, decide_true, decide_false, List.isEmpty_cons]
      exact ⟨h2s, S, Sub.refl, hq⟩
    | x :: y :: r, hq =>
      have h2 : (1 : Int) < ((r.length + 1 + 1 : Nat) : Int) := by omega
      refine zseqN (fun _ _ => False) (fun M hM => ?_) (fun _ _ h => h.elim)
      simp only [zNext, zBreak, zCont, zDrop, zRet, zRetN, zIfS, zAsg, zAug, zAugS, zDel, zFor, zVar, zC, zOp, zUn, zNil, zCons, zAp, zMt, zB, zTr, zTruth, zAnd, zOr, zNot, zAndV, zOrV, zNotV, zIf, zTup, zLst, zDNew, zBM, zBM0, tyZ, zgName, zgNil, zgCons, zgTup, zgTupT, zgSub, zAdd, zSub, zMul, zMod, zDiv, zPow, zShl, zCmpI, zLt, zLe, zGt, zGe, zEq, zNe, zIs, zIsNot, zIn, zNotIn, zNeg, zEqN, zIsN, scalD, zInN, zIx, zSlice, zPart, zNoPart, zSl, zSet, zIAdd, zGetA, zDelI, zLenA, zListA, zTuple, zInt, zAbs, zMax2, zMin2, zAllL, zAnyL, zSumL, zMaxL, zMinL, zSorted, zAppend, zExtend, zPop, zPopAt, zReverse, zJoin, zStr1, zIsi, tyD, zCall, zLc, zLcL, zYes, ziR1, ziR2, ziR3, ziAny, ziEnum, Keep, zEnd, List.getElem?_cons_zero, List.getElem?_cons_succ, List.set_cons_zero, List.set_cons_succ, Option.some.injEq, D.int.injEq, D.ref.injEq, D.tup.injEq, D.str.injEq, D.bl.injEq, reduceCtorEq, false_and, and_false, true_and, and_true, exists_eq_left, exists_eq_left', exists_and_left, if_true, if_false, Bool.false_eq_true, ite_false, ite_true, List.cons.injEq, wipeZ, zup_same, atI_zero, atI_one, atI_lit, atI_n, ixN_zero, ixN_one, ixN_lit, ixN_n, List.length_cons, List.length_nil, Nat.reduceAdd, Nat.reduceLT, decide_eq_true_eq, List.append_nil, List.nil_append, ZO.lst.injEq, ZO.dct.injEq, seqIx_n, Bool.not_true, Bool.not_false, isE_snoc, and_assoc, or_false, false_or, exists_eq, exists_eq', isT, String.reduceBEq, Bool.and_false, Bool.and_true, Bool.false_and, Bool.true_and, Bool.or_false, Bool.or_true, Bool.true_or, Bool.false_or, natC, natC0, natC1, plain_int, plain_str, plain_non, depth_int, depth_str, depth_non, Nat.zero_le, true_or, or_true, not_true_eq_false, not_false_eq_true, Int.reduceEq, Int.reduceLT, Int.reduceLE, Int.reduceAdd, Int.reduceSub, Nat.reduceEqDiff, decide_true, decide_false, h2]
      exact ⟨h1s, S, Sub.refl, hq⟩
/-! ### _law_is_within -/
def within (one other : D) : Bool := match other with
  | .tup ys => match one with
    | .tup xs => xs.all fun x => decide (x ∈ ys)
    | _ => false
  | _ => true
def isSet (d : D) : Prop := d = .non ∨ ∃ xs, d = .tup xs ∧ (∀ x ∈ xs, isStep x) ∧ xs.length ≤ 1000
def sp__law_is_within (K : PySem.W.Frag) : ZSp := fun ds S Q => ∃ (one other : D), ds = [one, other] ∧ isSet one ∧ isSet other ∧ Q (.bl (within one other)) S
def z__law_is_within (K : PySem.W.Frag) : ZTS :=
  (zRet (zOrV (zOp zIs (zVar 1) (zC .non)) (zAndV (zOp zIsNot (zVar 0) (zC .non)) (zAp (zAllL K) (zCons (zLc (ziAny K (zVar 0)) (zgName 2) zYes (zOp zIn (zVar 2) (zVar 1)) [2]) zNil)))))

theorem law_is_within {K : PySem.W.Frag} (ds : List D) (S : Store) (Q : ZK) (h : sp__law_is_within K ds S Q) : z__law_is_within K (zEnd Q) (zstart ["one", "other", "step"] ds) S := by
  obtain ⟨one, other, rfl, h1, h2, hq⟩ := h
  show z__law_is_within K (zEnd Q) [some one, some other, none] S
  unfold z__law_is_within
  rcases h2 with rfl | ⟨ys, rfl, hy, hyl⟩
  · simp only [zNext, zBreak, zCont, zDrop, zRet, zRetN, zIfS, zAsg, zAug, zAugS, zDel, zFor, zVar, zC, zOp, zUn, zNil, zCons, zAp, zMt, zB, zTr, zTruth, zAnd, zOr, zNot, zAndV, zOrV, zNotV, zIf, zTup, zLst, zDNew, zBM, zBM0, tyZ, zgName, zgNil, zgCons, zgTup, zgTupT, zgSub, zAdd, zSub, zMul, zMod, zDiv, zPow, zShl, zCmpI, zLt, zLe, zGt, zGe, zEq, zNe, zIs, zIsNot, zIn, zNotIn, zNeg, zEqN, zIsN, scalD, zInN, zIx, zSlice, zPart, zNoPart, zSl, zSet, zIAdd, zGetA, zDelI, zLenA, zListA, zTuple, zInt, zAbs, zMax2, zMin2, zAllL, zAnyL, zSumL, zMaxL, zMinL, zSorted, zAppend, zExtend, zPop, zPopAt, zReverse, zJoin, zStr1, zIsi, tyD, zCall, zLc, zLcL, zYes, ziR1, ziR2, ziR3, ziAny, ziEnum, Keep, zEnd, List.getElem?_cons_zero, List.getElem?_cons_succ, List.set_cons_zero, List.set_cons_succ, Option.some.injEq, D.int.injEq, D.ref.injEq, D.tup.injEq, D.str.injEq, D.bl.injEq, reduceCtorEq, false_and, and_false, true_and, and_true, exists_eq_left, exists_eq_left', exists_and_left, if_true, if_false, Bool.false_eq_true, ite_false, ite_true, List.cons.injEq, wipeZ, zup_same, atI_zero, atI_one, atI_lit, atI_n, ixN_zero, ixN_one, ixN_lit, ixN_n, List.length_cons, List.length_nil, Nat.reduceAdd, Nat.reduceLT, decide_eq_true_eq, List.append_nil, List.nil_append, ZO.lst.injEq, ZO.dct.injEq, seqIx_n, Bool.not_true, Bool.not_false, isE_snoc, and_assoc, or_false, false_or, exists_eq, exists_eq', isT, String.reduceBEq, Bool.and_false, Bool.and_true, Bool.false_and, Bool.true_and, Bool.or_false, Bool.or_true, Bool.true_or, Bool.false_or, natC, natC0, natC1, plain_int, plain_str, plain_non, depth_int, depth_str, depth_non, Nat.zero_le, true_or, or_true, not_true_eq_false, not_false_eq_true, Int.reduceEq, Int.reduceLT, Int.reduceLE, Int.reduceAdd, Int.reduceSub, Nat.reduceEqDiff, decide_true, decide_false]
    exact ⟨S, Sub.refl, hq⟩
  · rcases h1 with rfl | ⟨xs, rfl, hx, hxl⟩
    · simp only [zNext, zBreak, zCont, zDrop, zRet, zRetN, zIfS, zAsg, zAug, zAugS, zDel, zFor, zVar, zC, zOp, zUn, zNil, zCons, zAp, zMt, zB, zTr, zTruth, zAnd, zOr, zNot, zAndV, zOrV, zNotV, zIf, zTup, zLst, zDNew, zBM, zBM0, tyZ, zgName, zgNil, zgCons, zgTup, zgTupT, zgSub, zAdd, zSub, zMul, zMod, zDiv, zPow, zShl, zCmpI, zLt, zLe, zGt, zGe, zEq, zNe, zIs, zIsNot, zIn, zNotIn, zNeg, zEqN, zIsN, scalD, zInN, zIx, zSlice, zPart, zNoPart, zSl, zSet, zIAdd, zGetA, zDelI, zLenA, zListA, zTuple, zInt, zAbs, zMax2, zMin2, zAllL, zAnyL, zSumL, zMaxL, zMinL, zSorted, zAppend, zExtend, zPop, zPopAt, zReverse, zJoin, zStr1, zIsi, tyD, zCall, zLc, zLcL, zYes, ziR1, ziR2, ziR3, ziAny, ziEnum, Keep, zEnd, List.getElem?_cons_zero, List.getElem?_cons_succ, List.set_cons_zero, List.set_cons_succ, Option.some.injEq, D.int.injEq, D.ref.injEq, D.tup.injEq, D.str.injEq, D.bl.injEq, reduceCtorEq, false_and, and_false, true_and, and_true, exists_eq_left, exists_eq_left', exists_and_left, if_true, if_false, Bool.false_eq_true, ite_false, ite_true, List.cons.injEq, wipeZ, zup_same, atI_zero, atI_one, atI_lit, atI_n, ixN_zero, ixN_one, ixN_lit, ixN_n, List.length_cons, List.length_nil, Nat.reduceAdd, Nat.reduceLT, decide_eq_true_eq, List.append_nil, List.nil_append, ZO.lst.injEq, ZO.dct.injEq, seqIx_n, Bool.not_true, Bool.not_false, isE_snoc, and_assoc, or_false, false_or, exists_eq, exists_eq', isT, String.reduceBEq, Bool.and_false, Bool.and_true, Bool.false_and, Bool.true_and, Bool.or_false, Bool.or_true, Bool.true_or, Bool.false_or, natC, natC0, natC1, plain_int, plain_str, plain_non, depth_int, depth_str, depth_non, Nat.zero_le, true_or, or_true, not_true_eq_false, not_false_eq_true, Int.reduceEq, Int.reduceLT, Int.reduceLE, Int.reduceAdd, Int.reduceSub, Nat.reduceEqDiff, decide_true, decide_false]
      exact ⟨S, Sub.refl, hq⟩
    · simp only [zNext, zBreak, zCont, zDrop, zRet, zRetN, zIfS, zAsg, zAug, zAugS, zDel, zFor, zVar, zC, zOp, zUn, zNil, zCons, zAp, zMt, zB, zTr, zTruth, zAnd, zOr, zNot, zAndV, zOrV, zNotV, zIf, zTup, zLst, zDNew, zBM, zBM0, tyZ, zgName, zgNil, zgCons, zgTup, zgTupT, zgSub, zAdd, zSub, zMul, zMod, zDiv, zPow, zShl, zCmpI, zLt, zLe, zGt, zGe, zEq, zNe, zIs, zIsNot, zIn, zNotIn, zNeg, zEqN, zIsN, scalD, zInN, zIx, zSlice, zPart, zNoPart, zSl, zSet, zIAdd, zGetA, zDelI, zLenA, zListA, zTuple, zInt, zAbs, zMax2, zMin2, zAllL, zAnyL, zSumL, zMaxL, zMinL, zSorted, zAppend, zExtend, zPop, zPopAt, zReverse, zJoin, zStr1, zIsi, tyD, zCall, zLc, zLcL, zYes, ziR1, ziR2, ziR3, ziAny, ziEnum, Keep, zEnd, List.getElem?_cons_zero, List.getElem?_cons_succ, List.set_cons_zero, List.set_cons_succ, Option.some.injEq, D.int.injEq, D.ref.injEq, D.tup.injEq, D.str.injEq, D.bl.injEq, reduceCtorEq, false_and, and_false, true_and, and_true, exists_eq_left, exists_eq_left', exists_and_left, if_true, if_false, Bool.false_eq_true, ite_false, ite_true, List.cons.injEq, wipeZ, zup_same, atI_zero, atI_one, atI_lit, atI_n, ixN_zero, ixN_one, ixN_lit, ixN_n, List.length_cons, List.length_nil, Nat.reduceAdd, Nat.reduceLT, decide_eq_true_eq, List.append_nil, List.nil_append, ZO.lst.injEq, ZO.dct.injEq, seqIx_n, Bool.not_true, Bool.not_false, isE_snoc, and_assoc, or_false, false_or, exists_eq, exists_eq', isT, String.reduceBEq, Bool.and_false, Bool.and_true, Bool.false_and, Bool.true_and, Bool.or_false, Bool.or_true, Bool.true_or, Bool.false_or, natC, natC0, natC1, plain_int, plain_str, plain_non, depth_int, depth_str, depth_non, Nat.zero_le, true_or, or_true, not_true_eq_false, not_false_eq_true, Int.reduceEq, Int.reduceLT, Int.reduceLE, Int.reduceAdd, Int.reduceSub, Nat.reduceEqDiff, decide_true, decide_false]
      refine ⟨.non, xs, .inl ⟨rfl, rfl⟩, trivial, ?_⟩
      refine zlcl_pure (src := .non) (fun d => some (.bl (decide (d ∈ ys)))) trivial _ _ (fun d hd Y N hy' hn => ?_) (by simp [sizeLine_eq]; omega) ?_
      · simp only [zNext, zBreak, zCont, zDrop, zRet, zRetN, zIfS, zAsg, zAug, zAugS, zDel, zFor, zVar, zC, zOp, zUn, zNil, zCons, zAp, zMt, zB, zTr, zTruth, zAnd, zOr, zNot, zAndV, zOrV, zNotV, zIf, zTup, zLst, zDNew, zBM, zBM0, tyZ, zgName, zgNil, zgCons, zgTup, zgTupT, zgSub, zAdd, zSub, zMul, zMod, zDiv, zPow, zShl, zCmpI, zLt, zLe, zGt, zGe, zEq, zNe, zIs, zIsNot, zIn, zNotIn, zNeg, zEqN, zIsN, scalD, zInN, zIx, zSlice, zPart, zNoPart, zSl, zSet, zIAdd, zGetA, zDelI, zLenA, zListA, zTuple, zInt, zAbs, zMax2, zMin2, zAllL, zAnyL, zSumL, zMaxL, zMinL, zSorted, zAppend, zExtend, zPop, zPopAt, zReverse, zJoin, zStr1, zIsi, tyD, zCall, zLc, zLcL, zYes, ziR1, ziR2, ziR3, ziAny, ziEnum, Keep, zEnd, List.getElem?_cons_zero, List.getElem?_cons_succ, List.set_cons_zero, List.set_cons_succ, Option.some.injEq, D.int.injEq, D.ref.injEq, D.tup.injEq, D.str.injEq, D.bl.injEq, reduceCtorEq, false_and, and_false, true_and, and_true, exists_eq_left, exists_eq_left', exists_and_left, if_true, if_false, Bool.false_eq_true, ite_false, ite_true, List.cons.injEq, wipeZ, zup_same, atI_zero, atI_one, atI_lit, atI_n, ixN_zero, ixN_one, ixN_lit, ixN_n, List.length_cons, List.length_nil, Nat.reduceAdd, Nat.reduceLT, decide_eq_true_eq, List.append_nil, List.nil_append, ZO.lst.injEq, ZO.dct.injEq, seqIx_n, Bool.not_true, Bool.not_false, isE_snoc, and_assoc, or_false, false_or, exists_eq, exists_eq', isT, String.reduceBEq, Bool.and_false, Bool.and_true, Bool.false_and, Bool.true_and, Bool.or_false, Bool.or_true, Bool.true_or, Bool.false_or, natC, natC0, natC1, plain_int, plain_str, plain_non, depth_int, depth_str, depth_non, Nat.zero_le, true_or, or_true, not_true_eq_false, not_false_eq_true, Int.reduceEq, Int.reduceLT, Int.reduceLE, Int.reduceAdd, Int.reduceSub, Nat.reduceEqDiff, decide_true, decide_false]
        exact ⟨(hx d hd).facts.1, D.plainL_iff.mpr fun x h => (hy x h).facts.1, by rw [(hx d hd).facts.2.2.1]; omega, hy' _ rfl⟩
      · intro p hp
        simp only [zNext, zBreak, zCont, zDrop, zRet, zRetN, zIfS, zAsg, zAug, zAugS, zDel, zFor, zVar, zC, zOp, zUn, zNil, zCons, zAp, zMt, zB, zTr, zTruth, zAnd, zOr, zNot, zAndV, zOrV, zNotV, zIf, zTup, zLst, zDNew, zBM, zBM0, tyZ, zgName, zgNil, zgCons, zgTup, zgTupT, zgSub, zAdd, zSub, zMul, zMod, zDiv, zPow, zShl, zCmpI, zLt, zLe, zGt, zGe, zEq, zNe, zIs, zIsNot, zIn, zNotIn, zNeg, zEqN, zIsN, scalD, zInN, zIx, zSlice, zPart, zNoPart, zSl, zSet, zIAdd, zGetA, zDelI, zLenA, zListA, zTuple, zInt, zAbs, zMax2, zMin2, zAllL, zAnyL, zSumL, zMaxL, zMinL, zSorted, zAppend, zExtend, zPop, zPopAt, zReverse, zJoin, zStr1, zIsi, tyD, zCall, zLc, zLcL, zYes, ziR1, ziR2, ziR3, ziAny, ziEnum, Keep, zEnd, List.getElem?_cons_zero, List.getElem?_cons_succ, List.set_cons_zero, List.set_cons_succ, Option.some.injEq, D.int.injEq, D.ref.injEq, D.tup.injEq, D.str.injEq, D.bl.injEq, reduceCtorEq, false_and, and_false, true_and, and_true, exists_eq_left, exists_eq_left', exists_and_left, if_true, if_false, Bool.false_eq_true, ite_false, ite_true, List.cons.injEq, wipeZ, zup_same, atI_zero, atI_one, atI_lit, atI_n, ixN_zero, ixN_one, ixN_lit, ixN_n, List.length_cons, List.length_nil, Nat.reduceAdd, Nat.reduceLT, decide_eq_true_eq, List.append_nil, List.nil_append, ZO.lst.injEq, ZO.dct.injEq, seqIx_n, Bool.not_true, Bool.not_false, isE_snoc, and_assoc, or_false, false_or, exists_eq, exists_eq', isT, String.reduceBEq, Bool.and_false, Bool.and_true, Bool.false_and, Bool.true_and, Bool.or_false, Bool.or_true, Bool.true_or, Bool.false_or, natC, natC0, natC1, plain_int, plain_str, plain_non, depth_int, depth_str, depth_non, Nat.zero_le, true_or, or_true, not_true_eq_false, not_false_eq_true, Int.reduceEq, Int.reduceLT, Int.reduceLE, Int.reduceAdd, Int.reduceSub, Nat.reduceEqDiff, decide_true, decide_false]
        refine ⟨.lst p _, _, .inl ⟨rfl, .inl zup_same⟩, xs.map fun x => decide (x ∈ ys), ?_, S, Sub.refl.new hp, ?_⟩
        · simp
        · have e : (xs.map fun x => decide (x ∈ ys)).all id = within (.tup xs) (.tup ys) := by simp [within, List.all_map, Function.comp_def]
          rw [e]; exact hq
end K70
namespace K70
open PySem PySem.Spec PyProof.Rows L2 Z ZH
/-! ### sizes -/
theorem step_nodes {d : D} (h : isStep d) : d.nodes ≤ 4 := by
  rcases h with ⟨t, rfl⟩ | ⟨t, w, rfl⟩ | ⟨t, w, c, rfl⟩ <;> simp [D.nodes, D.nodesL]
theorem nodesL_le {xs : List D} {k : Nat} (h : ∀ x ∈ xs, x.nodes ≤ k) : D.nodesL xs ≤ k * xs.length := by
  induction xs with
  | nil => simp [D.nodesL]
  | cons x r ih =>
    have h1 := h x (by simp)
    have h2 := ih fun y hy => h y (by simp [hy])
    simp only [D.nodesL, List.length_cons, Nat.mul_succ]
    omega
theorem zsort_mem {xs : List D} {x : D} : x ∈ zsort xs ↔ x ∈ xs := (zsort_perm xs).mem_iff
theorem zsort_len (xs : List D) : (zsort xs).length = xs.length := (zsort_perm xs).length_eq
theorem said_len (as : List D) : (said as).length ≤ as.length := List.length_filter_le _ _
theorem poss_facts {as : List D} (l : Int) (ha : ∀ x ∈ as, isAns x) (hl : as.length ≤ 200) : isSet (poss as l) ∧ (poss as l).plain = true ∧ (poss as l).nodes ≤ 1000 ∧ (poss as l).depth ≤ 2 := by
  unfold poss
  split
  · exact ⟨.inl rfl, rfl, by simp [D.nodes], Nat.zero_le _⟩
  · have h1 : ∀ x ∈ zsort (cand (said as) l), isStep x := fun x hx => cand_steps (said_steps ha) x (zsort_mem.mp hx)
    have h2 : (zsort (cand (said as) l)).length ≤ 200 := by rw [zsort_len]; exact Nat.le_trans (cand_len _ _) (Nat.le_trans (said_len as) hl)
    refine ⟨.inr ⟨_, rfl, h1, by omega⟩, D.plainL_iff.mpr fun x hx => (h1 x hx).facts.1, ?_, ?_⟩
    · have := nodesL_le fun x hx => step_nodes (h1 x hx)
      show D.nodesL _ + 1 ≤ 1000
      omega
    · show D.depthL _ + 1 ≤ 2
      have : D.depthL (zsort (cand (said as) l)) ≤ 1 := D.depthL_le.mpr fun x hx => by rw [(h1 x hx).facts.2.2.1]; exact Nat.le_refl _
      omega
theorem verd_facts {as : List D} (l : Int) (ha : ∀ x ∈ as, isAns x) (hl : as.length ≤ 200) : (verd as l).plain = true ∧ (verd as l).nodes ≤ 1001 ∧ (verd as l).depth ≤ 3 := by
  obtain ⟨_, h1, h2, h3⟩ := poss_facts l ha hl
  unfold verd
  split
  · exact ⟨rfl, by simp [D.nodes, D.nodesL], by simp [D.depth, D.depthL]⟩
  · rename_i x e
    rw [e] at h1 h2 h3
    have g1 : x.plain = true := by simpa [D.plain, D.plainL] using h1
    have g2 : x.nodes + 1 ≤ 1000 := by simpa [D.nodes, D.nodesL] using h2
    have g3 : x.depth + 1 ≤ 2 := by simpa [D.depth, D.depthL] using h3
    have g4 : x.nodes ≤ 4 ∨ True := .inr trivial
    refine ⟨by simp [D.plain, D.plainL, g1], ?_, ?_⟩
    · have : (D.tup [.str "sure", x]).nodes = x.nodes + 2 := by simp [D.nodes, D.nodesL]; omega
      omega
    · have : (D.tup [.str "sure", x]).depth = x.depth + 1 := by simp [D.depth, D.depthL]
      omega
  · exact ⟨rfl, by simp [D.nodes, D.nodesL], by simp [D.depth, D.depthL]⟩
theorem lyOf_ints (as : List D) (s : D) : ∀ x ∈ lyOf as s, ∃ i : Nat, x = .int (i : Nat) := fun x hx => by
  obtain ⟨i, _, h⟩ := List.mem_filterMap.mp hx
  split at h
  · exact ⟨i, (Option.some.inj h).symm⟩
  · cases h
theorem lyOf_len (as : List D) (s : D) : (lyOf as s).length ≤ as.length := by
  have : (lyOf as s).length ≤ (List.range as.length).length := List.length_filterMap_le _ _
  simpa using this
theorem lies_facts {as : List D} (l : Int) (s : D) (hl : as.length ≤ 200) : (liesOf as l s).plain = true ∧ (liesOf as l s).nodes ≤ 1000 := by
  unfold liesOf
  split
  · have h1 := lyOf_ints as s
    have h2 := lyOf_len as s
    refine ⟨D.plainL_iff.mpr fun x hx => by obtain ⟨i, rfl⟩ := h1 x hx; rfl, ?_⟩
    have := nodesL_le (k := 1) fun x hx => by obtain ⟨i, rfl⟩ := h1 x hx; exact Nat.le_refl _
    show D.nodesL _ + 1 ≤ 1000
    omega
  · exact ⟨rfl, by simp [D.nodes]⟩
theorem asked_facts (as : List D) (l : Int) : (askedOf as l).plain = true ∧ (askedOf as l).nodes ≤ 1000 := by
  unfold askedOf
  split <;> exact ⟨rfl, by simp [D.nodes]⟩
/-! ### _law_row_told -/
def sp__law_row_told (K : PySem.W.Frag) : ZSp := fun ds S Q => ∃ (pp pa : Addr) (ps as : List D) (l : Int), ds = [.ref pp, .ref pa, .int l] ∧ S pp = some (.lst ps) ∧ S pa = some (.lst as) ∧ (∀ x ∈ ps, isStep x) ∧ ps.length ≤ 100 ∧ (∀ x ∈ as, isAns x) ∧ as.length ≤ 200 ∧ Q (.bl true) S
def z__law_row_told (K : PySem.W.Frag) : ZTS :=
  (zSeq (zAsg (zAp (zTuple K) (zCons (zVar 1) zNil)) (zgName 3))
    (zSeq (zIfS (zNot (zTruth (zCall (sp__law_same K) [] (zCons (zCall (sp_possible K) [] (zCons (zVar 3) (zCons (zVar 2) zNil))) (zCons (zCall (sp__law_possible K) [] (zCons (zVar 1) (zCons (zVar 2) zNil))) zNil))))) (zRet (zC (.bl false))) zNext)
    (zSeq (zIfS (zNot (zTruth (zCall (sp__law_same K) [] (zCons (zCall (sp_trusted K) [] (zCons (zVar 3) (zCons (zVar 2) zNil))) (zCons (zCall (sp__law_verdict K) [] (zCons (zVar 1) (zCons (zVar 2) zNil))) zNil))))) (zRet (zC (.bl false))) zNext)
    (zSeq (zFor (ziAny K (zOp zAdd (zSlice (zVar 0) zNoPart (zPart (zC (.int 4)))) (zLst (zCons (zTup (zCons (zC (.str "put")) (zCons (zC (.str "told by nobody at all, however long this string is")) (zCons (zC (.int 5)) zNil)))) zNil)))) (zgName 4) (zSeq (zAsg (zLc (ziR1 (zCons (zAp zLenA (zCons (zVar 1) zNil)) zNil)) (zgName 7) (zAnd (zB (zOp zIsNot (zOp zIx (zVar 1) (zVar 7)) (zC .non))) (zB (zOp zNe (zOp zIx (zVar 1) (zVar 7)) (zVar 4)))) (zVar 7) [7]) (zgName 5))
    (zIfS (zNot (zTruth (zCall (sp__law_same K) [] (zCons (zCall (sp_lies K) [] (zCons (zVar 3) (zCons (zVar 2) (zCons (zVar 4) zNil)))) (zCons (zIf (zB (zOp zLe (zAp zLenA (zCons (zVar 5) zNil)) (zVar 2))) (zAp (zTuple K) (zCons (zVar 5) zNil)) (zC .non)) zNil))))) (zRet (zC (.bl false))) zNext)))
    (zSeq (zAsg (zLc (ziR2 (zCons (zC (.int 1)) (zCons (zOp zAdd (zAp zLenA (zCons (zVar 3) zNil)) (zC (.int 1))) zNil))) (zgName 8) (zB (zOp zEq (zOp zIx (zCall (sp__law_verdict K) [] (zCons (zSlice (zVar 1) zNoPart (zPart (zVar 8))) (zCons (zVar 2) zNil))) (zC (.int 0))) (zC (.str "sure")))) (zVar 8) [8]) (zgName 6))
    (zRet (zCall (sp__law_same K) [] (zCons (zCall (sp_asked_in_turn K) [] (zCons (zVar 3) (zCons (zVar 2) zNil))) (zCons (zIf (zTruth (zVar 6)) (zOp zIx (zVar 6) (zC (.int 0))) (zC .non)) zNil)))))))))

theorem law_row_told {K : PySem.W.Frag} (ds : List D) (S : Store) (Q : ZK) (h : sp__law_row_told K ds S Q) : z__law_row_told K (zEnd Q) (zstart ["pool", "answers", "liars", "row", "step", "places", "sure", "k", "many"] ds) S := by
  obtain ⟨pp, pa, ps, as, l, rfl, hpp, hpa, hps, hpl, ha, hl, hq⟩ := h
  show z__law_row_told K (zEnd Q) [some (.ref pp), some (.ref pa), some (.int l), none, none, none, none, none, none] S
  unfold z__law_row_told
  have hl2 : as.length ≤ 1000 := by omega
  have h1s : 1 ≤ sizeLine := by decide
  have h3s : 3 ≤ sizeLine := by decide
  refine zseq_go ?_
  simp only [zNext, zBreak, zCont, zDrop, zRet, zRetN, zIfS, zAsg, zAug, zAugS, zDel, zFor, zVar, zC, zOp, zUn, zNil, zCons, zAp, zMt, zB, zTr, zTruth, zAnd, zOr, zNot, zAndV, zOrV, zNotV, zIf, zTup, zLst, zDNew, zBM, zBM0, tyZ, zgName, zgNil, zgCons, zgTup, zgTupT, zgSub, zAdd, zSub, zMul, zMod, zDiv, zPow, zShl, zCmpI, zLt, zLe, zGt, zGe, zEq, zNe, zIs, zIsNot, zIn, zNotIn, zNeg, zEqN, zIsN, scalD, zInN, zIx, zSlice, zPart, zNoPart, zSl, zSet, zIAdd, zGetA, zDelI, zLenA, zListA, zTuple, zInt, zAbs, zMax2, zMin2, zAllL, zAnyL, zSumL, zMaxL, zMinL, zSorted, zAppend, zExtend, zPop, zPopAt, zReverse, zJoin, zStr1, zIsi, tyD, zCall, zLc, zLcL, zYes, ziR1, ziR2, ziR3, ziAny, ziEnum, Keep, zEnd, List.getElem?_cons_zero, List.getElem?_cons_succ, List.set_cons_zero, List.set_cons_succ, Option.some.injEq, D.int.injEq, D.ref.injEq, D.tup.injEq, D.str.injEq, D.bl.injEq, reduceCtorEq, false_and, and_false, true_and, and_true, exists_eq_left, exists_eq_left', exists_and_left, if_true, if_false, Bool.false_eq_true, ite_false, ite_true, List.cons.injEq, wipeZ, zup_same, atI_zero, atI_one, atI_lit, atI_n, ixN_zero, ixN_one, ixN_lit, ixN_n, List.length_cons, List.length_nil, Nat.reduceAdd, Nat.reduceLT, decide_eq_true_eq, List.append_nil, List.nil_append, ZO.lst.injEq, ZO.dct.injEq, seqIx_n, Bool.not_true, Bool.not_false, isE_snoc, and_assoc, or_false, false_or, exists_eq, exists_eq', isT, String.reduceBEq, Bool.and_false, Bool.and_true, Bool.false_and, Bool.true_and, Bool.or_false, Bool.or_true, Bool.true_or, Bool.false_or, natC, natC0, natC1, plain_int, plain_str, plain_non, depth_int, depth_str, depth_non, Nat.zero_le, true_or, or_true, not_true_eq_false, not_false_eq_true, Int.reduceEq, Int.reduceLT, Int.reduceLE, Int.reduceAdd, Int.reduceSub, Nat.reduceEqDiff, decide_true, decide_false]
  refine ⟨.lst pa as, as, .inl ⟨rfl, .inl hpa⟩, ?_⟩
  refine zseqN (fun δ' S' => δ' = [some (.ref pp), some (.ref pa), some (.int l), some (.tup as), none, none, none, none, none] ∧ S = S') (fun M hM => ?_) ?_
  · simp only [zNext, zBreak, zCont, zDrop, zRet, zRetN, zIfS, zAsg, zAug, zAugS, zDel, zFor, zVar, zC, zOp, zUn, zNil, zCons, zAp, zMt, zB, zTr, zTruth, zAnd, zOr, zNot, zAndV, zOrV, zNotV, zIf, zTup, zLst, zDNew, zBM, zBM0, tyZ, zgName, zgNil, zgCons, zgTup, zgTupT, zgSub, zAdd, zSub, zMul, zMod, zDiv, zPow, zShl, zCmpI, zLt, zLe, zGt, zGe, zEq, zNe, zIs, zIsNot, zIn, zNotIn, zNeg, zEqN, zIsN, scalD, zInN, zIx, zSlice, zPart, zNoPart, zSl, zSet, zIAdd, zGetA, zDelI, zLenA, zListA, zTuple, zInt, zAbs, zMax2, zMin2, zAllL, zAnyL, zSumL, zMaxL, zMinL, zSorted, zAppend, zExtend, zPop, zPopAt, zReverse, zJoin, zStr1, zIsi, tyD, zCall, zLc, zLcL, zYes, ziR1, ziR2, ziR3, ziAny, ziEnum, Keep, zEnd, List.getElem?_cons_zero, List.getElem?_cons_succ, List.set_cons_zero, List.set_cons_succ, Option.some.injEq, D.int.injEq, D.ref.injEq, D.tup.injEq, D.str.injEq, D.bl.injEq, reduceCtorEq, false_and, and_false, true_and, and_true, exists_eq_left, exists_eq_left', exists_and_left, if_true, if_false, Bool.false_eq_true, ite_false, ite_true, List.cons.injEq, wipeZ, zup_same, atI_zero, atI_one, atI_lit, atI_n, ixN_zero, ixN_one, ixN_lit, ixN_n, List.length_cons, List.length_nil, Nat.reduceAdd, Nat.reduceLT, decide_eq_true_eq, List.append_nil, List.nil_append, ZO.lst.injEq, ZO.dct.injEq, seqIx_n, Bool.not_true, Bool.not_false, isE_snoc, and_assoc, or_false, false_or, exists_eq, exists_eq', isT, String.reduceBEq, Bool.and_false, Bool.and_true, Bool.false_and, Bool.true_and, Bool.or_false, Bool.or_true, Bool.true_or, Bool.false_or, natC, natC0, natC1, plain_int, plain_str, plain_non, depth_int, depth_str, depth_non, Nat.zero_le, true_or, or_true, not_true_eq_false, not_false_eq_true, Int.reduceEq, Int.reduceLT, Int.reduceLE, Int.reduceAdd, Int.reduceSub, Nat.reduceEqDiff, decide_true, decide_false]
    refine ⟨as, l, rfl, hl2, ha, ?_⟩
    simp only [zNext, zBreak, zCont, zDrop, zRet, zRetN, zIfS, zAsg, zAug, zAugS, zDel, zFor, zVar, zC, zOp, zUn, zNil, zCons, zAp, zMt, zB, zTr, zTruth, zAnd, zOr, zNot, zAndV, zOrV, zNotV, zIf, zTup, zLst, zDNew, zBM, zBM0, tyZ, zgName, zgNil, zgCons, zgTup, zgTupT, zgSub, zAdd, zSub, zMul, zMod, zDiv, zPow, zShl, zCmpI, zLt, zLe, zGt, zGe, zEq, zNe, zIs, zIsNot, zIn, zNotIn, zNeg, zEqN, zIsN, scalD, zInN, zIx, zSlice, zPart, zNoPart, zSl, zSet, zIAdd, zGetA, zDelI, zLenA, zListA, zTuple, zInt, zAbs, zMax2, zMin2, zAllL, zAnyL, zSumL, zMaxL, zMinL, zSorted, zAppend, zExtend, zPop, zPopAt, zReverse, zJoin, zStr1, zIsi, tyD, zCall, zLc, zLcL, zYes, ziR1, ziR2, ziR3, ziAny, ziEnum, Keep, zEnd, List.getElem?_cons_zero, List.getElem?_cons_succ, List.set_cons_zero, List.set_cons_succ, Option.some.injEq, D.int.injEq, D.ref.injEq, D.tup.injEq, D.str.injEq, D.bl.injEq, reduceCtorEq, false_and, and_false, true_and, and_true, exists_eq_left, exists_eq_left', exists_and_left, if_true, if_false, Bool.false_eq_true, ite_false, ite_true, List.cons.injEq, wipeZ, zup_same, atI_zero, atI_one, atI_lit, atI_n, ixN_zero, ixN_one, ixN_lit, ixN_n, List.length_cons, List.length_nil, Nat.reduceAdd, Nat.reduceLT, decide_eq_true_eq, List.append_nil, List.nil_append, ZO.lst.injEq, ZO.dct.injEq, seqIx_n, Bool.not_true, Bool.not_false, isE_snoc, and_assoc, or_false, false_or, exists_eq, exists_eq', isT, String.reduceBEq, Bool.and_false, Bool.and_true, Bool.false_and, Bool.true_and, Bool.or_false, Bool.or_true, Bool.true_or, Bool.false_or, natC, natC0, natC1, plain_int, plain_str, plain_non, depth_int, depth_str, depth_non, Nat.zero_le, true_or, or_true, not_true_eq_false, not_false_eq_true, Int.reduceEq, Int.reduceLT, Int.reduceLE, Int.reduceAdd, Int.reduceSub, Nat.reduceEqDiff, decide_true, decide_false]
    refine ⟨pa, as, l, rfl, hpa, hl2, ha, ?_⟩
    obtain ⟨f1, f2, f3, f4⟩ := poss_facts l ha hl
    refine ⟨_, _, rfl, f2, f2, by omega, ?_⟩
    simp only [zNext, zBreak, zCont, zDrop, zRet, zRetN, zIfS, zAsg, zAug, zAugS, zDel, zFor, zVar, zC, zOp, zUn, zNil, zCons, zAp, zMt, zB, zTr, zTruth, zAnd, zOr, zNot, zAndV, zOrV, zNotV, zIf, zTup, zLst, zDNew, zBM, zBM0, tyZ, zgName, zgNil, zgCons, zgTup, zgTupT, zgSub, zAdd, zSub, zMul, zMod, zDiv, zPow, zShl, zCmpI, zLt, zLe, zGt, zGe, zEq, zNe, zIs, zIsNot, zIn, zNotIn, zNeg, zEqN, zIsN, scalD, zInN, zIx, zSlice, zPart, zNoPart, zSl, zSet, zIAdd, zGetA, zDelI, zLenA, zListA, zTuple, zInt, zAbs, zMax2, zMin2, zAllL, zAnyL, zSumL, zMaxL, zMinL, zSorted, zAppend, zExtend, zPop, zPopAt, zReverse, zJoin, zStr1, zIsi, tyD, zCall, zLc, zLcL, zYes, ziR1, ziR2, ziR3, ziAny, ziEnum, Keep, zEnd, List.getElem?_cons_zero, List.getElem?_cons_succ, List.set_cons_zero, List.set_cons_succ, Option.some.injEq, D.int.injEq, D.ref.injEq, D.tup.injEq, D.str.injEq, D.bl.injEq, reduceCtorEq, false_and, and_false, true_and, and_true, exists_eq_left, exists_eq_left', exists_and_left, if_true, if_false, Bool.false_eq_true, ite_false, ite_true, List.cons.injEq, wipeZ, zup_same, atI_zero, atI_one, atI_lit, atI_n, ixN_zero, ixN_one, ixN_lit, ixN_n, List.length_cons, List.length_nil, Nat.reduceAdd, Nat.reduceLT, decide_eq_true_eq, List.append_nil, List.nil_append, ZO.lst.injEq, ZO.dct.injEq, seqIx_n, Bool.not_true, Bool.not_false, isE_snoc, and_assoc, or_false, false_or, exists_eq, exists_eq', isT, String.reduceBEq, Bool.and_false, Bool.and_true, Bool.false_and, Bool.true_and, Bool.or_false, Bool.or_true, Bool.true_or, Bool.false_or, natC, natC0, natC1, plain_int, plain_str, plain_non, depth_int, depth_str, depth_non, Nat.zero_le, true_or, or_true, not_true_eq_false, not_false_eq_true, Int.reduceEq, Int.reduceLT, Int.reduceLE, Int.reduceAdd, Int.reduceSub, Nat.reduceEqDiff, decide_true, decide_false]
    exact hM _ _ ⟨rfl, rfl⟩
  rintro _ _ ⟨rfl, rfl⟩
  refine zseqN (fun δ' S' => δ' = [some (.ref pp), some (.ref pa), some (.int l), some (.tup as), none, none, none, none, none] ∧ S = S') (fun M hM => ?_) ?_
  · simp only [zNext, zBreak, zCont, zDrop, zRet, zRetN, zIfS, zAsg, zAug, zAugS, zDel, zFor, zVar, zC, zOp, zUn, zNil, zCons, zAp, zMt, zB, zTr, zTruth, zAnd, zOr, zNot, zAndV, zOrV, zNotV, zIf, zTup, zLst, zDNew, zBM, zBM0, tyZ, zgName, zgNil, zgCons, zgTup, zgTupT, zgSub, zAdd, zSub, zMul, zMod, zDiv, zPow, zShl, zCmpI, zLt, zLe, zGt, zGe, zEq, zNe, zIs, zIsNot, zIn, zNotIn, zNeg, zEqN, zIsN, scalD, zInN, zIx, zSlice, zPart, zNoPart, zSl, zSet, zIAdd, zGetA, zDelI, zLenA, zListA, zTuple, zInt, zAbs, zMax2, zMin2, zAllL, zAnyL, zSumL, zMaxL, zMinL, zSorted, zAppend, zExtend, zPop, zPopAt, zReverse, zJoin, zStr1, zIsi, tyD, zCall, zLc, zLcL, zYes, ziR1, ziR2, ziR3, ziAny, ziEnum, Keep, zEnd, List.getElem?_cons_zero, List.getElem?_cons_succ, List.set_cons_zero, List.set_cons_succ, Option.some.injEq, D.int.injEq, D.ref.injEq, D.tup.injEq, D.str.injEq, D.bl.injEq, reduceCtorEq, false_and, and_false, true_and, and_true, exists_eq_left, exists_eq_left', exists_and_left, if_true, if_false, Bool.false_eq_true, ite_false, ite_true, List.cons.injEq, wipeZ, zup_same, atI_zero, atI_one, atI_lit, atI_n, ixN_zero, ixN_one, ixN_lit, ixN_n, List.length_cons, List.length_nil, Nat.reduceAdd, Nat.reduceLT, decide_eq_true_eq, List.append_nil, List.nil_append, ZO.lst.injEq, ZO.dct.injEq, seqIx_n, Bool.not_true, Bool.not_false, isE_snoc, and_assoc, or_false, false_or, exists_eq, exists_eq', isT, String.reduceBEq, Bool.and_false, Bool.and_true, Bool.false_and, Bool.true_and, Bool.or_false, Bool.or_true, Bool.true_or, Bool.false_or, natC, natC0, natC1, plain_int, plain_str, plain_non, depth_int, depth_str, depth_non, Nat.zero_le, true_or, or_true, not_true_eq_false, not_false_eq_true, Int.reduceEq, Int.reduceLT, Int.reduceLE, Int.reduceAdd, Int.reduceSub, Nat.reduceEqDiff, decide_true, decide_false]
    refine ⟨as, l, rfl, hl2, ha, ?_⟩
    simp only [zNext, zBreak, zCont, zDrop, zRet, zRetN, zIfS, zAsg, zAug, zAugS, zDel, zFor, zVar, zC, zOp, zUn, zNil, zCons, zAp, zMt, zB, zTr, zTruth, zAnd, zOr, zNot, zAndV, zOrV, zNotV, zIf, zTup, zLst, zDNew, zBM, zBM0, tyZ, zgName, zgNil, zgCons, zgTup, zgTupT, zgSub, zAdd, zSub, zMul, zMod, zDiv, zPow, zShl, zCmpI, zLt, zLe, zGt, zGe, zEq, zNe, zIs, zIsNot, zIn, zNotIn, zNeg, zEqN, zIsN, scalD, zInN, zIx, zSlice, zPart, zNoPart, zSl, zSet, zIAdd, zGetA, zDelI, zLenA, zListA, zTuple, zInt, zAbs, zMax2, zMin2, zAllL, zAnyL, zSumL, zMaxL, zMinL, zSorted, zAppend, zExtend, zPop, zPopAt, zReverse, zJoin, zStr1, zIsi, tyD, zCall, zLc, zLcL, zYes, ziR1, ziR2, ziR3, ziAny, ziEnum, Keep, zEnd, List.getElem?_cons_zero, List.getElem?_cons_succ, List.set_cons_zero, List.set_cons_succ, Option.some.injEq, D.int.injEq, D.ref.injEq, D.tup.injEq, D.str.injEq, D.bl.injEq, reduceCtorEq, false_and, and_false, true_and, and_true, exists_eq_left, exists_eq_left', exists_and_left, if_true, if_false, Bool.false_eq_true, ite_false, ite_true, List.cons.injEq, wipeZ, zup_same, atI_zero, atI_one, atI_lit, atI_n, ixN_zero, ixN_one, ixN_lit, ixN_n, List.length_cons, List.length_nil, Nat.reduceAdd, Nat.reduceLT, decide_eq_true_eq, List.append_nil, List.nil_append, ZO.lst.injEq, ZO.dct.injEq, seqIx_n, Bool.not_true, Bool.not_false, isE_snoc, and_assoc, or_false, false_or, exists_eq, exists_eq', isT, String.reduceBEq, Bool.and_false, Bool.and_true, Bool.false_and, Bool.true_and, Bool.or_false, Bool.or_true, Bool.true_or, Bool.false_or, natC, natC0, natC1, plain_int, plain_str, plain_non, depth_int, depth_str, depth_non, Nat.zero_le, true_or, or_true, not_true_eq_false, not_false_eq_true, Int.reduceEq, Int.reduceLT, Int.reduceLE, Int.reduceAdd, Int.reduceSub, Nat.reduceEqDiff, decide_true, decide_false]
    refine ⟨pa, as, l, rfl, hpa, hl2, ha, ?_⟩
    obtain ⟨f2, f3, f4⟩ := verd_facts l ha hl
    refine ⟨_, _, rfl, f2, f2, by omega, ?_⟩
    simp only [zNext, zBreak, zCont, zDrop, zRet, zRetN, zIfS, zAsg, zAug, zAugS, zDel, zFor, zVar, zC, zOp, zUn, zNil, zCons, zAp, zMt, zB, zTr, zTruth, zAnd, zOr, zNot, zAndV, zOrV, zNotV, zIf, zTup, zLst, zDNew, zBM, zBM0, tyZ, zgName, zgNil, zgCons, zgTup, zgTupT, zgSub, zAdd, zSub, zMul, zMod, zDiv, zPow, zShl, zCmpI, zLt, zLe, zGt, zGe, zEq, zNe, zIs, zIsNot, zIn, zNotIn, zNeg, zEqN, zIsN, scalD, zInN, zIx, zSlice, zPart, zNoPart, zSl, zSet, zIAdd, zGetA, zDelI, zLenA, zListA, zTuple, zInt, zAbs, zMax2, zMin2, zAllL, zAnyL, zSumL, zMaxL, zMinL, zSorted, zAppend, zExtend, zPop, zPopAt, zReverse, zJoin, zStr1, zIsi, tyD, zCall, zLc, zLcL, zYes, ziR1, ziR2, ziR3, ziAny, ziEnum, Keep, zEnd, List.getElem?_cons_zero, List.getElem?_cons_succ, List.set_cons_zero, List.set_cons_succ, Option.some.injEq, D.int.injEq, D.ref.injEq, D.tup.injEq, D.str.injEq, D.bl.injEq, reduceCtorEq, false_and, and_false, true_and, and_true, exists_eq_left, exists_eq_left', exists_and_left, if_true, if_false, Bool.false_eq_true, ite_false, ite_true, List.cons.injEq, wipeZ, zup_same, atI_zero, atI_one, atI_lit, atI_n, ixN_zero, ixN_one, ixN_lit, ixN_n, List.length_cons, List.length_nil, Nat.reduceAdd, Nat.reduceLT, decide_eq_true_eq, List.append_nil, List.nil_append, ZO.lst.injEq, ZO.dct.injEq, seqIx_n, Bool.not_true, Bool.not_false, isE_snoc, and_assoc, or_false, false_or, exists_eq, exists_eq', isT, String.reduceBEq, Bool.and_false, Bool.and_true, Bool.false_and, Bool.true_and, Bool.or_false, Bool.or_true, Bool.true_or, Bool.false_or, natC, natC0, natC1, plain_int, plain_str, plain_non, depth_int, depth_str, depth_non, Nat.zero_le, true_or, or_true, not_true_eq_false, not_false_eq_true, Int.reduceEq, Int.reduceLT, Int.reduceLE, Int.reduceAdd, Int.reduceSub, Nat.reduceEqDiff, decide_true, decide_false]
    exact hM _ _ ⟨rfl, rfl⟩
  rintro _ _ ⟨rfl, rfl⟩
  refine zseqN (fun δ' S' => ∃ a b, δ' = [some (.ref pp), some (.ref pa), some (.int l), some (.tup as), a, b, none, none, none] ∧ Ext [] S S') (fun M hM => ?_) ?_
  · simp only [zNext, zBreak, zCont, zDrop, zRet, zRetN, zIfS, zAsg, zAug, zAugS, zDel, zFor, zVar, zC, zOp, zUn, zNil, zCons, zAp, zMt, zB, zTr, zTruth, zAnd, zOr, zNot, zAndV, zOrV, zNotV, zIf, zTup, zLst, zDNew, zBM, zBM0, tyZ, zgName, zgNil, zgCons, zgTup, zgTupT, zgSub, zAdd, zSub, zMul, zMod, zDiv, zPow, zShl, zCmpI, zLt, zLe, zGt, zGe, zEq, zNe, zIs, zIsNot, zIn, zNotIn, zNeg, zEqN, zIsN, scalD, zInN, zIx, zSlice, zPart, zNoPart, zSl, zSet, zIAdd, zGetA, zDelI, zLenA, zListA, zTuple, zInt, zAbs, zMax2, zMin2, zAllL, zAnyL, zSumL, zMaxL, zMinL, zSorted, zAppend, zExtend, zPop, zPopAt, zReverse, zJoin, zStr1, zIsi, tyD, zCall, zLc, zLcL, zYes, ziR1, ziR2, ziR3, ziAny, ziEnum, Keep, zEnd, List.getElem?_cons_zero, List.getElem?_cons_succ, List.set_cons_zero, List.set_cons_succ, Option.some.injEq, D.int.injEq, D.ref.injEq, D.tup.injEq, D.str.injEq, D.bl.injEq, reduceCtorEq, false_and, and_false, true_and, and_true, exists_eq_left, exists_eq_left', exists_and_left, if_true, if_false, Bool.false_eq_true, ite_false, ite_true, List.cons.injEq, wipeZ, zup_same, atI_zero, atI_one, atI_lit, atI_n, ixN_zero, ixN_one, ixN_lit, ixN_n, List.length_cons, List.length_nil, Nat.reduceAdd, Nat.reduceLT, decide_eq_true_eq, List.append_nil, List.nil_append, ZO.lst.injEq, ZO.dct.injEq, seqIx_n, Bool.not_true, Bool.not_false, isE_snoc, and_assoc, or_false, false_or, exists_eq, exists_eq', isT, String.reduceBEq, Bool.and_false, Bool.and_true, Bool.false_and, Bool.true_and, Bool.or_false, Bool.or_true, Bool.true_or, Bool.false_or, natC, natC0, natC1, plain_int, plain_str, plain_non, depth_int, depth_str, depth_non, Nat.zero_le, true_or, or_true, not_true_eq_false, not_false_eq_true, Int.reduceEq, Int.reduceLT, Int.reduceLE, Int.reduceAdd, Int.reduceSub, Nat.reduceEqDiff, decide_true, decide_false, hpp]
    intro p hp
    refine ⟨h3s, h1s, fun p2 hp2 => ?_⟩
    have hcl := cut_len ps none (some 4)
    refine ⟨_, zup_of zup_same hp2, by rw [sizeLine_eq]; omega, fun p3 hp3 => ?_⟩
    refine ⟨.lst p3 _, _, .inl (.inl ⟨rfl, .inl zup_same⟩), .inl zup_same, ?_⟩
    have x3 := ((Ext.refl (A := []) (S := S)).new hp (o := .lst (Z.cutD ps none (some 4)))).new hp2 (o := .lst [.tup [.str "put", .str "told by nobody at all, however long this string is", .int 5]])
    have p3S : S p3 = none := x3.sub.none hp3
    generalize hrs : Z.cutD ps none (some 4) ++ [D.tup [.str "put", .str "told by nobody at all, however long this string is", .int 5]] = rs
    have hrm : ∀ x ∈ rs, isStep x := fun x hx => by
      rw [← hrs] at hx
      rcases List.mem_append.mp hx with hx | hx
      · exact hps x (cut_sub hx)
      · rw [List.mem_singleton.mp hx]; exact .inr (.inr ⟨_, _, _, rfl⟩)
    refine zloop (fun rest δ' S' => (∃ a b, δ' = [some (.ref pp), some (.ref pa), some (.int l), some (.tup as), a, b, none, none, none]) ∧ (∀ x ∈ rest, isStep x) ∧ Ext [] S S' ∧ S' p3 = some (.lst rs)) ?_ ?_ _ _ _ ?_
    · rintro δ' S' ⟨⟨a, b, rfl⟩, _, hx, _⟩
      exact hM _ _ ⟨a, b, rfl, hx⟩
    · rintro d r δ' S' N ⟨⟨a, b, rfl⟩, hr, hx, e3⟩ hN
      have hst := hr d (by simp)
      have hpa' : S' pa = some (.lst as) := hx pa _ (by simp) hpa
      refine zseqN (fun δ'' S'' => ∃ q, δ'' = [some (.ref pp), some (.ref pa), some (.int l), some (.tup as), some d, some (.ref q), none, none, none] ∧ Ext [] S S'' ∧ S'' p3 = some (.lst rs) ∧ S'' q = some (.lst (lyOf as d))) (fun M2 hM2 => ?_) ?_
      · simp only [zNext, zBreak, zCont, zDrop, zRet, zRetN, zIfS, zAsg, zAug, zAugS, zDel, zFor, zVar, zC, zOp, zUn, zNil, zCons, zAp, zMt, zB, zTr, zTruth, zAnd, zOr, zNot, zAndV, zOrV, zNotV, zIf, zTup, zLst, zDNew, zBM, zBM0, tyZ, zgName, zgNil, zgCons, zgTup, zgTupT, zgSub, zAdd, zSub, zMul, zMod, zDiv, zPow, zShl, zCmpI, zLt, zLe, zGt, zGe, zEq, zNe, zIs, zIsNot, zIn, zNotIn, zNeg, zEqN, zIsN, scalD, zInN, zIx, zSlice, zPart, zNoPart, zSl, zSet, zIAdd, zGetA, zDelI, zLenA, zListA, zTuple, zInt, zAbs, zMax2, zMin2, zAllL, zAnyL, zSumL, zMaxL, zMinL, zSorted, zAppend, zExtend, zPop, zPopAt, zReverse, zJoin, zStr1, zIsi, tyD, zCall, zLc, zLcL, zYes, ziR1, ziR2, ziR3, ziAny, ziEnum, Keep, zEnd, List.getElem?_cons_zero, List.getElem?_cons_succ, List.set_cons_zero, List.set_cons_succ, Option.some.injEq, D.int.injEq, D.ref.injEq, D.tup.injEq, D.str.injEq, D.bl.injEq, reduceCtorEq, false_and, and_false, true_and, and_true, exists_eq_left, exists_eq_left', exists_and_left, if_true, if_false, Bool.false_eq_true, ite_false, ite_true, List.cons.injEq, wipeZ, zup_same, atI_zero, atI_one, atI_lit, atI_n, ixN_zero, ixN_one, ixN_lit, ixN_n, List.length_cons, List.length_nil, Nat.reduceAdd, Nat.reduceLT, decide_eq_true_eq, List.append_nil, List.nil_append, ZO.lst.injEq, ZO.dct.injEq, seqIx_n, Bool.not_true, Bool.not_false, isE_snoc, and_assoc, or_false, false_or, exists_eq, exists_eq', isT, String.reduceBEq, Bool.and_false, Bool.and_true, Bool.false_and, Bool.true_and, Bool.or_false, Bool.or_true, Bool.true_or, Bool.false_or, natC, natC0, natC1, plain_int, plain_str, plain_non, depth_int, depth_str, depth_non, Nat.zero_le, true_or, or_true, not_true_eq_false, not_false_eq_true, Int.reduceEq, Int.reduceLT, Int.reduceLE, Int.reduceAdd, Int.reduceSub, Nat.reduceEqDiff, decide_true, decide_false, hpa']
        refine ⟨by omega, by omega, ?_⟩
        refine zlcl_pure (src := .non) (fun x => match x with | .int i => if as[i.toNat]? ≠ some .non ∧ as[i.toNat]? ≠ some d then some (.int i) else none | _ => none) trivial _ _ (fun x hx2 Y N' hy hn => ?_) (by rw [rangeD_len]; simp [sizeLine_eq]; omega) ?_
        · obtain ⟨i, hi, rfl⟩ := mem_rangeD hx2
          have hi' : i < as.length := by simpa using hi
          have hax := ha as[i] (List.getElem_mem hi')
          simp only [Int.toNat_natCast, List.getElem?_eq_getElem hi', ne_eq, Option.some.injEq] at hy hn
          simp only [zNext, zBreak, zCont, zDrop, zRet, zRetN, zIfS, zAsg, zAug, zAugS, zDel, zFor, zVar, zC, zOp, zUn, zNil, zCons, zAp, zMt, zB, zTr, zTruth, zAnd, zOr, zNot, zAndV, zOrV, zNotV, zIf, zTup, zLst, zDNew, zBM, zBM0, tyZ, zgName, zgNil, zgCons, zgTup, zgTupT, zgSub, zAdd, zSub, zMul, zMod, zDiv, zPow, zShl, zCmpI, zLt, zLe, zGt, zGe, zEq, zNe, zIs, zIsNot, zIn, zNotIn, zNeg, zEqN, zIsN, scalD, zInN, zIx, zSlice, zPart, zNoPart, zSl, zSet, zIAdd, zGetA, zDelI, zLenA, zListA, zTuple, zInt, zAbs, zMax2, zMin2, zAllL, zAnyL, zSumL, zMaxL, zMinL, zSorted, zAppend, zExtend, zPop, zPopAt, zReverse, zJoin, zStr1, zIsi, tyD, zCall, zLc, zLcL, zYes, ziR1, ziR2, ziR3, ziAny, ziEnum, Keep, zEnd, List.getElem?_cons_zero, List.getElem?_cons_succ, List.set_cons_zero, List.set_cons_succ, Option.some.injEq, D.int.injEq, D.ref.injEq, D.tup.injEq, D.str.injEq, D.bl.injEq, reduceCtorEq, false_and, and_false, true_and, and_true, exists_eq_left, exists_eq_left', exists_and_left, if_true, if_false, Bool.false_eq_true, ite_false, ite_true, List.cons.injEq, wipeZ, zup_same, atI_zero, atI_one, atI_lit, atI_n, ixN_zero, ixN_one, ixN_lit, ixN_n, List.length_cons, List.length_nil, Nat.reduceAdd, Nat.reduceLT, decide_eq_true_eq, List.append_nil, List.nil_append, ZO.lst.injEq, ZO.dct.injEq, seqIx_n, Bool.not_true, Bool.not_false, isE_snoc, and_assoc, or_false, false_or, exists_eq, exists_eq', isT, String.reduceBEq, Bool.and_false, Bool.and_true, Bool.false_and, Bool.true_and, Bool.or_false, Bool.or_true, Bool.true_or, Bool.false_or, natC, natC0, natC1, plain_int, plain_str, plain_non, depth_int, depth_str, depth_non, Nat.zero_le, true_or, or_true, not_true_eq_false, not_false_eq_true, Int.reduceEq, Int.reduceLT, Int.reduceLE, Int.reduceAdd, Int.reduceSub, Nat.reduceEqDiff, decide_true, decide_false, hpa', List.getElem?_eq_getElem hi']
          by_cases c1 : as[i] = .non
          · simp only [zNext, zBreak, zCont, zDrop, zRet, zRetN, zIfS, zAsg, zAug, zAugS, zDel, zFor, zVar, zC, zOp, zUn, zNil, zCons, zAp, zMt, zB, zTr, zTruth, zAnd, zOr, zNot, zAndV, zOrV, zNotV, zIf, zTup, zLst, zDNew, zBM, zBM0, tyZ, zgName, zgNil, zgCons, zgTup, zgTupT, zgSub, zAdd, zSub, zMul, zMod, zDiv, zPow, zShl, zCmpI, zLt, zLe, zGt, zGe, zEq, zNe, zIs, zIsNot, zIn, zNotIn, zNeg, zEqN, zIsN, scalD, zInN, zIx, zSlice, zPart, zNoPart, zSl, zSet, zIAdd, zGetA, zDelI, zLenA, zListA, zTuple, zInt, zAbs, zMax2, zMin2, zAllL, zAnyL, zSumL, zMaxL, zMinL, zSorted, zAppend, zExtend, zPop, zPopAt, zReverse, zJoin, zStr1, zIsi, tyD, zCall, zLc, zLcL, zYes, ziR1, ziR2, ziR3, ziAny, ziEnum, Keep, zEnd, List.getElem?_cons_zero, List.getElem?_cons_succ, List.set_cons_zero, List.set_cons_succ, Option.some.injEq, D.int.injEq, D.ref.injEq, D.tup.injEq, D.str.injEq, D.bl.injEq, reduceCtorEq, false_and, and_false, true_and, and_true, exists_eq_left, exists_eq_left', exists_and_left, if_true, if_false, Bool.false_eq_true, ite_false, ite_true, List.cons.injEq, wipeZ, zup_same, atI_zero, atI_one, atI_lit, atI_n, ixN_zero, ixN_one, ixN_lit, ixN_n, List.length_cons, List.length_nil, Nat.reduceAdd, Nat.reduceLT, decide_eq_true_eq, List.append_nil, List.nil_append, ZO.lst.injEq, ZO.dct.injEq, seqIx_n, Bool.not_true, Bool.not_false, isE_snoc, and_assoc, or_false, false_or, exists_eq, exists_eq', isT, String.reduceBEq, Bool.and_false, Bool.and_true, Bool.false_and, Bool.true_and, Bool.or_false, Bool.or_true, Bool.true_or, Bool.false_or, natC, natC0, natC1, plain_int, plain_str, plain_non, depth_int, depth_str, depth_non, Nat.zero_le, true_or, or_true, not_true_eq_false, not_false_eq_true, Int.reduceEq, Int.reduceLT, Int.reduceLE, Int.reduceAdd, Int.reduceSub, Nat.reduceEqDiff, decide_true, decide_false, c1]
            exact hn (by simp [c1])
          · simp only [zNext, zBreak, zCont, zDrop, zRet, zRetN, zIfS, zAsg, zAug, zAugS, zDel, zFor, zVar, zC, zOp, zUn, zNil, zCons, zAp, zMt, zB, zTr, zTruth, zAnd, zOr, zNot, zAndV, zOrV, zNotV, zIf, zTup, zLst, zDNew, zBM, zBM0, tyZ, zgName, zgNil, zgCons, zgTup, zgTupT, zgSub, zAdd, zSub, zMul, zMod, zDiv, zPow, zShl, zCmpI, zLt, zLe, zGt, zGe, zEq, zNe, zIs, zIsNot, zIn, zNotIn, zNeg, zEqN, zIsN, scalD, zInN, zIx, zSlice, zPart, zNoPart, zSl, zSet, zIAdd, zGetA, zDelI, zLenA, zListA, zTuple, zInt, zAbs, zMax2, zMin2, zAllL, zAnyL, zSumL, zMaxL, zMinL, zSorted, zAppend, zExtend, zPop, zPopAt, zReverse, zJoin, zStr1, zIsi, tyD, zCall, zLc, zLcL, zYes, ziR1, ziR2, ziR3, ziAny, ziEnum, Keep, zEnd, List.getElem?_cons_zero, List.getElem?_cons_succ, List.set_cons_zero, List.set_cons_succ, Option.some.injEq, D.int.injEq, D.ref.injEq, D.tup.injEq, D.str.injEq, D.bl.injEq, reduceCtorEq, false_and, and_false, true_and, and_true, exists_eq_left, exists_eq_left', exists_and_left, if_true, if_false, Bool.false_eq_true, ite_false, ite_true, List.cons.injEq, wipeZ, zup_same, atI_zero, atI_one, atI_lit, atI_n, ixN_zero, ixN_one, ixN_lit, ixN_n, List.length_cons, List.length_nil, Nat.reduceAdd, Nat.reduceLT, decide_eq_true_eq, List.append_nil, List.nil_append, ZO.lst.injEq, ZO.dct.injEq, seqIx_n, Bool.not_true, Bool.not_false, isE_snoc, and_assoc, or_false, false_or, exists_eq, exists_eq', isT, String.reduceBEq, Bool.and_false, Bool.and_true, Bool.false_and, Bool.true_and, Bool.or_false, Bool.or_true, Bool.true_or, Bool.false_or, natC, natC0, natC1, plain_int, plain_str, plain_non, depth_int, depth_str, depth_non, Nat.zero_le, true_or, or_true, not_true_eq_false, not_false_eq_true, Int.reduceEq, Int.reduceLT, Int.reduceLE, Int.reduceAdd, Int.reduceSub, Nat.reduceEqDiff, decide_true, decide_false, c1]
            refine ⟨.inl ⟨hax.plain.1, hst.facts.1, .inl (by have := hax.plain.2; omega)⟩, ?_⟩
            by_cases c2 : as[i] = d
            · simp only [zNext, zBreak, zCont, zDrop, zRet, zRetN, zIfS, zAsg, zAug, zAugS, zDel, zFor, zVar, zC, zOp, zUn, zNil, zCons, zAp, zMt, zB, zTr, zTruth, zAnd, zOr, zNot, zAndV, zOrV, zNotV, zIf, zTup, zLst, zDNew, zBM, zBM0, tyZ, zgName, zgNil, zgCons, zgTup, zgTupT, zgSub, zAdd, zSub, zMul, zMod, zDiv, zPow, zShl, zCmpI, zLt, zLe, zGt, zGe, zEq, zNe, zIs, zIsNot, zIn, zNotIn, zNeg, zEqN, zIsN, scalD, zInN, zIx, zSlice, zPart, zNoPart, zSl, zSet, zIAdd, zGetA, zDelI, zLenA, zListA, zTuple, zInt, zAbs, zMax2, zMin2, zAllL, zAnyL, zSumL, zMaxL, zMinL, zSorted, zAppend, zExtend, zPop, zPopAt, zReverse, zJoin, zStr1, zIsi, tyD, zCall, zLc, zLcL, zYes, ziR1, ziR2, ziR3, ziAny, ziEnum, Keep, zEnd, List.getElem?_cons_zero, List.getElem?_cons_succ, List.set_cons_zero, List.set_cons_succ, Option.some.injEq, D.int.injEq, D.ref.injEq, D.tup.injEq, D.str.injEq, D.bl.injEq, reduceCtorEq, false_and, and_false, true_and, and_true, exists_eq_left, exists_eq_left', exists_and_left, if_true, if_false, Bool.false_eq_true, ite_false, ite_true, List.cons.injEq, wipeZ, zup_same, atI_zero, atI_one, atI_lit, atI_n, ixN_zero, ixN_one, ixN_lit, ixN_n, List.length_cons, List.length_nil, Nat.reduceAdd, Nat.reduceLT, decide_eq_true_eq, List.append_nil, List.nil_append, ZO.lst.injEq, ZO.dct.injEq, seqIx_n, Bool.not_true, Bool.not_false, isE_snoc, and_assoc, or_false, false_or, exists_eq, exists_eq', isT, String.reduceBEq, Bool.and_false, Bool.and_true, Bool.false_and, Bool.true_and, Bool.or_false, Bool.or_true, Bool.true_or, Bool.false_or, natC, natC0, natC1, plain_int, plain_str, plain_non, depth_int, depth_str, depth_non, Nat.zero_le, true_or, or_true, not_true_eq_false, not_false_eq_true, Int.reduceEq, Int.reduceLT, Int.reduceLE, Int.reduceAdd, Int.reduceSub, Nat.reduceEqDiff, decide_true, decide_false, c2]
              exact hn (by simp [c2])
            · simp only [zNext, zBreak, zCont, zDrop, zRet, zRetN, zIfS, zAsg, zAug, zAugS, zDel, zFor, zVar, zC, zOp, zUn, zNil, zCons, zAp, zMt, zB, zTr, zTruth, zAnd, zOr, zNot, zAndV, zOrV, zNotV, zIf, zTup, zLst, zDNew, zBM, zBM0, tyZ, zgName, zgNil, zgCons, zgTup, zgTupT, zgSub, zAdd, zSub, zMul, zMod, zDiv, zPow, zShl, zCmpI, zLt, zLe, zGt, zGe, zEq, zNe, zIs, zIsNot, zIn, zNotIn, zNeg, zEqN, zIsN, scalD, zInN, zIx, zSlice, zPart, zNoPart, zSl, zSet, zIAdd, zGetA, zDelI, zLenA, zListA, zTuple, zInt, zAbs, zMax2, zMin2, zAllL, zAnyL, zSumL, zMaxL, zMinL, zSorted, zAppend, zExtend, zPop, zPopAt, zReverse, zJoin, zStr1, zIsi, tyD, zCall, zLc, zLcL, zYes, ziR1, ziR2, ziR3, ziAny, ziEnum, Keep, zEnd, List.getElem?_cons_zero, List.getElem?_cons_succ, List.set_cons_zero, List.set_cons_succ, Option.some.injEq, D.int.injEq, D.ref.injEq, D.tup.injEq, D.str.injEq, D.bl.injEq, reduceCtorEq, false_and, and_false, true_and, and_true, exists_eq_left, exists_eq_left', exists_and_left, if_true, if_false, Bool.false_eq_true, ite_false, ite_true, List.cons.injEq, wipeZ, zup_same, atI_zero, atI_one, atI_lit, atI_n, ixN_zero, ixN_one, ixN_lit, ixN_n, List.length_cons, List.length_nil, Nat.reduceAdd, Nat.reduceLT, decide_eq_true_eq, List.append_nil, List.nil_append, ZO.lst.injEq, ZO.dct.injEq, seqIx_n, Bool.not_true, Bool.not_false, isE_snoc, and_assoc, or_false, false_or, exists_eq, exists_eq', isT, String.reduceBEq, Bool.and_false, Bool.and_true, Bool.false_and, Bool.true_and, Bool.or_false, Bool.or_true, Bool.true_or, Bool.false_or, natC, natC0, natC1, plain_int, plain_str, plain_non, depth_int, depth_str, depth_non, Nat.zero_le, true_or, or_true, not_true_eq_false, not_false_eq_true, Int.reduceEq, Int.reduceLT, Int.reduceLE, Int.reduceAdd, Int.reduceSub, Nat.reduceEqDiff, decide_true, decide_false, c2]
              exact hy _ (by simp [c1, c2])
        · intro q hq0
          have e : [] ++ (rangeD 0 (as.length : Int).toNat).filterMap (fun x => match x with | .int i => if as[i.toNat]? ≠ some .non ∧ as[i.toNat]? ≠ some d then some (.int i) else none | _ => none) = lyOf as d := by
            rw [List.nil_append, rangeD_map]
            simp only [Int.toNat_natCast]
            rfl
          rw [e]
          exact hM2 _ _ ⟨q, rfl, hx.new hq0, zup_of e3 hq0, zup_same⟩
      · rintro _ S2 ⟨q, rfl, x2, g3, gq⟩
        obtain ⟨f1, f2⟩ := lies_facts l d hl
        simp only [zNext, zBreak, zCont, zDrop, zRet, zRetN, zIfS, zAsg, zAug, zAugS, zDel, zFor, zVar, zC, zOp, zUn, zNil, zCons, zAp, zMt, zB, zTr, zTruth, zAnd, zOr, zNot, zAndV, zOrV, zNotV, zIf, zTup, zLst, zDNew, zBM, zBM0, tyZ, zgName, zgNil, zgCons, zgTup, zgTupT, zgSub, zAdd, zSub, zMul, zMod, zDiv, zPow, zShl, zCmpI, zLt, zLe, zGt, zGe, zEq, zNe, zIs, zIsNot, zIn, zNotIn, zNeg, zEqN, zIsN, scalD, zInN, zIx, zSlice, zPart, zNoPart, zSl, zSet, zIAdd, zGetA, zDelI, zLenA, zListA, zTuple, zInt, zAbs, zMax2, zMin2, zAllL, zAnyL, zSumL, zMaxL, zMinL, zSorted, zAppend, zExtend, zPop, zPopAt, zReverse, zJoin, zStr1, zIsi, tyD, zCall, zLc, zLcL, zYes, ziR1, ziR2, ziR3, ziAny, ziEnum, Keep, zEnd, List.getElem?_cons_zero, List.getElem?_cons_succ, List.set_cons_zero, List.set_cons_succ, Option.some.injEq, D.int.injEq, D.ref.injEq, D.tup.injEq, D.str.injEq, D.bl.injEq, reduceCtorEq, false_and, and_false, true_and, and_true, exists_eq_left, exists_eq_left', exists_and_left, if_true, if_false, Bool.false_eq_true, ite_false, ite_true, List.cons.injEq, wipeZ, zup_same, atI_zero, atI_one, atI_lit, atI_n, ixN_zero, ixN_one, ixN_lit, ixN_n, List.length_cons, List.length_nil, Nat.reduceAdd, Nat.reduceLT, decide_eq_true_eq, List.append_nil, List.nil_append, ZO.lst.injEq, ZO.dct.injEq, seqIx_n, Bool.not_true, Bool.not_false, isE_snoc, and_assoc, or_false, false_or, exists_eq, exists_eq', isT, String.reduceBEq, Bool.and_false, Bool.and_true, Bool.false_and, Bool.true_and, Bool.or_false, Bool.or_true, Bool.true_or, Bool.false_or, natC, natC0, natC1, plain_int, plain_str, plain_non, depth_int, depth_str, depth_non, Nat.zero_le, true_or, or_true, not_true_eq_false, not_false_eq_true, Int.reduceEq, Int.reduceLT, Int.reduceLE, Int.reduceAdd, Int.reduceSub, Nat.reduceEqDiff, decide_true, decide_false, gq]
        refine ⟨as, l, d, rfl, hl2, ha, hst, ?_⟩
        by_cases hc : ((lyOf as d).length : Int) ≤ l
        · have el : liesOf as l d = .tup (lyOf as d) := by unfold liesOf; rw [if_pos hc]
          simp only [zNext, zBreak, zCont, zDrop, zRet, zRetN, zIfS, zAsg, zAug, zAugS, zDel, zFor, zVar, zC, zOp, zUn, zNil, zCons, zAp, zMt, zB, zTr, zTruth, zAnd, zOr, zNot, zAndV, zOrV, zNotV, zIf, zTup, zLst, zDNew, zBM, zBM0, tyZ, zgName, zgNil, zgCons, zgTup, zgTupT, zgSub, zAdd, zSub, zMul, zMod, zDiv, zPow, zShl, zCmpI, zLt, zLe, zGt, zGe, zEq, zNe, zIs, zIsNot, zIn, zNotIn, zNeg, zEqN, zIsN, scalD, zInN, zIx, zSlice, zPart, zNoPart, zSl, zSet, zIAdd, zGetA, zDelI, zLenA, zListA, zTuple, zInt, zAbs, zMax2, zMin2, zAllL, zAnyL, zSumL, zMaxL, zMinL, zSorted, zAppend, zExtend, zPop, zPopAt, zReverse, zJoin, zStr1, zIsi, tyD, zCall, zLc, zLcL, zYes, ziR1, ziR2, ziR3, ziAny, ziEnum, Keep, zEnd, List.getElem?_cons_zero, List.getElem?_cons_succ, List.set_cons_zero, List.set_cons_succ, Option.some.injEq, D.int.injEq, D.ref.injEq, D.tup.injEq, D.str.injEq, D.bl.injEq, reduceCtorEq, false_and, and_false, true_and, and_true, exists_eq_left, exists_eq_left', exists_and_left, if_true, if_false, Bool.false_eq_true, ite_false, ite_true, List.cons.injEq, wipeZ, zup_same, atI_zero, atI_one, atI_lit, atI_n, ixN_zero, ixN_one, ixN_lit, ixN_n, List.length_cons, List.length_nil, Nat.reduceAdd, Nat.reduceLT, decide_eq_true_eq, List.append_nil, List.nil_append, ZO.lst.injEq, ZO.dct.injEq, seqIx_n, Bool.not_true, Bool.not_false, isE_snoc, and_assoc, or_false, false_or, exists_eq, exists_eq', isT, String.reduceBEq, Bool.and_false, Bool.and_true, Bool.false_and, Bool.true_and, Bool.or_false, Bool.or_true, Bool.true_or, Bool.false_or, natC, natC0, natC1, plain_int, plain_str, plain_non, depth_int, depth_str, depth_non, Nat.zero_le, true_or, or_true, not_true_eq_false, not_false_eq_true, Int.reduceEq, Int.reduceLT, Int.reduceLE, Int.reduceAdd, Int.reduceSub, Nat.reduceEqDiff, decide_true, decide_false, gq, hc]
          refine ⟨.lst q _, lyOf as d, .inl ⟨rfl, .inl gq⟩, ?_⟩
          rw [← el]
          refine ⟨_, _, rfl, f1, f1, by omega, ?_⟩
          simp only [zNext, zBreak, zCont, zDrop, zRet, zRetN, zIfS, zAsg, zAug, zAugS, zDel, zFor, zVar, zC, zOp, zUn, zNil, zCons, zAp, zMt, zB, zTr, zTruth, zAnd, zOr, zNot, zAndV, zOrV, zNotV, zIf, zTup, zLst, zDNew, zBM, zBM0, tyZ, zgName, zgNil, zgCons, zgTup, zgTupT, zgSub, zAdd, zSub, zMul, zMod, zDiv, zPow, zShl, zCmpI, zLt, zLe, zGt, zGe, zEq, zNe, zIs, zIsNot, zIn, zNotIn, zNeg, zEqN, zIsN, scalD, zInN, zIx, zSlice, zPart, zNoPart, zSl, zSet, zIAdd, zGetA, zDelI, zLenA, zListA, zTuple, zInt, zAbs, zMax2, zMin2, zAllL, zAnyL, zSumL, zMaxL, zMinL, zSorted, zAppend, zExtend, zPop, zPopAt, zReverse, zJoin, zStr1, zIsi, tyD, zCall, zLc, zLcL, zYes, ziR1, ziR2, ziR3, ziAny, ziEnum, Keep, zEnd, List.getElem?_cons_zero, List.getElem?_cons_succ, List.set_cons_zero, List.set_cons_succ, Option.some.injEq, D.int.injEq, D.ref.injEq, D.tup.injEq, D.str.injEq, D.bl.injEq, reduceCtorEq, false_and, and_false, true_and, and_true, exists_eq_left, exists_eq_left', exists_and_left, if_true, if_false, Bool.false_eq_true, ite_false, ite_true, List.cons.injEq, wipeZ, zup_same, atI_zero, atI_one, atI_lit, atI_n, ixN_zero, ixN_one, ixN_lit, ixN_n, List.length_cons, List.length_nil, Nat.reduceAdd, Nat.reduceLT, decide_eq_true_eq, List.append_nil, List.nil_append, ZO.lst.injEq, ZO.dct.injEq, seqIx_n, Bool.not_true, Bool.not_false, isE_snoc, and_assoc, or_false, false_or, exists_eq, exists_eq', isT, String.reduceBEq, Bool.and_false, Bool.and_true, Bool.false_and, Bool.true_and, Bool.or_false, Bool.or_true, Bool.true_or, Bool.false_or, natC, natC0, natC1, plain_int, plain_str, plain_non, depth_int, depth_str, depth_non, Nat.zero_le, true_or, or_true, not_true_eq_false, not_false_eq_true, Int.reduceEq, Int.reduceLT, Int.reduceLE, Int.reduceAdd, Int.reduceSub, Nat.reduceEqDiff, decide_true, decide_false]
          exact hN _ _ (.inl g3) ⟨⟨_, _, rfl⟩, fun x hx => hr x (by simp [hx]), x2, g3⟩
        · have el : liesOf as l d = .non := by unfold liesOf; rw [if_neg hc]
          simp only [zNext, zBreak, zCont, zDrop, zRet, zRetN, zIfS, zAsg, zAug, zAugS, zDel, zFor, zVar, zC, zOp, zUn, zNil, zCons, zAp, zMt, zB, zTr, zTruth, zAnd, zOr, zNot, zAndV, zOrV, zNotV, zIf, zTup, zLst, zDNew, zBM, zBM0, tyZ, zgName, zgNil, zgCons, zgTup, zgTupT, zgSub, zAdd, zSub, zMul, zMod, zDiv, zPow, zShl, zCmpI, zLt, zLe, zGt, zGe, zEq, zNe, zIs, zIsNot, zIn, zNotIn, zNeg, zEqN, zIsN, scalD, zInN, zIx, zSlice, zPart, zNoPart, zSl, zSet, zIAdd, zGetA, zDelI, zLenA, zListA, zTuple, zInt, zAbs, zMax2, zMin2, zAllL, zAnyL, zSumL, zMaxL, zMinL, zSorted, zAppend, zExtend, zPop, zPopAt, zReverse, zJoin, zStr1, zIsi, tyD, zCall, zLc, zLcL, zYes, ziR1, ziR2, ziR3, ziAny, ziEnum, Keep, zEnd, List.getElem?_cons_zero, List.getElem?_cons_succ, List.set_cons_zero, List.set_cons_succ, Option.some.injEq, D.int.injEq, D.ref.injEq, D.tup.injEq, D.str.injEq, D.bl.injEq, reduceCtorEq, false_and, and_false, true_and, and_true, exists_eq_left, exists_eq_left', exists_and_left, if_true, if_false, Bool.false_eq_true, ite_false, ite_true, List.cons.injEq, wipeZ, zup_same, atI_zero, atI_one, atI_lit, atI_n, ixN_zero, ixN_one, ixN_lit, ixN_n, List.length_cons, List.length_nil, Nat.reduceAdd, Nat.reduceLT, decide_eq_true_eq, List.append_nil, List.nil_append, ZO.lst.injEq, ZO.dct.injEq, seqIx_n, Bool.not_true, Bool.not_false, isE_snoc, and_assoc, or_false, false_or, exists_eq, exists_eq', isT, String.reduceBEq, Bool.and_false, Bool.and_true, Bool.false_and, Bool.true_and, Bool.or_false, Bool.or_true, Bool.true_or, Bool.false_or, natC, natC0, natC1, plain_int, plain_str, plain_non, depth_int, depth_str, depth_non, Nat.zero_le, true_or, or_true, not_true_eq_false, not_false_eq_true, Int.reduceEq, Int.reduceLT, Int.reduceLE, Int.reduceAdd, Int.reduceSub, Nat.reduceEqDiff, decide_true, decide_false, gq, hc]
          rw [el]
          refine ⟨_, _, rfl, rfl, rfl, by simp [D.nodes], ?_⟩
          simp only [zNext, zBreak, zCont, zDrop, zRet, zRetN, zIfS, zAsg, zAug, zAugS, zDel, zFor, zVar, zC, zOp, zUn, zNil, zCons, zAp, zMt, zB, zTr, zTruth, zAnd, zOr, zNot, zAndV, zOrV, zNotV, zIf, zTup, zLst, zDNew, zBM, zBM0, tyZ, zgName, zgNil, zgCons, zgTup, zgTupT, zgSub, zAdd, zSub, zMul, zMod, zDiv, zPow, zShl, zCmpI, zLt, zLe, zGt, zGe, zEq, zNe, zIs, zIsNot, zIn, zNotIn, zNeg, zEqN, zIsN, scalD, zInN, zIx, zSlice, zPart, zNoPart, zSl, zSet, zIAdd, zGetA, zDelI, zLenA, zListA, zTuple, zInt, zAbs, zMax2, zMin2, zAllL, zAnyL, zSumL, zMaxL, zMinL, zSorted, zAppend, zExtend, zPop, zPopAt, zReverse, zJoin, zStr1, zIsi, tyD, zCall, zLc, zLcL, zYes, ziR1, ziR2, ziR3, ziAny, ziEnum, Keep, zEnd, List.getElem?_cons_zero, List.getElem?_cons_succ, List.set_cons_zero, List.set_cons_succ, Option.some.injEq, D.int.injEq, D.ref.injEq, D.tup.injEq, D.str.injEq, D.bl.injEq, reduceCtorEq, false_and, and_false, true_and, and_true, exists_eq_left, exists_eq_left', exists_and_left, if_true, if_false, Bool.false_eq_true, ite_false, ite_true, List.cons.injEq, wipeZ, zup_same, atI_zero, atI_one, atI_lit, atI_n, ixN_zero, ixN_one, ixN_lit, ixN_n, List.length_cons, List.length_nil, Nat.reduceAdd, Nat.reduceLT, decide_eq_true_eq, List.append_nil, List.nil_append, ZO.lst.injEq, ZO.dct.injEq, seqIx_n, Bool.not_true, Bool.not_false, isE_snoc, and_assoc, or_false, false_or, exists_eq, exists_eq', isT, String.reduceBEq, Bool.and_false, Bool.and_true, Bool.false_and, Bool.true_and, Bool.or_false, Bool.or_true, Bool.true_or, Bool.false_or, natC, natC0, natC1, plain_int, plain_str, plain_non, depth_int, depth_str, depth_non, Nat.zero_le, true_or, or_true, not_true_eq_false, not_false_eq_true, Int.reduceEq, Int.reduceLT, Int.reduceLE, Int.reduceAdd, Int.reduceSub, Nat.reduceEqDiff, decide_true, decide_false]
          exact hN _ _ (.inl g3) ⟨⟨_, _, rfl⟩, fun x hx => hr x (by simp [hx]), x2, g3⟩
    · exact ⟨⟨none, none, rfl⟩, hrm, x3.new hp3, by rw [zup_same]⟩
  rintro _ S2 ⟨a, b, rfl, x2⟩
  have hpa2 : S2 pa = some (.lst as) := x2 pa _ (by simp) hpa
  refine zseqN (fun δ' S' => ∃ p, δ' = [some (.ref pp), some (.ref pa), some (.int l), some (.tup as), a, b, some (.ref p), none, none] ∧ Ext [] S S' ∧ S' p = some (.lst ((List.range as.length).filterMap fun i => if isSure (verd (as.take (i + 1)) l) = true then some (.int ((i + 1 : Nat) : Int)) else none))) (fun M hM => ?_) ?_
  · simp only [zNext, zBreak, zCont, zDrop, zRet, zRetN, zIfS, zAsg, zAug, zAugS, zDel, zFor, zVar, zC, zOp, zUn, zNil, zCons, zAp, zMt, zB, zTr, zTruth, zAnd, zOr, zNot, zAndV, zOrV, zNotV, zIf, zTup, zLst, zDNew, zBM, zBM0, tyZ, zgName, zgNil, zgCons, zgTup, zgTupT, zgSub, zAdd, zSub, zMul, zMod, zDiv, zPow, zShl, zCmpI, zLt, zLe, zGt, zGe, zEq, zNe, zIs, zIsNot, zIn, zNotIn, zNeg, zEqN, zIsN, scalD, zInN, zIx, zSlice, zPart, zNoPart, zSl, zSet, zIAdd, zGetA, zDelI, zLenA, zListA, zTuple, zInt, zAbs, zMax2, zMin2, zAllL, zAnyL, zSumL, zMaxL, zMinL, zSorted, zAppend, zExtend, zPop, zPopAt, zReverse, zJoin, zStr1, zIsi, tyD, zCall, zLc, zLcL, zYes, ziR1, ziR2, ziR3, ziAny, ziEnum, Keep, zEnd, List.getElem?_cons_zero, List.getElem?_cons_succ, List.set_cons_zero, List.set_cons_succ, Option.some.injEq, D.int.injEq, D.ref.injEq, D.tup.injEq, D.str.injEq, D.bl.injEq, reduceCtorEq, false_and, and_false, true_and, and_true, exists_eq_left, exists_eq_left', exists_and_left, if_true, if_false, Bool.false_eq_true, ite_false, ite_true, List.cons.injEq, wipeZ, zup_same, atI_zero, atI_one, atI_lit, atI_n, ixN_zero, ixN_one, ixN_lit, ixN_n, List.length_cons, List.length_nil, Nat.reduceAdd, Nat.reduceLT, decide_eq_true_eq, List.append_nil, List.nil_append, ZO.lst.injEq, ZO.dct.injEq, seqIx_n, Bool.not_true, Bool.not_false, isE_snoc, and_assoc, or_false, false_or, exists_eq, exists_eq', isT, String.reduceBEq, Bool.and_false, Bool.and_true, Bool.false_and, Bool.true_and, Bool.or_false, Bool.or_true, Bool.true_or, Bool.false_or, natC, natC0, natC1, plain_int, plain_str, plain_non, depth_int, depth_str, depth_non, Nat.zero_le, true_or, or_true, not_true_eq_false, not_false_eq_true, Int.reduceEq, Int.reduceLT, Int.reduceLE, Int.reduceAdd, Int.reduceSub, Nat.reduceEqDiff, decide_true, decide_false]
    refine ⟨by omega, by omega, by omega, by omega, ?_⟩
    have e0 : ((as.length : Int) + 1 - 1).toNat = as.length := by omega
    rw [e0]
    refine zlcl (fun rest acc S' => Ext [] S S' ∧ S' pa = some (.lst as) ∧ ∃ n, n + rest.length = as.length ∧ rest = rangeD (1 + (n : Int)) rest.length ∧ acc = (List.range n).filterMap fun i => if isSure (verd (as.take (i + 1)) l) = true then some (.int ((i + 1 : Nat) : Int)) else none) ?_ ?_ _ _ _ ?_
    · rintro acc S3 ⟨hx, _, n, h1, h2, rfl⟩ p hp
      have : n = as.length := by simpa using h1
      subst this
      exact hM _ _ ⟨p, rfl, hx.new hp, zup_same⟩
    · rintro d r acc S3 N ⟨hx, hpa3, n, h1, h2, rfl⟩ hN
      simp only [List.length_cons] at h1 h2
      have hd : d = .int ((n + 1 : Nat) : Int) ∧ r = rangeD (1 + ((n + 1 : Nat) : Int)) r.length := by
        unfold rangeD at h2 ⊢
        rw [List.range_succ_eq_map, List.map_cons] at h2
        obtain ⟨e1, e2⟩ := List.cons.inj h2
        refine ⟨by rw [e1]; congr 1; simp; omega, ?_⟩
        rw [List.map_map] at e2
        rw [e2]
        simp only [List.length_map, List.length_range]
        refine List.map_congr_left fun i _ => ?_
        simp
        omega
      obtain ⟨rfl, hr⟩ := hd
      simp only [zNext, zBreak, zCont, zDrop, zRet, zRetN, zIfS, zAsg, zAug, zAugS, zDel, zFor, zVar, zC, zOp, zUn, zNil, zCons, zAp, zMt, zB, zTr, zTruth, zAnd, zOr, zNot, zAndV, zOrV, zNotV, zIf, zTup, zLst, zDNew, zBM, zBM0, tyZ, zgName, zgNil, zgCons, zgTup, zgTupT, zgSub, zAdd, zSub, zMul, zMod, zDiv, zPow, zShl, zCmpI, zLt, zLe, zGt, zGe, zEq, zNe, zIs, zIsNot, zIn, zNotIn, zNeg, zEqN, zIsN, scalD, zInN, zIx, zSlice, zPart, zNoPart, zSl, zSet, zIAdd, zGetA, zDelI, zLenA, zListA, zTuple, zInt, zAbs, zMax2, zMin2, zAllL, zAnyL, zSumL, zMaxL, zMinL, zSorted, zAppend, zExtend, zPop, zPopAt, zReverse, zJoin, zStr1, zIsi, tyD, zCall, zLc, zLcL, zYes, ziR1, ziR2, ziR3, ziAny, ziEnum, Keep, zEnd, List.getElem?_cons_zero, List.getElem?_cons_succ, List.set_cons_zero, List.set_cons_succ, Option.some.injEq, D.int.injEq, D.ref.injEq, D.tup.injEq, D.str.injEq, D.bl.injEq, reduceCtorEq, false_and, and_false, true_and, and_true, exists_eq_left, exists_eq_left', exists_and_left, if_true, if_false, Bool.false_eq_true, ite_false, ite_true, List.cons.injEq, wipeZ, zup_same, atI_zero, atI_one, atI_lit, atI_n, ixN_zero, ixN_one, ixN_lit, ixN_n, List.length_cons, List.length_nil, Nat.reduceAdd, Nat.reduceLT, decide_eq_true_eq, List.append_nil, List.nil_append, ZO.lst.injEq, ZO.dct.injEq, seqIx_n, Bool.not_true, Bool.not_false, isE_snoc, and_assoc, or_false, false_or, exists_eq, exists_eq', isT, String.reduceBEq, Bool.and_false, Bool.and_true, Bool.false_and, Bool.true_and, Bool.or_false, Bool.or_true, Bool.true_or, Bool.false_or, natC, natC0, natC1, plain_int, plain_str, plain_non, depth_int, depth_str, depth_non, Nat.zero_le, true_or, or_true, not_true_eq_false, not_false_eq_true, Int.reduceEq, Int.reduceLT, Int.reduceLE, Int.reduceAdd, Int.reduceSub, Nat.reduceEqDiff, decide_true, decide_false, hpa3]
      intro q hq0
      refine ⟨q, as.take (n + 1), l, rfl, by rw [zup_same, cutD_to], by simp; omega, fun x hx => ha x (List.mem_of_mem_take hx), ?_⟩
      obtain ⟨t, rr, hv⟩ := verd_tup (as.take (n + 1)) l
      rw [hv]
      have hsure : isSure (verd (as.take (n + 1)) l) = decide (t = "sure") := by rw [hv]; rfl
      have hlen : ((List.range n).filterMap fun i => if isSure (verd (as.take (i + 1)) l) = true then some (D.int ((i + 1 : Nat) : Int)) else none).length ≤ n := by
        have : _ ≤ (List.range n).length := List.length_filterMap_le (fun i => if isSure (verd (as.take (i + 1)) l) = true then some (D.int ((i + 1 : Nat) : Int)) else none) (List.range n)
        simpa using this
      simp only [zNext, zBreak, zCont, zDrop, zRet, zRetN, zIfS, zAsg, zAug, zAugS, zDel, zFor, zVar, zC, zOp, zUn, zNil, zCons, zAp, zMt, zB, zTr, zTruth, zAnd, zOr, zNot, zAndV, zOrV, zNotV, zIf, zTup, zLst, zDNew, zBM, zBM0, tyZ, zgName, zgNil, zgCons, zgTup, zgTupT, zgSub, zAdd, zSub, zMul, zMod, zDiv, zPow, zShl, zCmpI, zLt, zLe, zGt, zGe, zEq, zNe, zIs, zIsNot, zIn, zNotIn, zNeg, zEqN, zIsN, scalD, zInN, zIx, zSlice, zPart, zNoPart, zSl, zSet, zIAdd, zGetA, zDelI, zLenA, zListA, zTuple, zInt, zAbs, zMax2, zMin2, zAllL, zAnyL, zSumL, zMaxL, zMinL, zSorted, zAppend, zExtend, zPop, zPopAt, zReverse, zJoin, zStr1, zIsi, tyD, zCall, zLc, zLcL, zYes, ziR1, ziR2, ziR3, ziAny, ziEnum, Keep, zEnd, List.getElem?_cons_zero, List.getElem?_cons_succ, List.set_cons_zero, List.set_cons_succ, Option.some.injEq, D.int.injEq, D.ref.injEq, D.tup.injEq, D.str.injEq, D.bl.injEq, reduceCtorEq, false_and, and_false, true_and, and_true, exists_eq_left, exists_eq_left', exists_and_left, if_true, if_false, Bool.false_eq_true, ite_false, ite_true, List.cons.injEq, wipeZ, zup_same, atI_zero, atI_one, atI_lit, atI_n, ixN_zero, ixN_one, ixN_lit, ixN_n, List.length_cons, List.length_nil, Nat.reduceAdd, Nat.reduceLT, decide_eq_true_eq, List.append_nil, List.nil_append, ZO.lst.injEq, ZO.dct.injEq, seqIx_n, Bool.not_true, Bool.not_false, isE_snoc, and_assoc, or_false, false_or, exists_eq, exists_eq', isT, String.reduceBEq, Bool.and_false, Bool.and_true, Bool.false_and, Bool.true_and, Bool.or_false, Bool.or_true, Bool.true_or, Bool.false_or, natC, natC0, natC1, plain_int, plain_str, plain_non, depth_int, depth_str, depth_non, Nat.zero_le, true_or, or_true, not_true_eq_false, not_false_eq_true, Int.reduceEq, Int.reduceLT, Int.reduceLE, Int.reduceAdd, Int.reduceSub, Nat.reduceEqDiff, decide_true, decide_false, List.getElem?_cons_zero]
      by_cases ht : t = "sure"
      · simp only [zNext, zBreak, zCont, zDrop, zRet, zRetN, zIfS, zAsg, zAug, zAugS, zDel, zFor, zVar, zC, zOp, zUn, zNil, zCons, zAp, zMt, zB, zTr, zTruth, zAnd, zOr, zNot, zAndV, zOrV, zNotV, zIf, zTup, zLst, zDNew, zBM, zBM0, tyZ, zgName, zgNil, zgCons, zgTup, zgTupT, zgSub, zAdd, zSub, zMul, zMod, zDiv, zPow, zShl, zCmpI, zLt, zLe, zGt, zGe, zEq, zNe, zIs, zIsNot, zIn, zNotIn, zNeg, zEqN, zIsN, scalD, zInN, zIx, zSlice, zPart, zNoPart, zSl, zSet, zIAdd, zGetA, zDelI, zLenA, zListA, zTuple, zInt, zAbs, zMax2, zMin2, zAllL, zAnyL, zSumL, zMaxL, zMinL, zSorted, zAppend, zExtend, zPop, zPopAt, zReverse, zJoin, zStr1, zIsi, tyD, zCall, zLc, zLcL, zYes, ziR1, ziR2, ziR3, ziAny, ziEnum, Keep, zEnd, List.getElem?_cons_zero, List.getElem?_cons_succ, List.set_cons_zero, List.set_cons_succ, Option.some.injEq, D.int.injEq, D.ref.injEq, D.tup.injEq, D.str.injEq, D.bl.injEq, reduceCtorEq, false_and, and_false, true_and, and_true, exists_eq_left, exists_eq_left', exists_and_left, if_true, if_false, Bool.false_eq_true, ite_false, ite_true, List.cons.injEq, wipeZ, zup_same, atI_zero, atI_one, atI_lit, atI_n, ixN_zero, ixN_one, ixN_lit, ixN_n, List.length_cons, List.length_nil, Nat.reduceAdd, Nat.reduceLT, decide_eq_true_eq, List.append_nil, List.nil_append, ZO.lst.injEq, ZO.dct.injEq, seqIx_n, Bool.not_true, Bool.not_false, isE_snoc, and_assoc, or_false, false_or, exists_eq, exists_eq', isT, String.reduceBEq, Bool.and_false, Bool.and_true, Bool.false_and, Bool.true_and, Bool.or_false, Bool.or_true, Bool.true_or, Bool.false_or, natC, natC0, natC1, plain_int, plain_str, plain_non, depth_int, depth_str, depth_non, Nat.zero_le, true_or, or_true, not_true_eq_false, not_false_eq_true, Int.reduceEq, Int.reduceLT, Int.reduceLE, Int.reduceAdd, Int.reduceSub, Nat.reduceEqDiff, decide_true, decide_false, ht]
        refine ⟨by rw [sizeLine_eq]; omega, hN _ _ trivial ⟨hx.new hq0, zup_of hpa3 hq0, n + 1, by omega, hr, ?_⟩⟩
        rw [List.range_succ, List.filterMap_append]
        simp [hsure, ht]
      · simp only [zNext, zBreak, zCont, zDrop, zRet, zRetN, zIfS, zAsg, zAug, zAugS, zDel, zFor, zVar, zC, zOp, zUn, zNil, zCons, zAp, zMt, zB, zTr, zTruth, zAnd, zOr, zNot, zAndV, zOrV, zNotV, zIf, zTup, zLst, zDNew, zBM, zBM0, tyZ, zgName, zgNil, zgCons, zgTup, zgTupT, zgSub, zAdd, zSub, zMul, zMod, zDiv, zPow, zShl, zCmpI, zLt, zLe, zGt, zGe, zEq, zNe, zIs, zIsNot, zIn, zNotIn, zNeg, zEqN, zIsN, scalD, zInN, zIx, zSlice, zPart, zNoPart, zSl, zSet, zIAdd, zGetA, zDelI, zLenA, zListA, zTuple, zInt, zAbs, zMax2, zMin2, zAllL, zAnyL, zSumL, zMaxL, zMinL, zSorted, zAppend, zExtend, zPop, zPopAt, zReverse, zJoin, zStr1, zIsi, tyD, zCall, zLc, zLcL, zYes, ziR1, ziR2, ziR3, ziAny, ziEnum, Keep, zEnd, List.getElem?_cons_zero, List.getElem?_cons_succ, List.set_cons_zero, List.set_cons_succ, Option.some.injEq, D.int.injEq, D.ref.injEq, D.tup.injEq, D.str.injEq, D.bl.injEq, reduceCtorEq, false_and, and_false, true_and, and_true, exists_eq_left, exists_eq_left', exists_and_left, if_true, if_false, Bool.false_eq_true, ite_false, ite_true, List.cons.injEq, wipeZ, zup_same, atI_zero, atI_one, atI_lit, atI_n, ixN_zero, ixN_one, ixN_lit, ixN_n, List.length_cons, List.length_nil, Nat.reduceAdd, Nat.reduceLT, decide_eq_true_eq, List.append_nil, List.nil_append, ZO.lst.injEq, ZO.dct.injEq, seqIx_n, Bool.not_true, Bool.not_false, isE_snoc, and_assoc, or_false, false_or, exists_eq, exists_eq', isT, String.reduceBEq, Bool.and_false, Bool.and_true, Bool.false_and, Bool.true_and, Bool.or_false, Bool.or_true, Bool.true_or, Bool.false_or, natC, natC0, natC1, plain_int, plain_str, plain_non, depth_int, depth_str, depth_non, Nat.zero_le, true_or, or_true, not_true_eq_false, not_false_eq_true, Int.reduceEq, Int.reduceLT, Int.reduceLE, Int.reduceAdd, Int.reduceSub, Nat.reduceEqDiff, decide_true, decide_false, ht]
        refine hN _ _ trivial ⟨hx.new hq0, zup_of hpa3 hq0, n + 1, by omega, hr, ?_⟩
        rw [List.range_succ, List.filterMap_append]
        simp [hsure, ht]
    · exact ⟨x2, hpa2, 0, by rw [rangeD_len]; simp, by rw [rangeD_len]; rfl, by simp⟩
  rintro _ S3 ⟨p, rfl, x3, e3⟩
  have hask : askedOf as l = ((((List.range as.length).filterMap fun i => if isSure (verd (as.take (i + 1)) l) = true then some (D.int ((i + 1 : Nat) : Int)) else none))[0]?).getD .non := by
    unfold askedOf
    have go : ∀ (xs : List Nat), (match xs.find? (fun i => isSure (verd (as.take (i + 1)) l)) with | some i => D.int ((i + 1 : Nat) : Int) | none => .non) = ((xs.filterMap fun i => if isSure (verd (as.take (i + 1)) l) = true then some (D.int ((i + 1 : Nat) : Int)) else none)[0]?).getD .non := by
      intro xs
      induction xs with
      | nil => rfl
      | cons x r ih =>
        by_cases h : isSure (verd (as.take (x + 1)) l) = true
        · simp [h]
        · simp only [h, List.find?_cons, List.filterMap_cons]
          exact ih
    exact go _
  obtain ⟨f1, f2⟩ := asked_facts as l
  generalize ((List.range as.length).filterMap fun i => if isSure (verd (as.take (i + 1)) l) = true then some (D.int ((i + 1 : Nat) : Int)) else none) = sure at e3 hask
  simp only [zNext, zBreak, zCont, zDrop, zRet, zRetN, zIfS, zAsg, zAug, zAugS, zDel, zFor, zVar, zC, zOp, zUn, zNil, zCons, zAp, zMt, zB, zTr, zTruth, zAnd, zOr, zNot, zAndV, zOrV, zNotV, zIf, zTup, zLst, zDNew, zBM, zBM0, tyZ, zgName, zgNil, zgCons, zgTup, zgTupT, zgSub, zAdd, zSub, zMul, zMod, zDiv, zPow, zShl, zCmpI, zLt, zLe, zGt, zGe, zEq, zNe, zIs, zIsNot, zIn, zNotIn, zNeg, zEqN, zIsN, scalD, zInN, zIx, zSlice, zPart, zNoPart, zSl, zSet, zIAdd, zGetA, zDelI, zLenA, zListA, zTuple, zInt, zAbs, zMax2, zMin2, zAllL, zAnyL, zSumL, zMaxL, zMinL, zSorted, zAppend, zExtend, zPop, zPopAt, zReverse, zJoin, zStr1, zIsi, tyD, zCall, zLc, zLcL, zYes, ziR1, ziR2, ziR3, ziAny, ziEnum, Keep, zEnd, List.getElem?_cons_zero, List.getElem?_cons_succ, List.set_cons_zero, List.set_cons_succ, Option.some.injEq, D.int.injEq, D.ref.injEq, D.tup.injEq, D.str.injEq, D.bl.injEq, reduceCtorEq, false_and, and_false, true_and, and_true, exists_eq_left, exists_eq_left', exists_and_left, if_true, if_false, Bool.false_eq_true, ite_false, ite_true, List.cons.injEq, wipeZ, zup_same, atI_zero, atI_one, atI_lit, atI_n, ixN_zero, ixN_one, ixN_lit, ixN_n, List.length_cons, List.length_nil, Nat.reduceAdd, Nat.reduceLT, decide_eq_true_eq, List.append_nil, List.nil_append, ZO.lst.injEq, ZO.dct.injEq, seqIx_n, Bool.not_true, Bool.not_false, isE_snoc, and_assoc, or_false, false_or, exists_eq, exists_eq', isT, String.reduceBEq, Bool.and_false, Bool.and_true, Bool.false_and, Bool.true_and, Bool.or_false, Bool.or_true, Bool.true_or, Bool.false_or, natC, natC0, natC1, plain_int, plain_str, plain_non, depth_int, depth_str, depth_non, Nat.zero_le, true_or, or_true, not_true_eq_false, not_false_eq_true, Int.reduceEq, Int.reduceLT, Int.reduceLE, Int.reduceAdd, Int.reduceSub, Nat.reduceEqDiff, decide_true, decide_false]
  refine ⟨as, l, rfl, hl2, ha, ?_⟩
  cases sure with
  | nil =>
    simp only [zNext, zBreak, zCont, zDrop, zRet, zRetN, zIfS, zAsg, zAug, zAugS, zDel, zFor, zVar, zC, zOp, zUn, zNil, zCons, zAp, zMt, zB, zTr, zTruth, zAnd, zOr, zNot, zAndV, zOrV, zNotV, zIf, zTup, zLst, zDNew, zBM, zBM0, tyZ, zgName, zgNil, zgCons, zgTup, zgTupT, zgSub, zAdd, zSub, zMul, zMod, zDiv, zPow, zShl, zCmpI, zLt, zLe, zGt, zGe, zEq, zNe, zIs, zIsNot, zIn, zNotIn, zNeg, zEqN, zIsN, scalD, zInN, zIx, zSlice, zPart, zNoPart, zSl, zSet, zIAdd, zGetA, zDelI, zLenA, zListA, zTuple, zInt, zAbs, zMax2, zMin2, zAllL, zAnyL, zSumL, zMaxL, zMinL, zSorted, zAppend, zExtend, zPop, zPopAt, zReverse, zJoin, zStr1, zIsi, tyD, zCall, zLc, zLcL, zYes, ziR1, ziR2, ziR3, ziAny, ziEnum, Keep, zEnd, List.getElem?_cons_zero, List.getElem?_cons_succ, List.set_cons_zero, List.set_cons_succ, Option.some.injEq, D.int.injEq, D.ref.injEq, D.tup.injEq, D.str.injEq, D.bl.injEq, reduceCtorEq, false_and, and_false, true_and, and_true, exists_eq_left, exists_eq_left', exists_and_left, if_true, if_false, Bool.false_eq_true, ite_false, ite_true, List.cons.injEq, wipeZ, zup_same, atI_zero, atI_one, atI_lit, atI_n, ixN_zero, ixN_one, ixN_lit, ixN_n, List.length_cons, List.length_nil, Nat.reduceAdd, Nat.reduceLT, decide_eq_true_eq, List.append_nil, List.nil_append, ZO.lst.injEq, ZO.dct.injEq, seqIx_n, Bool.not_true, Bool.not_false, isE_snoc, and_assoc, or_false, false_or, exists_eq, exists_eq', isT, String.reduceBEq, Bool.and_false, Bool.and_true, Bool.false_and, Bool.true_and, Bool.or_false, Bool.or_true, Bool.true_or, Bool.false_or, natC, natC0, natC1, plain_int, plain_str, plain_non, depth_int, depth_str, depth_non, Nat.zero_le, true_or, or_true, not_true_eq_false, not_false_eq_true, Int.reduceEq, Int.reduceLT, Int.reduceLE, Int.reduceAdd, Int.reduceSub, Nat.reduceEqDiff, decide_true, decide_false, e3, List.isEmpty_nil]
    have e : askedOf as l = .non := by rw [hask]; rfl
    rw [e]
    refine ⟨_, _, rfl, rfl, rfl, by simp [D.nodes], S, x3.sub, ?_⟩
    simpa using hq
  | cons x r =>
    simp only [zNext, zBreak, zCont, zDrop, zRet, zRetN, zIfS, zAsg, zAug, zAugS, zDel, zFor, zVar, zC, zOp, zUn, zNil, zCons, zAp, zMt, zB, zTr, zTruth, zAnd, zOr, zNot, zAndV, zOrV, zNotV, zIf, zTup, zLst, zDNew, zBM, zBM0, tyZ, zgName, zgNil, zgCons, zgTup, zgTupT, zgSub, zAdd, zSub, zMul, zMod, zDiv, zPow, zShl, zCmpI, zLt, zLe, zGt, zGe, zEq, zNe, zIs, zIsNot, zIn, zNotIn, zNeg, zEqN, zIsN, scalD, zInN, zIx, zSlice, zPart, zNoPart, zSl, zSet, zIAdd, zGetA, zDelI, zLenA, zListA, zTuple, zInt, zAbs, zMax2, zMin2, zAllL, zAnyL, zSumL, zMaxL, zMinL, zSorted, zAppend, zExtend, zPop, zPopAt, zReverse, zJoin, zStr1, zIsi, tyD, zCall, zLc, zLcL, zYes, ziR1, ziR2, ziR3, ziAny, ziEnum, Keep, zEnd, List.getElem?_cons_zero, List.getElem?_cons_succ, List.set_cons_zero, List.set_cons_succ, Option.some.injEq, D.int.injEq, D.ref.injEq, D.tup.injEq, D.str.injEq, D.bl.injEq, reduceCtorEq, false_and, and_false, true_and, and_true, exists_eq_left, exists_eq_left', exists_and_left, if_true, if_false, Bool.false_eq_true, ite_false, ite_true, List.cons.injEq, wipeZ, zup_same, atI_zero, atI_one, atI_lit, atI_n, ixN_zero, ixN_one, ixN_lit, ixN_n, List.length_cons, List.length_nil, Nat.reduceAdd, Nat.reduceLT, decide_eq_true_eq, List.append_nil, List.nil_append, ZO.lst.injEq, ZO.dct.injEq, seqIx_n, Bool.not_true, Bool.not_false, isE_snoc, and_assoc, or_false, false_or, exists_eq, exists_eq', isT, String.reduceBEq, Bool.and_false, Bool.and_true, Bool.false_and, Bool.true_and, Bool.or_false, Bool.or_true, Bool.true_or, Bool.false_or, natC, natC0, natC1, plain_int, plain_str, plain_non, depth_int, depth_str, depth_non, Nat.zero_le, true_or, or_true, not_true_eq_false, not_false_eq_true, Int.reduceEq, Int.reduceLT, Int.reduceLE, Int.reduceAdd, Int.reduceSub, Nat.reduceEqDiff, decide_true, decide_false, e3, List.isEmpty_cons]
    have e : askedOf as l = x := by rw [hask]; rfl
    rw [← e]
    refine ⟨_, _, rfl, f1, f1, by omega, S, x3.sub, ?_⟩
    simpa using hq
end K70
namespace K70
open PySem PySem.Spec PyProof.Rows L2 Z ZH
/-! ### what the changes do -/
/-- poss, by what is said -/
def possS (sd : List D) (l : Int) : D := if (sd.length : Int) ≤ l then .non else .tup (zsort (cand sd l))
theorem poss_said (as : List D) (l : Int) : poss as l = possS (said as) l := rfl
def others (sd : List D) (s : D) : Nat := (sd.filter fun o => !decide (o = s)).length
theorem mem_keep {sd : List D} {l : Int} {s : D} : s ∈ keep sd l ↔ s ∈ sd ∧ (others sd s : Int) ≤ l := by
  unfold keep others
  rw [List.mem_filter, decide_eq_true_eq]
theorem others_perm {a b : List D} (h : a.Perm b) (s : D) : others a s = others b s := (h.filter _).length_eq
theorem said_perm {a b : List D} (h : a.Perm b) : (said a).Perm (said b) := h.filter _
theorem perm_of_mem {a b : List D} (ha : a.Nodup) (hb : b.Nodup) (h : ∀ x, x ∈ a ↔ x ∈ b) : a.Perm b := (List.perm_ext_iff_of_nodup ha hb).mpr h
theorem cand_perm {a b : List D} (l : Int) (h : a.Perm b) : (cand a l).Perm (cand b l) :=
  perm_of_mem (nodup_foldK List.nodup_nil) (nodup_foldK List.nodup_nil) fun x => by
    rw [mem_cand, mem_cand, mem_keep, mem_keep, h.mem_iff, others_perm h]
theorem poss_perm {a b : List D} (l : Int) (h : a.Perm b) (hs : ∀ x ∈ a, isAns x) : poss a l = poss b l := by
  unfold poss
  rw [(said_perm h).length_eq]
  split
  · rfl
  · have hst := cand_steps (l := l) (said_steps hs)
    rw [zsort_eq (cand_perm l (said_perm h)) (steps_srt hst).1 (steps_srt hst).2.1]
theorem verd_perm {a b : List D} (l : Int) (h : a.Perm b) (hs : ∀ x ∈ a, isAns x) : verd a l = verd b l := by unfold verd; rw [poss_perm l h hs]
theorem said_app (a b : List D) : said (a ++ b) = said a ++ said b := List.filter_append ..
theorem poss_none (a b : List D) (l : Int) : poss (a ++ [.non] ++ b) l = poss (a ++ b) l := by
  rw [poss_said, poss_said]
  congr 1
  simp [said_app, said]
theorem within_of {sd1 sd2 : List D} {l1 l2 : Int} (h1 : (sd2.length : Int) ≤ l2 ∨ ¬ (sd1.length : Int) ≤ l1) (h2 : ¬ (sd2.length : Int) ≤ l2 → ∀ s ∈ sd1, (others sd1 s : Int) ≤ l1 → s ∈ sd2 ∧ (others sd2 s : Int) ≤ l2) : within (possS sd1 l1) (possS sd2 l2) = true := by
  unfold possS
  by_cases c2 : (sd2.length : Int) ≤ l2
  · rw [if_pos c2]; rfl
  · rw [if_neg c2]
    have c1 : ¬ (sd1.length : Int) ≤ l1 := h1.resolve_left c2
    rw [if_neg c1]
    show (List.all _ _) = true
    rw [List.all_eq_true]
    intro s hs
    rw [decide_eq_true_eq]
    have h := mem_cand.mp (zsort_mem.mp hs)
    obtain ⟨m1, m2⟩ := mem_keep.mp h
    exact zsort_mem.mpr (mem_cand.mpr (mem_keep.mpr (h2 c2 s m1 m2)))
theorem others_app (a b : List D) (s : D) : others (a ++ b) s = others a s + others b s := by unfold others; rw [List.filter_append, List.length_append]
theorem others_self {sd : List D} {s : D} (h : s ∉ sd) : others sd s = sd.length := by
  unfold others
  rw [List.filter_eq_self.mpr]
  intro x hx
  have : x ≠ s := fun e => h (e ▸ hx)
  simp [this]
/-- one more answer -/
theorem within_longer (a b : List D) (x : D) (l : Int) : within (poss (a ++ [x] ++ b) l) (poss (a ++ b) l) = true := by
  rw [poss_said, poss_said]
  have e1 : said (a ++ [x] ++ b) = said a ++ said [x] ++ said b := by rw [said_app, said_app]
  have e2 : said (a ++ b) = said a ++ said b := said_app a b
  have hx : said [x] = [] ∨ said [x] = [x] := by
    unfold said
    by_cases h : x = .non <;> simp [h]
  refine within_of ?_ fun h2 s hs ho => ?_
  · by_cases c : ((said (a ++ b)).length : Int) ≤ l
    · exact .inl c
    · right
      rw [e1]; rw [e2] at c
      simp only [List.length_append] at c ⊢
      omega
  · rw [e1] at hs ho
    rw [e2] at h2 ⊢
    rcases hx with hx | hx
    · rw [hx] at hs ho
      rw [List.append_nil] at hs ho
      exact ⟨hs, ho⟩
    · rw [hx] at hs ho
      have o1 : others (said a ++ [x] ++ said b) s = others (said a ++ said b) s + others [x] s := by rw [others_app, others_app, others_app]; omega
      have hle : (others (said a ++ said b) s : Int) ≤ l := by omega
      refine ⟨?_, hle⟩
      by_cases hm : s ∈ said a ++ said b
      · exact hm
      · have := others_self hm
        rw [this] at hle
        exact absurd hle h2
/-- one more liar -/
theorem within_liars (a : List D) (l : Int) : within (poss a l) (poss a (l + 1)) = true := by
  rw [poss_said, poss_said]
  exact within_of (by omega) fun _ s hs ho => ⟨hs, by omega⟩
end K70
namespace K70
open PySem PySem.Spec PyProof.Rows L2 Z ZH
/-! ### _law_changes_told -/
def sp__law_changes_told (K : PySem.W.Frag) : ZSp := fun ds S Q => ∃ (a : Addr) (bn : Addr × List Int) (pp pa : Addr) (ps as : List D) (l : Int), ds = [.ref a, .ref pp, .ref pa, .int l] ∧ S pp = some (.lst ps) ∧ S pa = some (.lst as) ∧ pp ≠ a ∧ pa ≠ a ∧ goodPool ps ∧ goodRow as ∧ Dr S a bn ∧
  ∀ S1, DrN S S1 a bn → Q (.bl true) S1
def z__law_changes_told (K : PySem.W.Frag) : ZTS :=
  (zSeq (zAsg (zCall (sp_possible K) [] (zCons (zAp (zTuple K) (zCons (zVar 2) zNil)) (zCons (zVar 3) zNil))) (zgName 4))
    (zSeq (zIfS (zB (zOp zLt (zAp zLenA (zCons (zVar 2) zNil)) (zC (.int 9)))) (zSeq (zAsg (zCall (sp__law_draw K) [] (zCons (zVar 0) (zCons (zOp zAdd (zAp zLenA (zCons (zVar 2) zNil)) (zC (.int 1))) zNil))) (zgName 5))
    (zSeq (zAsg (zOp zAdd (zOp zAdd (zSlice (zVar 2) zNoPart (zPart (zVar 5))) (zLst (zCons (zCall (sp__law_pick K) [] (zCons (zVar 0) (zCons (zVar 1) zNil))) zNil))) (zSlice (zVar 2) (zPart (zVar 5)) zNoPart)) (zgName 6))
    (zSeq (zAsg (zOp zAdd (zOp zAdd (zSlice (zVar 2) zNoPart (zPart (zVar 5))) (zLst (zCons (zC .non) zNil))) (zSlice (zVar 2) (zPart (zVar 5)) zNoPart)) (zgName 7))
    (zSeq (zIfS (zOr (zNot (zTruth (zCall (sp__law_row_told K) [] (zCons (zVar 1) (zCons (zVar 6) (zCons (zVar 3) zNil)))))) (zNot (zTruth (zCall (sp__law_row_told K) [] (zCons (zVar 1) (zCons (zVar 7) (zCons (zVar 3) zNil))))))) (zRet (zC (.bl false))) zNext)
    (zIfS (zOr (zNot (zTruth (zCall (sp__law_is_within K) [] (zCons (zCall (sp_possible K) [] (zCons (zAp (zTuple K) (zCons (zVar 6) zNil)) (zCons (zVar 3) zNil))) (zCons (zVar 4) zNil))))) (zB (zOp zNe (zCall (sp_possible K) [] (zCons (zAp (zTuple K) (zCons (zVar 7) zNil)) (zCons (zVar 3) zNil))) (zVar 4)))) (zRet (zC (.bl false))) zNext))))) zNext)
    (zSeq (zIfS (zB (zOp zLt (zVar 3) (zC (.int 9)))) (zSeq (zIfS (zNot (zTruth (zCall (sp__law_row_told K) [] (zCons (zVar 1) (zCons (zVar 2) (zCons (zOp zAdd (zVar 3) (zC (.int 1))) zNil)))))) (zRet (zC (.bl false))) zNext)
    (zIfS (zNot (zTruth (zCall (sp__law_is_within K) [] (zCons (zVar 4) (zCons (zCall (sp_possible K) [] (zCons (zAp (zTuple K) (zCons (zVar 2) zNil)) (zCons (zOp zAdd (zVar 3) (zC (.int 1))) zNil))) zNil))))) (zRet (zC (.bl false))) zNext)) zNext)
    (zSeq (zAsg (zCall (sp__law_shuffled K) [] (zCons (zVar 0) (zCons (zVar 2) zNil))) (zgName 8))
    (zSeq (zIfS (zOr (zNot (zTruth (zCall (sp__law_row_told K) [] (zCons (zVar 1) (zCons (zVar 8) (zCons (zVar 3) zNil)))))) (zB (zOp zNe (zCall (sp_trusted K) [] (zCons (zAp (zTuple K) (zCons (zVar 8) zNil)) (zCons (zVar 3) zNil))) (zCall (sp_trusted K) [] (zCons (zAp (zTuple K) (zCons (zVar 2) zNil)) (zCons (zVar 3) zNil)))))) (zRet (zC (.bl false))) zNext)
    (zRet (zOp zEq (zCall (sp_possible K) [] (zCons (zAp (zTuple K) (zCons (zVar 8) zNil)) (zCons (zVar 3) zNil))) (zVar 4))))))))

theorem cut_to (xs : List D) {k : Int} (h : 0 ≤ k) : Z.cutD xs none (some k) = xs.take k.toNat := by
  obtain ⟨n, rfl⟩ := Int.eq_ofNat_of_zero_le h
  exact cutD_to xs n
theorem cut_from (xs : List D) {k : Int} (h : 0 ≤ k) : Z.cutD xs (some k) none = xs.drop k.toNat := by
  obtain ⟨n, rfl⟩ := Int.eq_ofNat_of_zero_le h
  exact cutD_from xs n
theorem isSet.plain {d : D} (h : isSet d) : d.plain = true ∧ d.depth ≤ 2 := by
  rcases h with rfl | ⟨xs, rfl, h, _⟩
  · exact ⟨rfl, Nat.zero_le _⟩
  · refine ⟨D.plainL_iff.mpr fun x hx => (h x hx).facts.1, ?_⟩
    show D.depthL xs + 1 ≤ 2
    have : D.depthL xs ≤ 1 := D.depthL_le.mpr fun x hx => by rw [(h x hx).facts.2.2.1]; exact Nat.le_refl _
    omega
theorem law_changes_told {K : PySem.W.Frag} (ds : List D) (S : Store) (Q : ZK) (h : sp__law_changes_told K ds S Q) : z__law_changes_told K (zEnd Q) (zstart ["d", "pool", "answers", "liars", "told", "at", "longer", "empty", "turned"] ds) S := by
  obtain ⟨a, bn, pp, pa, ps, as, l, rfl, hpp, hpa, hn1, hn2, hps, ⟨ha, hal⟩, hd, hq⟩ := h
  show z__law_changes_told K (zEnd Q) [some (.ref a), some (.ref pp), some (.ref pa), some (.int l), none, none, none, none, none] S
  unfold z__law_changes_told
  have h1s : 1 ≤ sizeLine := by decide
  have hl1 : as.length ≤ 1000 := by omega
  have hpl := hps.2.2
  obtain ⟨g1, g2, g3, g4⟩ := poss_facts l ha (by omega)
  refine zseq_go ?_
  simp only [zNext, zBreak, zCont, zDrop, zRet, zRetN, zIfS, zAsg, zAug, zAugS, zDel, zFor, zVar, zC, zOp, zUn, zNil, zCons, zAp, zMt, zB, zTr, zTruth, zAnd, zOr, zNot, zAndV, zOrV, zNotV, zIf, zTup, zLst, zDNew, zBM, zBM0, tyZ, zgName, zgNil, zgCons, zgTup, zgTupT, zgSub, zAdd, zSub, zMul, zMod, zDiv, zPow, zShl, zCmpI, zLt, zLe, zGt, zGe, zEq, zNe, zIs, zIsNot, zIn, zNotIn, zNeg, zEqN, zIsN, scalD, zInN, zIx, zSlice, zPart, zNoPart, zSl, zSet, zIAdd, zGetA, zDelI, zLenA, zListA, zTuple, zInt, zAbs, zMax2, zMin2, zAllL, zAnyL, zSumL, zMaxL, zMinL, zSorted, zAppend, zExtend, zPop, zPopAt, zReverse, zJoin, zStr1, zIsi, tyD, zCall, zLc, zLcL, zYes, ziR1, ziR2, ziR3, ziAny, ziEnum, Keep, zEnd, List.getElem?_cons_zero, List.getElem?_cons_succ, List.set_cons_zero, List.set_cons_succ, Option.some.injEq, D.int.injEq, D.ref.injEq, D.tup.injEq, D.str.injEq, D.bl.injEq, reduceCtorEq, false_and, and_false, true_and, and_true, exists_eq_left, exists_eq_left', exists_and_left, if_true, if_false, Bool.false_eq_true, ite_false, ite_true, List.cons.injEq, wipeZ, zup_same, atI_zero, atI_one, atI_lit, atI_n, ixN_zero, ixN_one, ixN_lit, ixN_n, List.length_cons, List.length_nil, Nat.reduceAdd, Nat.reduceLT, decide_eq_true_eq, List.append_nil, List.nil_append, ZO.lst.injEq, ZO.dct.injEq, seqIx_n, Bool.not_true, Bool.not_false, isE_snoc, and_assoc, or_false, false_or, exists_eq, exists_eq', isT, String.reduceBEq, Bool.and_false, Bool.and_true, Bool.false_and, Bool.true_and, Bool.or_false, Bool.or_true, Bool.true_or, Bool.false_or, natC, natC0, natC1, plain_int, plain_str, plain_non, depth_int, depth_str, depth_non, Nat.zero_le, true_or, or_true, not_true_eq_false, not_false_eq_true, Int.reduceEq, Int.reduceLT, Int.reduceLE, Int.reduceAdd, Int.reduceSub, Nat.reduceEqDiff, decide_true, decide_false]
  refine ⟨.lst pa as, as, .inl ⟨rfl, .inl hpa⟩, as, l, rfl, hl1, ha, ?_⟩
  -- the first if
  refine zseqN (fun δ' S' => ∃ x y z, δ' = [some (.ref a), some (.ref pp), some (.ref pa), some (.int l), some (poss as l), x, y, z, none] ∧ At S a bn S') (fun M hM => ?_) ?_
  · simp only [zNext, zBreak, zCont, zDrop, zRet, zRetN, zIfS, zAsg, zAug, zAugS, zDel, zFor, zVar, zC, zOp, zUn, zNil, zCons, zAp, zMt, zB, zTr, zTruth, zAnd, zOr, zNot, zAndV, zOrV, zNotV, zIf, zTup, zLst, zDNew, zBM, zBM0, tyZ, zgName, zgNil, zgCons, zgTup, zgTupT, zgSub, zAdd, zSub, zMul, zMod, zDiv, zPow, zShl, zCmpI, zLt, zLe, zGt, zGe, zEq, zNe, zIs, zIsNot, zIn, zNotIn, zNeg, zEqN, zIsN, scalD, zInN, zIx, zSlice, zPart, zNoPart, zSl, zSet, zIAdd, zGetA, zDelI, zLenA, zListA, zTuple, zInt, zAbs, zMax2, zMin2, zAllL, zAnyL, zSumL, zMaxL, zMinL, zSorted, zAppend, zExtend, zPop, zPopAt, zReverse, zJoin, zStr1, zIsi, tyD, zCall, zLc, zLcL, zYes, ziR1, ziR2, ziR3, ziAny, ziEnum, Keep, zEnd, List.getElem?_cons_zero, List.getElem?_cons_succ, List.set_cons_zero, List.set_cons_succ, Option.some.injEq, D.int.injEq, D.ref.injEq, D.tup.injEq, D.str.injEq, D.bl.injEq, reduceCtorEq, false_and, and_false, true_and, and_true, exists_eq_left, exists_eq_left', exists_and_left, if_true, if_false, Bool.false_eq_true, ite_false, ite_true, List.cons.injEq, wipeZ, zup_same, atI_zero, atI_one, atI_lit, atI_n, ixN_zero, ixN_one, ixN_lit, ixN_n, List.length_cons, List.length_nil, Nat.reduceAdd, Nat.reduceLT, decide_eq_true_eq, List.append_nil, List.nil_append, ZO.lst.injEq, ZO.dct.injEq, seqIx_n, Bool.not_true, Bool.not_false, isE_snoc, and_assoc, or_false, false_or, exists_eq, exists_eq', isT, String.reduceBEq, Bool.and_false, Bool.and_true, Bool.false_and, Bool.true_and, Bool.or_false, Bool.or_true, Bool.true_or, Bool.false_or, natC, natC0, natC1, plain_int, plain_str, plain_non, depth_int, depth_str, depth_non, Nat.zero_le, true_or, or_true, not_true_eq_false, not_false_eq_true, Int.reduceEq, Int.reduceLT, Int.reduceLE, Int.reduceAdd, Int.reduceSub, Nat.reduceEqDiff, decide_true, decide_false, hpa]
    by_cases hlt : (as.length : Int) < 9
    · simp only [zNext, zBreak, zCont, zDrop, zRet, zRetN, zIfS, zAsg, zAug, zAugS, zDel, zFor, zVar, zC, zOp, zUn, zNil, zCons, zAp, zMt, zB, zTr, zTruth, zAnd, zOr, zNot, zAndV, zOrV, zNotV, zIf, zTup, zLst, zDNew, zBM, zBM0, tyZ, zgName, zgNil, zgCons, zgTup, zgTupT, zgSub, zAdd, zSub, zMul, zMod, zDiv, zPow, zShl, zCmpI, zLt, zLe, zGt, zGe, zEq, zNe, zIs, zIsNot, zIn, zNotIn, zNeg, zEqN, zIsN, scalD, zInN, zIx, zSlice, zPart, zNoPart, zSl, zSet, zIAdd, zGetA, zDelI, zLenA, zListA, zTuple, zInt, zAbs, zMax2, zMin2, zAllL, zAnyL, zSumL, zMaxL, zMinL, zSorted, zAppend, zExtend, zPop, zPopAt, zReverse, zJoin, zStr1, zIsi, tyD, zCall, zLc, zLcL, zYes, ziR1, ziR2, ziR3, ziAny, ziEnum, Keep, zEnd, List.getElem?_cons_zero, List.getElem?_cons_succ, List.set_cons_zero, List.set_cons_succ, Option.some.injEq, D.int.injEq, D.ref.injEq, D.tup.injEq, D.str.injEq, D.bl.injEq, reduceCtorEq, false_and, and_false, true_and, and_true, exists_eq_left, exists_eq_left', exists_and_left, if_true, if_false, Bool.false_eq_true, ite_false, ite_true, List.cons.injEq, wipeZ, zup_same, atI_zero, atI_one, atI_lit, atI_n, ixN_zero, ixN_one, ixN_lit, ixN_n, List.length_cons, List.length_nil, Nat.reduceAdd, Nat.reduceLT, decide_eq_true_eq, List.append_nil, List.nil_append, ZO.lst.injEq, ZO.dct.injEq, seqIx_n, Bool.not_true, Bool.not_false, isE_snoc, and_assoc, or_false, false_or, exists_eq, exists_eq', isT, String.reduceBEq, Bool.and_false, Bool.and_true, Bool.false_and, Bool.true_and, Bool.or_false, Bool.or_true, Bool.true_or, Bool.false_or, natC, natC0, natC1, plain_int, plain_str, plain_non, depth_int, depth_str, depth_non, Nat.zero_le, true_or, or_true, not_true_eq_false, not_false_eq_true, Int.reduceEq, Int.reduceLT, Int.reduceLE, Int.reduceAdd, Int.reduceSub, Nat.reduceEqDiff, decide_true, decide_false, hlt]
      refine zseq_go ?_
      simp only [zNext, zBreak, zCont, zDrop, zRet, zRetN, zIfS, zAsg, zAug, zAugS, zDel, zFor, zVar, zC, zOp, zUn, zNil, zCons, zAp, zMt, zB, zTr, zTruth, zAnd, zOr, zNot, zAndV, zOrV, zNotV, zIf, zTup, zLst, zDNew, zBM, zBM0, tyZ, zgName, zgNil, zgCons, zgTup, zgTupT, zgSub, zAdd, zSub, zMul, zMod, zDiv, zPow, zShl, zCmpI, zLt, zLe, zGt, zGe, zEq, zNe, zIs, zIsNot, zIn, zNotIn, zNeg, zEqN, zIsN, scalD, zInN, zIx, zSlice, zPart, zNoPart, zSl, zSet, zIAdd, zGetA, zDelI, zLenA, zListA, zTuple, zInt, zAbs, zMax2, zMin2, zAllL, zAnyL, zSumL, zMaxL, zMinL, zSorted, zAppend, zExtend, zPop, zPopAt, zReverse, zJoin, zStr1, zIsi, tyD, zCall, zLc, zLcL, zYes, ziR1, ziR2, ziR3, ziAny, ziEnum, Keep, zEnd, List.getElem?_cons_zero, List.getElem?_cons_succ, List.set_cons_zero, List.set_cons_succ, Option.some.injEq, D.int.injEq, D.ref.injEq, D.tup.injEq, D.str.injEq, D.bl.injEq, reduceCtorEq, false_and, and_false, true_and, and_true, exists_eq_left, exists_eq_left', exists_and_left, if_true, if_false, Bool.false_eq_true, ite_false, ite_true, List.cons.injEq, wipeZ, zup_same, atI_zero, atI_one, atI_lit, atI_n, ixN_zero, ixN_one, ixN_lit, ixN_n, List.length_cons, List.length_nil, Nat.reduceAdd, Nat.reduceLT, decide_eq_true_eq, List.append_nil, List.nil_append, ZO.lst.injEq, ZO.dct.injEq, seqIx_n, Bool.not_true, Bool.not_false, isE_snoc, and_assoc, or_false, false_or, exists_eq, exists_eq', isT, String.reduceBEq, Bool.and_false, Bool.and_true, Bool.false_and, Bool.true_and, Bool.or_false, Bool.or_true, Bool.true_or, Bool.false_or, natC, natC0, natC1, plain_int, plain_str, plain_non, depth_int, depth_str, depth_non, Nat.zero_le, true_or, or_true, not_true_eq_false, not_false_eq_true, Int.reduceEq, Int.reduceLT, Int.reduceLE, Int.reduceAdd, Int.reduceSub, Nat.reduceEqDiff, decide_true, decide_false, hpa]
      refine ⟨a, bn, _, rfl, by omega, by omega, hd, fun k S1 k0 k1 h1 => ?_⟩
      have a1 := (At.refl hd).draw h1
      have e1 := h1.at hn1 hpp
      have f1 := h1.at hn2 hpa
      have hk : k.toNat ≤ as.length := by omega
      refine zseqN (fun δ' S' => ∃ pl x, δ' = [some (.ref a), some (.ref pp), some (.ref pa), some (.int l), some (poss as l), some (.int k), some (.ref pl), none, none] ∧ At S a bn S' ∧ S pl = none ∧ isStep x ∧ S' pl = some (.lst (as.take k.toNat ++ [x] ++ as.drop k.toNat))) (fun M2 hM2 => ?_) ?_
      · simp only [zNext, zBreak, zCont, zDrop, zRet, zRetN, zIfS, zAsg, zAug, zAugS, zDel, zFor, zVar, zC, zOp, zUn, zNil, zCons, zAp, zMt, zB, zTr, zTruth, zAnd, zOr, zNot, zAndV, zOrV, zNotV, zIf, zTup, zLst, zDNew, zBM, zBM0, tyZ, zgName, zgNil, zgCons, zgTup, zgTupT, zgSub, zAdd, zSub, zMul, zMod, zDiv, zPow, zShl, zCmpI, zLt, zLe, zGt, zGe, zEq, zNe, zIs, zIsNot, zIn, zNotIn, zNeg, zEqN, zIsN, scalD, zInN, zIx, zSlice, zPart, zNoPart, zSl, zSet, zIAdd, zGetA, zDelI, zLenA, zListA, zTuple, zInt, zAbs, zMax2, zMin2, zAllL, zAnyL, zSumL, zMaxL, zMinL, zSorted, zAppend, zExtend, zPop, zPopAt, zReverse, zJoin, zStr1, zIsi, tyD, zCall, zLc, zLcL, zYes, ziR1, ziR2, ziR3, ziAny, ziEnum, Keep, zEnd, List.getElem?_cons_zero, List.getElem?_cons_succ, List.set_cons_zero, List.set_cons_succ, Option.some.injEq, D.int.injEq, D.ref.injEq, D.tup.injEq, D.str.injEq, D.bl.injEq, reduceCtorEq, false_and, and_false, true_and, and_true, exists_eq_left, exists_eq_left', exists_and_left, if_true, if_false, Bool.false_eq_true, ite_false, ite_true, List.cons.injEq, wipeZ, zup_same, atI_zero, atI_one, atI_lit, atI_n, ixN_zero, ixN_one, ixN_lit, ixN_n, List.length_cons, List.length_nil, Nat.reduceAdd, Nat.reduceLT, decide_eq_true_eq, List.append_nil, List.nil_append, ZO.lst.injEq, ZO.dct.injEq, seqIx_n, Bool.not_true, Bool.not_false, isE_snoc, and_assoc, or_false, false_or, exists_eq, exists_eq', isT, String.reduceBEq, Bool.and_false, Bool.and_true, Bool.false_and, Bool.true_and, Bool.or_false, Bool.or_true, Bool.true_or, Bool.false_or, natC, natC0, natC1, plain_int, plain_str, plain_non, depth_int, depth_str, depth_non, Nat.zero_le, true_or, or_true, not_true_eq_false, not_false_eq_true, Int.reduceEq, Int.reduceLT, Int.reduceLE, Int.reduceAdd, Int.reduceSub, Nat.reduceEqDiff, decide_true, decide_false, f1]
        intro p hp
        rw [cut_to as k0]
        have b1 := a1.new hp (o := .lst (as.take k.toNat))
        have pS := a1.none hp hd
        refine ⟨a, bn, .ref pp, ps, rfl, .inr ⟨pp, rfl, zup_of e1 hp⟩, fun e => hn1 (by cases e; rfl), b1.2, by omega, by omega, fun x S2 hx h2 => ?_⟩
        have b2 := b1.draw h2
        have u1 : S2 p = some (.lst (as.take k.toNat)) := h2.at (hd.ne pS) zup_same
        have u2 : S2 pa = some (.lst as) := h2.at hn2 (zup_of f1 hp)
        refine ⟨h1s, fun p2 hp2 => ?_⟩
        have b3 := b2.new hp2 (o := .lst [x])
        have p2S := b2.none hp2 hd
        refine ⟨_, zup_of u1 hp2, by simp [sizeLine_eq]; omega, fun p3 hp3 => ?_⟩
        have b4 := b3.new hp3 (o := .lst (as.take k.toNat ++ [x]))
        have p3S := b3.none hp3 hd
        refine ⟨as, zup_of (zup_of u2 hp2) hp3, fun p4 hp4 => ?_⟩
        rw [cut_from as k0]
        have b5 := b4.new hp4 (o := .lst (as.drop k.toNat))
        have p4S := b4.none hp4 hd
        refine ⟨_, zup_of zup_same hp4, by simp [sizeLine_eq]; omega, fun p5 hp5 => ?_⟩
        exact hM2 _ _ ⟨p5, x, rfl, b5.new hp5, b5.none hp5 hd, hps.1 x hx, zup_same⟩
      rintro _ S2 ⟨pl, x, rfl, a2, plS, hx, e2⟩
      refine zseqN (fun δ' S' => ∃ pe, δ' = [some (.ref a), some (.ref pp), some (.ref pa), some (.int l), some (poss as l), some (.int k), some (.ref pl), some (.ref pe), none] ∧ At S a bn S' ∧ S' pl = some (.lst (as.take k.toNat ++ [x] ++ as.drop k.toNat)) ∧ S' pe = some (.lst (as.take k.toNat ++ [.non] ++ as.drop k.toNat))) (fun M2 hM2 => ?_) ?_
      · have u2 : S2 pa = some (.lst as) := a2.at hn2 hpa
        simp only [zNext, zBreak, zCont, zDrop, zRet, zRetN, zIfS, zAsg, zAug, zAugS, zDel, zFor, zVar, zC, zOp, zUn, zNil, zCons, zAp, zMt, zB, zTr, zTruth, zAnd, zOr, zNot, zAndV, zOrV, zNotV, zIf, zTup, zLst, zDNew, zBM, zBM0, tyZ, zgName, zgNil, zgCons, zgTup, zgTupT, zgSub, zAdd, zSub, zMul, zMod, zDiv, zPow, zShl, zCmpI, zLt, zLe, zGt, zGe, zEq, zNe, zIs, zIsNot, zIn, zNotIn, zNeg, zEqN, zIsN, scalD, zInN, zIx, zSlice, zPart, zNoPart, zSl, zSet, zIAdd, zGetA, zDelI, zLenA, zListA, zTuple, zInt, zAbs, zMax2, zMin2, zAllL, zAnyL, zSumL, zMaxL, zMinL, zSorted, zAppend, zExtend, zPop, zPopAt, zReverse, zJoin, zStr1, zIsi, tyD, zCall, zLc, zLcL, zYes, ziR1, ziR2, ziR3, ziAny, ziEnum, Keep, zEnd, List.getElem?_cons_zero, List.getElem?_cons_succ, List.set_cons_zero, List.set_cons_succ, Option.some.injEq, D.int.injEq, D.ref.injEq, D.tup.injEq, D.str.injEq, D.bl.injEq, reduceCtorEq, false_and, and_false, true_and, and_true, exists_eq_left, exists_eq_left', exists_and_left, if_true, if_false, Bool.false_eq_true, ite_false, ite_true, List.cons.injEq, wipeZ, zup_same, atI_zero, atI_one, atI_lit, atI_n, ixN_zero, ixN_one, ixN_lit, ixN_n, List.length_cons, List.length_nil, Nat.reduceAdd, Nat.reduceLT, decide_eq_true_eq, List.append_nil, List.nil_append, ZO.lst.injEq, ZO.dct.injEq, seqIx_n, Bool.not_true, Bool.not_false, isE_snoc, and_assoc, or_false, false_or, exists_eq, exists_eq', isT, String.reduceBEq, Bool.and_false, Bool.and_true, Bool.false_and, Bool.true_and, Bool.or_false, Bool.or_true, Bool.true_or, Bool.false_or, natC, natC0, natC1, plain_int, plain_str, plain_non, depth_int, depth_str, depth_non, Nat.zero_le, true_or, or_true, not_true_eq_false, not_false_eq_true, Int.reduceEq, Int.reduceLT, Int.reduceLE, Int.reduceAdd, Int.reduceSub, Nat.reduceEqDiff, decide_true, decide_false, u2]
        intro p hp
        rw [cut_to as k0]
        have b1 := a2.new hp (o := .lst (as.take k.toNat))
        refine ⟨h1s, fun p2 hp2 => ?_⟩
        have b3 := b1.new hp2 (o := .lst [.non])
        refine ⟨_, zup_of zup_same hp2, by simp [sizeLine_eq]; omega, fun p3 hp3 => ?_⟩
        have b4 := b3.new hp3 (o := .lst (as.take k.toNat ++ [.non]))
        refine ⟨as, zup_of (zup_of (zup_of u2 hp) hp2) hp3, fun p4 hp4 => ?_⟩
        rw [cut_from as k0]
        have b5 := b4.new hp4 (o := .lst (as.drop k.toNat))
        refine ⟨_, zup_of zup_same hp4, by simp [sizeLine_eq]; omega, fun p5 hp5 => ?_⟩
        exact hM2 _ _ ⟨p5, rfl, b5.new hp5, zup_of (zup_of (zup_of (zup_of (zup_of e2 hp) hp2) hp3) hp4) hp5, zup_same⟩
      rintro _ S3 ⟨pe, rfl, a3, e3, f3⟩
      have hga : ∀ y, isAns y → ∀ z ∈ as.take k.toNat ++ [y] ++ as.drop k.toNat, isAns z := fun y hy z hz => by
        simp only [List.mem_append, List.mem_singleton] at hz
        rcases hz with (hz | rfl) | hz
        · exact ha z (List.mem_of_mem_take hz)
        · exact hy
        · exact ha z (List.mem_of_mem_drop hz)
      have hgl : ∀ y : D, (as.take k.toNat ++ [y] ++ as.drop k.toNat).length ≤ 110 := fun y => by simp; omega
      have l1 := hga x (.inr hx)
      have l2 := hga .non (.inl rfl)
      have et : as = as.take k.toNat ++ as.drop k.toNat := (List.take_append_drop _ _).symm
      have w1 : within (poss (as.take k.toNat ++ [x] ++ as.drop k.toNat) l) (poss as l) = true := by
        have := within_longer (as.take k.toNat) (as.drop k.toNat) x l
        rwa [← et] at this
      have w2 : poss (as.take k.toNat ++ [.non] ++ as.drop k.toNat) l = poss as l := by
        have := poss_none (as.take k.toNat) (as.drop k.toNat) l
        rwa [← et] at this
      have e4 := a3.at hn1 hpp
      refine zseqN (fun δ' S' => S3 = S' ∧ δ' = [some (.ref a), some (.ref pp), some (.ref pa), some (.int l), some (poss as l), some (.int k), some (.ref pl), some (.ref pe), none]) (fun M2 hM2 => ?_) ?_
      · simp only [zNext, zBreak, zCont, zDrop, zRet, zRetN, zIfS, zAsg, zAug, zAugS, zDel, zFor, zVar, zC, zOp, zUn, zNil, zCons, zAp, zMt, zB, zTr, zTruth, zAnd, zOr, zNot, zAndV, zOrV, zNotV, zIf, zTup, zLst, zDNew, zBM, zBM0, tyZ, zgName, zgNil, zgCons, zgTup, zgTupT, zgSub, zAdd, zSub, zMul, zMod, zDiv, zPow, zShl, zCmpI, zLt, zLe, zGt, zGe, zEq, zNe, zIs, zIsNot, zIn, zNotIn, zNeg, zEqN, zIsN, scalD, zInN, zIx, zSlice, zPart, zNoPart, zSl, zSet, zIAdd, zGetA, zDelI, zLenA, zListA, zTuple, zInt, zAbs, zMax2, zMin2, zAllL, zAnyL, zSumL, zMaxL, zMinL, zSorted, zAppend, zExtend, zPop, zPopAt, zReverse, zJoin, zStr1, zIsi, tyD, zCall, zLc, zLcL, zYes, ziR1, ziR2, ziR3, ziAny, ziEnum, Keep, zEnd, List.getElem?_cons_zero, List.getElem?_cons_succ, List.set_cons_zero, List.set_cons_succ, Option.some.injEq, D.int.injEq, D.ref.injEq, D.tup.injEq, D.str.injEq, D.bl.injEq, reduceCtorEq, false_and, and_false, true_and, and_true, exists_eq_left, exists_eq_left', exists_and_left, if_true, if_false, Bool.false_eq_true, ite_false, ite_true, List.cons.injEq, wipeZ, zup_same, atI_zero, atI_one, atI_lit, atI_n, ixN_zero, ixN_one, ixN_lit, ixN_n, List.length_cons, List.length_nil, Nat.reduceAdd, Nat.reduceLT, decide_eq_true_eq, List.append_nil, List.nil_append, ZO.lst.injEq, ZO.dct.injEq, seqIx_n, Bool.not_true, Bool.not_false, isE_snoc, and_assoc, or_false, false_or, exists_eq, exists_eq', isT, String.reduceBEq, Bool.and_false, Bool.and_true, Bool.false_and, Bool.true_and, Bool.or_false, Bool.or_true, Bool.true_or, Bool.false_or, natC, natC0, natC1, plain_int, plain_str, plain_non, depth_int, depth_str, depth_non, Nat.zero_le, true_or, or_true, not_true_eq_false, not_false_eq_true, Int.reduceEq, Int.reduceLT, Int.reduceLE, Int.reduceAdd, Int.reduceSub, Nat.reduceEqDiff, decide_true, decide_false]
        refine ⟨pp, pl, ps, _, l, rfl, e4, e3, hps.1, by omega, l1, by have := hgl x; omega, ?_⟩
        simp only [zNext, zBreak, zCont, zDrop, zRet, zRetN, zIfS, zAsg, zAug, zAugS, zDel, zFor, zVar, zC, zOp, zUn, zNil, zCons, zAp, zMt, zB, zTr, zTruth, zAnd, zOr, zNot, zAndV, zOrV, zNotV, zIf, zTup, zLst, zDNew, zBM, zBM0, tyZ, zgName, zgNil, zgCons, zgTup, zgTupT, zgSub, zAdd, zSub, zMul, zMod, zDiv, zPow, zShl, zCmpI, zLt, zLe, zGt, zGe, zEq, zNe, zIs, zIsNot, zIn, zNotIn, zNeg, zEqN, zIsN, scalD, zInN, zIx, zSlice, zPart, zNoPart, zSl, zSet, zIAdd, zGetA, zDelI, zLenA, zListA, zTuple, zInt, zAbs, zMax2, zMin2, zAllL, zAnyL, zSumL, zMaxL, zMinL, zSorted, zAppend, zExtend, zPop, zPopAt, zReverse, zJoin, zStr1, zIsi, tyD, zCall, zLc, zLcL, zYes, ziR1, ziR2, ziR3, ziAny, ziEnum, Keep, zEnd, List.getElem?_cons_zero, List.getElem?_cons_succ, List.set_cons_zero, List.set_cons_succ, Option.some.injEq, D.int.injEq, D.ref.injEq, D.tup.injEq, D.str.injEq, D.bl.injEq, reduceCtorEq, false_and, and_false, true_and, and_true, exists_eq_left, exists_eq_left', exists_and_left, if_true, if_false, Bool.false_eq_true, ite_false, ite_true, List.cons.injEq, wipeZ, zup_same, atI_zero, atI_one, atI_lit, atI_n, ixN_zero, ixN_one, ixN_lit, ixN_n, List.length_cons, List.length_nil, Nat.reduceAdd, Nat.reduceLT, decide_eq_true_eq, List.append_nil, List.nil_append, ZO.lst.injEq, ZO.dct.injEq, seqIx_n, Bool.not_true, Bool.not_false, isE_snoc, and_assoc, or_false, false_or, exists_eq, exists_eq', isT, String.reduceBEq, Bool.and_false, Bool.and_true, Bool.false_and, Bool.true_and, Bool.or_false, Bool.or_true, Bool.true_or, Bool.false_or, natC, natC0, natC1, plain_int, plain_str, plain_non, depth_int, depth_str, depth_non, Nat.zero_le, true_or, or_true, not_true_eq_false, not_false_eq_true, Int.reduceEq, Int.reduceLT, Int.reduceLE, Int.reduceAdd, Int.reduceSub, Nat.reduceEqDiff, decide_true, decide_false]
        refine ⟨pp, pe, ps, _, l, rfl, e4, f3, hps.1, by omega, l2, by have := hgl .non; omega, ?_⟩
        simp only [zNext, zBreak, zCont, zDrop, zRet, zRetN, zIfS, zAsg, zAug, zAugS, zDel, zFor, zVar, zC, zOp, zUn, zNil, zCons, zAp, zMt, zB, zTr, zTruth, zAnd, zOr, zNot, zAndV, zOrV, zNotV, zIf, zTup, zLst, zDNew, zBM, zBM0, tyZ, zgName, zgNil, zgCons, zgTup, zgTupT, zgSub, zAdd, zSub, zMul, zMod, zDiv, zPow, zShl, zCmpI, zLt, zLe, zGt, zGe, zEq, zNe, zIs, zIsNot, zIn, zNotIn, zNeg, zEqN, zIsN, scalD, zInN, zIx, zSlice, zPart, zNoPart, zSl, zSet, zIAdd, zGetA, zDelI, zLenA, zListA, zTuple, zInt, zAbs, zMax2, zMin2, zAllL, zAnyL, zSumL, zMaxL, zMinL, zSorted, zAppend, zExtend, zPop, zPopAt, zReverse, zJoin, zStr1, zIsi, tyD, zCall, zLc, zLcL, zYes, ziR1, ziR2, ziR3, ziAny, ziEnum, Keep, zEnd, List.getElem?_cons_zero, List.getElem?_cons_succ, List.set_cons_zero, List.set_cons_succ, Option.some.injEq, D.int.injEq, D.ref.injEq, D.tup.injEq, D.str.injEq, D.bl.injEq, reduceCtorEq, false_and, and_false, true_and, and_true, exists_eq_left, exists_eq_left', exists_and_left, if_true, if_false, Bool.false_eq_true, ite_false, ite_true, List.cons.injEq, wipeZ, zup_same, atI_zero, atI_one, atI_lit, atI_n, ixN_zero, ixN_one, ixN_lit, ixN_n, List.length_cons, List.length_nil, Nat.reduceAdd, Nat.reduceLT, decide_eq_true_eq, List.append_nil, List.nil_append, ZO.lst.injEq, ZO.dct.injEq, seqIx_n, Bool.not_true, Bool.not_false, isE_snoc, and_assoc, or_false, false_or, exists_eq, exists_eq', isT, String.reduceBEq, Bool.and_false, Bool.and_true, Bool.false_and, Bool.true_and, Bool.or_false, Bool.or_true, Bool.true_or, Bool.false_or, natC, natC0, natC1, plain_int, plain_str, plain_non, depth_int, depth_str, depth_non, Nat.zero_le, true_or, or_true, not_true_eq_false, not_false_eq_true, Int.reduceEq, Int.reduceLT, Int.reduceLE, Int.reduceAdd, Int.reduceSub, Nat.reduceEqDiff, decide_true, decide_false]
        exact hM2 _ _ ⟨rfl, rfl⟩
      rintro _ _ ⟨rfl, rfl⟩
      simp only [zNext, zBreak, zCont, zDrop, zRet, zRetN, zIfS, zAsg, zAug, zAugS, zDel, zFor, zVar, zC, zOp, zUn, zNil, zCons, zAp, zMt, zB, zTr, zTruth, zAnd, zOr, zNot, zAndV, zOrV, zNotV, zIf, zTup, zLst, zDNew, zBM, zBM0, tyZ, zgName, zgNil, zgCons, zgTup, zgTupT, zgSub, zAdd, zSub, zMul, zMod, zDiv, zPow, zShl, zCmpI, zLt, zLe, zGt, zGe, zEq, zNe, zIs, zIsNot, zIn, zNotIn, zNeg, zEqN, zIsN, scalD, zInN, zIx, zSlice, zPart, zNoPart, zSl, zSet, zIAdd, zGetA, zDelI, zLenA, zListA, zTuple, zInt, zAbs, zMax2, zMin2, zAllL, zAnyL, zSumL, zMaxL, zMinL, zSorted, zAppend, zExtend, zPop, zPopAt, zReverse, zJoin, zStr1, zIsi, tyD, zCall, zLc, zLcL, zYes, ziR1, ziR2, ziR3, ziAny, ziEnum, Keep, zEnd, List.getElem?_cons_zero, List.getElem?_cons_succ, List.set_cons_zero, List.set_cons_succ, Option.some.injEq, D.int.injEq, D.ref.injEq, D.tup.injEq, D.str.injEq, D.bl.injEq, reduceCtorEq, false_and, and_false, true_and, and_true, exists_eq_left, exists_eq_left', exists_and_left, if_true, if_false, Bool.false_eq_true, ite_false, ite_true, List.cons.injEq, wipeZ, zup_same, atI_zero, atI_one, atI_lit, atI_n, ixN_zero, ixN_one, ixN_lit, ixN_n, List.length_cons, List.length_nil, Nat.reduceAdd, Nat.reduceLT, decide_eq_true_eq, List.append_nil, List.nil_append, ZO.lst.injEq, ZO.dct.injEq, seqIx_n, Bool.not_true, Bool.not_false, isE_snoc, and_assoc, or_false, false_or, exists_eq, exists_eq', isT, String.reduceBEq, Bool.and_false, Bool.and_true, Bool.false_and, Bool.true_and, Bool.or_false, Bool.or_true, Bool.true_or, Bool.false_or, natC, natC0, natC1, plain_int, plain_str, plain_non, depth_int, depth_str, depth_non, Nat.zero_le, true_or, or_true, not_true_eq_false, not_false_eq_true, Int.reduceEq, Int.reduceLT, Int.reduceLE, Int.reduceAdd, Int.reduceSub, Nat.reduceEqDiff, decide_true, decide_false]
      refine ⟨.lst pl _, _, .inl ⟨rfl, .inl e3⟩, _, l, rfl, by have := hgl x; omega, l1, ?_⟩
      obtain ⟨q1, q2, _, _⟩ := poss_facts l l1 (by have := hgl x; omega)
      refine ⟨_, _, rfl, q1, g1, ?_⟩
      rw [w1]
      simp only [zNext, zBreak, zCont, zDrop, zRet, zRetN, zIfS, zAsg, zAug, zAugS, zDel, zFor, zVar, zC, zOp, zUn, zNil, zCons, zAp, zMt, zB, zTr, zTruth, zAnd, zOr, zNot, zAndV, zOrV, zNotV, zIf, zTup, zLst, zDNew, zBM, zBM0, tyZ, zgName, zgNil, zgCons, zgTup, zgTupT, zgSub, zAdd, zSub, zMul, zMod, zDiv, zPow, zShl, zCmpI, zLt, zLe, zGt, zGe, zEq, zNe, zIs, zIsNot, zIn, zNotIn, zNeg, zEqN, zIsN, scalD, zInN, zIx, zSlice, zPart, zNoPart, zSl, zSet, zIAdd, zGetA, zDelI, zLenA, zListA, zTuple, zInt, zAbs, zMax2, zMin2, zAllL, zAnyL, zSumL, zMaxL, zMinL, zSorted, zAppend, zExtend, zPop, zPopAt, zReverse, zJoin, zStr1, zIsi, tyD, zCall, zLc, zLcL, zYes, ziR1, ziR2, ziR3, ziAny, ziEnum, Keep, zEnd, List.getElem?_cons_zero, List.getElem?_cons_succ, List.set_cons_zero, List.set_cons_succ, Option.some.injEq, D.int.injEq, D.ref.injEq, D.tup.injEq, D.str.injEq, D.bl.injEq, reduceCtorEq, false_and, and_false, true_and, and_true, exists_eq_left, exists_eq_left', exists_and_left, if_true, if_false, Bool.false_eq_true, ite_false, ite_true, List.cons.injEq, wipeZ, zup_same, atI_zero, atI_one, atI_lit, atI_n, ixN_zero, ixN_one, ixN_lit, ixN_n, List.length_cons, List.length_nil, Nat.reduceAdd, Nat.reduceLT, decide_eq_true_eq, List.append_nil, List.nil_append, ZO.lst.injEq, ZO.dct.injEq, seqIx_n, Bool.not_true, Bool.not_false, isE_snoc, and_assoc, or_false, false_or, exists_eq, exists_eq', isT, String.reduceBEq, Bool.and_false, Bool.and_true, Bool.false_and, Bool.true_and, Bool.or_false, Bool.or_true, Bool.true_or, Bool.false_or, natC, natC0, natC1, plain_int, plain_str, plain_non, depth_int, depth_str, depth_non, Nat.zero_le, true_or, or_true, not_true_eq_false, not_false_eq_true, Int.reduceEq, Int.reduceLT, Int.reduceLE, Int.reduceAdd, Int.reduceSub, Nat.reduceEqDiff, decide_true, decide_false]
      refine ⟨.lst pe _, _, .inl ⟨rfl, .inl f3⟩, _, l, rfl, by have := hgl .non; omega, l2, ?_⟩
      rw [w2]
      refine ⟨.inl ⟨g2, g2, .inl (by omega)⟩, ?_⟩
      simp only [zNext, zBreak, zCont, zDrop, zRet, zRetN, zIfS, zAsg, zAug, zAugS, zDel, zFor, zVar, zC, zOp, zUn, zNil, zCons, zAp, zMt, zB, zTr, zTruth, zAnd, zOr, zNot, zAndV, zOrV, zNotV, zIf, zTup, zLst, zDNew, zBM, zBM0, tyZ, zgName, zgNil, zgCons, zgTup, zgTupT, zgSub, zAdd, zSub, zMul, zMod, zDiv, zPow, zShl, zCmpI, zLt, zLe, zGt, zGe, zEq, zNe, zIs, zIsNot, zIn, zNotIn, zNeg, zEqN, zIsN, scalD, zInN, zIx, zSlice, zPart, zNoPart, zSl, zSet, zIAdd, zGetA, zDelI, zLenA, zListA, zTuple, zInt, zAbs, zMax2, zMin2, zAllL, zAnyL, zSumL, zMaxL, zMinL, zSorted, zAppend, zExtend, zPop, zPopAt, zReverse, zJoin, zStr1, zIsi, tyD, zCall, zLc, zLcL, zYes, ziR1, ziR2, ziR3, ziAny, ziEnum, Keep, zEnd, List.getElem?_cons_zero, List.getElem?_cons_succ, List.set_cons_zero, List.set_cons_succ, Option.some.injEq, D.int.injEq, D.ref.injEq, D.tup.injEq, D.str.injEq, D.bl.injEq, reduceCtorEq, false_and, and_false, true_and, and_true, exists_eq_left, exists_eq_left', exists_and_left, if_true, if_false, Bool.false_eq_true, ite_false, ite_true, List.cons.injEq, wipeZ, zup_same, atI_zero, atI_one, atI_lit, atI_n, ixN_zero, ixN_one, ixN_lit, ixN_n, List.length_cons, List.length_nil, Nat.reduceAdd, Nat.reduceLT, decide_eq_true_eq, List.append_nil, List.nil_append, ZO.lst.injEq, ZO.dct.injEq, seqIx_n, Bool.not_true, Bool.not_false, isE_snoc, and_assoc, or_false, false_or, exists_eq, exists_eq', isT, String.reduceBEq, Bool.and_false, Bool.and_true, Bool.false_and, Bool.true_and, Bool.or_false, Bool.or_true, Bool.true_or, Bool.false_or, natC, natC0, natC1, plain_int, plain_str, plain_non, depth_int, depth_str, depth_non, Nat.zero_le, true_or, or_true, not_true_eq_false, not_false_eq_true, Int.reduceEq, Int.reduceLT, Int.reduceLE, Int.reduceAdd, Int.reduceSub, Nat.reduceEqDiff, decide_true, decide_false]
      exact hM _ _ ⟨_, _, _, rfl, a3⟩
    · simp only [zNext, zBreak, zCont, zDrop, zRet, zRetN, zIfS, zAsg, zAug, zAugS, zDel, zFor, zVar, zC, zOp, zUn, zNil, zCons, zAp, zMt, zB, zTr, zTruth, zAnd, zOr, zNot, zAndV, zOrV, zNotV, zIf, zTup, zLst, zDNew, zBM, zBM0, tyZ, zgName, zgNil, zgCons, zgTup, zgTupT, zgSub, zAdd, zSub, zMul, zMod, zDiv, zPow, zShl, zCmpI, zLt, zLe, zGt, zGe, zEq, zNe, zIs, zIsNot, zIn, zNotIn, zNeg, zEqN, zIsN, scalD, zInN, zIx, zSlice, zPart, zNoPart, zSl, zSet, zIAdd, zGetA, zDelI, zLenA, zListA, zTuple, zInt, zAbs, zMax2, zMin2, zAllL, zAnyL, zSumL, zMaxL, zMinL, zSorted, zAppend, zExtend, zPop, zPopAt, zReverse, zJoin, zStr1, zIsi, tyD, zCall, zLc, zLcL, zYes, ziR1, ziR2, ziR3, ziAny, ziEnum, Keep, zEnd, List.getElem?_cons_zero, List.getElem?_cons_succ, List.set_cons_zero, List.set_cons_succ, Option.some.injEq, D.int.injEq, D.ref.injEq, D.tup.injEq, D.str.injEq, D.bl.injEq, reduceCtorEq, false_and, and_false, true_and, and_true, exists_eq_left, exists_eq_left', exists_and_left, if_true, if_false, Bool.false_eq_true, ite_false, ite_true, List.cons.injEq, wipeZ, zup_same, atI_zero, atI_one, atI_lit, atI_n, ixN_zero, ixN_one, ixN_lit, ixN_n, List.length_cons, List.length_nil, Nat.reduceAdd, Nat.reduceLT, decide_eq_true_eq, List.append_nil, List.nil_append, ZO.lst.injEq, ZO.dct.injEq, seqIx_n, Bool.not_true, Bool.not_false, isE_snoc, and_assoc, or_false, false_or, exists_eq, exists_eq', isT, String.reduceBEq, Bool.and_false, Bool.and_true, Bool.false_and, Bool.true_and, Bool.or_false, Bool.or_true, Bool.true_or, Bool.false_or, natC, natC0, natC1, plain_int, plain_str, plain_non, depth_int, depth_str, depth_non, Nat.zero_le, true_or, or_true, not_true_eq_false, not_false_eq_true, Int.reduceEq, Int.reduceLT, Int.reduceLE, Int.reduceAdd, Int.reduceSub, Nat.reduceEqDiff, decide_true, decide_false, hlt]
      exact hM _ _ ⟨_, _, _, rfl, At.refl hd⟩
  rintro _ S1 ⟨x, y, z, rfl, a1⟩
  have e1 := a1.at hn1 hpp
  have f1 := a1.at hn2 hpa
  refine zseqN (fun δ' S' => S1 = S' ∧ δ' = [some (.ref a), some (.ref pp), some (.ref pa), some (.int l), some (poss as l), x, y, z, none]) (fun M hM => ?_) ?_
  · simp only [zNext, zBreak, zCont, zDrop, zRet, zRetN, zIfS, zAsg, zAug, zAugS, zDel, zFor, zVar, zC, zOp, zUn, zNil, zCons, zAp, zMt, zB, zTr, zTruth, zAnd, zOr, zNot, zAndV, zOrV, zNotV, zIf, zTup, zLst, zDNew, zBM, zBM0, tyZ, zgName, zgNil, zgCons, zgTup, zgTupT, zgSub, zAdd, zSub, zMul, zMod, zDiv, zPow, zShl, zCmpI, zLt, zLe, zGt, zGe, zEq, zNe, zIs, zIsNot, zIn, zNotIn, zNeg, zEqN, zIsN, scalD, zInN, zIx, zSlice, zPart, zNoPart, zSl, zSet, zIAdd, zGetA, zDelI, zLenA, zListA, zTuple, zInt, zAbs, zMax2, zMin2, zAllL, zAnyL, zSumL, zMaxL, zMinL, zSorted, zAppend, zExtend, zPop, zPopAt, zReverse, zJoin, zStr1, zIsi, tyD, zCall, zLc, zLcL, zYes, ziR1, ziR2, ziR3, ziAny, ziEnum, Keep, zEnd, List.getElem?_cons_zero, List.getElem?_cons_succ, List.set_cons_zero, List.set_cons_succ, Option.some.injEq, D.int.injEq, D.ref.injEq, D.tup.injEq, D.str.injEq, D.bl.injEq, reduceCtorEq, false_and, and_false, true_and, and_true, exists_eq_left, exists_eq_left', exists_and_left, if_true, if_false, Bool.false_eq_true, ite_false, ite_true, List.cons.injEq, wipeZ, zup_same, atI_zero, atI_one, atI_lit, atI_n, ixN_zero, ixN_one, ixN_lit, ixN_n, List.length_cons, List.length_nil, Nat.reduceAdd, Nat.reduceLT, decide_eq_true_eq, List.append_nil, List.nil_append, ZO.lst.injEq, ZO.dct.injEq, seqIx_n, Bool.not_true, Bool.not_false, isE_snoc, and_assoc, or_false, false_or, exists_eq, exists_eq', isT, String.reduceBEq, Bool.and_false, Bool.and_true, Bool.false_and, Bool.true_and, Bool.or_false, Bool.or_true, Bool.true_or, Bool.false_or, natC, natC0, natC1, plain_int, plain_str, plain_non, depth_int, depth_str, depth_non, Nat.zero_le, true_or, or_true, not_true_eq_false, not_false_eq_true, Int.reduceEq, Int.reduceLT, Int.reduceLE, Int.reduceAdd, Int.reduceSub, Nat.reduceEqDiff, decide_true, decide_false]
    by_cases hlt : l < 9
    · simp only [zNext, zBreak, zCont, zDrop, zRet, zRetN, zIfS, zAsg, zAug, zAugS, zDel, zFor, zVar, zC, zOp, zUn, zNil, zCons, zAp, zMt, zB, zTr, zTruth, zAnd, zOr, zNot, zAndV, zOrV, zNotV, zIf, zTup, zLst, zDNew, zBM, zBM0, tyZ, zgName, zgNil, zgCons, zgTup, zgTupT, zgSub, zAdd, zSub, zMul, zMod, zDiv, zPow, zShl, zCmpI, zLt, zLe, zGt, zGe, zEq, zNe, zIs, zIsNot, zIn, zNotIn, zNeg, zEqN, zIsN, scalD, zInN, zIx, zSlice, zPart, zNoPart, zSl, zSet, zIAdd, zGetA, zDelI, zLenA, zListA, zTuple, zInt, zAbs, zMax2, zMin2, zAllL, zAnyL, zSumL, zMaxL, zMinL, zSorted, zAppend, zExtend, zPop, zPopAt, zReverse, zJoin, zStr1, zIsi, tyD, zCall, zLc, zLcL, zYes, ziR1, ziR2, ziR3, ziAny, ziEnum, Keep, zEnd, List.getElem?_cons_zero, List.getElem?_cons_succ, List.set_cons_zero, List.set_cons_succ, Option.some.injEq, D.int.injEq, D.ref.injEq, D.tup.injEq, D.str.injEq, D.bl.injEq, reduceCtorEq, false_and, and_false, true_and, and_true, exists_eq_left, exists_eq_left', exists_and_left, if_true, if_false, Bool.false_eq_true, ite_false, ite_true, List.cons.injEq, wipeZ, zup_same, atI_zero, atI_one, atI_lit, atI_n, ixN_zero, ixN_one, ixN_lit, ixN_n, List.length_cons, List.length_nil, Nat.reduceAdd, Nat.reduceLT, decide_eq_true_eq, List.append_nil, List.nil_append, ZO.lst.injEq, ZO.dct.injEq, seqIx_n, Bool.not_true, Bool.not_false, isE_snoc, and_assoc, or_false, false_or, exists_eq, exists_eq', isT, String.reduceBEq, Bool.and_false, Bool.and_true, Bool.false_and, Bool.true_and, Bool.or_false, Bool.or_true, Bool.true_or, Bool.false_or, natC, natC0, natC1, plain_int, plain_str, plain_non, depth_int, depth_str, depth_non, Nat.zero_le, true_or, or_true, not_true_eq_false, not_false_eq_true, Int.reduceEq, Int.reduceLT, Int.reduceLE, Int.reduceAdd, Int.reduceSub, Nat.reduceEqDiff, decide_true, decide_false, hlt]
      refine zseqN (fun δ' S' => S1 = S' ∧ δ' = [some (.ref a), some (.ref pp), some (.ref pa), some (.int l), some (poss as l), x, y, z, none]) (fun M2 hM2 => ?_) ?_
      · simp only [zNext, zBreak, zCont, zDrop, zRet, zRetN, zIfS, zAsg, zAug, zAugS, zDel, zFor, zVar, zC, zOp, zUn, zNil, zCons, zAp, zMt, zB, zTr, zTruth, zAnd, zOr, zNot, zAndV, zOrV, zNotV, zIf, zTup, zLst, zDNew, zBM, zBM0, tyZ, zgName, zgNil, zgCons, zgTup, zgTupT, zgSub, zAdd, zSub, zMul, zMod, zDiv, zPow, zShl, zCmpI, zLt, zLe, zGt, zGe, zEq, zNe, zIs, zIsNot, zIn, zNotIn, zNeg, zEqN, zIsN, scalD, zInN, zIx, zSlice, zPart, zNoPart, zSl, zSet, zIAdd, zGetA, zDelI, zLenA, zListA, zTuple, zInt, zAbs, zMax2, zMin2, zAllL, zAnyL, zSumL, zMaxL, zMinL, zSorted, zAppend, zExtend, zPop, zPopAt, zReverse, zJoin, zStr1, zIsi, tyD, zCall, zLc, zLcL, zYes, ziR1, ziR2, ziR3, ziAny, ziEnum, Keep, zEnd, List.getElem?_cons_zero, List.getElem?_cons_succ, List.set_cons_zero, List.set_cons_succ, Option.some.injEq, D.int.injEq, D.ref.injEq, D.tup.injEq, D.str.injEq, D.bl.injEq, reduceCtorEq, false_and, and_false, true_and, and_true, exists_eq_left, exists_eq_left', exists_and_left, if_true, if_false, Bool.false_eq_true, ite_false, ite_true, List.cons.injEq, wipeZ, zup_same, atI_zero, atI_one, atI_lit, atI_n, ixN_zero, ixN_one, ixN_lit, ixN_n, List.length_cons, List.length_nil, Nat.reduceAdd, Nat.reduceLT, decide_eq_true_eq, List.append_nil, List.nil_append, ZO.lst.injEq, ZO.dct.injEq, seqIx_n, Bool.not_true, Bool.not_false, isE_snoc, and_assoc, or_false, false_or, exists_eq, exists_eq', isT, String.reduceBEq, Bool.and_false, Bool.and_true, Bool.false_and, Bool.true_and, Bool.or_false, Bool.or_true, Bool.true_or, Bool.false_or, natC, natC0, natC1, plain_int, plain_str, plain_non, depth_int, depth_str, depth_non, Nat.zero_le, true_or, or_true, not_true_eq_false, not_false_eq_true, Int.reduceEq, Int.reduceLT, Int.reduceLE, Int.reduceAdd, Int.reduceSub, Nat.reduceEqDiff, decide_true, decide_false]
        refine ⟨pp, pa, ps, _, l + 1, rfl, e1, f1, hps.1, by omega, ha, by omega, ?_⟩
        simp only [zNext, zBreak, zCont, zDrop, zRet, zRetN, zIfS, zAsg, zAug, zAugS, zDel, zFor, zVar, zC, zOp, zUn, zNil, zCons, zAp, zMt, zB, zTr, zTruth, zAnd, zOr, zNot, zAndV, zOrV, zNotV, zIf, zTup, zLst, zDNew, zBM, zBM0, tyZ, zgName, zgNil, zgCons, zgTup, zgTupT, zgSub, zAdd, zSub, zMul, zMod, zDiv, zPow, zShl, zCmpI, zLt, zLe, zGt, zGe, zEq, zNe, zIs, zIsNot, zIn, zNotIn, zNeg, zEqN, zIsN, scalD, zInN, zIx, zSlice, zPart, zNoPart, zSl, zSet, zIAdd, zGetA, zDelI, zLenA, zListA, zTuple, zInt, zAbs, zMax2, zMin2, zAllL, zAnyL, zSumL, zMaxL, zMinL, zSorted, zAppend, zExtend, zPop, zPopAt, zReverse, zJoin, zStr1, zIsi, tyD, zCall, zLc, zLcL, zYes, ziR1, ziR2, ziR3, ziAny, ziEnum, Keep, zEnd, List.getElem?_cons_zero, List.getElem?_cons_succ, List.set_cons_zero, List.set_cons_succ, Option.some.injEq, D.int.injEq, D.ref.injEq, D.tup.injEq, D.str.injEq, D.bl.injEq, reduceCtorEq, false_and, and_false, true_and, and_true, exists_eq_left, exists_eq_left', exists_and_left, if_true, if_false, Bool.false_eq_true, ite_false, ite_true, List.cons.injEq, wipeZ, zup_same, atI_zero, atI_one, atI_lit, atI_n, ixN_zero, ixN_one, ixN_lit, ixN_n, List.length_cons, List.length_nil, Nat.reduceAdd, Nat.reduceLT, decide_eq_true_eq, List.append_nil, List.nil_append, ZO.lst.injEq, ZO.dct.injEq, seqIx_n, Bool.not_true, Bool.not_false, isE_snoc, and_assoc, or_false, false_or, exists_eq, exists_eq', isT, String.reduceBEq, Bool.and_false, Bool.and_true, Bool.false_and, Bool.true_and, Bool.or_false, Bool.or_true, Bool.true_or, Bool.false_or, natC, natC0, natC1, plain_int, plain_str, plain_non, depth_int, depth_str, depth_non, Nat.zero_le, true_or, or_true, not_true_eq_false, not_false_eq_true, Int.reduceEq, Int.reduceLT, Int.reduceLE, Int.reduceAdd, Int.reduceSub, Nat.reduceEqDiff, decide_true, decide_false]
        exact hM2 _ _ ⟨rfl, rfl⟩
      rintro _ _ ⟨rfl, rfl⟩
      simp only [zNext, zBreak, zCont, zDrop, zRet, zRetN, zIfS, zAsg, zAug, zAugS, zDel, zFor, zVar, zC, zOp, zUn, zNil, zCons, zAp, zMt, zB, zTr, zTruth, zAnd, zOr, zNot, zAndV, zOrV, zNotV, zIf, zTup, zLst, zDNew, zBM, zBM0, tyZ, zgName, zgNil, zgCons, zgTup, zgTupT, zgSub, zAdd, zSub, zMul, zMod, zDiv, zPow, zShl, zCmpI, zLt, zLe, zGt, zGe, zEq, zNe, zIs, zIsNot, zIn, zNotIn, zNeg, zEqN, zIsN, scalD, zInN, zIx, zSlice, zPart, zNoPart, zSl, zSet, zIAdd, zGetA, zDelI, zLenA, zListA, zTuple, zInt, zAbs, zMax2, zMin2, zAllL, zAnyL, zSumL, zMaxL, zMinL, zSorted, zAppend, zExtend, zPop, zPopAt, zReverse, zJoin, zStr1, zIsi, tyD, zCall, zLc, zLcL, zYes, ziR1, ziR2, ziR3, ziAny, ziEnum, Keep, zEnd, List.getElem?_cons_zero, List.getElem?_cons_succ, List.set_cons_zero, List.set_cons_succ, Option.some.injEq, D.int.injEq, D.ref.injEq, D.tup.injEq, D.str.injEq, D.bl.injEq, reduceCtorEq, false_and, and_false, true_and, and_true, exists_eq_left, exists_eq_left', exists_and_left, if_true, if_false, Bool.false_eq_true, ite_false, ite_true, List.cons.injEq, wipeZ, zup_same, atI_zero, atI_one, atI_lit, atI_n, ixN_zero, ixN_one, ixN_lit, ixN_n, List.length_cons, List.length_nil, Nat.reduceAdd, Nat.reduceLT, decide_eq_true_eq, List.append_nil, List.nil_append, ZO.lst.injEq, ZO.dct.injEq, seqIx_n, Bool.not_true, Bool.not_false, isE_snoc, and_assoc, or_false, false_or, exists_eq, exists_eq', isT, String.reduceBEq, Bool.and_false, Bool.and_true, Bool.false_and, Bool.true_and, Bool.or_false, Bool.or_true, Bool.true_or, Bool.false_or, natC, natC0, natC1, plain_int, plain_str, plain_non, depth_int, depth_str, depth_non, Nat.zero_le, true_or, or_true, not_true_eq_false, not_false_eq_true, Int.reduceEq, Int.reduceLT, Int.reduceLE, Int.reduceAdd, Int.reduceSub, Nat.reduceEqDiff, decide_true, decide_false]
      refine ⟨.lst pa _, _, .inl ⟨rfl, .inl f1⟩, _, l + 1, rfl, hl1, ha, ?_⟩
      obtain ⟨q1, q2, _, _⟩ := poss_facts (l + 1) ha (by omega)
      refine ⟨_, _, rfl, g1, q1, ?_⟩
      rw [within_liars]
      simp only [zNext, zBreak, zCont, zDrop, zRet, zRetN, zIfS, zAsg, zAug, zAugS, zDel, zFor, zVar, zC, zOp, zUn, zNil, zCons, zAp, zMt, zB, zTr, zTruth, zAnd, zOr, zNot, zAndV, zOrV, zNotV, zIf, zTup, zLst, zDNew, zBM, zBM0, tyZ, zgName, zgNil, zgCons, zgTup, zgTupT, zgSub, zAdd, zSub, zMul, zMod, zDiv, zPow, zShl, zCmpI, zLt, zLe, zGt, zGe, zEq, zNe, zIs, zIsNot, zIn, zNotIn, zNeg, zEqN, zIsN, scalD, zInN, zIx, zSlice, zPart, zNoPart, zSl, zSet, zIAdd, zGetA, zDelI, zLenA, zListA, zTuple, zInt, zAbs, zMax2, zMin2, zAllL, zAnyL, zSumL, zMaxL, zMinL, zSorted, zAppend, zExtend, zPop, zPopAt, zReverse, zJoin, zStr1, zIsi, tyD, zCall, zLc, zLcL, zYes, ziR1, ziR2, ziR3, ziAny, ziEnum, Keep, zEnd, List.getElem?_cons_zero, List.getElem?_cons_succ, List.set_cons_zero, List.set_cons_succ, Option.some.injEq, D.int.injEq, D.ref.injEq, D.tup.injEq, D.str.injEq, D.bl.injEq, reduceCtorEq, false_and, and_false, true_and, and_true, exists_eq_left, exists_eq_left', exists_and_left, if_true, if_false, Bool.false_eq_true, ite_false, ite_true, List.cons.injEq, wipeZ, zup_same, atI_zero, atI_one, atI_lit, atI_n, ixN_zero, ixN_one, ixN_lit, ixN_n, List.length_cons, List.length_nil, Nat.reduceAdd, Nat.reduceLT, decide_eq_true_eq, List.append_nil, List.nil_append, ZO.lst.injEq, ZO.dct.injEq, seqIx_n, Bool.not_true, Bool.not_false, isE_snoc, and_assoc, or_false, false_or, exists_eq, exists_eq', isT, String.reduceBEq, Bool.and_false, Bool.and_true, Bool.false_and, Bool.true_and, Bool.or_false, Bool.or_true, Bool.true_or, Bool.false_or, natC, natC0, natC1, plain_int, plain_str, plain_non, depth_int, depth_str, depth_non, Nat.zero_le, true_or, or_true, not_true_eq_false, not_false_eq_true, Int.reduceEq, Int.reduceLT, Int.reduceLE, Int.reduceAdd, Int.reduceSub, Nat.reduceEqDiff, decide_true, decide_false]
      exact hM _ _ ⟨rfl, rfl⟩
    · simp only [zNext, zBreak, zCont, zDrop, zRet, zRetN, zIfS, zAsg, zAug, zAugS, zDel, zFor, zVar, zC, zOp, zUn, zNil, zCons, zAp, zMt, zB, zTr, zTruth, zAnd, zOr, zNot, zAndV, zOrV, zNotV, zIf, zTup, zLst, zDNew, zBM, zBM0, tyZ, zgName, zgNil, zgCons, zgTup, zgTupT, zgSub, zAdd, zSub, zMul, zMod, zDiv, zPow, zShl, zCmpI, zLt, zLe, zGt, zGe, zEq, zNe, zIs, zIsNot, zIn, zNotIn, zNeg, zEqN, zIsN, scalD, zInN, zIx, zSlice, zPart, zNoPart, zSl, zSet, zIAdd, zGetA, zDelI, zLenA, zListA, zTuple, zInt, zAbs, zMax2, zMin2, zAllL, zAnyL, zSumL, zMaxL, zMinL, zSorted, zAppend, zExtend, zPop, zPopAt, zReverse, zJoin, zStr1, zIsi, tyD, zCall, zLc, zLcL, zYes, ziR1, ziR2, ziR3, ziAny, ziEnum, Keep, zEnd, List.getElem?_cons_zero, List.getElem?_cons_succ, List.set_cons_zero, List.set_cons_succ, Option.some.injEq, D.int.injEq, D.ref.injEq, D.tup.injEq, D.str.injEq, D.bl.injEq, reduceCtorEq, false_and, and_false, true_and, and_true, exists_eq_left, exists_eq_left', exists_and_left, if_true, if_false, Bool.false_eq_true, ite_false, ite_true, List.cons.injEq, wipeZ, zup_same, atI_zero, atI_one, atI_lit, atI_n, ixN_zero, ixN_one, ixN_lit, ixN_n, List.length_cons, List.length_nil, Nat.reduceAdd, Nat.reduceLT, decide_eq_true_eq, List.append_nil, List.nil_append, ZO.lst.injEq, ZO.dct.injEq, seqIx_n, Bool.not_true, Bool.not_false, isE_snoc, and_assoc, or_false, false_or, exists_eq, exists_eq', isT, String.reduceBEq, Bool.and_false, Bool.and_true, Bool.false_and, Bool.true_and, Bool.or_false, Bool.or_true, Bool.true_or, Bool.false_or, natC, natC0, natC1, plain_int, plain_str, plain_non, depth_int, depth_str, depth_non, Nat.zero_le, true_or, or_true, not_true_eq_false, not_false_eq_true, Int.reduceEq, Int.reduceLT, Int.reduceLE, Int.reduceAdd, Int.reduceSub, Nat.reduceEqDiff, decide_true, decide_false, hlt]
      exact hM _ _ ⟨rfl, rfl⟩
  rintro _ _ ⟨rfl, rfl⟩
  refine zseq_go ?_
  simp only [zNext, zBreak, zCont, zDrop, zRet, zRetN, zIfS, zAsg, zAug, zAugS, zDel, zFor, zVar, zC, zOp, zUn, zNil, zCons, zAp, zMt, zB, zTr, zTruth, zAnd, zOr, zNot, zAndV, zOrV, zNotV, zIf, zTup, zLst, zDNew, zBM, zBM0, tyZ, zgName, zgNil, zgCons, zgTup, zgTupT, zgSub, zAdd, zSub, zMul, zMod, zDiv, zPow, zShl, zCmpI, zLt, zLe, zGt, zGe, zEq, zNe, zIs, zIsNot, zIn, zNotIn, zNeg, zEqN, zIsN, scalD, zInN, zIx, zSlice, zPart, zNoPart, zSl, zSet, zIAdd, zGetA, zDelI, zLenA, zListA, zTuple, zInt, zAbs, zMax2, zMin2, zAllL, zAnyL, zSumL, zMaxL, zMinL, zSorted, zAppend, zExtend, zPop, zPopAt, zReverse, zJoin, zStr1, zIsi, tyD, zCall, zLc, zLcL, zYes, ziR1, ziR2, ziR3, ziAny, ziEnum, Keep, zEnd, List.getElem?_cons_zero, List.getElem?_cons_succ, List.set_cons_zero, List.set_cons_succ, Option.some.injEq, D.int.injEq, D.ref.injEq, D.tup.injEq, D.str.injEq, D.bl.injEq, reduceCtorEq, false_and, and_false, true_and, and_true, exists_eq_left, exists_eq_left', exists_and_left, if_true, if_false, Bool.false_eq_true, ite_false, ite_true, List.cons.injEq, wipeZ, zup_same, atI_zero, atI_one, atI_lit, atI_n, ixN_zero, ixN_one, ixN_lit, ixN_n, List.length_cons, List.length_nil, Nat.reduceAdd, Nat.reduceLT, decide_eq_true_eq, List.append_nil, List.nil_append, ZO.lst.injEq, ZO.dct.injEq, seqIx_n, Bool.not_true, Bool.not_false, isE_snoc, and_assoc, or_false, false_or, exists_eq, exists_eq', isT, String.reduceBEq, Bool.and_false, Bool.and_true, Bool.false_and, Bool.true_and, Bool.or_false, Bool.or_true, Bool.true_or, Bool.false_or, natC, natC0, natC1, plain_int, plain_str, plain_non, depth_int, depth_str, depth_non, Nat.zero_le, true_or, or_true, not_true_eq_false, not_false_eq_true, Int.reduceEq, Int.reduceLT, Int.reduceLE, Int.reduceAdd, Int.reduceSub, Nat.reduceEqDiff, decide_true, decide_false]
  refine ⟨a, bn, pa, as, rfl, f1, hn2, a1.2, by omega, fun ys S2 q hperm h2 hq2 => ?_⟩
  have a2 := (a1.draw h2).new hq2 (o := .lst ys)
  have e2 := a2.at hn1 hpp
  have f2 := a2.at hn2 hpa
  have t2 : zup S2 q (.lst ys) q = some (.lst ys) := zup_same
  generalize zup S2 q (.lst ys) = S3 at a2 e2 f2 t2 ⊢
  have hya : ∀ z ∈ ys, isAns z := fun z hz => ha z (hperm.mem_iff.mp hz)
  have hyl : ys.length ≤ 100 := by rw [hperm.length_eq]; exact hal
  obtain ⟨q1, q2, q3⟩ := verd_facts l ha (by omega)
  refine zseqN (fun δ' S' => S3 = S' ∧ δ' = [some (.ref a), some (.ref pp), some (.ref pa), some (.int l), some (poss as l), x, y, z, some (.ref q)]) (fun M hM => ?_) ?_
  · simp only [zNext, zBreak, zCont, zDrop, zRet, zRetN, zIfS, zAsg, zAug, zAugS, zDel, zFor, zVar, zC, zOp, zUn, zNil, zCons, zAp, zMt, zB, zTr, zTruth, zAnd, zOr, zNot, zAndV, zOrV, zNotV, zIf, zTup, zLst, zDNew, zBM, zBM0, tyZ, zgName, zgNil, zgCons, zgTup, zgTupT, zgSub, zAdd, zSub, zMul, zMod, zDiv, zPow, zShl, zCmpI, zLt, zLe, zGt, zGe, zEq, zNe, zIs, zIsNot, zIn, zNotIn, zNeg, zEqN, zIsN, scalD, zInN, zIx, zSlice, zPart, zNoPart, zSl, zSet, zIAdd, zGetA, zDelI, zLenA, zListA, zTuple, zInt, zAbs, zMax2, zMin2, zAllL, zAnyL, zSumL, zMaxL, zMinL, zSorted, zAppend, zExtend, zPop, zPopAt, zReverse, zJoin, zStr1, zIsi, tyD, zCall, zLc, zLcL, zYes, ziR1, ziR2, ziR3, ziAny, ziEnum, Keep, zEnd, List.getElem?_cons_zero, List.getElem?_cons_succ, List.set_cons_zero, List.set_cons_succ, Option.some.injEq, D.int.injEq, D.ref.injEq, D.tup.injEq, D.str.injEq, D.bl.injEq, reduceCtorEq, false_and, and_false, true_and, and_true, exists_eq_left, exists_eq_left', exists_and_left, if_true, if_false, Bool.false_eq_true, ite_false, ite_true, List.cons.injEq, wipeZ, zup_same, atI_zero, atI_one, atI_lit, atI_n, ixN_zero, ixN_one, ixN_lit, ixN_n, List.length_cons, List.length_nil, Nat.reduceAdd, Nat.reduceLT, decide_eq_true_eq, List.append_nil, List.nil_append, ZO.lst.injEq, ZO.dct.injEq, seqIx_n, Bool.not_true, Bool.not_false, isE_snoc, and_assoc, or_false, false_or, exists_eq, exists_eq', isT, String.reduceBEq, Bool.and_false, Bool.and_true, Bool.false_and, Bool.true_and, Bool.or_false, Bool.or_true, Bool.true_or, Bool.false_or, natC, natC0, natC1, plain_int, plain_str, plain_non, depth_int, depth_str, depth_non, Nat.zero_le, true_or, or_true, not_true_eq_false, not_false_eq_true, Int.reduceEq, Int.reduceLT, Int.reduceLE, Int.reduceAdd, Int.reduceSub, Nat.reduceEqDiff, decide_true, decide_false]
    refine ⟨pp, q, ps, ys, l, rfl, e2, t2, hps.1, by omega, hya, by omega, ?_⟩
    simp only [zNext, zBreak, zCont, zDrop, zRet, zRetN, zIfS, zAsg, zAug, zAugS, zDel, zFor, zVar, zC, zOp, zUn, zNil, zCons, zAp, zMt, zB, zTr, zTruth, zAnd, zOr, zNot, zAndV, zOrV, zNotV, zIf, zTup, zLst, zDNew, zBM, zBM0, tyZ, zgName, zgNil, zgCons, zgTup, zgTupT, zgSub, zAdd, zSub, zMul, zMod, zDiv, zPow, zShl, zCmpI, zLt, zLe, zGt, zGe, zEq, zNe, zIs, zIsNot, zIn, zNotIn, zNeg, zEqN, zIsN, scalD, zInN, zIx, zSlice, zPart, zNoPart, zSl, zSet, zIAdd, zGetA, zDelI, zLenA, zListA, zTuple, zInt, zAbs, zMax2, zMin2, zAllL, zAnyL, zSumL, zMaxL, zMinL, zSorted, zAppend, zExtend, zPop, zPopAt, zReverse, zJoin, zStr1, zIsi, tyD, zCall, zLc, zLcL, zYes, ziR1, ziR2, ziR3, ziAny, ziEnum, Keep, zEnd, List.getElem?_cons_zero, List.getElem?_cons_succ, List.set_cons_zero, List.set_cons_succ, Option.some.injEq, D.int.injEq, D.ref.injEq, D.tup.injEq, D.str.injEq, D.bl.injEq, reduceCtorEq, false_and, and_false, true_and, and_true, exists_eq_left, exists_eq_left', exists_and_left, if_true, if_false, Bool.false_eq_true, ite_false, ite_true, List.cons.injEq, wipeZ, zup_same, atI_zero, atI_one, atI_lit, atI_n, ixN_zero, ixN_one, ixN_lit, ixN_n, List.length_cons, List.length_nil, Nat.reduceAdd, Nat.reduceLT, decide_eq_true_eq, List.append_nil, List.nil_append, ZO.lst.injEq, ZO.dct.injEq, seqIx_n, Bool.not_true, Bool.not_false, isE_snoc, and_assoc, or_false, false_or, exists_eq, exists_eq', isT, String.reduceBEq, Bool.and_false, Bool.and_true, Bool.false_and, Bool.true_and, Bool.or_false, Bool.or_true, Bool.true_or, Bool.false_or, natC, natC0, natC1, plain_int, plain_str, plain_non, depth_int, depth_str, depth_non, Nat.zero_le, true_or, or_true, not_true_eq_false, not_false_eq_true, Int.reduceEq, Int.reduceLT, Int.reduceLE, Int.reduceAdd, Int.reduceSub, Nat.reduceEqDiff, decide_true, decide_false]
    refine ⟨.lst q _, _, .inl ⟨rfl, .inl t2⟩, _, l, rfl, by omega, hya, ?_⟩
    simp only [zNext, zBreak, zCont, zDrop, zRet, zRetN, zIfS, zAsg, zAug, zAugS, zDel, zFor, zVar, zC, zOp, zUn, zNil, zCons, zAp, zMt, zB, zTr, zTruth, zAnd, zOr, zNot, zAndV, zOrV, zNotV, zIf, zTup, zLst, zDNew, zBM, zBM0, tyZ, zgName, zgNil, zgCons, zgTup, zgTupT, zgSub, zAdd, zSub, zMul, zMod, zDiv, zPow, zShl, zCmpI, zLt, zLe, zGt, zGe, zEq, zNe, zIs, zIsNot, zIn, zNotIn, zNeg, zEqN, zIsN, scalD, zInN, zIx, zSlice, zPart, zNoPart, zSl, zSet, zIAdd, zGetA, zDelI, zLenA, zListA, zTuple, zInt, zAbs, zMax2, zMin2, zAllL, zAnyL, zSumL, zMaxL, zMinL, zSorted, zAppend, zExtend, zPop, zPopAt, zReverse, zJoin, zStr1, zIsi, tyD, zCall, zLc, zLcL, zYes, ziR1, ziR2, ziR3, ziAny, ziEnum, Keep, zEnd, List.getElem?_cons_zero, List.getElem?_cons_succ, List.set_cons_zero, List.set_cons_succ, Option.some.injEq, D.int.injEq, D.ref.injEq, D.tup.injEq, D.str.injEq, D.bl.injEq, reduceCtorEq, false_and, and_false, true_and, and_true, exists_eq_left, exists_eq_left', exists_and_left, if_true, if_false, Bool.false_eq_true, ite_false, ite_true, List.cons.injEq, wipeZ, zup_same, atI_zero, atI_one, atI_lit, atI_n, ixN_zero, ixN_one, ixN_lit, ixN_n, List.length_cons, List.length_nil, Nat.reduceAdd, Nat.reduceLT, decide_eq_true_eq, List.append_nil, List.nil_append, ZO.lst.injEq, ZO.dct.injEq, seqIx_n, Bool.not_true, Bool.not_false, isE_snoc, and_assoc, or_false, false_or, exists_eq, exists_eq', isT, String.reduceBEq, Bool.and_false, Bool.and_true, Bool.false_and, Bool.true_and, Bool.or_false, Bool.or_true, Bool.true_or, Bool.false_or, natC, natC0, natC1, plain_int, plain_str, plain_non, depth_int, depth_str, depth_non, Nat.zero_le, true_or, or_true, not_true_eq_false, not_false_eq_true, Int.reduceEq, Int.reduceLT, Int.reduceLE, Int.reduceAdd, Int.reduceSub, Nat.reduceEqDiff, decide_true, decide_false]
    refine ⟨.lst pa _, _, .inl ⟨rfl, .inl f2⟩, _, l, rfl, by omega, ha, ?_⟩
    rw [verd_perm l hperm hya]
    refine ⟨.inl ⟨q1, q1, .inl (by omega)⟩, ?_⟩
    simp only [zNext, zBreak, zCont, zDrop, zRet, zRetN, zIfS, zAsg, zAug, zAugS, zDel, zFor, zVar, zC, zOp, zUn, zNil, zCons, zAp, zMt, zB, zTr, zTruth, zAnd, zOr, zNot, zAndV, zOrV, zNotV, zIf, zTup, zLst, zDNew, zBM, zBM0, tyZ, zgName, zgNil, zgCons, zgTup, zgTupT, zgSub, zAdd, zSub, zMul, zMod, zDiv, zPow, zShl, zCmpI, zLt, zLe, zGt, zGe, zEq, zNe, zIs, zIsNot, zIn, zNotIn, zNeg, zEqN, zIsN, scalD, zInN, zIx, zSlice, zPart, zNoPart, zSl, zSet, zIAdd, zGetA, zDelI, zLenA, zListA, zTuple, zInt, zAbs, zMax2, zMin2, zAllL, zAnyL, zSumL, zMaxL, zMinL, zSorted, zAppend, zExtend, zPop, zPopAt, zReverse, zJoin, zStr1, zIsi, tyD, zCall, zLc, zLcL, zYes, ziR1, ziR2, ziR3, ziAny, ziEnum, Keep, zEnd, List.getElem?_cons_zero, List.getElem?_cons_succ, List.set_cons_zero, List.set_cons_succ, Option.some.injEq, D.int.injEq, D.ref.injEq, D.tup.injEq, D.str.injEq, D.bl.injEq, reduceCtorEq, false_and, and_false, true_and, and_true, exists_eq_left, exists_eq_left', exists_and_left, if_true, if_false, Bool.false_eq_true, ite_false, ite_true, List.cons.injEq, wipeZ, zup_same, atI_zero, atI_one, atI_lit, atI_n, ixN_zero, ixN_one, ixN_lit, ixN_n, List.length_cons, List.length_nil, Nat.reduceAdd, Nat.reduceLT, decide_eq_true_eq, List.append_nil, List.nil_append, ZO.lst.injEq, ZO.dct.injEq, seqIx_n, Bool.not_true, Bool.not_false, isE_snoc, and_assoc, or_false, false_or, exists_eq, exists_eq', isT, String.reduceBEq, Bool.and_false, Bool.and_true, Bool.false_and, Bool.true_and, Bool.or_false, Bool.or_true, Bool.true_or, Bool.false_or, natC, natC0, natC1, plain_int, plain_str, plain_non, depth_int, depth_str, depth_non, Nat.zero_le, true_or, or_true, not_true_eq_false, not_false_eq_true, Int.reduceEq, Int.reduceLT, Int.reduceLE, Int.reduceAdd, Int.reduceSub, Nat.reduceEqDiff, decide_true, decide_false]
    exact hM _ _ ⟨rfl, rfl⟩
  rintro _ _ ⟨rfl, rfl⟩
  simp only [zNext, zBreak, zCont, zDrop, zRet, zRetN, zIfS, zAsg, zAug, zAugS, zDel, zFor, zVar, zC, zOp, zUn, zNil, zCons, zAp, zMt, zB, zTr, zTruth, zAnd, zOr, zNot, zAndV, zOrV, zNotV, zIf, zTup, zLst, zDNew, zBM, zBM0, tyZ, zgName, zgNil, zgCons, zgTup, zgTupT, zgSub, zAdd, zSub, zMul, zMod, zDiv, zPow, zShl, zCmpI, zLt, zLe, zGt, zGe, zEq, zNe, zIs, zIsNot, zIn, zNotIn, zNeg, zEqN, zIsN, scalD, zInN, zIx, zSlice, zPart, zNoPart, zSl, zSet, zIAdd, zGetA, zDelI, zLenA, zListA, zTuple, zInt, zAbs, zMax2, zMin2, zAllL, zAnyL, zSumL, zMaxL, zMinL, zSorted, zAppend, zExtend, zPop, zPopAt, zReverse, zJoin, zStr1, zIsi, tyD, zCall, zLc, zLcL, zYes, ziR1, ziR2, ziR3, ziAny, ziEnum, Keep, zEnd, List.getElem?_cons_zero, List.getElem?_cons_succ, List.set_cons_zero, List.set_cons_succ, Option.some.injEq, D.int.injEq, D.ref.injEq, D.tup.injEq, D.str.injEq, D.bl.injEq, reduceCtorEq, false_and, and_false, true_and, and_true, exists_eq_left, exists_eq_left', exists_and_left, if_true, if_false, Bool.false_eq_true, ite_false, ite_true, List.cons.injEq, wipeZ, zup_same, atI_zero, atI_one, atI_lit, atI_n, ixN_zero, ixN_one, ixN_lit, ixN_n, List.length_cons, List.length_nil, Nat.reduceAdd, Nat.reduceLT, decide_eq_true_eq, List.append_nil, List.nil_append, ZO.lst.injEq, ZO.dct.injEq, seqIx_n, Bool.not_true, Bool.not_false, isE_snoc, and_assoc, or_false, false_or, exists_eq, exists_eq', isT, String.reduceBEq, Bool.and_false, Bool.and_true, Bool.false_and, Bool.true_and, Bool.or_false, Bool.or_true, Bool.true_or, Bool.false_or, natC, natC0, natC1, plain_int, plain_str, plain_non, depth_int, depth_str, depth_non, Nat.zero_le, true_or, or_true, not_true_eq_false, not_false_eq_true, Int.reduceEq, Int.reduceLT, Int.reduceLE, Int.reduceAdd, Int.reduceSub, Nat.reduceEqDiff, decide_true, decide_false]
  refine ⟨.lst q _, _, .inl ⟨rfl, .inl t2⟩, _, l, rfl, by omega, hya, ?_⟩
  rw [poss_perm l hperm hya]
  refine ⟨.inl ⟨g2, g2, .inl (by omega)⟩, ?_⟩
  simp only [zNext, zBreak, zCont, zDrop, zRet, zRetN, zIfS, zAsg, zAug, zAugS, zDel, zFor, zVar, zC, zOp, zUn, zNil, zCons, zAp, zMt, zB, zTr, zTruth, zAnd, zOr, zNot, zAndV, zOrV, zNotV, zIf, zTup, zLst, zDNew, zBM, zBM0, tyZ, zgName, zgNil, zgCons, zgTup, zgTupT, zgSub, zAdd, zSub, zMul, zMod, zDiv, zPow, zShl, zCmpI, zLt, zLe, zGt, zGe, zEq, zNe, zIs, zIsNot, zIn, zNotIn, zNeg, zEqN, zIsN, scalD, zInN, zIx, zSlice, zPart, zNoPart, zSl, zSet, zIAdd, zGetA, zDelI, zLenA, zListA, zTuple, zInt, zAbs, zMax2, zMin2, zAllL, zAnyL, zSumL, zMaxL, zMinL, zSorted, zAppend, zExtend, zPop, zPopAt, zReverse, zJoin, zStr1, zIsi, tyD, zCall, zLc, zLcL, zYes, ziR1, ziR2, ziR3, ziAny, ziEnum, Keep, zEnd, List.getElem?_cons_zero, List.getElem?_cons_succ, List.set_cons_zero, List.set_cons_succ, Option.some.injEq, D.int.injEq, D.ref.injEq, D.tup.injEq, D.str.injEq, D.bl.injEq, reduceCtorEq, false_and, and_false, true_and, and_true, exists_eq_left, exists_eq_left', exists_and_left, if_true, if_false, Bool.false_eq_true, ite_false, ite_true, List.cons.injEq, wipeZ, zup_same, atI_zero, atI_one, atI_lit, atI_n, ixN_zero, ixN_one, ixN_lit, ixN_n, List.length_cons, List.length_nil, Nat.reduceAdd, Nat.reduceLT, decide_eq_true_eq, List.append_nil, List.nil_append, ZO.lst.injEq, ZO.dct.injEq, seqIx_n, Bool.not_true, Bool.not_false, isE_snoc, and_assoc, or_false, false_or, exists_eq, exists_eq', isT, String.reduceBEq, Bool.and_false, Bool.and_true, Bool.false_and, Bool.true_and, Bool.or_false, Bool.or_true, Bool.true_or, Bool.false_or, natC, natC0, natC1, plain_int, plain_str, plain_non, depth_int, depth_str, depth_non, Nat.zero_le, true_or, or_true, not_true_eq_false, not_false_eq_true, Int.reduceEq, Int.reduceLT, Int.reduceLE, Int.reduceAdd, Int.reduceSub, Nat.reduceEqDiff, decide_true, decide_false]
  exact a2.ret hd hq
end K70
namespace K70
open PySem PySem.Spec PyProof.Rows L2 Z ZH
/-! ### law -/
theorem said_all {as : List D} (h : ∀ x ∈ as, isStep x) : said as = as := by
  unfold said
  rw [List.filter_eq_self]
  intro x hx
  simp [(h x hx).facts.2.2.2.2.1]
theorem verd_nine {p : D} (h : isStep p) : verd (List.replicate 9 [p]).flatten 8 = .tup [.str "sure", p] := by
  have e : (List.replicate 9 [p]).flatten = [p, p, p, p, p, p, p, p, p] := rfl
  have hs : said [p, p, p, p, p, p, p, p, p] = [p, p, p, p, p, p, p, p, p] := said_all (by simp [h])
  have hc : cand [p, p, p, p, p, p, p, p, p] 8 = [p] := by simp [cand, keep, addK]
  have hp : poss [p, p, p, p, p, p, p, p, p] 8 = .tup [p] := by
    unfold poss
    rw [hs, hc]
    rw [if_neg (by simp)]
    simp [zsort]
  rw [e]
  unfold verd
  rw [hp]
theorem verd_two {p q : D} (hp : isStep p) (hq : isStep q) (hne : p ≠ q) : verd [p, p, q, q] 2 = .tup [.str "open"] := by
  have hs : said [p, p, q, q] = [p, p, q, q] := said_all (by simp [hp, hq])
  have hc : cand [p, p, q, q] 2 = [p, q] := by simp [cand, keep, addK, hne, Ne.symm hne]
  have hl : (zsort [p, q]).length = 2 := by rw [zsort_len]; rfl
  have hps : poss [p, p, q, q] 2 = .tup (zsort [p, q]) := by
    unfold poss
    rw [hs, hc]
    rw [if_neg (by simp)]
  unfold verd
  rw [hps]
  match zsort [p, q], hl with
  | [x, y], _ => rfl
def Fst (a pr : Addr) (S : Store) (rs : List D) : Prop := ∃ t pp pa rr ps as l, rs = .ref t :: rr ∧ S t = some (.lst [.ref pp, .ref pa, .int l]) ∧ S pp = some (.lst ps) ∧ S pa = some (.lst as) ∧ goodPool ps ∧ goodRow as ∧ (t ≠ a ∧ t ≠ pr) ∧ (pp ≠ a ∧ pp ≠ pr) ∧ pa ≠ a ∧ pa ≠ pr
theorem Fst.stay {a pr : Addr} {S S' : Store} {rs : List D} (h : Fst a pr S rs) (hs : ∀ c z, c ≠ a → c ≠ pr → S c = some z → S' c = some z) (r2 : List D) : Fst a pr S' (rs ++ r2) := by
  obtain ⟨t, pp, pa, rr, ps, as, l, rfl, e1, e2, e3, g1, g2, n1, n2, n3⟩ := h
  exact ⟨t, pp, pa, rr ++ r2, ps, as, l, rfl, hs _ _ n1.1 n1.2 e1, hs _ _ n2.1 n2.2 e2, hs _ _ n3.1 n3.2 e3, g1, g2, n1, n2, n3⟩
def sp_law (K : PySem.W.Frag) : ZSp := fun ds S Q => ∃ (p : Addr) (ns : List Int) (src : Src), ds = [.ref p] ∧ ZSrc K (.ref p) S src (ns.map D.int) ∧ Keep src S ∧ ns.length ≤ 1000 ∧ ∀ S1, Q (.bl true) S1
def z_law (K : PySem.W.Frag) : ZTS :=
  (zSeq (zAsg (zCall (sp__law_begin K) [] (zCons (zVar 0) zNil)) (zgName 1))
    (zSeq (zAsg (zLst zNil) (zgName 2))
    (zSeq (zFor (ziR1 (zCons (zC (.int 3)) zNil)) (zgName 3) (zSeq (zAsg (zCall (sp__law_pool K) [] (zCons (zVar 1) zNil)) (zgName 4))
    (zSeq (zAsg (zCall (sp__law_row_of K) [] (zCons (zVar 1) (zCons (zVar 4) zNil))) (zgTup 2 (zgCons (zgName 5) (zgCons (zgName 6) zgNil))))
    (zSeq (zDrop (zBM "list" zAppend (zVar 2) (zCons (zLst (zCons (zVar 4) (zCons (zVar 5) (zCons (zVar 6) zNil)))) zNil)))
    (zIfS (zOr (zNot (zTruth (zCall (sp__law_row_told K) [] (zCons (zVar 4) (zCons (zVar 5) (zCons (zVar 6) zNil)))))) (zNot (zTruth (zCall (sp__law_changes_told K) [] (zCons (zVar 1) (zCons (zVar 4) (zCons (zVar 5) (zCons (zVar 6) zNil)))))))) (zRet (zC (.bl false))) zNext)))))
    (zSeq (zAsg (zOp zIx (zVar 2) (zC (.int 0))) (zgTup 3 (zgCons (zgName 4) (zgCons (zgName 5) (zgCons (zgName 6) zgNil)))))
    (zSeq (zIfS (zNot (zTruth (zCall (sp__law_same K) [] (zCons (zCall (sp_trusted K) [] (zCons (zAp (zTuple K) (zCons (zOp zMul (zLst (zCons (zOp zIx (zVar 4) (zC (.int 0))) zNil)) (zC (.int 9))) zNil)) (zCons (zC (.int 8)) zNil))) (zCons (zTup (zCons (zC (.str "sure")) (zCons (zOp zIx (zVar 4) (zC (.int 0))) zNil))) zNil))))) (zRet (zC (.bl false))) zNext)
    (zSeq (zIfS (zNot (zTruth (zCall (sp__law_same K) [] (zCons (zCall (sp_trusted K) [] (zCons (zTup (zCons (zOp zIx (zVar 4) (zC (.int 0))) (zCons (zOp zIx (zVar 4) (zC (.int 0))) (zCons (zOp zIx (zVar 4) (zC (.int 1))) (zCons (zOp zIx (zVar 4) (zC (.int 1))) zNil))))) (zCons (zC (.int 2)) zNil))) (zCons (zTup (zCons (zC (.str "open")) zNil)) zNil))))) (zRet (zC (.bl false))) zNext)
    (zRet (zCall (sp__law_row_told K) [] (zCons (zVar 4) (zCons (zVar 5) (zCons (zVar 6) zNil)))))))))))

theorem law_law {K : PySem.W.Frag} (ds : List D) (S : Store) (Q : ZK) (h : sp_law K ds S Q) : z_law K (zEnd Q) (zstart ["script", "d", "rows", "turn", "pool", "answers", "liars"] ds) S := by
  obtain ⟨p, ns, src, rfl, hs, hk, hl, hq⟩ := h
  show z_law K (zEnd Q) [some (.ref p), none, none, none, none, none, none] S
  unfold z_law
  have h1s : 1 ≤ sizeLine := by decide
  have h2s : 2 ≤ sizeLine := by decide
  have h3s : 3 ≤ sizeLine := by decide
  have h4s : 4 ≤ sizeLine := by decide
  have ret : ∀ S' : Store, ∃ S1, Z.Sub S1 S' ∧ Q (.bl true) S1 := fun S' => ⟨S', Sub.refl, hq _⟩
  refine zseqN (fun δ' S' => ∃ a bn, δ' = [some (.ref p), some (.ref a), none, none, none, none, none] ∧ Dr S' a bn) (fun M hM => ?_) ?_
  · simp only [zNext, zBreak, zCont, zDrop, zRet, zRetN, zIfS, zAsg, zAug, zAugS, zDel, zFor, zVar, zC, zOp, zUn, zNil, zCons, zAp, zMt, zB, zTr, zTruth, zAnd, zOr, zNot, zAndV, zOrV, zNotV, zIf, zTup, zLst, zDNew, zBM, zBM0, tyZ, zgName, zgNil, zgCons, zgTup, zgTupT, zgSub, zAdd, zSub, zMul, zMod, zDiv, zPow, zShl, zCmpI, zLt, zLe, zGt, zGe, zEq, zNe, zIs, zIsNot, zIn, zNotIn, zNeg, zEqN, zIsN, scalD, zInN, zIx, zSlice, zPart, zNoPart, zSl, zSet, zIAdd, zGetA, zDelI, zLenA, zListA, zTuple, zInt, zAbs, zMax2, zMin2, zAllL, zAnyL, zSumL, zMaxL, zMinL, zSorted, zAppend, zExtend, zPop, zPopAt, zReverse, zJoin, zStr1, zIsi, tyD, zCall, zLc, zLcL, zYes, ziR1, ziR2, ziR3, ziAny, ziEnum, Keep, zEnd, List.getElem?_cons_zero, List.getElem?_cons_succ, List.set_cons_zero, List.set_cons_succ, Option.some.injEq, D.int.injEq, D.ref.injEq, D.tup.injEq, D.str.injEq, D.bl.injEq, reduceCtorEq, false_and, and_false, true_and, and_true, exists_eq_left, exists_eq_left', exists_and_left, if_true, if_false, Bool.false_eq_true, ite_false, ite_true, List.cons.injEq, wipeZ, zup_same, atI_zero, atI_one, atI_lit, atI_n, ixN_zero, ixN_one, ixN_lit, ixN_n, List.length_cons, List.length_nil, Nat.reduceAdd, Nat.reduceLT, decide_eq_true_eq, List.append_nil, List.nil_append, ZO.lst.injEq, ZO.dct.injEq, seqIx_n, Bool.not_true, Bool.not_false, isE_snoc, and_assoc, or_false, false_or, exists_eq, exists_eq', isT, String.reduceBEq, Bool.and_false, Bool.and_true, Bool.false_and, Bool.true_and, Bool.or_false, Bool.or_true, Bool.true_or, Bool.false_or, natC, natC0, natC1, plain_int, plain_str, plain_non, depth_int, depth_str, depth_non, Nat.zero_le, true_or, or_true, not_true_eq_false, not_false_eq_true, Int.reduceEq, Int.reduceLT, Int.reduceLE, Int.reduceAdd, Int.reduceSub, Nat.reduceEqDiff, decide_true, decide_false]
    refine ⟨p, ns, src, rfl, hs, hk, hl, fun a b ha hb hne => ?_⟩
    exact hM _ _ ⟨a, (b, ns), rfl, 0, 0, 7, zup_same, by rw [zup_ne hne]; exact zup_same, hne⟩
  rintro _ S1 ⟨a, bn, rfl, hd⟩
  refine zseqN (fun δ' S' => ∃ pr, δ' = [some (.ref p), some (.ref a), some (.ref pr), none, none, none, none] ∧ Dr S' a bn ∧ pr ≠ a ∧ pr ≠ bn.1 ∧ S' pr = some (.lst [])) (fun M hM => ?_) ?_
  · simp only [zNext, zBreak, zCont, zDrop, zRet, zRetN, zIfS, zAsg, zAug, zAugS, zDel, zFor, zVar, zC, zOp, zUn, zNil, zCons, zAp, zMt, zB, zTr, zTruth, zAnd, zOr, zNot, zAndV, zOrV, zNotV, zIf, zTup, zLst, zDNew, zBM, zBM0, tyZ, zgName, zgNil, zgCons, zgTup, zgTupT, zgSub, zAdd, zSub, zMul, zMod, zDiv, zPow, zShl, zCmpI, zLt, zLe, zGt, zGe, zEq, zNe, zIs, zIsNot, zIn, zNotIn, zNeg, zEqN, zIsN, scalD, zInN, zIx, zSlice, zPart, zNoPart, zSl, zSet, zIAdd, zGetA, zDelI, zLenA, zListA, zTuple, zInt, zAbs, zMax2, zMin2, zAllL, zAnyL, zSumL, zMaxL, zMinL, zSorted, zAppend, zExtend, zPop, zPopAt, zReverse, zJoin, zStr1, zIsi, tyD, zCall, zLc, zLcL, zYes, ziR1, ziR2, ziR3, ziAny, ziEnum, Keep, zEnd, List.getElem?_cons_zero, List.getElem?_cons_succ, List.set_cons_zero, List.set_cons_succ, Option.some.injEq, D.int.injEq, D.ref.injEq, D.tup.injEq, D.str.injEq, D.bl.injEq, reduceCtorEq, false_and, and_false, true_and, and_true, exists_eq_left, exists_eq_left', exists_and_left, if_true, if_false, Bool.false_eq_true, ite_false, ite_true, List.cons.injEq, wipeZ, zup_same, atI_zero, atI_one, atI_lit, atI_n, ixN_zero, ixN_one, ixN_lit, ixN_n, List.length_cons, List.length_nil, Nat.reduceAdd, Nat.reduceLT, decide_eq_true_eq, List.append_nil, List.nil_append, ZO.lst.injEq, ZO.dct.injEq, seqIx_n, Bool.not_true, Bool.not_false, isE_snoc, and_assoc, or_false, false_or, exists_eq, exists_eq', isT, String.reduceBEq, Bool.and_false, Bool.and_true, Bool.false_and, Bool.true_and, Bool.or_false, Bool.or_true, Bool.true_or, Bool.false_or, natC, natC0, natC1, plain_int, plain_str, plain_non, depth_int, depth_str, depth_non, Nat.zero_le, true_or, or_true, not_true_eq_false, not_false_eq_true, Int.reduceEq, Int.reduceLT, Int.reduceLE, Int.reduceAdd, Int.reduceSub, Nat.reduceEqDiff, decide_true, decide_false]
    intro pr hpr
    exact hM _ _ ⟨pr, rfl, ((At.refl hd).new hpr).2, hd.ne hpr, fun e => hd.some.2 (by rw [← e]; exact hpr), zup_same⟩
  rintro _ S2 ⟨pr, rfl, hd2, hpa, hpb, e2⟩
  refine zseqN (fun δ' S' => (∃ x1 x2 x3 x4, δ' = [some (.ref p), some (.ref a), some (.ref pr), x1, x2, x3, x4]) ∧ Dr S' a bn ∧ ∃ rs, S' pr = some (.lst rs) ∧ Fst a pr S' rs) (fun M hM => ?_) ?_
  · simp only [zNext, zBreak, zCont, zDrop, zRet, zRetN, zIfS, zAsg, zAug, zAugS, zDel, zFor, zVar, zC, zOp, zUn, zNil, zCons, zAp, zMt, zB, zTr, zTruth, zAnd, zOr, zNot, zAndV, zOrV, zNotV, zIf, zTup, zLst, zDNew, zBM, zBM0, tyZ, zgName, zgNil, zgCons, zgTup, zgTupT, zgSub, zAdd, zSub, zMul, zMod, zDiv, zPow, zShl, zCmpI, zLt, zLe, zGt, zGe, zEq, zNe, zIs, zIsNot, zIn, zNotIn, zNeg, zEqN, zIsN, scalD, zInN, zIx, zSlice, zPart, zNoPart, zSl, zSet, zIAdd, zGetA, zDelI, zLenA, zListA, zTuple, zInt, zAbs, zMax2, zMin2, zAllL, zAnyL, zSumL, zMaxL, zMinL, zSorted, zAppend, zExtend, zPop, zPopAt, zReverse, zJoin, zStr1, zIsi, tyD, zCall, zLc, zLcL, zYes, ziR1, ziR2, ziR3, ziAny, ziEnum, Keep, zEnd, List.getElem?_cons_zero, List.getElem?_cons_succ, List.set_cons_zero, List.set_cons_succ, Option.some.injEq, D.int.injEq, D.ref.injEq, D.tup.injEq, D.str.injEq, D.bl.injEq, reduceCtorEq, false_and, and_false, true_and, and_true, exists_eq_left, exists_eq_left', exists_and_left, if_true, if_false, Bool.false_eq_true, ite_false, ite_true, List.cons.injEq, wipeZ, zup_same, atI_zero, atI_one, atI_lit, atI_n, ixN_zero, ixN_one, ixN_lit, ixN_n, List.length_cons, List.length_nil, Nat.reduceAdd, Nat.reduceLT, decide_eq_true_eq, List.append_nil, List.nil_append, ZO.lst.injEq, ZO.dct.injEq, seqIx_n, Bool.not_true, Bool.not_false, isE_snoc, and_assoc, or_false, false_or, exists_eq, exists_eq', isT, String.reduceBEq, Bool.and_false, Bool.and_true, Bool.false_and, Bool.true_and, Bool.or_false, Bool.or_true, Bool.true_or, Bool.false_or, natC, natC0, natC1, plain_int, plain_str, plain_non, depth_int, depth_str, depth_non, Nat.zero_le, true_or, or_true, not_true_eq_false, not_false_eq_true, Int.reduceEq, Int.reduceLT, Int.reduceLE, Int.reduceAdd, Int.reduceSub, Nat.reduceEqDiff, decide_true, decide_false]
    refine ⟨by omega, by omega, ?_⟩
    have hrl : (rangeD 0 (3 : Int).toNat).length = 3 := by rw [rangeD_len]; rfl
    generalize rangeD 0 (3 : Int).toNat = rg at hrl ⊢
    refine zloop (fun rest δ' S' => (∃ x1 x2 x3 x4, δ' = [some (.ref p), some (.ref a), some (.ref pr), x1, x2, x3, x4]) ∧ Dr S' a bn ∧ ∃ rs, S' pr = some (.lst rs) ∧ rs.length + rest.length ≤ 3 ∧ (rest.length = 3 ∧ rs = [] ∨ Fst a pr S' rs)) ?_ ?_ _ _ _ ?_
    · rintro δ' S' ⟨hx, hd', rs, e, _, h⟩
      rcases h with ⟨h, _⟩ | h
      · simp at h
      · exact hM _ _ ⟨hx, hd', rs, e, h⟩
    · rintro d r δ' S' N ⟨⟨x1, x2, x3, x4, rfl⟩, hd', rs, e, hlen, h⟩ hN
      simp only [List.length_cons] at hlen h
      refine zseqN (fun δ'' S'' => ∃ pp ps, δ'' = [some (.ref p), some (.ref a), some (.ref pr), some d, some (.ref pp), x3, x4] ∧ At S' a bn S'' ∧ S' pp = none ∧ S'' pp = some (.lst ps) ∧ goodPool ps) (fun M2 hM2 => ?_) ?_
      · simp only [zNext, zBreak, zCont, zDrop, zRet, zRetN, zIfS, zAsg, zAug, zAugS, zDel, zFor, zVar, zC, zOp, zUn, zNil, zCons, zAp, zMt, zB, zTr, zTruth, zAnd, zOr, zNot, zAndV, zOrV, zNotV, zIf, zTup, zLst, zDNew, zBM, zBM0, tyZ, zgName, zgNil, zgCons, zgTup, zgTupT, zgSub, zAdd, zSub, zMul, zMod, zDiv, zPow, zShl, zCmpI, zLt, zLe, zGt, zGe, zEq, zNe, zIs, zIsNot, zIn, zNotIn, zNeg, zEqN, zIsN, scalD, zInN, zIx, zSlice, zPart, zNoPart, zSl, zSet, zIAdd, zGetA, zDelI, zLenA, zListA, zTuple, zInt, zAbs, zMax2, zMin2, zAllL, zAnyL, zSumL, zMaxL, zMinL, zSorted, zAppend, zExtend, zPop, zPopAt, zReverse, zJoin, zStr1, zIsi, tyD, zCall, zLc, zLcL, zYes, ziR1, ziR2, ziR3, ziAny, ziEnum, Keep, zEnd, List.getElem?_cons_zero, List.getElem?_cons_succ, List.set_cons_zero, List.set_cons_succ, Option.some.injEq, D.int.injEq, D.ref.injEq, D.tup.injEq, D.str.injEq, D.bl.injEq, reduceCtorEq, false_and, and_false, true_and, and_true, exists_eq_left, exists_eq_left', exists_and_left, if_true, if_false, Bool.false_eq_true, ite_false, ite_true, List.cons.injEq, wipeZ, zup_same, atI_zero, atI_one, atI_lit, atI_n, ixN_zero, ixN_one, ixN_lit, ixN_n, List.length_cons, List.length_nil, Nat.reduceAdd, Nat.reduceLT, decide_eq_true_eq, List.append_nil, List.nil_append, ZO.lst.injEq, ZO.dct.injEq, seqIx_n, Bool.not_true, Bool.not_false, isE_snoc, and_assoc, or_false, false_or, exists_eq, exists_eq', isT, String.reduceBEq, Bool.and_false, Bool.and_true, Bool.false_and, Bool.true_and, Bool.or_false, Bool.or_true, Bool.true_or, Bool.false_or, natC, natC0, natC1, plain_int, plain_str, plain_non, depth_int, depth_str, depth_non, Nat.zero_le, true_or, or_true, not_true_eq_false, not_false_eq_true, Int.reduceEq, Int.reduceLT, Int.reduceLE, Int.reduceAdd, Int.reduceSub, Nat.reduceEqDiff, decide_true, decide_false]
        refine ⟨a, bn, rfl, hd', fun ps S3 pp hps h3 hp => ?_⟩
        exact hM2 _ _ ⟨pp, ps, rfl, ((At.refl hd').draw h3).new hp, h3.none' hp, zup_same, hps⟩
      rintro _ S3 ⟨pp, ps, rfl, a3, hpp, e3, hps⟩
      have npp : pp ≠ pr := by rintro rfl; rw [e] at hpp; cases hpp
      refine zseqN (fun δ'' S'' => ∃ pa as l, δ'' = [some (.ref p), some (.ref a), some (.ref pr), some d, some (.ref pp), some (.ref pa), some (.int l)] ∧ At S' a bn S'' ∧ S' pa = none ∧ S'' pp = some (.lst ps) ∧ S'' pa = some (.lst as) ∧ goodRow as) (fun M2 hM2 => ?_) ?_
      · simp only [zNext, zBreak, zCont, zDrop, zRet, zRetN, zIfS, zAsg, zAug, zAugS, zDel, zFor, zVar, zC, zOp, zUn, zNil, zCons, zAp, zMt, zB, zTr, zTruth, zAnd, zOr, zNot, zAndV, zOrV, zNotV, zIf, zTup, zLst, zDNew, zBM, zBM0, tyZ, zgName, zgNil, zgCons, zgTup, zgTupT, zgSub, zAdd, zSub, zMul, zMod, zDiv, zPow, zShl, zCmpI, zLt, zLe, zGt, zGe, zEq, zNe, zIs, zIsNot, zIn, zNotIn, zNeg, zEqN, zIsN, scalD, zInN, zIx, zSlice, zPart, zNoPart, zSl, zSet, zIAdd, zGetA, zDelI, zLenA, zListA, zTuple, zInt, zAbs, zMax2, zMin2, zAllL, zAnyL, zSumL, zMaxL, zMinL, zSorted, zAppend, zExtend, zPop, zPopAt, zReverse, zJoin, zStr1, zIsi, tyD, zCall, zLc, zLcL, zYes, ziR1, ziR2, ziR3, ziAny, ziEnum, Keep, zEnd, List.getElem?_cons_zero, List.getElem?_cons_succ, List.set_cons_zero, List.set_cons_succ, Option.some.injEq, D.int.injEq, D.ref.injEq, D.tup.injEq, D.str.injEq, D.bl.injEq, reduceCtorEq, false_and, and_false, true_and, and_true, exists_eq_left, exists_eq_left', exists_and_left, if_true, if_false, Bool.false_eq_true, ite_false, ite_true, List.cons.injEq, wipeZ, zup_same, atI_zero, atI_one, atI_lit, atI_n, ixN_zero, ixN_one, ixN_lit, ixN_n, List.length_cons, List.length_nil, Nat.reduceAdd, Nat.reduceLT, decide_eq_true_eq, List.append_nil, List.nil_append, ZO.lst.injEq, ZO.dct.injEq, seqIx_n, Bool.not_true, Bool.not_false, isE_snoc, and_assoc, or_false, false_or, exists_eq, exists_eq', isT, String.reduceBEq, Bool.and_false, Bool.and_true, Bool.false_and, Bool.true_and, Bool.or_false, Bool.or_true, Bool.true_or, Bool.false_or, natC, natC0, natC1, plain_int, plain_str, plain_non, depth_int, depth_str, depth_non, Nat.zero_le, true_or, or_true, not_true_eq_false, not_false_eq_true, Int.reduceEq, Int.reduceLT, Int.reduceLE, Int.reduceAdd, Int.reduceSub, Nat.reduceEqDiff, decide_true, decide_false]
        refine ⟨a, bn, pp, ps, rfl, e3, hd'.ne hpp, hps, a3.2, fun as l S4 pa q has h4 hp hq0 hne => ?_⟩
        have a4 := a3.draw h4
        have hq2 : zup S4 pa (.lst as) q = none := by rw [zup_ne (Ne.symm hne)]; exact hq0
        refine ⟨_, zup_same, rfl, _, _, rfl, _, _, rfl, rfl, ?_⟩
        exact hM2 _ _ ⟨pa, as, l, rfl, (a4.new hp).new hq2, a4.none hp hd', zup_of (zup_of (h4.at (hd'.ne hpp) e3) hp) hq2, zup_of zup_same hq2, has⟩
      rintro _ S4 ⟨pa, as, l, rfl, a4, hpaN, e4, f4, has⟩
      have npa : pa ≠ pr := by rintro rfl; rw [e] at hpaN; cases hpaN
      have er4 : S4 pr = some (.lst rs) := a4.at hpa e
      refine zseqN (fun δ'' S'' => δ'' = [some (.ref p), some (.ref a), some (.ref pr), some d, some (.ref pp), some (.ref pa), some (.int l)] ∧ Dr S'' a bn ∧ S'' pp = some (.lst ps) ∧ S'' pa = some (.lst as) ∧ ∃ rs2, S'' pr = some (.lst rs2) ∧ rs2.length ≤ rs.length + 1 ∧ Fst a pr S'' rs2) (fun M2 hM2 => ?_) ?_
      · simp only [zNext, zBreak, zCont, zDrop, zRet, zRetN, zIfS, zAsg, zAug, zAugS, zDel, zFor, zVar, zC, zOp, zUn, zNil, zCons, zAp, zMt, zB, zTr, zTruth, zAnd, zOr, zNot, zAndV, zOrV, zNotV, zIf, zTup, zLst, zDNew, zBM, zBM0, tyZ, zgName, zgNil, zgCons, zgTup, zgTupT, zgSub, zAdd, zSub, zMul, zMod, zDiv, zPow, zShl, zCmpI, zLt, zLe, zGt, zGe, zEq, zNe, zIs, zIsNot, zIn, zNotIn, zNeg, zEqN, zIsN, scalD, zInN, zIx, zSlice, zPart, zNoPart, zSl, zSet, zIAdd, zGetA, zDelI, zLenA, zListA, zTuple, zInt, zAbs, zMax2, zMin2, zAllL, zAnyL, zSumL, zMaxL, zMinL, zSorted, zAppend, zExtend, zPop, zPopAt, zReverse, zJoin, zStr1, zIsi, tyD, zCall, zLc, zLcL, zYes, ziR1, ziR2, ziR3, ziAny, ziEnum, Keep, zEnd, List.getElem?_cons_zero, List.getElem?_cons_succ, List.set_cons_zero, List.set_cons_succ, Option.some.injEq, D.int.injEq, D.ref.injEq, D.tup.injEq, D.str.injEq, D.bl.injEq, reduceCtorEq, false_and, and_false, true_and, and_true, exists_eq_left, exists_eq_left', exists_and_left, if_true, if_false, Bool.false_eq_true, ite_false, ite_true, List.cons.injEq, wipeZ, zup_same, atI_zero, atI_one, atI_lit, atI_n, ixN_zero, ixN_one, ixN_lit, ixN_n, List.length_cons, List.length_nil, Nat.reduceAdd, Nat.reduceLT, decide_eq_true_eq, List.append_nil, List.nil_append, ZO.lst.injEq, ZO.dct.injEq, seqIx_n, Bool.not_true, Bool.not_false, isE_snoc, and_assoc, or_false, false_or, exists_eq, exists_eq', isT, String.reduceBEq, Bool.and_false, Bool.and_true, Bool.false_and, Bool.true_and, Bool.or_false, Bool.or_true, Bool.true_or, Bool.false_or, natC, natC0, natC1, plain_int, plain_str, plain_non, depth_int, depth_str, depth_non, Nat.zero_le, true_or, or_true, not_true_eq_false, not_false_eq_true, Int.reduceEq, Int.reduceLT, Int.reduceLE, Int.reduceAdd, Int.reduceSub, Nat.reduceEqDiff, decide_true, decide_false, er4]
        refine ⟨h3s, fun t ht => ?_⟩
        have a5 := a4.new ht (o := .lst [.ref pp, .ref pa, .int l])
        have tS := a4.none ht hd'
        have ntr : t ≠ pr := by rintro rfl; rw [er4] at ht; cases ht
        refine ⟨rs, zup_of er4 ht, by rw [sizeLine_eq]; omega, ?_⟩
        have keepS : ∀ c z, c ≠ a → c ≠ pr → S' c = some z → zup (zup S4 t (.lst [.ref pp, .ref pa, .int l])) pr (.lst (rs ++ [.ref t])) c = some z := fun c z h1 h2 h3 => by
          rw [zup_ne h2]; exact zup_of (a4.at h1 h3) ht
        have up : ∀ {c z}, c ≠ pr → S4 c = some z → zup (zup S4 t (.lst [.ref pp, .ref pa, .int l])) pr (.lst (rs ++ [.ref t])) c = some z := fun h1 h2 => by rw [zup_ne h1]; exact zup_of h2 ht
        refine hM2 _ _ ⟨rfl, ?_, up npp e4, up npa f4, _, zup_same, by simp, ?_⟩
        · exact a5.2.of (by rw [zup_ne (Ne.symm hpa)]) (by rw [zup_ne (Ne.symm hpb)])
        · rcases h with ⟨_, rfl⟩ | h
          · exact ⟨t, pp, pa, [], ps, as, l, rfl, by rw [zup_ne ntr]; exact zup_same, up npp e4, up npa f4, hps, has, ⟨hd'.ne tS, ntr⟩, ⟨hd'.ne hpp, npp⟩, hd'.ne hpaN, npa⟩
          · exact h.stay keepS _
      rintro _ S5 ⟨rfl, hd5, e5, f5, rs2, er5, hrl2, hf5⟩
      simp only [zNext, zBreak, zCont, zDrop, zRet, zRetN, zIfS, zAsg, zAug, zAugS, zDel, zFor, zVar, zC, zOp, zUn, zNil, zCons, zAp, zMt, zB, zTr, zTruth, zAnd, zOr, zNot, zAndV, zOrV, zNotV, zIf, zTup, zLst, zDNew, zBM, zBM0, tyZ, zgName, zgNil, zgCons, zgTup, zgTupT, zgSub, zAdd, zSub, zMul, zMod, zDiv, zPow, zShl, zCmpI, zLt, zLe, zGt, zGe, zEq, zNe, zIs, zIsNot, zIn, zNotIn, zNeg, zEqN, zIsN, scalD, zInN, zIx, zSlice, zPart, zNoPart, zSl, zSet, zIAdd, zGetA, zDelI, zLenA, zListA, zTuple, zInt, zAbs, zMax2, zMin2, zAllL, zAnyL, zSumL, zMaxL, zMinL, zSorted, zAppend, zExtend, zPop, zPopAt, zReverse, zJoin, zStr1, zIsi, tyD, zCall, zLc, zLcL, zYes, ziR1, ziR2, ziR3, ziAny, ziEnum, Keep, zEnd, List.getElem?_cons_zero, List.getElem?_cons_succ, List.set_cons_zero, List.set_cons_succ, Option.some.injEq, D.int.injEq, D.ref.injEq, D.tup.injEq, D.str.injEq, D.bl.injEq, reduceCtorEq, false_and, and_false, true_and, and_true, exists_eq_left, exists_eq_left', exists_and_left, if_true, if_false, Bool.false_eq_true, ite_false, ite_true, List.cons.injEq, wipeZ, zup_same, atI_zero, atI_one, atI_lit, atI_n, ixN_zero, ixN_one, ixN_lit, ixN_n, List.length_cons, List.length_nil, Nat.reduceAdd, Nat.reduceLT, decide_eq_true_eq, List.append_nil, List.nil_append, ZO.lst.injEq, ZO.dct.injEq, seqIx_n, Bool.not_true, Bool.not_false, isE_snoc, and_assoc, or_false, false_or, exists_eq, exists_eq', isT, String.reduceBEq, Bool.and_false, Bool.and_true, Bool.false_and, Bool.true_and, Bool.or_false, Bool.or_true, Bool.true_or, Bool.false_or, natC, natC0, natC1, plain_int, plain_str, plain_non, depth_int, depth_str, depth_non, Nat.zero_le, true_or, or_true, not_true_eq_false, not_false_eq_true, Int.reduceEq, Int.reduceLT, Int.reduceLE, Int.reduceAdd, Int.reduceSub, Nat.reduceEqDiff, decide_true, decide_false]
      refine ⟨pp, pa, ps, as, l, rfl, e5, f5, hps.1, by have := hps.2.2.2; omega, has.1, by have := has.2; omega, ?_⟩
      simp only [zNext, zBreak, zCont, zDrop, zRet, zRetN, zIfS, zAsg, zAug, zAugS, zDel, zFor, zVar, zC, zOp, zUn, zNil, zCons, zAp, zMt, zB, zTr, zTruth, zAnd, zOr, zNot, zAndV, zOrV, zNotV, zIf, zTup, zLst, zDNew, zBM, zBM0, tyZ, zgName, zgNil, zgCons, zgTup, zgTupT, zgSub, zAdd, zSub, zMul, zMod, zDiv, zPow, zShl, zCmpI, zLt, zLe, zGt, zGe, zEq, zNe, zIs, zIsNot, zIn, zNotIn, zNeg, zEqN, zIsN, scalD, zInN, zIx, zSlice, zPart, zNoPart, zSl, zSet, zIAdd, zGetA, zDelI, zLenA, zListA, zTuple, zInt, zAbs, zMax2, zMin2, zAllL, zAnyL, zSumL, zMaxL, zMinL, zSorted, zAppend, zExtend, zPop, zPopAt, zReverse, zJoin, zStr1, zIsi, tyD, zCall, zLc, zLcL, zYes, ziR1, ziR2, ziR3, ziAny, ziEnum, Keep, zEnd, List.getElem?_cons_zero, List.getElem?_cons_succ, List.set_cons_zero, List.set_cons_succ, Option.some.injEq, D.int.injEq, D.ref.injEq, D.tup.injEq, D.str.injEq, D.bl.injEq, reduceCtorEq, false_and, and_false, true_and, and_true, exists_eq_left, exists_eq_left', exists_and_left, if_true, if_false, Bool.false_eq_true, ite_false, ite_true, List.cons.injEq, wipeZ, zup_same, atI_zero, atI_one, atI_lit, atI_n, ixN_zero, ixN_one, ixN_lit, ixN_n, List.length_cons, List.length_nil, Nat.reduceAdd, Nat.reduceLT, decide_eq_true_eq, List.append_nil, List.nil_append, ZO.lst.injEq, ZO.dct.injEq, seqIx_n, Bool.not_true, Bool.not_false, isE_snoc, and_assoc, or_false, false_or, exists_eq, exists_eq', isT, String.reduceBEq, Bool.and_false, Bool.and_true, Bool.false_and, Bool.true_and, Bool.or_false, Bool.or_true, Bool.true_or, Bool.false_or, natC, natC0, natC1, plain_int, plain_str, plain_non, depth_int, depth_str, depth_non, Nat.zero_le, true_or, or_true, not_true_eq_false, not_false_eq_true, Int.reduceEq, Int.reduceLT, Int.reduceLE, Int.reduceAdd, Int.reduceSub, Nat.reduceEqDiff, decide_true, decide_false]
      refine ⟨a, bn, pp, pa, ps, as, l, rfl, e5, f5, hd'.ne hpp, hd'.ne hpaN, hps, has, hd5, fun S6 h6 => ?_⟩
      simp only [zNext, zBreak, zCont, zDrop, zRet, zRetN, zIfS, zAsg, zAug, zAugS, zDel, zFor, zVar, zC, zOp, zUn, zNil, zCons, zAp, zMt, zB, zTr, zTruth, zAnd, zOr, zNot, zAndV, zOrV, zNotV, zIf, zTup, zLst, zDNew, zBM, zBM0, tyZ, zgName, zgNil, zgCons, zgTup, zgTupT, zgSub, zAdd, zSub, zMul, zMod, zDiv, zPow, zShl, zCmpI, zLt, zLe, zGt, zGe, zEq, zNe, zIs, zIsNot, zIn, zNotIn, zNeg, zEqN, zIsN, scalD, zInN, zIx, zSlice, zPart, zNoPart, zSl, zSet, zIAdd, zGetA, zDelI, zLenA, zListA, zTuple, zInt, zAbs, zMax2, zMin2, zAllL, zAnyL, zSumL, zMaxL, zMinL, zSorted, zAppend, zExtend, zPop, zPopAt, zReverse, zJoin, zStr1, zIsi, tyD, zCall, zLc, zLcL, zYes, ziR1, ziR2, ziR3, ziAny, ziEnum, Keep, zEnd, List.getElem?_cons_zero, List.getElem?_cons_succ, List.set_cons_zero, List.set_cons_succ, Option.some.injEq, D.int.injEq, D.ref.injEq, D.tup.injEq, D.str.injEq, D.bl.injEq, reduceCtorEq, false_and, and_false, true_and, and_true, exists_eq_left, exists_eq_left', exists_and_left, if_true, if_false, Bool.false_eq_true, ite_false, ite_true, List.cons.injEq, wipeZ, zup_same, atI_zero, atI_one, atI_lit, atI_n, ixN_zero, ixN_one, ixN_lit, ixN_n, List.length_cons, List.length_nil, Nat.reduceAdd, Nat.reduceLT, decide_eq_true_eq, List.append_nil, List.nil_append, ZO.lst.injEq, ZO.dct.injEq, seqIx_n, Bool.not_true, Bool.not_false, isE_snoc, and_assoc, or_false, false_or, exists_eq, exists_eq', isT, String.reduceBEq, Bool.and_false, Bool.and_true, Bool.false_and, Bool.true_and, Bool.or_false, Bool.or_true, Bool.true_or, Bool.false_or, natC, natC0, natC1, plain_int, plain_str, plain_non, depth_int, depth_str, depth_non, Nat.zero_le, true_or, or_true, not_true_eq_false, not_false_eq_true, Int.reduceEq, Int.reduceLT, Int.reduceLE, Int.reduceAdd, Int.reduceSub, Nat.reduceEqDiff, decide_true, decide_false]
      refine hN _ _ trivial ⟨⟨_, _, _, _, rfl⟩, h6.2, rs2, h6.at hpa er5, by omega, .inr ?_⟩
      have := hf5.stay (S' := S6) (fun c z h1 _ h3 => h6.at h1 h3) []
      simpa using this
    · exact ⟨⟨_, _, _, _, rfl⟩, hd2, [], e2, by simp [hrl], .inl ⟨hrl, rfl⟩⟩
  rintro _ S3 ⟨⟨x1, x2, x3, x4, rfl⟩, hd3, rs, e3, t, pp, pa, rr, ps, as, l, rfl, g1, g2, g3, hps, has, n1, n2, n3⟩
  have hpl := hps.2.2
  obtain ⟨p0, p1, pq, rfl⟩ : ∃ p0 p1 pq, ps = p0 :: p1 :: pq := by
    match ps, hpl with
    | x :: y :: z, _ => exact ⟨x, y, z, rfl⟩
    | [_], h => simp at h
    | [], h => simp at h
  have s0 : isStep p0 := hps.1 p0 (by simp)
  have s1 : isStep p1 := hps.1 p1 (by simp)
  have ne01 : p0 ≠ p1 := by have := hps.2.1; simp at this; exact this.1.1
  refine zseqN (fun δ' S' => δ' = [some (.ref p), some (.ref a), some (.ref pr), x1, some (.ref pp), some (.ref pa), some (.int l)] ∧ S3 = S') (fun M hM => ?_) ?_
  · simp only [zNext, zBreak, zCont, zDrop, zRet, zRetN, zIfS, zAsg, zAug, zAugS, zDel, zFor, zVar, zC, zOp, zUn, zNil, zCons, zAp, zMt, zB, zTr, zTruth, zAnd, zOr, zNot, zAndV, zOrV, zNotV, zIf, zTup, zLst, zDNew, zBM, zBM0, tyZ, zgName, zgNil, zgCons, zgTup, zgTupT, zgSub, zAdd, zSub, zMul, zMod, zDiv, zPow, zShl, zCmpI, zLt, zLe, zGt, zGe, zEq, zNe, zIs, zIsNot, zIn, zNotIn, zNeg, zEqN, zIsN, scalD, zInN, zIx, zSlice, zPart, zNoPart, zSl, zSet, zIAdd, zGetA, zDelI, zLenA, zListA, zTuple, zInt, zAbs, zMax2, zMin2, zAllL, zAnyL, zSumL, zMaxL, zMinL, zSorted, zAppend, zExtend, zPop, zPopAt, zReverse, zJoin, zStr1, zIsi, tyD, zCall, zLc, zLcL, zYes, ziR1, ziR2, ziR3, ziAny, ziEnum, Keep, zEnd, List.getElem?_cons_zero, List.getElem?_cons_succ, List.set_cons_zero, List.set_cons_succ, Option.some.injEq, D.int.injEq, D.ref.injEq, D.tup.injEq, D.str.injEq, D.bl.injEq, reduceCtorEq, false_and, and_false, true_and, and_true, exists_eq_left, exists_eq_left', exists_and_left, if_true, if_false, Bool.false_eq_true, ite_false, ite_true, List.cons.injEq, wipeZ, zup_same, atI_zero, atI_one, atI_lit, atI_n, ixN_zero, ixN_one, ixN_lit, ixN_n, List.length_cons, List.length_nil, Nat.reduceAdd, Nat.reduceLT, decide_eq_true_eq, List.append_nil, List.nil_append, ZO.lst.injEq, ZO.dct.injEq, seqIx_n, Bool.not_true, Bool.not_false, isE_snoc, and_assoc, or_false, false_or, exists_eq, exists_eq', isT, String.reduceBEq, Bool.and_false, Bool.and_true, Bool.false_and, Bool.true_and, Bool.or_false, Bool.or_true, Bool.true_or, Bool.false_or, natC, natC0, natC1, plain_int, plain_str, plain_non, depth_int, depth_str, depth_non, Nat.zero_le, true_or, or_true, not_true_eq_false, not_false_eq_true, Int.reduceEq, Int.reduceLT, Int.reduceLE, Int.reduceAdd, Int.reduceSub, Nat.reduceEqDiff, decide_true, decide_false, e3]
    refine ⟨_, g1, rfl, _, _, rfl, _, _, rfl, _, _, rfl, rfl, ?_⟩
    exact hM _ _ ⟨rfl, rfl⟩
  rintro _ _ ⟨rfl, rfl⟩
  refine zseqN (fun δ' S' => δ' = [some (.ref p), some (.ref a), some (.ref pr), x1, some (.ref pp), some (.ref pa), some (.int l)] ∧ S' pp = some (.lst (p0 :: p1 :: pq)) ∧ S' pa = some (.lst as)) (fun M hM => ?_) ?_
  · simp only [zNext, zBreak, zCont, zDrop, zRet, zRetN, zIfS, zAsg, zAug, zAugS, zDel, zFor, zVar, zC, zOp, zUn, zNil, zCons, zAp, zMt, zB, zTr, zTruth, zAnd, zOr, zNot, zAndV, zOrV, zNotV, zIf, zTup, zLst, zDNew, zBM, zBM0, tyZ, zgName, zgNil, zgCons, zgTup, zgTupT, zgSub, zAdd, zSub, zMul, zMod, zDiv, zPow, zShl, zCmpI, zLt, zLe, zGt, zGe, zEq, zNe, zIs, zIsNot, zIn, zNotIn, zNeg, zEqN, zIsN, scalD, zInN, zIx, zSlice, zPart, zNoPart, zSl, zSet, zIAdd, zGetA, zDelI, zLenA, zListA, zTuple, zInt, zAbs, zMax2, zMin2, zAllL, zAnyL, zSumL, zMaxL, zMinL, zSorted, zAppend, zExtend, zPop, zPopAt, zReverse, zJoin, zStr1, zIsi, tyD, zCall, zLc, zLcL, zYes, ziR1, ziR2, ziR3, ziAny, ziEnum, Keep, zEnd, List.getElem?_cons_zero, List.getElem?_cons_succ, List.set_cons_zero, List.set_cons_succ, Option.some.injEq, D.int.injEq, D.ref.injEq, D.tup.injEq, D.str.injEq, D.bl.injEq, reduceCtorEq, false_and, and_false, true_and, and_true, exists_eq_left, exists_eq_left', exists_and_left, if_true, if_false, Bool.false_eq_true, ite_false, ite_true, List.cons.injEq, wipeZ, zup_same, atI_zero, atI_one, atI_lit, atI_n, ixN_zero, ixN_one, ixN_lit, ixN_n, List.length_cons, List.length_nil, Nat.reduceAdd, Nat.reduceLT, decide_eq_true_eq, List.append_nil, List.nil_append, ZO.lst.injEq, ZO.dct.injEq, seqIx_n, Bool.not_true, Bool.not_false, isE_snoc, and_assoc, or_false, false_or, exists_eq, exists_eq', isT, String.reduceBEq, Bool.and_false, Bool.and_true, Bool.false_and, Bool.true_and, Bool.or_false, Bool.or_true, Bool.true_or, Bool.false_or, natC, natC0, natC1, plain_int, plain_str, plain_non, depth_int, depth_str, depth_non, Nat.zero_le, true_or, or_true, not_true_eq_false, not_false_eq_true, Int.reduceEq, Int.reduceLT, Int.reduceLE, Int.reduceAdd, Int.reduceSub, Nat.reduceEqDiff, decide_true, decide_false, g2]
    refine ⟨h1s, fun q1 hq1 => ?_⟩
    refine ⟨by rw [sizeLine_eq]; decide, fun q2 hq2 => ?_⟩
    refine ⟨.lst q2 _, _, .inl ⟨rfl, .inl zup_same⟩, ?_⟩
    have hm : ∀ x ∈ (List.replicate (9 : Int).toNat [p0]).flatten, isAns x := fun x hx => by rw [List.mem_singleton.mp (rep_mem hx)]; exact .inr s0
    have e9 : (List.replicate (9 : Int).toNat [p0]).flatten = (List.replicate 9 [p0]).flatten := rfl
    rw [e9] at hm ⊢
    refine ⟨_, 8, rfl, by rw [rep_len]; simp, hm, ?_⟩
    have u1 : zup (zup S3 q1 (.lst [p0])) q2 (.lst (List.replicate 9 [p0]).flatten) pp = some (.lst (p0 :: p1 :: pq)) := zup_of (zup_of g2 hq1) hq2
    simp only [zNext, zBreak, zCont, zDrop, zRet, zRetN, zIfS, zAsg, zAug, zAugS, zDel, zFor, zVar, zC, zOp, zUn, zNil, zCons, zAp, zMt, zB, zTr, zTruth, zAnd, zOr, zNot, zAndV, zOrV, zNotV, zIf, zTup, zLst, zDNew, zBM, zBM0, tyZ, zgName, zgNil, zgCons, zgTup, zgTupT, zgSub, zAdd, zSub, zMul, zMod, zDiv, zPow, zShl, zCmpI, zLt, zLe, zGt, zGe, zEq, zNe, zIs, zIsNot, zIn, zNotIn, zNeg, zEqN, zIsN, scalD, zInN, zIx, zSlice, zPart, zNoPart, zSl, zSet, zIAdd, zGetA, zDelI, zLenA, zListA, zTuple, zInt, zAbs, zMax2, zMin2, zAllL, zAnyL, zSumL, zMaxL, zMinL, zSorted, zAppend, zExtend, zPop, zPopAt, zReverse, zJoin, zStr1, zIsi, tyD, zCall, zLc, zLcL, zYes, ziR1, ziR2, ziR3, ziAny, ziEnum, Keep, zEnd, List.getElem?_cons_zero, List.getElem?_cons_succ, List.set_cons_zero, List.set_cons_succ, Option.some.injEq, D.int.injEq, D.ref.injEq, D.tup.injEq, D.str.injEq, D.bl.injEq, reduceCtorEq, false_and, and_false, true_and, and_true, exists_eq_left, exists_eq_left', exists_and_left, if_true, if_false, Bool.false_eq_true, ite_false, ite_true, List.cons.injEq, wipeZ, zup_same, atI_zero, atI_one, atI_lit, atI_n, ixN_zero, ixN_one, ixN_lit, ixN_n, List.length_cons, List.length_nil, Nat.reduceAdd, Nat.reduceLT, decide_eq_true_eq, List.append_nil, List.nil_append, ZO.lst.injEq, ZO.dct.injEq, seqIx_n, Bool.not_true, Bool.not_false, isE_snoc, and_assoc, or_false, false_or, exists_eq, exists_eq', isT, String.reduceBEq, Bool.and_false, Bool.and_true, Bool.false_and, Bool.true_and, Bool.or_false, Bool.or_true, Bool.true_or, Bool.false_or, natC, natC0, natC1, plain_int, plain_str, plain_non, depth_int, depth_str, depth_non, Nat.zero_le, true_or, or_true, not_true_eq_false, not_false_eq_true, Int.reduceEq, Int.reduceLT, Int.reduceLE, Int.reduceAdd, Int.reduceSub, Nat.reduceEqDiff, decide_true, decide_false, u1]
    refine ⟨h2s, ?_⟩
    rw [verd_nine s0]
    refine ⟨_, _, rfl, ?_, ?_, ?_, ?_⟩
    · simp [D.plain, D.plainL, s0.facts.1]
    · simp [D.plain, D.plainL, s0.facts.1]
    · have := step_nodes s0; simp [D.nodes, D.nodesL]; omega
    · simp only [zNext, zBreak, zCont, zDrop, zRet, zRetN, zIfS, zAsg, zAug, zAugS, zDel, zFor, zVar, zC, zOp, zUn, zNil, zCons, zAp, zMt, zB, zTr, zTruth, zAnd, zOr, zNot, zAndV, zOrV, zNotV, zIf, zTup, zLst, zDNew, zBM, zBM0, tyZ, zgName, zgNil, zgCons, zgTup, zgTupT, zgSub, zAdd, zSub, zMul, zMod, zDiv, zPow, zShl, zCmpI, zLt, zLe, zGt, zGe, zEq, zNe, zIs, zIsNot, zIn, zNotIn, zNeg, zEqN, zIsN, scalD, zInN, zIx, zSlice, zPart, zNoPart, zSl, zSet, zIAdd, zGetA, zDelI, zLenA, zListA, zTuple, zInt, zAbs, zMax2, zMin2, zAllL, zAnyL, zSumL, zMaxL, zMinL, zSorted, zAppend, zExtend, zPop, zPopAt, zReverse, zJoin, zStr1, zIsi, tyD, zCall, zLc, zLcL, zYes, ziR1, ziR2, ziR3, ziAny, ziEnum, Keep, zEnd, List.getElem?_cons_zero, List.getElem?_cons_succ, List.set_cons_zero, List.set_cons_succ, Option.some.injEq, D.int.injEq, D.ref.injEq, D.tup.injEq, D.str.injEq, D.bl.injEq, reduceCtorEq, false_and, and_false, true_and, and_true, exists_eq_left, exists_eq_left', exists_and_left, if_true, if_false, Bool.false_eq_true, ite_false, ite_true, List.cons.injEq, wipeZ, zup_same, atI_zero, atI_one, atI_lit, atI_n, ixN_zero, ixN_one, ixN_lit, ixN_n, List.length_cons, List.length_nil, Nat.reduceAdd, Nat.reduceLT, decide_eq_true_eq, List.append_nil, List.nil_append, ZO.lst.injEq, ZO.dct.injEq, seqIx_n, Bool.not_true, Bool.not_false, isE_snoc, and_assoc, or_false, false_or, exists_eq, exists_eq', isT, String.reduceBEq, Bool.and_false, Bool.and_true, Bool.false_and, Bool.true_and, Bool.or_false, Bool.or_true, Bool.true_or, Bool.false_or, natC, natC0, natC1, plain_int, plain_str, plain_non, depth_int, depth_str, depth_non, Nat.zero_le, true_or, or_true, not_true_eq_false, not_false_eq_true, Int.reduceEq, Int.reduceLT, Int.reduceLE, Int.reduceAdd, Int.reduceSub, Nat.reduceEqDiff, decide_true, decide_false]
      exact hM _ _ ⟨rfl, u1, zup_of (zup_of g3 hq1) hq2⟩
  rintro _ S4 ⟨rfl, u1, u2⟩
  refine zseqN (fun δ' S' => δ' = [some (.ref p), some (.ref a), some (.ref pr), x1, some (.ref pp), some (.ref pa), some (.int l)] ∧ S4 = S') (fun M hM => ?_) ?_
  · simp only [zNext, zBreak, zCont, zDrop, zRet, zRetN, zIfS, zAsg, zAug, zAugS, zDel, zFor, zVar, zC, zOp, zUn, zNil, zCons, zAp, zMt, zB, zTr, zTruth, zAnd, zOr, zNot, zAndV, zOrV, zNotV, zIf, zTup, zLst, zDNew, zBM, zBM0, tyZ, zgName, zgNil, zgCons, zgTup, zgTupT, zgSub, zAdd, zSub, zMul, zMod, zDiv, zPow, zShl, zCmpI, zLt, zLe, zGt, zGe, zEq, zNe, zIs, zIsNot, zIn, zNotIn, zNeg, zEqN, zIsN, scalD, zInN, zIx, zSlice, zPart, zNoPart, zSl, zSet, zIAdd, zGetA, zDelI, zLenA, zListA, zTuple, zInt, zAbs, zMax2, zMin2, zAllL, zAnyL, zSumL, zMaxL, zMinL, zSorted, zAppend, zExtend, zPop, zPopAt, zReverse, zJoin, zStr1, zIsi, tyD, zCall, zLc, zLcL, zYes, ziR1, ziR2, ziR3, ziAny, ziEnum, Keep, zEnd, List.getElem?_cons_zero, List.getElem?_cons_succ, List.set_cons_zero, List.set_cons_succ, Option.some.injEq, D.int.injEq, D.ref.injEq, D.tup.injEq, D.str.injEq, D.bl.injEq, reduceCtorEq, false_and, and_false, true_and, and_true, exists_eq_left, exists_eq_left', exists_and_left, if_true, if_false, Bool.false_eq_true, ite_false, ite_true, List.cons.injEq, wipeZ, zup_same, atI_zero, atI_one, atI_lit, atI_n, ixN_zero, ixN_one, ixN_lit, ixN_n, List.length_cons, List.length_nil, Nat.reduceAdd, Nat.reduceLT, decide_eq_true_eq, List.append_nil, List.nil_append, ZO.lst.injEq, ZO.dct.injEq, seqIx_n, Bool.not_true, Bool.not_false, isE_snoc, and_assoc, or_false, false_or, exists_eq, exists_eq', isT, String.reduceBEq, Bool.and_false, Bool.and_true, Bool.false_and, Bool.true_and, Bool.or_false, Bool.or_true, Bool.true_or, Bool.false_or, natC, natC0, natC1, plain_int, plain_str, plain_non, depth_int, depth_str, depth_non, Nat.zero_le, true_or, or_true, not_true_eq_false, not_false_eq_true, Int.reduceEq, Int.reduceLT, Int.reduceLE, Int.reduceAdd, Int.reduceSub, Nat.reduceEqDiff, decide_true, decide_false, u1]
    refine ⟨h4s, _, 2, rfl, by simp, fun x hx => ?_, h1s, ?_⟩
    · simp only [List.mem_cons, List.not_mem_nil, or_false] at hx
      rcases hx with rfl | rfl | rfl | rfl
      · exact .inr s0
      · exact .inr s0
      · exact .inr s1
      · exact .inr s1
    rw [verd_two s0 s1 ne01]
    refine ⟨_, _, rfl, rfl, rfl, by simp [D.nodes, D.nodesL], ?_⟩
    simp only [zNext, zBreak, zCont, zDrop, zRet, zRetN, zIfS, zAsg, zAug, zAugS, zDel, zFor, zVar, zC, zOp, zUn, zNil, zCons, zAp, zMt, zB, zTr, zTruth, zAnd, zOr, zNot, zAndV, zOrV, zNotV, zIf, zTup, zLst, zDNew, zBM, zBM0, tyZ, zgName, zgNil, zgCons, zgTup, zgTupT, zgSub, zAdd, zSub, zMul, zMod, zDiv, zPow, zShl, zCmpI, zLt, zLe, zGt, zGe, zEq, zNe, zIs, zIsNot, zIn, zNotIn, zNeg, zEqN, zIsN, scalD, zInN, zIx, zSlice, zPart, zNoPart, zSl, zSet, zIAdd, zGetA, zDelI, zLenA, zListA, zTuple, zInt, zAbs, zMax2, zMin2, zAllL, zAnyL, zSumL, zMaxL, zMinL, zSorted, zAppend, zExtend, zPop, zPopAt, zReverse, zJoin, zStr1, zIsi, tyD, zCall, zLc, zLcL, zYes, ziR1, ziR2, ziR3, ziAny, ziEnum, Keep, zEnd, List.getElem?_cons_zero, List.getElem?_cons_succ, List.set_cons_zero, List.set_cons_succ, Option.some.injEq, D.int.injEq, D.ref.injEq, D.tup.injEq, D.str.injEq, D.bl.injEq, reduceCtorEq, false_and, and_false, true_and, and_true, exists_eq_left, exists_eq_left', exists_and_left, if_true, if_false, Bool.false_eq_true, ite_false, ite_true, List.cons.injEq, wipeZ, zup_same, atI_zero, atI_one, atI_lit, atI_n, ixN_zero, ixN_one, ixN_lit, ixN_n, List.length_cons, List.length_nil, Nat.reduceAdd, Nat.reduceLT, decide_eq_true_eq, List.append_nil, List.nil_append, ZO.lst.injEq, ZO.dct.injEq, seqIx_n, Bool.not_true, Bool.not_false, isE_snoc, and_assoc, or_false, false_or, exists_eq, exists_eq', isT, String.reduceBEq, Bool.and_false, Bool.and_true, Bool.false_and, Bool.true_and, Bool.or_false, Bool.or_true, Bool.true_or, Bool.false_or, natC, natC0, natC1, plain_int, plain_str, plain_non, depth_int, depth_str, depth_non, Nat.zero_le, true_or, or_true, not_true_eq_false, not_false_eq_true, Int.reduceEq, Int.reduceLT, Int.reduceLE, Int.reduceAdd, Int.reduceSub, Nat.reduceEqDiff, decide_true, decide_false]
    exact hM _ _ ⟨rfl, rfl⟩
  rintro _ _ ⟨rfl, rfl⟩
  simp only [zNext, zBreak, zCont, zDrop, zRet, zRetN, zIfS, zAsg, zAug, zAugS, zDel, zFor, zVar, zC, zOp, zUn, zNil, zCons, zAp, zMt, zB, zTr, zTruth, zAnd, zOr, zNot, zAndV, zOrV, zNotV, zIf, zTup, zLst, zDNew, zBM, zBM0, tyZ, zgName, zgNil, zgCons, zgTup, zgTupT, zgSub, zAdd, zSub, zMul, zMod, zDiv, zPow, zShl, zCmpI, zLt, zLe, zGt, zGe, zEq, zNe, zIs, zIsNot, zIn, zNotIn, zNeg, zEqN, zIsN, scalD, zInN, zIx, zSlice, zPart, zNoPart, zSl, zSet, zIAdd, zGetA, zDelI, zLenA, zListA, zTuple, zInt, zAbs, zMax2, zMin2, zAllL, zAnyL, zSumL, zMaxL, zMinL, zSorted, zAppend, zExtend, zPop, zPopAt, zReverse, zJoin, zStr1, zIsi, tyD, zCall, zLc, zLcL, zYes, ziR1, ziR2, ziR3, ziAny, ziEnum, Keep, zEnd, List.getElem?_cons_zero, List.getElem?_cons_succ, List.set_cons_zero, List.set_cons_succ, Option.some.injEq, D.int.injEq, D.ref.injEq, D.tup.injEq, D.str.injEq, D.bl.injEq, reduceCtorEq, false_and, and_false, true_and, and_true, exists_eq_left, exists_eq_left', exists_and_left, if_true, if_false, Bool.false_eq_true, ite_false, ite_true, List.cons.injEq, wipeZ, zup_same, atI_zero, atI_one, atI_lit, atI_n, ixN_zero, ixN_one, ixN_lit, ixN_n, List.length_cons, List.length_nil, Nat.reduceAdd, Nat.reduceLT, decide_eq_true_eq, List.append_nil, List.nil_append, ZO.lst.injEq, ZO.dct.injEq, seqIx_n, Bool.not_true, Bool.not_false, isE_snoc, and_assoc, or_false, false_or, exists_eq, exists_eq', isT, String.reduceBEq, Bool.and_false, Bool.and_true, Bool.false_and, Bool.true_and, Bool.or_false, Bool.or_true, Bool.true_or, Bool.false_or, natC, natC0, natC1, plain_int, plain_str, plain_non, depth_int, depth_str, depth_non, Nat.zero_le, true_or, or_true, not_true_eq_false, not_false_eq_true, Int.reduceEq, Int.reduceLT, Int.reduceLE, Int.reduceAdd, Int.reduceSub, Nat.reduceEqDiff, decide_true, decide_false]
  exact ⟨pp, pa, _, as, l, rfl, u1, u2, hps.1, by have := hps.2.2.2; omega, has.1, by have := has.2; omega, ret _⟩
end K70
set_option maxHeartbeats 0
namespace K70
open PySem PySem.Spec PyProof.Rows L2 Z ZH
/-! ### the text -/
def top (i : Nat) : Stmt := PySem.Challenge.pw_holdstill_k70_answers_added.main.body.getD i (.Pass ⟨0, 0, 0, 0⟩)
abbrev s_spoken : Stmt := top 1
abbrev N_spoken : List Str := ["answers", "answer"]
theorem sc_spoken : FnScope N_spoken ["answers"] (defScope s_spoken) := ⟨rfl, rfl, rfl, by decide +kernel, rfl, by decide +kernel, by decide +kernel⟩
abbrev s_lying_places : Stmt := top 2
abbrev N_lying_places : List Str := ["answers", "step", "places", "place", "answer"]
theorem sc_lying_places : FnScope N_lying_places ["answers", "step"] (defScope s_lying_places) := ⟨rfl, rfl, rfl, by decide +kernel, rfl, by decide +kernel, by decide +kernel⟩
abbrev s_possible : Stmt := top 3
abbrev N_possible : List Str := ["answers", "liars", "found", "step"]
theorem sc_possible : FnScope N_possible ["answers", "liars"] (defScope s_possible) := ⟨rfl, rfl, rfl, by decide +kernel, rfl, by decide +kernel, by decide +kernel⟩
abbrev s_trusted : Stmt := top 4
abbrev N_trusted : List Str := ["answers", "liars", "steps"]
theorem sc_trusted : FnScope N_trusted ["answers", "liars"] (defScope s_trusted) := ⟨rfl, rfl, rfl, by decide +kernel, rfl, by decide +kernel, by decide +kernel⟩
abbrev s_lies : Stmt := top 5
abbrev N_lies : List Str := ["answers", "liars", "step", "places"]
theorem sc_lies : FnScope N_lies ["answers", "liars", "step"] (defScope s_lies) := ⟨rfl, rfl, rfl, by decide +kernel, rfl, by decide +kernel, by decide +kernel⟩
abbrev s_asked_in_turn : Stmt := top 6
abbrev N_asked_in_turn : List Str := ["answers", "liars", "many"]
theorem sc_asked_in_turn : FnScope N_asked_in_turn ["answers", "liars"] (defScope s_asked_in_turn) := ⟨rfl, rfl, rfl, by decide +kernel, rfl, by decide +kernel, by decide +kernel⟩
abbrev s__law_begin : Stmt := top 8
abbrev N__law_begin : List Str := ["script", "cell"]
theorem sc__law_begin : FnScope N__law_begin ["script"] (defScope s__law_begin) := ⟨rfl, rfl, rfl, by decide +kernel, rfl, by decide +kernel, by decide +kernel⟩
abbrev s__law_draw : Stmt := top 9
abbrev N__law_draw : List Str := ["d", "many", "found", "size", "cell"]
theorem sc__law_draw : FnScope N__law_draw ["d", "many"] (defScope s__law_draw) := ⟨rfl, rfl, rfl, by decide +kernel, rfl, by decide +kernel, by decide +kernel⟩
abbrev s__law_pick : Stmt := top 10
abbrev N__law_pick : List Str := ["d", "row"]
theorem sc__law_pick : FnScope N__law_pick ["d", "row"] (defScope s__law_pick) := ⟨rfl, rfl, rfl, by decide +kernel, rfl, by decide +kernel, by decide +kernel⟩
abbrev s__law_shuffled : Stmt := top 11
abbrev N__law_shuffled : List Str := ["d", "row", "left", "found", "k"]
theorem sc__law_shuffled : FnScope N__law_shuffled ["d", "row"] (defScope s__law_shuffled) := ⟨rfl, rfl, rfl, by decide +kernel, rfl, by decide +kernel, by decide +kernel⟩
abbrev s__law_is_int : Stmt := top 12
abbrev N__law_is_int : List Str := ["thing"]
theorem sc__law_is_int : FnScope N__law_is_int ["thing"] (defScope s__law_is_int) := ⟨rfl, rfl, rfl, by decide +kernel, rfl, by decide +kernel, by decide +kernel⟩
abbrev s__law_same : Stmt := top 13
abbrev N__law_same : List Str := ["told", "due", "left", "turn", "one", "other", "k"]
theorem sc__law_same : FnScope N__law_same ["told", "due"] (defScope s__law_same) := ⟨rfl, rfl, rfl, by decide +kernel, rfl, by decide +kernel, by decide +kernel⟩
abbrev s__law_string : Stmt := top 14
abbrev N__law_string : List Str := ["d", "signs", "size", "k"]
theorem sc__law_string : FnScope N__law_string ["d"] (defScope s__law_string) := ⟨rfl, rfl, rfl, by decide +kernel, rfl, by decide +kernel, by decide +kernel⟩
abbrev s__law_near_string : Stmt := top 15
abbrev N__law_near_string : List Str := ["d", "word", "way", "at", "sign"]
theorem sc__law_near_string : FnScope N__law_near_string ["d", "word"] (defScope s__law_near_string) := ⟨rfl, rfl, rfl, by decide +kernel, rfl, by decide +kernel, by decide +kernel⟩
abbrev s__law_pool : Stmt := top 16
abbrev N__law_pool : List Str := ["d", "word", "near", "content", "drawn", "one", "found", "step"]
theorem sc__law_pool : FnScope N__law_pool ["d"] (defScope s__law_pool) := ⟨rfl, rfl, rfl, by decide +kernel, rfl, by decide +kernel, by decide +kernel⟩
abbrev s__law_row_of : Stmt := top 17
abbrev N__law_row_of : List Str := ["d", "pool", "way", "some", "many", "others", "row", "k"]
theorem sc__law_row_of : FnScope N__law_row_of ["d", "pool"] (defScope s__law_row_of) := ⟨rfl, rfl, rfl, by decide +kernel, rfl, by decide +kernel, by decide +kernel⟩
abbrev s__law_possible : Stmt := top 18
abbrev N__law_possible : List Str := ["answers", "liars", "said", "found", "step", "one"]
theorem sc__law_possible : FnScope N__law_possible ["answers", "liars"] (defScope s__law_possible) := ⟨rfl, rfl, rfl, by decide +kernel, rfl, by decide +kernel, by decide +kernel⟩
abbrev s__law_verdict : Stmt := top 19
abbrev N__law_verdict : List Str := ["answers", "liars", "steps"]
theorem sc__law_verdict : FnScope N__law_verdict ["answers", "liars"] (defScope s__law_verdict) := ⟨rfl, rfl, rfl, by decide +kernel, rfl, by decide +kernel, by decide +kernel⟩
abbrev s__law_row_told : Stmt := top 20
abbrev N__law_row_told : List Str := ["pool", "answers", "liars", "row", "step", "places", "sure", "k", "many"]
theorem sc__law_row_told : FnScope N__law_row_told ["pool", "answers", "liars"] (defScope s__law_row_told) := ⟨rfl, rfl, rfl, by decide +kernel, rfl, by decide +kernel, by decide +kernel⟩
abbrev s__law_is_within : Stmt := top 21
abbrev N__law_is_within : List Str := ["one", "other", "step"]
theorem sc__law_is_within : FnScope N__law_is_within ["one", "other"] (defScope s__law_is_within) := ⟨rfl, rfl, rfl, by decide +kernel, rfl, by decide +kernel, by decide +kernel⟩
abbrev s__law_changes_told : Stmt := top 22
abbrev N__law_changes_told : List Str := ["d", "pool", "answers", "liars", "told", "at", "longer", "empty", "turned"]
theorem sc__law_changes_told : FnScope N__law_changes_told ["d", "pool", "answers", "liars"] (defScope s__law_changes_told) := ⟨rfl, rfl, rfl, by decide +kernel, rfl, by decide +kernel, by decide +kernel⟩
abbrev s_law : Stmt := top 23
abbrev N_law : List Str := ["script", "d", "rows", "turn", "pool", "answers", "liars"]
theorem sc_law : FnScope N_law ["script"] (defScope s_law) := ⟨rfl, rfl, rfl, by decide +kernel, rfl, by decide +kernel, by decide +kernel⟩
/-! ### the bodies -/
theorem b_spoken {P : Program} {w : World} {K : PySem.W.Frag} {mg : Str → Option Value} {base : Heap} {f : Addr}
    (cdv : Value) (A : Around) (outer : List PySem.Env) (s : Shared) (H : Hp) (E : XK) (hr : Room 0 (A.deeper (envOfC "spoken" (defScope s_spoken) s.heap.objs.size f cdv))) :
    ZSs (cxOf L2.CX0 P w K mg base N_spoken "spoken" (defScope s_spoken) f cdv A outer s H E).nox (defBody s_spoken) (z_spoken K) := by
  have hu9 := room9 hr
  have hu18 := room18 hr
  have hu65 := room65 hr
  have nd : (N_spoken).Nodup := sc_spoken.nd
  unfold z_spoken
  exact (zss_one (zs_ret (ze_lc (own := [("answer", 1)]) rfl nd (zi_any (zv 0)) (blkOk_by (N := N_spoken) (sc := defScope s_spoken) (by decide +kernel)) (gw_name 1 (by decide) (fun _ _ _ _ _ => pg_name (i := 1) nd rfl (by first | exact Or.inl rfl | exact Or.inr rfl) (by first | exact Or.inl rfl | exact Or.inr rfl))) (fun _ _ _ _ _ => (zts_one (zt_cmp op_zIsNot (zv 1) ze_non (by first | exact nomark _ | exact nobehind _ (by decide) (by decide) | rfl)))) (fun _ _ _ _ _ => (zv 1)))))
theorem b_lying_places {P : Program} {w : World} {K : PySem.W.Frag} {mg : Str → Option Value} {base : Heap} {f : Addr} (g_enumerate : mg "enumerate" = none) (g_tuple : mg "tuple" = none)
    (cdv : Value) (A : Around) (outer : List PySem.Env) (s : Shared) (H : Hp) (E : XK) (hr : Room 0 (A.deeper (envOfC "lying_places" (defScope s_lying_places) s.heap.objs.size f cdv))) :
    ZSs (cxOf L2.CX0 P w K mg base N_lying_places "lying_places" (defScope s_lying_places) f cdv A outer s H E).nox (defBody s_lying_places) (z_lying_places K) := by
  have hu9 := room9 hr
  have hu18 := room18 hr
  have hu65 := room65 hr
  have nd : (N_lying_places).Nodup := sc_lying_places.nd
  unfold z_lying_places
  exact (zss_cons (zst 2 nd (ze_lst za_nil))
    (zss_cons (zs_for PassesOwn.never rfl (zi_enum rfl g_enumerate (za_cons (zv 0) za_nil)) (zg_tup rfl (zgs_cons (zgn 3 nd) (zgs_cons (zgn 4 nd) zgs_nil))) (zss_one (zs_if (zt_w (zw_and (zt_cmp op_zIsNot (zv 4) ze_non (by first | exact nomark _ | exact nobehind _ (by decide) (by decide) | rfl)) (zw_and1 (zt_cmp (op_zNe hu65) (zv 4) (zv 1) (by first | exact nomark _ | exact nobehind _ (by decide) (by decide) | rfl))))) (zss_one (zs_expr (ze_bm PySem.F.plainAttrs_list PySem.F.slot_list_append PySem.F.type_list_append mt_zAppend (zv 2) (za_cons (zv 3) za_nil)))) zss_nil)))
    (zss_one (zs_ret (ze_callTy call_zTuple rfl g_tuple boot_tuple (za_cons (zv 2) za_nil))))))
theorem b_possible {P : Program} {w : World} {K : PySem.W.Frag} {mg : Str → Option Value} {base : Heap} {f : Addr} (g_len : mg "len" = none) (g_tuple : mg "tuple" = none) (g_sorted : mg "sorted" = none) (G_spoken : GF P w K mg base 1 "spoken" (sp_spoken K) []) (G_lying_places : GF P w K mg base 1 "lying_places" (sp_lying_places K) [])
    (cdv : Value) (A : Around) (outer : List PySem.Env) (s : Shared) (H : Hp) (E : XK) (hr : Room 1 (A.deeper (envOfC "possible" (defScope s_possible) s.heap.objs.size f cdv))) :
    ZSs (cxOf L2.CX0 P w K mg base N_possible "possible" (defScope s_possible) f cdv A outer s H E).nox (defBody s_possible) (z_possible K) := by
  have hu9 := room9 hr
  have hu18 := room18 hr
  have hu65 := room65 hr
  have nd : (N_possible).Nodup := sc_possible.nd
  unfold z_possible
  exact (zss_cons (zs_if (zt_cmp op_zLe (ze_callB call_zLenA rfl g_len boot_len (za_cons (ze_call G_spoken hr (by decide) rfl (za_cons (zv 0) za_nil)) za_nil)) (zv 1) (by first | exact nomark _ | exact nobehind _ (by decide) (by decide) | rfl)) (zss_one (zs_ret ze_non)) zss_nil)
    (zss_cons (zst 2 nd ze_dnew)
    (zss_cons (zs_for PassesOwn.never rfl (zi_any (ze_call G_spoken hr (by decide) rfl (za_cons (zv 0) za_nil))) (zgn 3 nd) (zss_one (zs_if (zt_cmp op_zLe (ze_callB call_zLenA rfl g_len boot_len (za_cons (ze_call G_lying_places hr (by decide) rfl (za_cons (zv 0) (za_cons (zv 3) za_nil))) za_nil)) (zv 1) (by first | exact nomark _ | exact nobehind _ (by decide) (by decide) | rfl)) (zss_one (zs_asg ze_bl (zg_sub hu9 (zv 2) (zv 3)))) zss_nil)))
    (zss_one (zs_ret (ze_callTy call_zTuple rfl g_tuple boot_tuple (za_cons (ze_callB (call_zSorted hu18 rfl) rfl g_sorted boot_sorted (za_cons (zv 2) za_nil)) za_nil)))))))
theorem b_trusted {P : Program} {w : World} {K : PySem.W.Frag} {mg : Str → Option Value} {base : Heap} {f : Addr} (g_len : mg "len" = none) (G_possible : GF P w K mg base 2 "possible" (sp_possible K) [])
    (cdv : Value) (A : Around) (outer : List PySem.Env) (s : Shared) (H : Hp) (E : XK) (hr : Room 2 (A.deeper (envOfC "trusted" (defScope s_trusted) s.heap.objs.size f cdv))) :
    ZSs (cxOf L2.CX0 P w K mg base N_trusted "trusted" (defScope s_trusted) f cdv A outer s H E).nox (defBody s_trusted) (z_trusted K) := by
  have hu9 := room9 hr
  have hu18 := room18 hr
  have hu65 := room65 hr
  have nd : (N_trusted).Nodup := sc_trusted.nd
  unfold z_trusted
  exact (zss_cons (zst 2 nd (ze_call G_possible hr (by decide) rfl (za_cons (zv 0) (za_cons (zv 1) za_nil))))
    (zss_cons (zs_if (zt_cmp op_zIs (zv 2) ze_non (by first | exact nomark _ | exact nobehind _ (by decide) (by decide) | rfl)) (zss_one (zs_ret (ze_tup (za_cons ze_str za_nil)))) zss_nil)
    (zss_cons (zs_if (zt_cmp (op_zEq hu65) (ze_callB call_zLenA rfl g_len boot_len (za_cons (zv 2) za_nil)) ze_int (by first | exact nomark _ | exact nobehind _ (by decide) (by decide) | rfl)) (zss_one (zs_ret (ze_tup (za_cons ze_str za_nil)))) zss_nil)
    (zss_cons (zs_if (zt_cmp (op_zEq hu65) (ze_callB call_zLenA rfl g_len boot_len (za_cons (zv 2) za_nil)) ze_int (by first | exact nomark _ | exact nobehind _ (by decide) (by decide) | rfl)) (zss_one (zs_ret (ze_tup (za_cons ze_str (za_cons (ze_ix hu9 (zv 2) ze_int (fun _ _ => rfl)) za_nil))))) zss_nil)
    (zss_one (zs_ret (ze_tup (za_cons ze_str za_nil))))))))
theorem b_lies {P : Program} {w : World} {K : PySem.W.Frag} {mg : Str → Option Value} {base : Heap} {f : Addr} (g_len : mg "len" = none) (G_lying_places : GF P w K mg base 1 "lying_places" (sp_lying_places K) [])
    (cdv : Value) (A : Around) (outer : List PySem.Env) (s : Shared) (H : Hp) (E : XK) (hr : Room 1 (A.deeper (envOfC "lies" (defScope s_lies) s.heap.objs.size f cdv))) :
    ZSs (cxOf L2.CX0 P w K mg base N_lies "lies" (defScope s_lies) f cdv A outer s H E).nox (defBody s_lies) (z_lies K) := by
  have hu9 := room9 hr
  have hu18 := room18 hr
  have hu65 := room65 hr
  have nd : (N_lies).Nodup := sc_lies.nd
  unfold z_lies
  exact (zss_cons (zst 3 nd (ze_call G_lying_places hr (by decide) rfl (za_cons (zv 0) (za_cons (zv 2) za_nil))))
    (zss_cons (zs_if (zt_cmp op_zGt (ze_callB call_zLenA rfl g_len boot_len (za_cons (zv 3) za_nil)) (zv 1) (by first | exact nomark _ | exact nobehind _ (by decide) (by decide) | rfl)) (zss_one (zs_ret ze_non)) zss_nil)
    (zss_one (zs_ret (zv 3)))))
theorem b_asked_in_turn {P : Program} {w : World} {K : PySem.W.Frag} {mg : Str → Option Value} {base : Heap} {f : Addr} (g_range : mg "range" = none) (g_len : mg "len" = none) (G_trusted : GF P w K mg base 3 "trusted" (sp_trusted K) [])
    (cdv : Value) (A : Around) (outer : List PySem.Env) (s : Shared) (H : Hp) (E : XK) (hr : Room 3 (A.deeper (envOfC "asked_in_turn" (defScope s_asked_in_turn) s.heap.objs.size f cdv))) :
    ZSs (cxOf L2.CX0 P w K mg base N_asked_in_turn "asked_in_turn" (defScope s_asked_in_turn) f cdv A outer s H E).nox (defBody s_asked_in_turn) (z_asked_in_turn K) := by
  have hu9 := room9 hr
  have hu18 := room18 hr
  have hu65 := room65 hr
  have nd : (N_asked_in_turn).Nodup := sc_asked_in_turn.nd
  unfold z_asked_in_turn
  exact (zss_cons (zs_for PassesOwn.never rfl (zi_range2 rfl g_range (za_cons ze_int (za_cons (ze_op op_zAdd (ze_callB call_zLenA rfl g_len boot_len (za_cons (zv 0) za_nil)) ze_int) za_nil))) (zgn 2 nd) (zss_one (zs_if (zt_cmp (op_zEq hu65) (ze_ix hu9 (ze_call G_trusted hr (by decide) rfl (za_cons (ze_slice (zv 0) zpo_none (zpo_some (zv 2))) (za_cons (zv 1) za_nil))) ze_int (fun _ _ => rfl)) ze_str (by first | exact nomark _ | exact nobehind _ (by decide) (by decide) | rfl)) (zss_one (zs_ret (zv 2))) zss_nil)))
    (zss_one (zs_ret ze_non)))
theorem b__law_begin {P : Program} {w : World} {K : PySem.W.Frag} {mg : Str → Option Value} {base : Heap} {f : Addr} (g_int : mg "int" = none)
    (cdv : Value) (A : Around) (outer : List PySem.Env) (s : Shared) (H : Hp) (E : XK) (hr : Room 0 (A.deeper (envOfC "_law_begin" (defScope s__law_begin) s.heap.objs.size f cdv))) :
    ZSs (cxOf L2.CX0 P w K mg base N__law_begin "_law_begin" (defScope s__law_begin) f cdv A outer s H E).nox (defBody s__law_begin) (z__law_begin K) := by
  have hu9 := room9 hr
  have hu18 := room18 hr
  have hu65 := room65 hr
  have nd : (N__law_begin).Nodup := sc__law_begin.nd
  unfold z__law_begin
  exact (zss_one (zs_ret (ze_lst (za_cons (ze_lc (own := [("cell", 1)]) rfl nd (zi_any (zv 0)) (blkOk_by (N := N__law_begin) (sc := defScope s__law_begin) (by decide +kernel)) (gw_name 1 (by decide) (fun _ _ _ _ _ => pg_name (i := 1) nd rfl (by first | exact Or.inl rfl | exact Or.inr rfl) (by first | exact Or.inl rfl | exact Or.inr rfl))) (fun _ _ _ _ _ => zts_nil) (fun _ _ _ _ _ => (ze_callTy call_zInt rfl g_int boot_int (za_cons (zv 1) za_nil)))) (za_cons ze_int (za_cons ze_int (za_cons ze_int za_nil)))))))
theorem b__law_draw {P : Program} {w : World} {K : PySem.W.Frag} {mg : Str → Option Value} {base : Heap} {f : Addr} (g_int : mg "int" = none) (g_len : mg "len" = none) (g_abs : mg "abs" = none)
    (cdv : Value) (A : Around) (outer : List PySem.Env) (s : Shared) (H : Hp) (E : XK) (hr : Room 0 (A.deeper (envOfC "_law_draw" (defScope s__law_draw) s.heap.objs.size f cdv))) :
    ZSs (cxOf L2.CX0 P w K mg base N__law_draw "_law_draw" (defScope s__law_draw) f cdv A outer s H E).nox (defBody s__law_draw) (z__law_draw K) := by
  have hu9 := room9 hr
  have hu18 := room18 hr
  have hu65 := room65 hr
  have nd : (N__law_draw).Nodup := sc__law_draw.nd
  unfold z__law_draw
  exact (zss_cons (zs_if (zt_cmp op_zGt (ze_ix hu9 (zv 0) ze_int (fun _ _ => rfl)) ze_int (by first | exact nomark _ | exact nobehind _ (by decide) (by decide) | rfl)) (zss_cons (zst 2 nd (ze_ix hu9 (zv 0) ze_int (fun _ _ => rfl)))
    (zss_cons (zs_asg (ze_op op_zDiv (zv 2) (zv 1)) (zg_sub hu9 (zv 0) ze_int))
    (zss_one (zs_ret (ze_op op_zMod (ze_callTy call_zInt rfl g_int boot_int (za_cons (zv 2) za_nil)) (zv 1)))))) zss_nil)
    (zss_cons (zst 3 nd ze_int)
    (zss_cons (zs_if (zt_cmp op_zLt (ze_ix hu9 (zv 0) ze_int (fun _ _ => rfl)) (ze_callB call_zLenA rfl g_len boot_len (za_cons (ze_ix hu9 (zv 0) ze_int (fun _ _ => rfl)) za_nil)) (by first | exact nomark _ | exact nobehind _ (by decide) (by decide) | rfl)) (zss_cons (zst 4 nd (ze_ix hu9 (ze_ix hu9 (zv 0) ze_int (fun _ _ => rfl)) (ze_ix hu9 (zv 0) ze_int (fun _ _ => rfl)) (fun _ _ => rfl)))
    (zss_one (zst 3 nd (ze_op op_zAdd (ze_op op_zMul ze_int (ze_callB call_zAbs rfl g_abs boot_abs (za_cons (zv 4) za_nil))) (ze_callTy call_zInt rfl g_int boot_int (za_cons (ze_cmp op_zLt (zv 4) ze_int (by first | exact nomark _ | exact nobehind _ (by decide) (by decide) | rfl)) za_nil)))))) zss_nil)
    (zss_cons (zs_augS hu9 (zv 0) ze_int ze_int iop_zAdd)
    (zss_cons (zs_if (zt_cmp op_zGe (zv 3) (ze_op op_zMul ze_int (ze_op op_zPow ze_int ze_int)) (by first | exact nomark _ | exact nobehind _ (by decide) (by decide) | rfl)) (zss_cons (zst 2 nd (ze_op op_zMod (ze_callTy call_zInt rfl g_int boot_int (za_cons (ze_op op_zDiv (zv 3) ze_int) za_nil)) (ze_op op_zShl ze_int ze_int)))
    (zss_cons (zs_asg (ze_op op_zDiv (zv 2) (zv 1)) (zg_sub hu9 (zv 0) ze_int))
    (zss_one (zs_ret (ze_op op_zMod (ze_callTy call_zInt rfl g_int boot_int (za_cons (zv 2) za_nil)) (zv 1)))))) zss_nil)
    (zss_cons (zs_asg (ze_op op_zMod (ze_callTy call_zInt rfl g_int boot_int (za_cons (ze_op op_zAdd (ze_op op_zAdd (ze_op op_zAdd (ze_op op_zMul (ze_ix hu9 (zv 0) ze_int (fun _ _ => rfl)) ze_int) (ze_op op_zMul (ze_op op_zMod (ze_callTy call_zInt rfl g_int boot_int (za_cons (zv 3) za_nil)) ze_int) ze_int)) (ze_op op_zMul (ze_ix hu9 (zv 0) ze_int (fun _ _ => rfl)) ze_int)) ze_int) za_nil)) ze_int) (zg_sub hu9 (zv 0) ze_int))
    (zss_one (zs_ret (ze_op op_zMod (ze_callTy call_zInt rfl g_int boot_int (za_cons (ze_op op_zDiv (ze_ix hu9 (zv 0) ze_int (fun _ _ => rfl)) ze_int) za_nil)) (zv 1))))))))))
theorem b__law_pick {P : Program} {w : World} {K : PySem.W.Frag} {mg : Str → Option Value} {base : Heap} {f : Addr} (g_len : mg "len" = none) (G__law_draw : GF P w K mg base 1 "_law_draw" (sp__law_draw K) [])
    (cdv : Value) (A : Around) (outer : List PySem.Env) (s : Shared) (H : Hp) (E : XK) (hr : Room 1 (A.deeper (envOfC "_law_pick" (defScope s__law_pick) s.heap.objs.size f cdv))) :
    ZSs (cxOf L2.CX0 P w K mg base N__law_pick "_law_pick" (defScope s__law_pick) f cdv A outer s H E).nox (defBody s__law_pick) (z__law_pick K) := by
  have hu9 := room9 hr
  have hu18 := room18 hr
  have hu65 := room65 hr
  have nd : (N__law_pick).Nodup := sc__law_pick.nd
  unfold z__law_pick
  exact (zss_one (zs_ret (ze_ix hu9 (zv 1) (ze_call G__law_draw hr (by decide) rfl (za_cons (zv 0) (za_cons (ze_callB call_zLenA rfl g_len boot_len (za_cons (zv 1) za_nil)) za_nil))) (fun _ _ => rfl))))
theorem b__law_shuffled {P : Program} {w : World} {K : PySem.W.Frag} {mg : Str → Option Value} {base : Heap} {f : Addr} (g_list : mg "list" = none) (g_range : mg "range" = none) (g_len : mg "len" = none) (G__law_draw : GF P w K mg base 1 "_law_draw" (sp__law_draw K) [])
    (cdv : Value) (A : Around) (outer : List PySem.Env) (s : Shared) (H : Hp) (E : XK) (hr : Room 1 (A.deeper (envOfC "_law_shuffled" (defScope s__law_shuffled) s.heap.objs.size f cdv))) :
    ZSs (cxOf L2.CX0 P w K mg base N__law_shuffled "_law_shuffled" (defScope s__law_shuffled) f cdv A outer s H E).nox (defBody s__law_shuffled) (z__law_shuffled K) := by
  have hu9 := room9 hr
  have hu18 := room18 hr
  have hu65 := room65 hr
  have nd : (N__law_shuffled).Nodup := sc__law_shuffled.nd
  unfold z__law_shuffled
  exact (zss_cons (zst 2 nd (ze_callTy (call_zListA rfl) rfl g_list boot_list (za_cons (zv 1) za_nil)))
    (zss_cons (zst 3 nd (ze_lst za_nil))
    (zss_cons (zs_for PassesOwn.never rfl (zi_range1 rfl g_range (za_cons (ze_callB call_zLenA rfl g_len boot_len (za_cons (zv 2) za_nil)) za_nil)) (zgn 4 nd) (zss_one (zs_expr (ze_bm PySem.F.plainAttrs_list PySem.F.slot_list_append PySem.F.type_list_append mt_zAppend (zv 3) (za_cons (ze_bm PySem.F.plainAttrs_list PySem.F.slot_list_pop PySem.F.type_list_pop mt_zPopAt (zv 2) (za_cons (ze_call G__law_draw hr (by decide) rfl (za_cons (zv 0) (za_cons (ze_callB call_zLenA rfl g_len boot_len (za_cons (zv 2) za_nil)) za_nil))) za_nil)) za_nil)))))
    (zss_one (zs_ret (zv 3))))))
theorem b__law_is_int {P : Program} {w : World} {K : PySem.W.Frag} {mg : Str → Option Value} {base : Heap} {f : Addr} (g_isinstance : mg "isinstance" = none) (g_int : mg "int" = none) (g_bool : mg "bool" = none)
    (cdv : Value) (A : Around) (outer : List PySem.Env) (s : Shared) (H : Hp) (E : XK) (hr : Room 0 (A.deeper (envOfC "_law_is_int" (defScope s__law_is_int) s.heap.objs.size f cdv))) :
    ZSs (cxOf L2.CX0 P w K mg base N__law_is_int "_law_is_int" (defScope s__law_is_int) f cdv A outer s H E).nox (defBody s__law_is_int) (z__law_is_int K) := by
  have hu9 := room9 hr
  have hu18 := room18 hr
  have hu65 := room65 hr
  have nd : (N__law_is_int).Nodup := sc__law_is_int.nd
  unfold z__law_is_int
  exact (zss_one (zs_ret (ze_and (ze_isi (T := "int") rfl g_isinstance rfl g_int boot_int (zv 0)) (ze_one (ze_not (ze_isi (T := "bool") rfl g_isinstance rfl g_bool boot_bool (zv 0)))))))
theorem b__law_same {P : Program} {w : World} {K : PySem.W.Frag} {mg : Str → Option Value} {base : Heap} {f : Addr} (g_range : mg "range" = none) (g_isinstance : mg "isinstance" = none) (g_tuple : mg "tuple" = none) (g_len : mg "len" = none) (g_str : mg "str" = none) (G__law_is_int : GF P w K mg base 1 "_law_is_int" (sp__law_is_int K) [])
    (cdv : Value) (A : Around) (outer : List PySem.Env) (s : Shared) (H : Hp) (E : XK) (hr : Room 1 (A.deeper (envOfC "_law_same" (defScope s__law_same) s.heap.objs.size f cdv))) :
    ZSs (cxOf L2.CX0 P w K mg base N__law_same "_law_same" (defScope s__law_same) f cdv A outer s H E).nox (defBody s__law_same) (z__law_same K) := by
  have hu9 := room9 hr
  have hu18 := room18 hr
  have hu65 := room65 hr
  have nd : (N__law_same).Nodup := sc__law_same.nd
  unfold z__law_same
  exact (zss_cons (zst 2 nd (ze_lst (za_cons (ze_tup (za_cons (zv 0) (za_cons (zv 1) za_nil))) za_nil)))
    (zss_cons (zs_for PassesOwn.never rfl (zi_range1 rfl g_range (za_cons ze_int za_nil)) (zgn 3 nd) (zss_cons (zs_if (zt_not (zt_truth (zv 2))) (zss_one zs_break) zss_nil)
    (zss_cons (zs_asg (ze_bm0 PySem.F.plainAttrs_list PySem.F.slot_list_pop PySem.F.type_list_pop mt_zPop (zv 2)) (zg_tup rfl (zgs_cons (zgn 4 nd) (zgs_cons (zgn 5 nd) zgs_nil))))
    (zss_one (zs_if (zt_truth (ze_isi (T := "tuple") rfl g_isinstance rfl g_tuple boot_tuple (zv 5))) (zss_cons (zs_if (zt_w (zw_or (zt_not (zt_truth (ze_isi (T := "tuple") rfl g_isinstance rfl g_tuple boot_tuple (zv 4)))) (zw_or1 (zt_cmp (op_zNe hu65) (ze_callB call_zLenA rfl g_len boot_len (za_cons (zv 4) za_nil)) (ze_callB call_zLenA rfl g_len boot_len (za_cons (zv 5) za_nil)) (by first | exact nomark _ | exact nobehind _ (by decide) (by decide) | rfl))))) (zss_one (zs_ret ze_bl)) zss_nil)
    (zss_one (zs_expr (ze_bm PySem.F.plainAttrs_list PySem.F.slot_list_extend PySem.F.type_list_extend mt_zExtend (zv 2) (za_cons (ze_lc (own := [("k", 6)]) rfl nd (zi_range1 rfl g_range (za_cons (ze_callB call_zLenA rfl g_len boot_len (za_cons (zv 5) za_nil)) za_nil)) (blkOk_by (N := N__law_same) (sc := defScope s__law_same) (by decide +kernel)) (gw_name 6 (by decide) (fun _ _ _ _ _ => pg_name (i := 6) nd rfl (by first | exact Or.inl rfl | exact Or.inr rfl) (by first | exact Or.inl rfl | exact Or.inr rfl))) (fun _ _ _ _ _ => zts_nil) (fun _ _ _ _ _ => (ze_tup (za_cons (ze_ix hu9 (zv 4) (zv 6) (fun _ _ => rfl)) (za_cons (ze_ix hu9 (zv 5) (zv 6) (fun _ _ => rfl)) za_nil))))) za_nil))))) (zss_one (zs_if (zt_cmp op_zIs (zv 5) ze_non (by first | exact nomark _ | exact nobehind _ (by decide) (by decide) | rfl)) (zss_one (zs_if (zt_cmp op_zIsNot (zv 4) ze_non (by first | exact nomark _ | exact nobehind _ (by decide) (by decide) | rfl)) (zss_one (zs_ret ze_bl)) zss_nil)) (zss_one (zs_if (zt_truth (ze_isi (T := "str") rfl g_isinstance rfl g_str boot_str (zv 5))) (zss_one (zs_if (zt_w (zw_or (zt_not (zt_truth (ze_isi (T := "str") rfl g_isinstance rfl g_str boot_str (zv 4)))) (zw_or1 (zt_cmp (op_zNe hu65) (zv 4) (zv 5) (by first | exact nomark _ | exact nobehind _ (by decide) (by decide) | rfl))))) (zss_one (zs_ret ze_bl)) zss_nil)) (zss_one (zs_if (zt_w (zw_or (zt_not (zt_truth (ze_call G__law_is_int hr (by decide) rfl (za_cons (zv 4) za_nil)))) (zw_or1 (zt_cmp (op_zNe hu65) (zv 4) (zv 5) (by first | exact nomark _ | exact nobehind _ (by decide) (by decide) | rfl))))) (zss_one (zs_ret ze_bl)) zss_nil)))))))))))
    (zss_one (zs_ret ze_bl))))
theorem b__law_string {P : Program} {w : World} {K : PySem.W.Frag} {mg : Str → Option Value} {base : Heap} {f : Addr} (g_range : mg "range" = none) (g_len : mg "len" = none) (G__law_pick : GF P w K mg base 2 "_law_pick" (sp__law_pick K) []) (G__law_draw : GF P w K mg base 1 "_law_draw" (sp__law_draw K) [])
    (cdv : Value) (A : Around) (outer : List PySem.Env) (s : Shared) (H : Hp) (E : XK) (hr : Room 2 (A.deeper (envOfC "_law_string" (defScope s__law_string) s.heap.objs.size f cdv))) :
    ZSs (cxOf L2.CX0 P w K mg base N__law_string "_law_string" (defScope s__law_string) f cdv A outer s H E).nox (defBody s__law_string) (z__law_string K) := by
  have hu9 := room9 hr
  have hu18 := room18 hr
  have hu65 := room65 hr
  have nd : (N__law_string).Nodup := sc__law_string.nd
  unfold z__law_string
  exact (zss_cons (zst 1 nd ze_str)
    (zss_cons (zst 2 nd (ze_call G__law_pick hr (by decide) rfl (za_cons (zv 0) (za_cons (ze_lst (za_cons ze_int (za_cons ze_int (za_cons ze_int (za_cons ze_int (za_cons ze_int (za_cons ze_int (za_cons ze_int (za_cons ze_int (za_cons ze_int (za_cons ze_int (za_cons ze_int za_nil)))))))))))) za_nil))))
    (zss_one (zs_ret (ze_bm PySem.F.plainAttrs_str PySem.F.slot_str_join PySem.F.type_str_join mt_zJoin ze_str (za_cons (ze_lc (own := [("k", 3)]) rfl nd (zi_range1 rfl g_range (za_cons (zv 2) za_nil)) (blkOk_by (N := N__law_string) (sc := defScope s__law_string) (by decide +kernel)) (gw_name 3 (by decide) (fun _ _ _ _ _ => pg_name (i := 3) nd rfl (by first | exact Or.inl rfl | exact Or.inr rfl) (by first | exact Or.inl rfl | exact Or.inr rfl))) (fun _ _ _ _ _ => zts_nil) (fun _ _ _ _ _ => (ze_ix hu9 (zv 1) (ze_call G__law_draw hr (by decide) rfl (za_cons (zv 0) (za_cons (ze_callB call_zLenA rfl g_len boot_len (za_cons (zv 1) za_nil)) za_nil))) (fun _ _ => rfl)))) za_nil))))))
theorem b__law_near_string {P : Program} {w : World} {K : PySem.W.Frag} {mg : Str → Option Value} {base : Heap} {f : Addr} (g_len : mg "len" = none) (G__law_draw : GF P w K mg base 1 "_law_draw" (sp__law_draw K) [])
    (cdv : Value) (A : Around) (outer : List PySem.Env) (s : Shared) (H : Hp) (E : XK) (hr : Room 1 (A.deeper (envOfC "_law_near_string" (defScope s__law_near_string) s.heap.objs.size f cdv))) :
    ZSs (cxOf L2.CX0 P w K mg base N__law_near_string "_law_near_string" (defScope s__law_near_string) f cdv A outer s H E).nox (defBody s__law_near_string) (z__law_near_string K) := by
  have hu9 := room9 hr
  have hu18 := room18 hr
  have hu65 := room65 hr
  have nd : (N__law_near_string).Nodup := sc__law_near_string.nd
  unfold z__law_near_string
  exact (zss_cons (zst 2 nd (ze_call G__law_draw hr (by decide) rfl (za_cons (zv 0) (za_cons ze_int za_nil))))
    (zss_cons (zst 3 nd (ze_call G__law_draw hr (by decide) rfl (za_cons (zv 0) (za_cons (ze_op op_zAdd (ze_callB call_zLenA rfl g_len boot_len (za_cons (zv 1) za_nil)) ze_int) za_nil))))
    (zss_cons (zst 4 nd (ze_ix hu9 ze_str (ze_call G__law_draw hr (by decide) rfl (za_cons (zv 0) (za_cons ze_int za_nil))) (fun _ _ => rfl)))
    (zss_cons (zs_if (zt_cmp (op_zEq hu65) (zv 2) ze_int (by first | exact nomark _ | exact nobehind _ (by decide) (by decide) | rfl)) (zss_one (zs_ret (ze_op op_zAdd (ze_slice (zv 1) zpo_none (zpo_some ze_int)) (zv 4)))) zss_nil)
    (zss_cons (zs_if (zt_cmp (op_zEq hu65) (zv 2) ze_int (by first | exact nomark _ | exact nobehind _ (by decide) (by decide) | rfl)) (zss_one (zs_ret (ze_slice (zv 1) zpo_none (zpo_some (ze_un un_zNeg ze_int))))) zss_nil)
    (zss_cons (zs_if (zt_cmp (op_zEq hu65) (zv 2) ze_int (by first | exact nomark _ | exact nobehind _ (by decide) (by decide) | rfl)) (zss_one (zs_ret (ze_if (zt_cmp (op_zNe hu65) (ze_bm0 PySem.F.plainAttrs_str PySem.F.slot_str_upper PySem.F.type_str_upper mt_zUpper (zv 1)) (zv 1) (by first | exact nomark _ | exact nobehind _ (by decide) (by decide) | rfl)) (ze_bm0 PySem.F.plainAttrs_str PySem.F.slot_str_upper PySem.F.type_str_upper mt_zUpper (zv 1)) (ze_bm0 PySem.F.plainAttrs_str PySem.F.slot_str_lower PySem.F.type_str_lower mt_zLower (zv 1))))) zss_nil)
    (zss_one (zs_ret (ze_op op_zAdd (ze_op op_zAdd (ze_slice (zv 1) zpo_none (zpo_some (zv 3))) (zv 4)) (ze_slice (zv 1) (zpo_some (ze_op op_zAdd (zv 3) ze_int)) zpo_none))))))))))
theorem b__law_pool {P : Program} {w : World} {K : PySem.W.Frag} {mg : Str → Option Value} {base : Heap} {f : Addr} (g_len : mg "len" = none) (G__law_string : GF P w K mg base 3 "_law_string" (sp__law_string K) []) (G__law_near_string : GF P w K mg base 2 "_law_near_string" (sp__law_near_string K) []) (G__law_pick : GF P w K mg base 2 "_law_pick" (sp__law_pick K) []) (G__law_draw : GF P w K mg base 1 "_law_draw" (sp__law_draw K) []) (G__law_shuffled : GF P w K mg base 2 "_law_shuffled" (sp__law_shuffled K) [])
    (cdv : Value) (A : Around) (outer : List PySem.Env) (s : Shared) (H : Hp) (E : XK) (hr : Room 3 (A.deeper (envOfC "_law_pool" (defScope s__law_pool) s.heap.objs.size f cdv))) :
    ZSs (cxOf L2.CX0 P w K mg base N__law_pool "_law_pool" (defScope s__law_pool) f cdv A outer s H E).nox (defBody s__law_pool) (z__law_pool K) := by
  have hu9 := room9 hr
  have hu18 := room18 hr
  have hu65 := room65 hr
  have nd : (N__law_pool).Nodup := sc__law_pool.nd
  unfold z__law_pool
  exact (zss_cons (zst 1 nd (ze_call G__law_string hr (by decide) rfl (za_cons (zv 0) za_nil)))
    (zss_cons (zst 2 nd (ze_lst (za_cons (zv 1) (za_cons (ze_call G__law_near_string hr (by decide) rfl (za_cons (zv 0) (za_cons (zv 1) za_nil))) (za_cons (ze_call G__law_near_string hr (by decide) rfl (za_cons (zv 0) (za_cons (zv 1) za_nil))) (za_cons (ze_call G__law_string hr (by decide) rfl (za_cons (zv 0) za_nil)) za_nil))))))
    (zss_cons (zst 3 nd (ze_call G__law_pick hr (by decide) rfl (za_cons (zv 0) (za_cons (ze_lst (za_cons ze_int (za_cons ze_int (za_cons ze_int (za_cons (ze_un un_zNeg ze_int) (za_cons (ze_un un_zNeg ze_int) (za_cons ze_int (za_cons (ze_op op_zSub (ze_call G__law_draw hr (by decide) rfl (za_cons (zv 0) (za_cons ze_int za_nil))) ze_int) za_nil)))))))) za_nil))))
    (zss_cons (zst 4 nd (ze_lst (za_cons (ze_tup (za_cons ze_str za_nil)) (za_cons (ze_tup (za_cons ze_str (za_cons (zv 1) (za_cons (zv 3) za_nil)))) (za_cons (ze_tup (za_cons ze_str (za_cons (zv 1) (za_cons (ze_op op_zAdd (zv 3) ze_int) za_nil)))) (za_cons (ze_tup (za_cons ze_str (za_cons (zv 1) (za_cons ze_int za_nil)))) (za_cons (ze_tup (za_cons ze_str (za_cons (zv 1) (za_cons (ze_un un_zNeg ze_int) za_nil)))) za_nil)))))))
    (zss_cons (zs_for PassesOwn.never rfl (zi_any (zv 2)) (zgn 5 nd) (zss_one (zs_expr (ze_bm PySem.F.plainAttrs_list PySem.F.slot_list_extend PySem.F.type_list_extend mt_zExtend (zv 4) (za_cons (ze_lst (za_cons (ze_tup (za_cons ze_str (za_cons (zv 5) za_nil))) (za_cons (ze_tup (za_cons ze_str (za_cons (zv 5) za_nil))) (za_cons (ze_tup (za_cons ze_str (za_cons (zv 5) (za_cons (zv 3) za_nil)))) (za_cons (ze_tup (za_cons ze_str (za_cons (zv 5) (za_cons (ze_op op_zAdd (zv 3) ze_int) za_nil)))) za_nil))))) za_nil)))))
    (zss_cons (zst 6 nd (ze_lst (za_cons (ze_tup (za_cons ze_str (za_cons (zv 1) za_nil))) (za_cons (ze_tup (za_cons ze_str (za_cons (zv 1) za_nil))) za_nil))))
    (zss_cons (zs_for PassesOwn.never rfl (zi_any (ze_call G__law_shuffled hr (by decide) rfl (za_cons (zv 0) (za_cons (zv 4) za_nil)))) (zgn 7 nd) (zss_one (zs_if (zt_w (zw_and (zt_cmp (op_zNotIn hu65) (zv 7) (zv 6) (by first | exact nomark _ | exact nobehind _ (by decide) (by decide) | rfl)) (zw_and1 (zt_cmp op_zLt (ze_callB call_zLenA rfl g_len boot_len (za_cons (zv 6) za_nil)) ze_int (by first | exact nomark _ | exact nobehind _ (by decide) (by decide) | rfl))))) (zss_one (zs_expr (ze_bm PySem.F.plainAttrs_list PySem.F.slot_list_append PySem.F.type_list_append mt_zAppend (zv 6) (za_cons (zv 7) za_nil)))) zss_nil)))
    (zss_one (zs_ret (ze_call G__law_shuffled hr (by decide) rfl (za_cons (zv 0) (za_cons (zv 6) za_nil))))))))))))
theorem b__law_row_of {P : Program} {w : World} {K : PySem.W.Frag} {mg : Str → Option Value} {base : Heap} {f : Addr} (g_len : mg "len" = none) (g_range : mg "range" = none) (g_min : mg "min" = none) (g_max : mg "max" = none) (G__law_draw : GF P w K mg base 1 "_law_draw" (sp__law_draw K) []) (G__law_pick : GF P w K mg base 2 "_law_pick" (sp__law_pick K) []) (G__law_shuffled : GF P w K mg base 2 "_law_shuffled" (sp__law_shuffled K) [])
    (cdv : Value) (A : Around) (outer : List PySem.Env) (s : Shared) (H : Hp) (E : XK) (hr : Room 2 (A.deeper (envOfC "_law_row_of" (defScope s__law_row_of) s.heap.objs.size f cdv))) :
    ZSs (cxOf L2.CX0 P w K mg base N__law_row_of "_law_row_of" (defScope s__law_row_of) f cdv A outer s H E).nox (defBody s__law_row_of) (z__law_row_of K) := by
  have hu9 := room9 hr
  have hu18 := room18 hr
  have hu65 := room65 hr
  have nd : (N__law_row_of).Nodup := sc__law_row_of.nd
  unfold z__law_row_of
  exact (zss_cons (zst 2 nd (ze_call G__law_draw hr (by decide) rfl (za_cons (zv 0) (za_cons ze_int za_nil))))
    (zss_cons (zs_if (zt_cmp (op_zEq hu65) (zv 2) ze_int (by first | exact nomark _ | exact nobehind _ (by decide) (by decide) | rfl)) (zss_cons (zst 3 nd (ze_op op_zAdd (ze_slice (zv 1) zpo_none (zpo_some (ze_op op_zAdd ze_int (ze_call G__law_draw hr (by decide) rfl (za_cons (zv 0) (za_cons (ze_callB call_zLenA rfl g_len boot_len (za_cons (zv 1) za_nil)) za_nil)))))) (ze_lst (za_cons ze_non za_nil))))
    (zss_one (zs_ret (ze_lst (za_cons (ze_lc (own := [("k", 7)]) rfl nd (zi_range1 rfl g_range (za_cons (ze_op op_zAdd ze_int (ze_call G__law_draw hr (by decide) rfl (za_cons (zv 0) (za_cons ze_int za_nil)))) za_nil)) (blkOk_by (N := N__law_row_of) (sc := defScope s__law_row_of) (by decide +kernel)) (gw_name 7 (by decide) (fun _ _ _ _ _ => pg_name (i := 7) nd rfl (by first | exact Or.inl rfl | exact Or.inr rfl) (by first | exact Or.inl rfl | exact Or.inr rfl))) (fun _ _ _ _ _ => zts_nil) (fun _ _ _ _ _ => (ze_call G__law_pick hr (by decide) rfl (za_cons (zv 0) (za_cons (zv 3) za_nil))))) (za_cons (ze_call G__law_draw hr (by decide) rfl (za_cons (zv 0) (za_cons ze_int za_nil))) za_nil)))))) zss_nil)
    (zss_cons (zs_if (zt_cmp (op_zEq hu65) (zv 2) ze_int (by first | exact nomark _ | exact nobehind _ (by decide) (by decide) | rfl)) (zss_cons (zst 4 nd (ze_op op_zAdd ze_int (ze_call G__law_draw hr (by decide) rfl (za_cons (zv 0) (za_cons (ze_callB call_zLenA rfl g_len boot_len (za_cons (zv 1) za_nil)) za_nil)))))
    (zss_one (zs_ret (ze_lst (za_cons (ze_slice (zv 1) zpo_none (zpo_some (zv 4))) (za_cons (ze_callB (call_zMin2 rfl) rfl g_min boot_min (za_cons (ze_callB (call_zMax2 rfl) rfl g_max boot_max (za_cons (ze_op op_zAdd (ze_op op_zSub (zv 4) ze_int) (ze_call G__law_draw hr (by decide) rfl (za_cons (zv 0) (za_cons ze_int za_nil)))) (za_cons ze_int za_nil))) (za_cons ze_int za_nil))) za_nil)))))) zss_nil)
    (zss_cons (zs_if (zt_cmp (op_zEq hu65) (zv 2) ze_int (by first | exact nomark _ | exact nobehind _ (by decide) (by decide) | rfl)) (zss_cons (zst 4 nd (ze_op op_zAdd ze_int (ze_call G__law_draw hr (by decide) rfl (za_cons (zv 0) (za_cons ze_int za_nil)))))
    (zss_one (zs_ret (ze_lst (za_cons (ze_call G__law_shuffled hr (by decide) rfl (za_cons (zv 0) (za_cons (ze_op op_zAdd (ze_op op_zMul (ze_slice (zv 1) zpo_none (zpo_some ze_int)) (zv 4)) (ze_op op_zMul (ze_lst (za_cons ze_non za_nil)) (ze_call G__law_draw hr (by decide) rfl (za_cons (zv 0) (za_cons ze_int za_nil))))) za_nil))) (za_cons (ze_callB (call_zMax2 rfl) rfl g_max boot_max (za_cons (ze_op op_zAdd (ze_op op_zSub (zv 4) ze_int) (ze_call G__law_draw hr (by decide) rfl (za_cons (zv 0) (za_cons ze_int za_nil)))) (za_cons ze_int za_nil))) za_nil)))))) zss_nil)
    (zss_cons (zst 5 nd (ze_slice (zv 1) (zpo_some ze_int) (zpo_some (ze_op op_zAdd ze_int (ze_call G__law_draw hr (by decide) rfl (za_cons (zv 0) (za_cons (ze_callB (call_zMin2 rfl) rfl g_min boot_min (za_cons ze_int (za_cons (ze_op op_zSub (ze_callB call_zLenA rfl g_len boot_len (za_cons (zv 1) za_nil)) ze_int) za_nil))) za_nil)))))))
    (zss_cons (zst 6 nd (ze_op op_zAdd (ze_op op_zMul (ze_lst (za_cons (ze_ix hu9 (zv 1) ze_int (fun _ _ => rfl)) za_nil)) (ze_op op_zAdd ze_int (ze_call G__law_draw hr (by decide) rfl (za_cons (zv 0) (za_cons ze_int za_nil))))) (zv 5)))
    (zss_cons (zst 6 nd (ze_op op_zAdd (ze_slice (zv 6) zpo_none (zpo_some ze_int)) (ze_op op_zMul (ze_lst (za_cons ze_non za_nil)) (ze_call G__law_draw hr (by decide) rfl (za_cons (zv 0) (za_cons (ze_op op_zSub ze_int (ze_callB (call_zMin2 rfl) rfl g_min boot_min (za_cons (ze_callB call_zLenA rfl g_len boot_len (za_cons (zv 6) za_nil)) (za_cons ze_int za_nil)))) za_nil))))))
    (zss_one (zs_ret (ze_lst (za_cons (ze_call G__law_shuffled hr (by decide) rfl (za_cons (zv 0) (za_cons (zv 6) za_nil))) (za_cons (ze_callB (call_zMax2 rfl) rfl g_max boot_max (za_cons (ze_op op_zAdd (ze_op op_zSub (ze_callB call_zLenA rfl g_len boot_len (za_cons (zv 5) za_nil)) ze_int) (ze_call G__law_draw hr (by decide) rfl (za_cons (zv 0) (za_cons ze_int za_nil)))) (za_cons ze_int za_nil))) za_nil))))))))))))
theorem b__law_possible {P : Program} {w : World} {K : PySem.W.Frag} {mg : Str → Option Value} {base : Heap} {f : Addr} (g_len : mg "len" = none) (g_tuple : mg "tuple" = none) (g_sorted : mg "sorted" = none)
    (cdv : Value) (A : Around) (outer : List PySem.Env) (s : Shared) (H : Hp) (E : XK) (hr : Room 0 (A.deeper (envOfC "_law_possible" (defScope s__law_possible) s.heap.objs.size f cdv))) :
    ZSs (cxOf L2.CX0 P w K mg base N__law_possible "_law_possible" (defScope s__law_possible) f cdv A outer s H E).nox (defBody s__law_possible) (z__law_possible K) := by
  have hu9 := room9 hr
  have hu18 := room18 hr
  have hu65 := room65 hr
  have nd : (N__law_possible).Nodup := sc__law_possible.nd
  unfold z__law_possible
  exact (zss_cons (zs_setLc (i := 2) (own := [("one", 5)]) rfl nd rfl rfl (sw_true rfl rfl rfl (by decide +kernel)) (zi_any (zv 0)) (blkOk_by (N := N__law_possible) (sc := defScope s__law_possible) (by decide +kernel)) (gw_name 5 (by decide) (fun _ _ _ _ _ => pg_name (i := 5) nd rfl (by first | exact Or.inl rfl | exact Or.inr rfl) (by first | exact Or.inl rfl | exact Or.inr rfl))) (fun _ _ _ _ _ => (zts_one (zt_cmp op_zIsNot (zv 5) ze_non (by first | exact nomark _ | exact nobehind _ (by decide) (by decide) | rfl)))) (fun _ _ _ _ _ => (zv 5)))
    (zss_cons (zs_if (zt_cmp op_zLe (ze_callB call_zLenA rfl g_len boot_len (za_cons (zv 2) za_nil)) (zv 1) (by first | exact nomark _ | exact nobehind _ (by decide) (by decide) | rfl)) (zss_one (zs_ret ze_non)) zss_nil)
    (zss_cons (zst 3 nd (ze_lst za_nil))
    (zss_cons (zs_for PassesOwn.never rfl (zi_any (zv 2)) (zgn 4 nd) (zss_one (zs_if (zt_w (zw_and (zt_cmp (op_zNotIn hu65) (zv 4) (zv 3) (by first | exact nomark _ | exact nobehind _ (by decide) (by decide) | rfl)) (zw_and1 (zt_cmp op_zLe (ze_callB call_zLenA rfl g_len boot_len (za_cons (ze_lc (own := [("one", 5)]) rfl nd (zi_any (zv 2)) (blkOk_by (N := N__law_possible) (sc := defScope s__law_possible) (by decide +kernel)) (gw_name 5 (by decide) (fun _ _ _ _ _ => pg_name (i := 5) nd rfl (by first | exact Or.inl rfl | exact Or.inr rfl) (by first | exact Or.inl rfl | exact Or.inr rfl))) (fun _ _ _ _ _ => (zts_one (zt_cmp (op_zNe hu65) (zv 5) (zv 4) (by first | exact nomark _ | exact nobehind _ (by decide) (by decide) | rfl)))) (fun _ _ _ _ _ => (zv 5))) za_nil)) (zv 1) (by first | exact nomark _ | exact nobehind _ (by decide) (by decide) | rfl))))) (zss_one (zs_expr (ze_bm PySem.F.plainAttrs_list PySem.F.slot_list_append PySem.F.type_list_append mt_zAppend (zv 3) (za_cons (zv 4) za_nil)))) zss_nil)))
    (zss_one (zs_ret (ze_callTy call_zTuple rfl g_tuple boot_tuple (za_cons (ze_callB (call_zSorted hu18 rfl) rfl g_sorted boot_sorted (za_cons (zv 3) za_nil)) za_nil))))))))
theorem b__law_verdict {P : Program} {w : World} {K : PySem.W.Frag} {mg : Str → Option Value} {base : Heap} {f : Addr} (g_len : mg "len" = none) (G__law_possible : GF P w K mg base 1 "_law_possible" (sp__law_possible K) [])
    (cdv : Value) (A : Around) (outer : List PySem.Env) (s : Shared) (H : Hp) (E : XK) (hr : Room 1 (A.deeper (envOfC "_law_verdict" (defScope s__law_verdict) s.heap.objs.size f cdv))) :
    ZSs (cxOf L2.CX0 P w K mg base N__law_verdict "_law_verdict" (defScope s__law_verdict) f cdv A outer s H E).nox (defBody s__law_verdict) (z__law_verdict K) := by
  have hu9 := room9 hr
  have hu18 := room18 hr
  have hu65 := room65 hr
  have nd : (N__law_verdict).Nodup := sc__law_verdict.nd
  unfold z__law_verdict
  exact (zss_cons (zst 2 nd (ze_call G__law_possible hr (by decide) rfl (za_cons (zv 0) (za_cons (zv 1) za_nil))))
    (zss_cons (zs_if (zt_w (zw_or (zt_cmp op_zIs (zv 2) ze_non (by first | exact nomark _ | exact nobehind _ (by decide) (by decide) | rfl)) (zw_or1 (zt_cmp op_zGt (ze_callB call_zLenA rfl g_len boot_len (za_cons (zv 2) za_nil)) ze_int (by first | exact nomark _ | exact nobehind _ (by decide) (by decide) | rfl))))) (zss_one (zs_ret (ze_tup (za_cons ze_str za_nil)))) zss_nil)
    (zss_one (zs_ret (ze_if (zt_truth (zv 2)) (ze_tup (za_cons ze_str (za_cons (ze_ix hu9 (zv 2) ze_int (fun _ _ => rfl)) za_nil))) (ze_tup (za_cons ze_str za_nil)))))))
theorem b__law_row_told {P : Program} {w : World} {K : PySem.W.Frag} {mg : Str → Option Value} {base : Heap} {f : Addr} (g_tuple : mg "tuple" = none) (g_range : mg "range" = none) (g_len : mg "len" = none) (G__law_same : GF P w K mg base 2 "_law_same" (sp__law_same K) []) (G__law_possible : GF P w K mg base 1 "_law_possible" (sp__law_possible K) []) (G_possible : GF P w K mg base 2 "possible" (sp_possible K) []) (G__law_verdict : GF P w K mg base 2 "_law_verdict" (sp__law_verdict K) []) (G_trusted : GF P w K mg base 3 "trusted" (sp_trusted K) []) (G_lies : GF P w K mg base 2 "lies" (sp_lies K) []) (G_asked_in_turn : GF P w K mg base 4 "asked_in_turn" (sp_asked_in_turn K) [])
    (cdv : Value) (A : Around) (outer : List PySem.Env) (s : Shared) (H : Hp) (E : XK) (hr : Room 4 (A.deeper (envOfC "_law_row_told" (defScope s__law_row_told) s.heap.objs.size f cdv))) :
    ZSs (cxOf L2.CX0 P w K mg base N__law_row_told "_law_row_told" (defScope s__law_row_told) f cdv A outer s H E).nox (defBody s__law_row_told) (z__law_row_told K) := by
  have hu9 := room9 hr
  have hu18 := room18 hr
  have hu65 := room65 hr
  have nd : (N__law_row_told).Nodup := sc__law_row_told.nd
  unfold z__law_row_told
  exact (zss_cons (zst 3 nd (ze_callTy call_zTuple rfl g_tuple boot_tuple (za_cons (zv 1) za_nil)))
    (zss_cons (zs_if (zt_not (zt_truth (ze_call G__law_same hr (by decide) rfl (za_cons (ze_call G_possible hr (by decide) rfl (za_cons (zv 3) (za_cons (zv 2) za_nil))) (za_cons (ze_call G__law_possible hr (by decide) rfl (za_cons (zv 1) (za_cons (zv 2) za_nil))) za_nil))))) (zss_one (zs_ret ze_bl)) zss_nil)
    (zss_cons (zs_if (zt_not (zt_truth (ze_call G__law_same hr (by decide) rfl (za_cons (ze_call G_trusted hr (by decide) rfl (za_cons (zv 3) (za_cons (zv 2) za_nil))) (za_cons (ze_call G__law_verdict hr (by decide) rfl (za_cons (zv 1) (za_cons (zv 2) za_nil))) za_nil))))) (zss_one (zs_ret ze_bl)) zss_nil)
    (zss_cons (zs_for PassesOwn.never rfl (zi_any (ze_op op_zAdd (ze_slice (zv 0) zpo_none (zpo_some ze_int)) (ze_lst (za_cons (ze_tup (za_cons ze_str (za_cons ze_str (za_cons ze_int za_nil)))) za_nil)))) (zgn 4 nd) (zss_cons (zs_setLc (i := 5) (own := [("k", 7)]) rfl nd rfl rfl (sw_true rfl rfl rfl (by decide +kernel)) (zi_range1 rfl g_range (za_cons (ze_callB call_zLenA rfl g_len boot_len (za_cons (zv 1) za_nil)) za_nil)) (blkOk_by (N := N__law_row_told) (sc := defScope s__law_row_told) (by decide +kernel)) (gw_name 7 (by decide) (fun _ _ _ _ _ => pg_name (i := 7) nd rfl (by first | exact Or.inl rfl | exact Or.inr rfl) (by first | exact Or.inl rfl | exact Or.inr rfl))) (fun _ _ _ _ _ => (zts_one (zt_w (zw_and (zt_cmp op_zIsNot (ze_ix hu9 (zv 1) (zv 7) (fun _ _ => rfl)) ze_non (by first | exact nomark _ | exact nobehind _ (by decide) (by decide) | rfl)) (zw_and1 (zt_cmp (op_zNe hu65) (ze_ix hu9 (zv 1) (zv 7) (fun _ _ => rfl)) (zv 4) (by first | exact nomark _ | exact nobehind _ (by decide) (by decide) | rfl))))))) (fun _ _ _ _ _ => (zv 7)))
    (zss_one (zs_if (zt_not (zt_truth (ze_call G__law_same hr (by decide) rfl (za_cons (ze_call G_lies hr (by decide) rfl (za_cons (zv 3) (za_cons (zv 2) (za_cons (zv 4) za_nil)))) (za_cons (ze_if (zt_cmp op_zLe (ze_callB call_zLenA rfl g_len boot_len (za_cons (zv 5) za_nil)) (zv 2) (by first | exact nomark _ | exact nobehind _ (by decide) (by decide) | rfl)) (ze_callTy call_zTuple rfl g_tuple boot_tuple (za_cons (zv 5) za_nil)) ze_non) za_nil))))) (zss_one (zs_ret ze_bl)) zss_nil))))
    (zss_cons (zs_setLc (i := 6) (own := [("many", 8)]) rfl nd rfl rfl (sw_true rfl rfl rfl (by decide +kernel)) (zi_range2 rfl g_range (za_cons ze_int (za_cons (ze_op op_zAdd (ze_callB call_zLenA rfl g_len boot_len (za_cons (zv 3) za_nil)) ze_int) za_nil))) (blkOk_by (N := N__law_row_told) (sc := defScope s__law_row_told) (by decide +kernel)) (gw_name 8 (by decide) (fun _ _ _ _ _ => pg_name (i := 8) nd rfl (by first | exact Or.inl rfl | exact Or.inr rfl) (by first | exact Or.inl rfl | exact Or.inr rfl))) (fun _ _ _ _ _ => (zts_one (zt_cmp (op_zEq hu65) (ze_ix hu9 (ze_call G__law_verdict hr (by decide) rfl (za_cons (ze_slice (zv 1) zpo_none (zpo_some (zv 8))) (za_cons (zv 2) za_nil))) ze_int (fun _ _ => rfl)) ze_str (by first | exact nomark _ | exact nobehind _ (by decide) (by decide) | rfl)))) (fun _ _ _ _ _ => (zv 8)))
    (zss_one (zs_ret (ze_call G__law_same hr (by decide) rfl (za_cons (ze_call G_asked_in_turn hr (by decide) rfl (za_cons (zv 3) (za_cons (zv 2) za_nil))) (za_cons (ze_if (zt_truth (zv 6)) (ze_ix hu9 (zv 6) ze_int (fun _ _ => rfl)) ze_non) za_nil))))))))))
theorem b__law_is_within {P : Program} {w : World} {K : PySem.W.Frag} {mg : Str → Option Value} {base : Heap} {f : Addr} (g_all : mg "all" = none)
    (cdv : Value) (A : Around) (outer : List PySem.Env) (s : Shared) (H : Hp) (E : XK) (hr : Room 0 (A.deeper (envOfC "_law_is_within" (defScope s__law_is_within) s.heap.objs.size f cdv))) :
    ZSs (cxOf L2.CX0 P w K mg base N__law_is_within "_law_is_within" (defScope s__law_is_within) f cdv A outer s H E).nox (defBody s__law_is_within) (z__law_is_within K) := by
  have hu9 := room9 hr
  have hu18 := room18 hr
  have hu65 := room65 hr
  have nd : (N__law_is_within).Nodup := sc__law_is_within.nd
  unfold z__law_is_within
  exact (zss_one (zs_ret (ze_or (ze_cmp op_zIs (zv 1) ze_non (by first | exact nomark _ | exact nobehind _ (by decide) (by decide) | rfl)) (ze_one (ze_and (ze_cmp op_zIsNot (zv 0) ze_non (by first | exact nomark _ | exact nobehind _ (by decide) (by decide) | rfl)) (ze_one (ze_callB (call_zAllL rfl) rfl g_all boot_all (za_cons (ze_lc (own := [("step", 2)]) rfl nd (zi_any (zv 0)) (blkOk_by (N := N__law_is_within) (sc := defScope s__law_is_within) (by decide +kernel)) (gw_name 2 (by decide) (fun _ _ _ _ _ => pg_name (i := 2) nd rfl (by first | exact Or.inl rfl | exact Or.inr rfl) (by first | exact Or.inl rfl | exact Or.inr rfl))) (fun _ _ _ _ _ => zts_nil) (fun _ _ _ _ _ => (ze_cmp (op_zIn hu65) (zv 2) (zv 1) (by first | exact nomark _ | exact nobehind _ (by decide) (by decide) | rfl)))) za_nil))))))))
theorem b__law_changes_told {P : Program} {w : World} {K : PySem.W.Frag} {mg : Str → Option Value} {base : Heap} {f : Addr} (g_tuple : mg "tuple" = none) (g_len : mg "len" = none) (G_possible : GF P w K mg base 2 "possible" (sp_possible K) []) (G__law_draw : GF P w K mg base 1 "_law_draw" (sp__law_draw K) []) (G__law_pick : GF P w K mg base 2 "_law_pick" (sp__law_pick K) []) (G__law_row_told : GF P w K mg base 5 "_law_row_told" (sp__law_row_told K) []) (G__law_is_within : GF P w K mg base 1 "_law_is_within" (sp__law_is_within K) []) (G__law_shuffled : GF P w K mg base 2 "_law_shuffled" (sp__law_shuffled K) []) (G_trusted : GF P w K mg base 3 "trusted" (sp_trusted K) [])
    (cdv : Value) (A : Around) (outer : List PySem.Env) (s : Shared) (H : Hp) (E : XK) (hr : Room 5 (A.deeper (envOfC "_law_changes_told" (defScope s__law_changes_told) s.heap.objs.size f cdv))) :
    ZSs (cxOf L2.CX0 P w K mg base N__law_changes_told "_law_changes_told" (defScope s__law_changes_told) f cdv A outer s H E).nox (defBody s__law_changes_told) (z__law_changes_told K) := by
  have hu9 := room9 hr
  have hu18 := room18 hr
  have hu65 := room65 hr
  have nd : (N__law_changes_told).Nodup := sc__law_changes_told.nd
  unfold z__law_changes_told
  exact (zss_cons (zst 4 nd (ze_call G_possible hr (by decide) rfl (za_cons (ze_callTy call_zTuple rfl g_tuple boot_tuple (za_cons (zv 2) za_nil)) (za_cons (zv 3) za_nil))))
    (zss_cons (zs_if (zt_cmp op_zLt (ze_callB call_zLenA rfl g_len boot_len (za_cons (zv 2) za_nil)) ze_int (by first | exact nomark _ | exact nobehind _ (by decide) (by decide) | rfl)) (zss_cons (zst 5 nd (ze_call G__law_draw hr (by decide) rfl (za_cons (zv 0) (za_cons (ze_op op_zAdd (ze_callB call_zLenA rfl g_len boot_len (za_cons (zv 2) za_nil)) ze_int) za_nil))))
    (zss_cons (zst 6 nd (ze_op op_zAdd (ze_op op_zAdd (ze_slice (zv 2) zpo_none (zpo_some (zv 5))) (ze_lst (za_cons (ze_call G__law_pick hr (by decide) rfl (za_cons (zv 0) (za_cons (zv 1) za_nil))) za_nil))) (ze_slice (zv 2) (zpo_some (zv 5)) zpo_none)))
    (zss_cons (zst 7 nd (ze_op op_zAdd (ze_op op_zAdd (ze_slice (zv 2) zpo_none (zpo_some (zv 5))) (ze_lst (za_cons ze_non za_nil))) (ze_slice (zv 2) (zpo_some (zv 5)) zpo_none)))
    (zss_cons (zs_if (zt_w (zw_or (zt_not (zt_truth (ze_call G__law_row_told hr (by decide) rfl (za_cons (zv 1) (za_cons (zv 6) (za_cons (zv 3) za_nil)))))) (zw_or1 (zt_not (zt_truth (ze_call G__law_row_told hr (by decide) rfl (za_cons (zv 1) (za_cons (zv 7) (za_cons (zv 3) za_nil))))))))) (zss_one (zs_ret ze_bl)) zss_nil)
    (zss_one (zs_if (zt_w (zw_or (zt_not (zt_truth (ze_call G__law_is_within hr (by decide) rfl (za_cons (ze_call G_possible hr (by decide) rfl (za_cons (ze_callTy call_zTuple rfl g_tuple boot_tuple (za_cons (zv 6) za_nil)) (za_cons (zv 3) za_nil))) (za_cons (zv 4) za_nil))))) (zw_or1 (zt_cmp (op_zNe hu65) (ze_call G_possible hr (by decide) rfl (za_cons (ze_callTy call_zTuple rfl g_tuple boot_tuple (za_cons (zv 7) za_nil)) (za_cons (zv 3) za_nil))) (zv 4) (by first | exact nomark _ | exact nobehind _ (by decide) (by decide) | rfl))))) (zss_one (zs_ret ze_bl)) zss_nil)))))) zss_nil)
    (zss_cons (zs_if (zt_cmp op_zLt (zv 3) ze_int (by first | exact nomark _ | exact nobehind _ (by decide) (by decide) | rfl)) (zss_cons (zs_if (zt_not (zt_truth (ze_call G__law_row_told hr (by decide) rfl (za_cons (zv 1) (za_cons (zv 2) (za_cons (ze_op op_zAdd (zv 3) ze_int) za_nil)))))) (zss_one (zs_ret ze_bl)) zss_nil)
    (zss_one (zs_if (zt_not (zt_truth (ze_call G__law_is_within hr (by decide) rfl (za_cons (zv 4) (za_cons (ze_call G_possible hr (by decide) rfl (za_cons (ze_callTy call_zTuple rfl g_tuple boot_tuple (za_cons (zv 2) za_nil)) (za_cons (ze_op op_zAdd (zv 3) ze_int) za_nil))) za_nil))))) (zss_one (zs_ret ze_bl)) zss_nil))) zss_nil)
    (zss_cons (zst 8 nd (ze_call G__law_shuffled hr (by decide) rfl (za_cons (zv 0) (za_cons (zv 2) za_nil))))
    (zss_cons (zs_if (zt_w (zw_or (zt_not (zt_truth (ze_call G__law_row_told hr (by decide) rfl (za_cons (zv 1) (za_cons (zv 8) (za_cons (zv 3) za_nil)))))) (zw_or1 (zt_cmp (op_zNe hu65) (ze_call G_trusted hr (by decide) rfl (za_cons (ze_callTy call_zTuple rfl g_tuple boot_tuple (za_cons (zv 8) za_nil)) (za_cons (zv 3) za_nil))) (ze_call G_trusted hr (by decide) rfl (za_cons (ze_callTy call_zTuple rfl g_tuple boot_tuple (za_cons (zv 2) za_nil)) (za_cons (zv 3) za_nil))) (by first | exact nomark _ | exact nobehind _ (by decide) (by decide) | rfl))))) (zss_one (zs_ret ze_bl)) zss_nil)
    (zss_one (zs_ret (ze_cmp (op_zEq hu65) (ze_call G_possible hr (by decide) rfl (za_cons (ze_callTy call_zTuple rfl g_tuple boot_tuple (za_cons (zv 8) za_nil)) (za_cons (zv 3) za_nil))) (zv 4) (by first | exact nomark _ | exact nobehind _ (by decide) (by decide) | rfl)))))))))
theorem b_law {P : Program} {w : World} {K : PySem.W.Frag} {mg : Str → Option Value} {base : Heap} {f : Addr} (g_range : mg "range" = none) (g_tuple : mg "tuple" = none) (G__law_begin : GF P w K mg base 1 "_law_begin" (sp__law_begin K) []) (G__law_pool : GF P w K mg base 4 "_law_pool" (sp__law_pool K) []) (G__law_row_of : GF P w K mg base 3 "_law_row_of" (sp__law_row_of K) []) (G__law_row_told : GF P w K mg base 5 "_law_row_told" (sp__law_row_told K) []) (G__law_changes_told : GF P w K mg base 6 "_law_changes_told" (sp__law_changes_told K) []) (G__law_same : GF P w K mg base 2 "_law_same" (sp__law_same K) []) (G_trusted : GF P w K mg base 3 "trusted" (sp_trusted K) [])
    (cdv : Value) (A : Around) (outer : List PySem.Env) (s : Shared) (H : Hp) (E : XK) (hr : Room 6 (A.deeper (envOfC "law" (defScope s_law) s.heap.objs.size f cdv))) :
    ZSs (cxOf L2.CX0 P w K mg base N_law "law" (defScope s_law) f cdv A outer s H E).nox (defBody s_law) (z_law K) := by
  have hu9 := room9 hr
  have hu18 := room18 hr
  have hu65 := room65 hr
  have nd : (N_law).Nodup := sc_law.nd
  unfold z_law
  exact (zss_cons (zst 1 nd (ze_call G__law_begin hr (by decide) rfl (za_cons (zv 0) za_nil)))
    (zss_cons (zst 2 nd (ze_lst za_nil))
    (zss_cons (zs_for PassesOwn.never rfl (zi_range1 rfl g_range (za_cons ze_int za_nil)) (zgn 3 nd) (zss_cons (zst 4 nd (ze_call G__law_pool hr (by decide) rfl (za_cons (zv 1) za_nil)))
    (zss_cons (zs_asg (ze_call G__law_row_of hr (by decide) rfl (za_cons (zv 1) (za_cons (zv 4) za_nil))) (zg_tup rfl (zgs_cons (zgn 5 nd) (zgs_cons (zgn 6 nd) zgs_nil))))
    (zss_cons (zs_expr (ze_bm PySem.F.plainAttrs_list PySem.F.slot_list_append PySem.F.type_list_append mt_zAppend (zv 2) (za_cons (ze_lst (za_cons (zv 4) (za_cons (zv 5) (za_cons (zv 6) za_nil)))) za_nil)))
    (zss_one (zs_if (zt_w (zw_or (zt_not (zt_truth (ze_call G__law_row_told hr (by decide) rfl (za_cons (zv 4) (za_cons (zv 5) (za_cons (zv 6) za_nil)))))) (zw_or1 (zt_not (zt_truth (ze_call G__law_changes_told hr (by decide) rfl (za_cons (zv 1) (za_cons (zv 4) (za_cons (zv 5) (za_cons (zv 6) za_nil)))))))))) (zss_one (zs_ret ze_bl)) zss_nil))))))
    (zss_cons (zs_asg (ze_ix hu9 (zv 2) ze_int (fun _ _ => rfl)) (zg_tup rfl (zgs_cons (zgn 4 nd) (zgs_cons (zgn 5 nd) (zgs_cons (zgn 6 nd) zgs_nil)))))
    (zss_cons (zs_if (zt_not (zt_truth (ze_call G__law_same hr (by decide) rfl (za_cons (ze_call G_trusted hr (by decide) rfl (za_cons (ze_callTy call_zTuple rfl g_tuple boot_tuple (za_cons (ze_op op_zMul (ze_lst (za_cons (ze_ix hu9 (zv 4) ze_int (fun _ _ => rfl)) za_nil)) ze_int) za_nil)) (za_cons ze_int za_nil))) (za_cons (ze_tup (za_cons ze_str (za_cons (ze_ix hu9 (zv 4) ze_int (fun _ _ => rfl)) za_nil))) za_nil))))) (zss_one (zs_ret ze_bl)) zss_nil)
    (zss_cons (zs_if (zt_not (zt_truth (ze_call G__law_same hr (by decide) rfl (za_cons (ze_call G_trusted hr (by decide) rfl (za_cons (ze_tup (za_cons (ze_ix hu9 (zv 4) ze_int (fun _ _ => rfl)) (za_cons (ze_ix hu9 (zv 4) ze_int (fun _ _ => rfl)) (za_cons (ze_ix hu9 (zv 4) ze_int (fun _ _ => rfl)) (za_cons (ze_ix hu9 (zv 4) ze_int (fun _ _ => rfl)) za_nil))))) (za_cons ze_int za_nil))) (za_cons (ze_tup (za_cons ze_str za_nil)) za_nil))))) (zss_one (zs_ret ze_bl)) zss_nil)
    (zss_one (zs_ret (ze_call G__law_row_told hr (by decide) rfl (za_cons (zv 4) (za_cons (zv 5) (za_cons (zv 6) za_nil))))))))))))
/-! ### the promises -/
theorem len_spoken {K : PySem.W.Frag} (ds : List D) (S : Store) (Q : ZK) (h : sp_spoken K ds S Q) : ds.length = 1 := by
  unfold sp_spoken at h
  first | (obtain ⟨rfl, _⟩ := h; rfl) | (obtain ⟨_, rfl, _⟩ := h; rfl) | (obtain ⟨_, _, rfl, _⟩ := h; rfl) | (obtain ⟨_, _, _, rfl, _⟩ := h; rfl) | (obtain ⟨_, _, _, _, rfl, _⟩ := h; rfl) | (obtain ⟨_, _, _, _, _, rfl, _⟩ := h; rfl) | (obtain ⟨_, _, _, _, _, _, rfl, _⟩ := h; rfl) | (obtain ⟨_, _, _, _, _, _, _, rfl, _⟩ := h; rfl) | (obtain ⟨_, _, _, _, _, _, _, _, rfl, _⟩ := h; rfl)
theorem gf_spoken {P : Program} {w : World} {K : PySem.W.Frag} {mg : Str → Option Value} {base : Heap} {f : Addr} {fd : FuncData} (F : FnP K "spoken" s_spoken f fd) (hm : mg "spoken" = some (.ref f)) : GF P w K mg base 1 "spoken" (sp_spoken K) [] :=
  gz_of F hm (F.bindsN (ps := ["answers"]) fun _ _ _ _ _ _ us hl => match us, hl with | [_], _ => rfl) sc_spoken (len_spoken) (fun cdv A outer s H E hr => b_spoken cdv A outer s H E hr) law_spoken
theorem len_lying_places {K : PySem.W.Frag} (ds : List D) (S : Store) (Q : ZK) (h : sp_lying_places K ds S Q) : ds.length = 2 := by
  unfold sp_lying_places at h
  first | (obtain ⟨rfl, _⟩ := h; rfl) | (obtain ⟨_, rfl, _⟩ := h; rfl) | (obtain ⟨_, _, rfl, _⟩ := h; rfl) | (obtain ⟨_, _, _, rfl, _⟩ := h; rfl) | (obtain ⟨_, _, _, _, rfl, _⟩ := h; rfl) | (obtain ⟨_, _, _, _, _, rfl, _⟩ := h; rfl) | (obtain ⟨_, _, _, _, _, _, rfl, _⟩ := h; rfl) | (obtain ⟨_, _, _, _, _, _, _, rfl, _⟩ := h; rfl) | (obtain ⟨_, _, _, _, _, _, _, _, rfl, _⟩ := h; rfl)
theorem gf_lying_places {P : Program} {w : World} {K : PySem.W.Frag} {mg : Str → Option Value} {base : Heap} {f : Addr} {fd : FuncData} (F : FnP K "lying_places" s_lying_places f fd) (hm : mg "lying_places" = some (.ref f)) (g_enumerate : mg "enumerate" = none) (g_tuple : mg "tuple" = none) : GF P w K mg base 1 "lying_places" (sp_lying_places K) [] :=
  gz_of F hm (F.bindsN (ps := ["answers", "step"]) fun _ _ _ _ _ _ us hl => match us, hl with | [_, _], _ => rfl) sc_lying_places (len_lying_places) (fun cdv A outer s H E hr => b_lying_places g_enumerate g_tuple cdv A outer s H E hr) law_lying_places
theorem len_possible {K : PySem.W.Frag} (ds : List D) (S : Store) (Q : ZK) (h : sp_possible K ds S Q) : ds.length = 2 := by
  unfold sp_possible at h
  first | (obtain ⟨rfl, _⟩ := h; rfl) | (obtain ⟨_, rfl, _⟩ := h; rfl) | (obtain ⟨_, _, rfl, _⟩ := h; rfl) | (obtain ⟨_, _, _, rfl, _⟩ := h; rfl) | (obtain ⟨_, _, _, _, rfl, _⟩ := h; rfl) | (obtain ⟨_, _, _, _, _, rfl, _⟩ := h; rfl) | (obtain ⟨_, _, _, _, _, _, rfl, _⟩ := h; rfl) | (obtain ⟨_, _, _, _, _, _, _, rfl, _⟩ := h; rfl) | (obtain ⟨_, _, _, _, _, _, _, _, rfl, _⟩ := h; rfl)
theorem gf_possible {P : Program} {w : World} {K : PySem.W.Frag} {mg : Str → Option Value} {base : Heap} {f : Addr} {fd : FuncData} (F : FnP K "possible" s_possible f fd) (hm : mg "possible" = some (.ref f)) (g_len : mg "len" = none) (g_tuple : mg "tuple" = none) (g_sorted : mg "sorted" = none) (G_spoken : GF P w K mg base 1 "spoken" (sp_spoken K) []) (G_lying_places : GF P w K mg base 1 "lying_places" (sp_lying_places K) []) : GF P w K mg base 2 "possible" (sp_possible K) [] :=
  gz_of F hm (F.bindsN (ps := ["answers", "liars"]) fun _ _ _ _ _ _ us hl => match us, hl with | [_, _], _ => rfl) sc_possible (len_possible) (fun cdv A outer s H E hr => b_possible g_len g_tuple g_sorted G_spoken G_lying_places cdv A outer s H E hr) law_possible
theorem len_trusted {K : PySem.W.Frag} (ds : List D) (S : Store) (Q : ZK) (h : sp_trusted K ds S Q) : ds.length = 2 := by
  unfold sp_trusted at h
  first | (obtain ⟨rfl, _⟩ := h; rfl) | (obtain ⟨_, rfl, _⟩ := h; rfl) | (obtain ⟨_, _, rfl, _⟩ := h; rfl) | (obtain ⟨_, _, _, rfl, _⟩ := h; rfl) | (obtain ⟨_, _, _, _, rfl, _⟩ := h; rfl) | (obtain ⟨_, _, _, _, _, rfl, _⟩ := h; rfl) | (obtain ⟨_, _, _, _, _, _, rfl, _⟩ := h; rfl) | (obtain ⟨_, _, _, _, _, _, _, rfl, _⟩ := h; rfl) | (obtain ⟨_, _, _, _, _, _, _, _, rfl, _⟩ := h; rfl)
theorem gf_trusted {P : Program} {w : World} {K : PySem.W.Frag} {mg : Str → Option Value} {base : Heap} {f : Addr} {fd : FuncData} (F : FnP K "trusted" s_trusted f fd) (hm : mg "trusted" = some (.ref f)) (g_len : mg "len" = none) (G_possible : GF P w K mg base 2 "possible" (sp_possible K) []) : GF P w K mg base 3 "trusted" (sp_trusted K) [] :=
  gz_of F hm (F.bindsN (ps := ["answers", "liars"]) fun _ _ _ _ _ _ us hl => match us, hl with | [_, _], _ => rfl) sc_trusted (len_trusted) (fun cdv A outer s H E hr => b_trusted g_len G_possible cdv A outer s H E hr) law_trusted
theorem len_lies {K : PySem.W.Frag} (ds : List D) (S : Store) (Q : ZK) (h : sp_lies K ds S Q) : ds.length = 3 := by
  unfold sp_lies at h
  first | (obtain ⟨rfl, _⟩ := h; rfl) | (obtain ⟨_, rfl, _⟩ := h; rfl) | (obtain ⟨_, _, rfl, _⟩ := h; rfl) | (obtain ⟨_, _, _, rfl, _⟩ := h; rfl) | (obtain ⟨_, _, _, _, rfl, _⟩ := h; rfl) | (obtain ⟨_, _, _, _, _, rfl, _⟩ := h; rfl) | (obtain ⟨_, _, _, _, _, _, rfl, _⟩ := h; rfl) | (obtain ⟨_, _, _, _, _, _, _, rfl, _⟩ := h; rfl) | (obtain ⟨_, _, _, _, _, _, _, _, rfl, _⟩ := h; rfl)
theorem gf_lies {P : Program} {w : World} {K : PySem.W.Frag} {mg : Str → Option Value} {base : Heap} {f : Addr} {fd : FuncData} (F : FnP K "lies" s_lies f fd) (hm : mg "lies" = some (.ref f)) (g_len : mg "len" = none) (G_lying_places : GF P w K mg base 1 "lying_places" (sp_lying_places K) []) : GF P w K mg base 2 "lies" (sp_lies K) [] :=
  gz_of F hm (F.bindsN (ps := ["answers", "liars", "step"]) fun _ _ _ _ _ _ us hl => match us, hl with | [_, _, _], _ => rfl) sc_lies (len_lies) (fun cdv A outer s H E hr => b_lies g_len G_lying_places cdv A outer s H E hr) law_lies
theorem len_asked_in_turn {K : PySem.W.Frag} (ds : List D) (S : Store) (Q : ZK) (h : sp_asked_in_turn K ds S Q) : ds.length = 2 := by
  unfold sp_asked_in_turn at h
  first | (obtain ⟨rfl, _⟩ := h; rfl) | (obtain ⟨_, rfl, _⟩ := h; rfl) | (obtain ⟨_, _, rfl, _⟩ := h; rfl) | (obtain ⟨_, _, _, rfl, _⟩ := h; rfl) | (obtain ⟨_, _, _, _, rfl, _⟩ := h; rfl) | (obtain ⟨_, _, _, _, _, rfl, _⟩ := h; rfl) | (obtain ⟨_, _, _, _, _, _, rfl, _⟩ := h; rfl) | (obtain ⟨_, _, _, _, _, _, _, rfl, _⟩ := h; rfl) | (obtain ⟨_, _, _, _, _, _, _, _, rfl, _⟩ := h; rfl)
theorem gf_asked_in_turn {P : Program} {w : World} {K : PySem.W.Frag} {mg : Str → Option Value} {base : Heap} {f : Addr} {fd : FuncData} (F : FnP K "asked_in_turn" s_asked_in_turn f fd) (hm : mg "asked_in_turn" = some (.ref f)) (g_range : mg "range" = none) (g_len : mg "len" = none) (G_trusted : GF P w K mg base 3 "trusted" (sp_trusted K) []) : GF P w K mg base 4 "asked_in_turn" (sp_asked_in_turn K) [] :=
  gz_of F hm (F.bindsN (ps := ["answers", "liars"]) fun _ _ _ _ _ _ us hl => match us, hl with | [_, _], _ => rfl) sc_asked_in_turn (len_asked_in_turn) (fun cdv A outer s H E hr => b_asked_in_turn g_range g_len G_trusted cdv A outer s H E hr) law_asked_in_turn
theorem len__law_begin {K : PySem.W.Frag} (ds : List D) (S : Store) (Q : ZK) (h : sp__law_begin K ds S Q) : ds.length = 1 := by
  unfold sp__law_begin at h
  first | (obtain ⟨rfl, _⟩ := h; rfl) | (obtain ⟨_, rfl, _⟩ := h; rfl) | (obtain ⟨_, _, rfl, _⟩ := h; rfl) | (obtain ⟨_, _, _, rfl, _⟩ := h; rfl) | (obtain ⟨_, _, _, _, rfl, _⟩ := h; rfl) | (obtain ⟨_, _, _, _, _, rfl, _⟩ := h; rfl) | (obtain ⟨_, _, _, _, _, _, rfl, _⟩ := h; rfl) | (obtain ⟨_, _, _, _, _, _, _, rfl, _⟩ := h; rfl) | (obtain ⟨_, _, _, _, _, _, _, _, rfl, _⟩ := h; rfl)
theorem gf__law_begin {P : Program} {w : World} {K : PySem.W.Frag} {mg : Str → Option Value} {base : Heap} {f : Addr} {fd : FuncData} (F : FnP K "_law_begin" s__law_begin f fd) (hm : mg "_law_begin" = some (.ref f)) (g_int : mg "int" = none) : GF P w K mg base 1 "_law_begin" (sp__law_begin K) [] :=
  gz_of F hm (F.bindsN (ps := ["script"]) fun _ _ _ _ _ _ us hl => match us, hl with | [_], _ => rfl) sc__law_begin (len__law_begin) (fun cdv A outer s H E hr => b__law_begin g_int cdv A outer s H E hr) law_begin
theorem len__law_draw {K : PySem.W.Frag} (ds : List D) (S : Store) (Q : ZK) (h : sp__law_draw K ds S Q) : ds.length = 2 := by
  unfold sp__law_draw at h
  first | (obtain ⟨rfl, _⟩ := h; rfl) | (obtain ⟨_, rfl, _⟩ := h; rfl) | (obtain ⟨_, _, rfl, _⟩ := h; rfl) | (obtain ⟨_, _, _, rfl, _⟩ := h; rfl) | (obtain ⟨_, _, _, _, rfl, _⟩ := h; rfl) | (obtain ⟨_, _, _, _, _, rfl, _⟩ := h; rfl) | (obtain ⟨_, _, _, _, _, _, rfl, _⟩ := h; rfl) | (obtain ⟨_, _, _, _, _, _, _, rfl, _⟩ := h; rfl) | (obtain ⟨_, _, _, _, _, _, _, _, rfl, _⟩ := h; rfl)
theorem gf__law_draw {P : Program} {w : World} {K : PySem.W.Frag} {mg : Str → Option Value} {base : Heap} {f : Addr} {fd : FuncData} (F : FnP K "_law_draw" s__law_draw f fd) (hm : mg "_law_draw" = some (.ref f)) (g_int : mg "int" = none) (g_len : mg "len" = none) (g_abs : mg "abs" = none) : GF P w K mg base 1 "_law_draw" (sp__law_draw K) [] :=
  gz_of F hm (F.bindsN (ps := ["d", "many"]) fun _ _ _ _ _ _ us hl => match us, hl with | [_, _], _ => rfl) sc__law_draw (len__law_draw) (fun cdv A outer s H E hr => b__law_draw g_int g_len g_abs cdv A outer s H E hr) law_draw
theorem len__law_pick {K : PySem.W.Frag} (ds : List D) (S : Store) (Q : ZK) (h : sp__law_pick K ds S Q) : ds.length = 2 := by
  unfold sp__law_pick at h
  first | (obtain ⟨rfl, _⟩ := h; rfl) | (obtain ⟨_, rfl, _⟩ := h; rfl) | (obtain ⟨_, _, rfl, _⟩ := h; rfl) | (obtain ⟨_, _, _, rfl, _⟩ := h; rfl) | (obtain ⟨_, _, _, _, rfl, _⟩ := h; rfl) | (obtain ⟨_, _, _, _, _, rfl, _⟩ := h; rfl) | (obtain ⟨_, _, _, _, _, _, rfl, _⟩ := h; rfl) | (obtain ⟨_, _, _, _, _, _, _, rfl, _⟩ := h; rfl) | (obtain ⟨_, _, _, _, _, _, _, _, rfl, _⟩ := h; rfl)
theorem gf__law_pick {P : Program} {w : World} {K : PySem.W.Frag} {mg : Str → Option Value} {base : Heap} {f : Addr} {fd : FuncData} (F : FnP K "_law_pick" s__law_pick f fd) (hm : mg "_law_pick" = some (.ref f)) (g_len : mg "len" = none) (G__law_draw : GF P w K mg base 1 "_law_draw" (sp__law_draw K) []) : GF P w K mg base 2 "_law_pick" (sp__law_pick K) [] :=
  gz_of F hm (F.bindsN (ps := ["d", "row"]) fun _ _ _ _ _ _ us hl => match us, hl with | [_, _], _ => rfl) sc__law_pick (len__law_pick) (fun cdv A outer s H E hr => b__law_pick g_len G__law_draw cdv A outer s H E hr) law_pick
theorem len__law_shuffled {K : PySem.W.Frag} (ds : List D) (S : Store) (Q : ZK) (h : sp__law_shuffled K ds S Q) : ds.length = 2 := by
  unfold sp__law_shuffled at h
  first | (obtain ⟨rfl, _⟩ := h; rfl) | (obtain ⟨_, rfl, _⟩ := h; rfl) | (obtain ⟨_, _, rfl, _⟩ := h; rfl) | (obtain ⟨_, _, _, rfl, _⟩ := h; rfl) | (obtain ⟨_, _, _, _, rfl, _⟩ := h; rfl) | (obtain ⟨_, _, _, _, _, rfl, _⟩ := h; rfl) | (obtain ⟨_, _, _, _, _, _, rfl, _⟩ := h; rfl) | (obtain ⟨_, _, _, _, _, _, _, rfl, _⟩ := h; rfl) | (obtain ⟨_, _, _, _, _, _, _, _, rfl, _⟩ := h; rfl)
theorem gf__law_shuffled {P : Program} {w : World} {K : PySem.W.Frag} {mg : Str → Option Value} {base : Heap} {f : Addr} {fd : FuncData} (F : FnP K "_law_shuffled" s__law_shuffled f fd) (hm : mg "_law_shuffled" = some (.ref f)) (g_list : mg "list" = none) (g_range : mg "range" = none) (g_len : mg "len" = none) (G__law_draw : GF P w K mg base 1 "_law_draw" (sp__law_draw K) []) : GF P w K mg base 2 "_law_shuffled" (sp__law_shuffled K) [] :=
  gz_of F hm (F.bindsN (ps := ["d", "row"]) fun _ _ _ _ _ _ us hl => match us, hl with | [_, _], _ => rfl) sc__law_shuffled (len__law_shuffled) (fun cdv A outer s H E hr => b__law_shuffled g_list g_range g_len G__law_draw cdv A outer s H E hr) law_shuffled
theorem len__law_is_int {K : PySem.W.Frag} (ds : List D) (S : Store) (Q : ZK) (h : sp__law_is_int K ds S Q) : ds.length = 1 := by
  unfold sp__law_is_int at h
  first | (obtain ⟨rfl, _⟩ := h; rfl) | (obtain ⟨_, rfl, _⟩ := h; rfl) | (obtain ⟨_, _, rfl, _⟩ := h; rfl) | (obtain ⟨_, _, _, rfl, _⟩ := h; rfl) | (obtain ⟨_, _, _, _, rfl, _⟩ := h; rfl) | (obtain ⟨_, _, _, _, _, rfl, _⟩ := h; rfl) | (obtain ⟨_, _, _, _, _, _, rfl, _⟩ := h; rfl) | (obtain ⟨_, _, _, _, _, _, _, rfl, _⟩ := h; rfl) | (obtain ⟨_, _, _, _, _, _, _, _, rfl, _⟩ := h; rfl)
theorem gf__law_is_int {P : Program} {w : World} {K : PySem.W.Frag} {mg : Str → Option Value} {base : Heap} {f : Addr} {fd : FuncData} (F : FnP K "_law_is_int" s__law_is_int f fd) (hm : mg "_law_is_int" = some (.ref f)) (g_isinstance : mg "isinstance" = none) (g_int : mg "int" = none) (g_bool : mg "bool" = none) : GF P w K mg base 1 "_law_is_int" (sp__law_is_int K) [] :=
  gz_of F hm (F.bindsN (ps := ["thing"]) fun _ _ _ _ _ _ us hl => match us, hl with | [_], _ => rfl) sc__law_is_int (len__law_is_int) (fun cdv A outer s H E hr => b__law_is_int g_isinstance g_int g_bool cdv A outer s H E hr) law_is_int
theorem len__law_same {K : PySem.W.Frag} (ds : List D) (S : Store) (Q : ZK) (h : sp__law_same K ds S Q) : ds.length = 2 := by
  unfold sp__law_same at h
  first | (obtain ⟨rfl, _⟩ := h; rfl) | (obtain ⟨_, rfl, _⟩ := h; rfl) | (obtain ⟨_, _, rfl, _⟩ := h; rfl) | (obtain ⟨_, _, _, rfl, _⟩ := h; rfl) | (obtain ⟨_, _, _, _, rfl, _⟩ := h; rfl) | (obtain ⟨_, _, _, _, _, rfl, _⟩ := h; rfl) | (obtain ⟨_, _, _, _, _, _, rfl, _⟩ := h; rfl) | (obtain ⟨_, _, _, _, _, _, _, rfl, _⟩ := h; rfl) | (obtain ⟨_, _, _, _, _, _, _, _, rfl, _⟩ := h; rfl)
theorem gf__law_same {P : Program} {w : World} {K : PySem.W.Frag} {mg : Str → Option Value} {base : Heap} {f : Addr} {fd : FuncData} (F : FnP K "_law_same" s__law_same f fd) (hm : mg "_law_same" = some (.ref f)) (g_range : mg "range" = none) (g_isinstance : mg "isinstance" = none) (g_tuple : mg "tuple" = none) (g_len : mg "len" = none) (g_str : mg "str" = none) (G__law_is_int : GF P w K mg base 1 "_law_is_int" (sp__law_is_int K) []) : GF P w K mg base 2 "_law_same" (sp__law_same K) [] :=
  gz_of F hm (F.bindsN (ps := ["told", "due"]) fun _ _ _ _ _ _ us hl => match us, hl with | [_, _], _ => rfl) sc__law_same (len__law_same) (fun cdv A outer s H E hr => b__law_same g_range g_isinstance g_tuple g_len g_str G__law_is_int cdv A outer s H E hr) law_same
theorem len__law_string {K : PySem.W.Frag} (ds : List D) (S : Store) (Q : ZK) (h : sp__law_string K ds S Q) : ds.length = 1 := by
  unfold sp__law_string at h
  first | (obtain ⟨rfl, _⟩ := h; rfl) | (obtain ⟨_, rfl, _⟩ := h; rfl) | (obtain ⟨_, _, rfl, _⟩ := h; rfl) | (obtain ⟨_, _, _, rfl, _⟩ := h; rfl) | (obtain ⟨_, _, _, _, rfl, _⟩ := h; rfl) | (obtain ⟨_, _, _, _, _, rfl, _⟩ := h; rfl) | (obtain ⟨_, _, _, _, _, _, rfl, _⟩ := h; rfl) | (obtain ⟨_, _, _, _, _, _, _, rfl, _⟩ := h; rfl) | (obtain ⟨_, _, _, _, _, _, _, _, rfl, _⟩ := h; rfl)
theorem gf__law_string {P : Program} {w : World} {K : PySem.W.Frag} {mg : Str → Option Value} {base : Heap} {f : Addr} {fd : FuncData} (F : FnP K "_law_string" s__law_string f fd) (hm : mg "_law_string" = some (.ref f)) (g_range : mg "range" = none) (g_len : mg "len" = none) (G__law_pick : GF P w K mg base 2 "_law_pick" (sp__law_pick K) []) (G__law_draw : GF P w K mg base 1 "_law_draw" (sp__law_draw K) []) : GF P w K mg base 3 "_law_string" (sp__law_string K) [] :=
  gz_of F hm (F.bindsN (ps := ["d"]) fun _ _ _ _ _ _ us hl => match us, hl with | [_], _ => rfl) sc__law_string (len__law_string) (fun cdv A outer s H E hr => b__law_string g_range g_len G__law_pick G__law_draw cdv A outer s H E hr) law_string
theorem len__law_near_string {K : PySem.W.Frag} (ds : List D) (S : Store) (Q : ZK) (h : sp__law_near_string K ds S Q) : ds.length = 2 := by
  unfold sp__law_near_string at h
  first | (obtain ⟨rfl, _⟩ := h; rfl) | (obtain ⟨_, rfl, _⟩ := h; rfl) | (obtain ⟨_, _, rfl, _⟩ := h; rfl) | (obtain ⟨_, _, _, rfl, _⟩ := h; rfl) | (obtain ⟨_, _, _, _, rfl, _⟩ := h; rfl) | (obtain ⟨_, _, _, _, _, rfl, _⟩ := h; rfl) | (obtain ⟨_, _, _, _, _, _, rfl, _⟩ := h; rfl) | (obtain ⟨_, _, _, _, _, _, _, rfl, _⟩ := h; rfl) | (obtain ⟨_, _, _, _, _, _, _, _, rfl, _⟩ := h; rfl)
theorem gf__law_near_string {P : Program} {w : World} {K : PySem.W.Frag} {mg : Str → Option Value} {base : Heap} {f : Addr} {fd : FuncData} (F : FnP K "_law_near_string" s__law_near_string f fd) (hm : mg "_law_near_string" = some (.ref f)) (g_len : mg "len" = none) (G__law_draw : GF P w K mg base 1 "_law_draw" (sp__law_draw K) []) : GF P w K mg base 2 "_law_near_string" (sp__law_near_string K) [] :=
  gz_of F hm (F.bindsN (ps := ["d", "word"]) fun _ _ _ _ _ _ us hl => match us, hl with | [_, _], _ => rfl) sc__law_near_string (len__law_near_string) (fun cdv A outer s H E hr => b__law_near_string g_len G__law_draw cdv A outer s H E hr) law_near_string
theorem len__law_pool {K : PySem.W.Frag} (ds : List D) (S : Store) (Q : ZK) (h : sp__law_pool K ds S Q) : ds.length = 1 := by
  unfold sp__law_pool at h
  first | (obtain ⟨rfl, _⟩ := h; rfl) | (obtain ⟨_, rfl, _⟩ := h; rfl) | (obtain ⟨_, _, rfl, _⟩ := h; rfl) | (obtain ⟨_, _, _, rfl, _⟩ := h; rfl) | (obtain ⟨_, _, _, _, rfl, _⟩ := h; rfl) | (obtain ⟨_, _, _, _, _, rfl, _⟩ := h; rfl) | (obtain ⟨_, _, _, _, _, _, rfl, _⟩ := h; rfl) | (obtain ⟨_, _, _, _, _, _, _, rfl, _⟩ := h; rfl) | (obtain ⟨_, _, _, _, _, _, _, _, rfl, _⟩ := h; rfl)
theorem gf__law_pool {P : Program} {w : World} {K : PySem.W.Frag} {mg : Str → Option Value} {base : Heap} {f : Addr} {fd : FuncData} (F : FnP K "_law_pool" s__law_pool f fd) (hm : mg "_law_pool" = some (.ref f)) (g_len : mg "len" = none) (G__law_string : GF P w K mg base 3 "_law_string" (sp__law_string K) []) (G__law_near_string : GF P w K mg base 2 "_law_near_string" (sp__law_near_string K) []) (G__law_pick : GF P w K mg base 2 "_law_pick" (sp__law_pick K) []) (G__law_draw : GF P w K mg base 1 "_law_draw" (sp__law_draw K) []) (G__law_shuffled : GF P w K mg base 2 "_law_shuffled" (sp__law_shuffled K) []) : GF P w K mg base 4 "_law_pool" (sp__law_pool K) [] :=
  gz_of F hm (F.bindsN (ps := ["d"]) fun _ _ _ _ _ _ us hl => match us, hl with | [_], _ => rfl) sc__law_pool (len__law_pool) (fun cdv A outer s H E hr => b__law_pool g_len G__law_string G__law_near_string G__law_pick G__law_draw G__law_shuffled cdv A outer s H E hr) law_pool
theorem len__law_row_of {K : PySem.W.Frag} (ds : List D) (S : Store) (Q : ZK) (h : sp__law_row_of K ds S Q) : ds.length = 2 := by
  unfold sp__law_row_of at h
  first | (obtain ⟨rfl, _⟩ := h; rfl) | (obtain ⟨_, rfl, _⟩ := h; rfl) | (obtain ⟨_, _, rfl, _⟩ := h; rfl) | (obtain ⟨_, _, _, rfl, _⟩ := h; rfl) | (obtain ⟨_, _, _, _, rfl, _⟩ := h; rfl) | (obtain ⟨_, _, _, _, _, rfl, _⟩ := h; rfl) | (obtain ⟨_, _, _, _, _, _, rfl, _⟩ := h; rfl) | (obtain ⟨_, _, _, _, _, _, _, rfl, _⟩ := h; rfl) | (obtain ⟨_, _, _, _, _, _, _, _, rfl, _⟩ := h; rfl)
theorem gf__law_row_of {P : Program} {w : World} {K : PySem.W.Frag} {mg : Str → Option Value} {base : Heap} {f : Addr} {fd : FuncData} (F : FnP K "_law_row_of" s__law_row_of f fd) (hm : mg "_law_row_of" = some (.ref f)) (g_len : mg "len" = none) (g_range : mg "range" = none) (g_min : mg "min" = none) (g_max : mg "max" = none) (G__law_draw : GF P w K mg base 1 "_law_draw" (sp__law_draw K) []) (G__law_pick : GF P w K mg base 2 "_law_pick" (sp__law_pick K) []) (G__law_shuffled : GF P w K mg base 2 "_law_shuffled" (sp__law_shuffled K) []) : GF P w K mg base 3 "_law_row_of" (sp__law_row_of K) [] :=
  gz_of F hm (F.bindsN (ps := ["d", "pool"]) fun _ _ _ _ _ _ us hl => match us, hl with | [_, _], _ => rfl) sc__law_row_of (len__law_row_of) (fun cdv A outer s H E hr => b__law_row_of g_len g_range g_min g_max G__law_draw G__law_pick G__law_shuffled cdv A outer s H E hr) law_row_of
theorem len__law_possible {K : PySem.W.Frag} (ds : List D) (S : Store) (Q : ZK) (h : sp__law_possible K ds S Q) : ds.length = 2 := by
  unfold sp__law_possible at h
  first | (obtain ⟨rfl, _⟩ := h; rfl) | (obtain ⟨_, rfl, _⟩ := h; rfl) | (obtain ⟨_, _, rfl, _⟩ := h; rfl) | (obtain ⟨_, _, _, rfl, _⟩ := h; rfl) | (obtain ⟨_, _, _, _, rfl, _⟩ := h; rfl) | (obtain ⟨_, _, _, _, _, rfl, _⟩ := h; rfl) | (obtain ⟨_, _, _, _, _, _, rfl, _⟩ := h; rfl) | (obtain ⟨_, _, _, _, _, _, _, rfl, _⟩ := h; rfl) | (obtain ⟨_, _, _, _, _, _, _, _, rfl, _⟩ := h; rfl)
theorem gf__law_possible {P : Program} {w : World} {K : PySem.W.Frag} {mg : Str → Option Value} {base : Heap} {f : Addr} {fd : FuncData} (F : FnP K "_law_possible" s__law_possible f fd) (hm : mg "_law_possible" = some (.ref f)) (g_len : mg "len" = none) (g_tuple : mg "tuple" = none) (g_sorted : mg "sorted" = none) : GF P w K mg base 1 "_law_possible" (sp__law_possible K) [] :=
  gz_of F hm (F.bindsN (ps := ["answers", "liars"]) fun _ _ _ _ _ _ us hl => match us, hl with | [_, _], _ => rfl) sc__law_possible (len__law_possible) (fun cdv A outer s H E hr => b__law_possible g_len g_tuple g_sorted cdv A outer s H E hr) law_possible2
theorem len__law_verdict {K : PySem.W.Frag} (ds : List D) (S : Store) (Q : ZK) (h : sp__law_verdict K ds S Q) : ds.length = 2 := by
  unfold sp__law_verdict at h
  first | (obtain ⟨rfl, _⟩ := h; rfl) | (obtain ⟨_, rfl, _⟩ := h; rfl) | (obtain ⟨_, _, rfl, _⟩ := h; rfl) | (obtain ⟨_, _, _, rfl, _⟩ := h; rfl) | (obtain ⟨_, _, _, _, rfl, _⟩ := h; rfl) | (obtain ⟨_, _, _, _, _, rfl, _⟩ := h; rfl) | (obtain ⟨_, _, _, _, _, _, rfl, _⟩ := h; rfl) | (obtain ⟨_, _, _, _, _, _, _, rfl, _⟩ := h; rfl) | (obtain ⟨_, _, _, _, _, _, _, _, rfl, _⟩ := h; rfl)
theorem gf__law_verdict {P : Program} {w : World} {K : PySem.W.Frag} {mg : Str → Option Value} {base : Heap} {f : Addr} {fd : FuncData} (F : FnP K "_law_verdict" s__law_verdict f fd) (hm : mg "_law_verdict" = some (.ref f)) (g_len : mg "len" = none) (G__law_possible : GF P w K mg base 1 "_law_possible" (sp__law_possible K) []) : GF P w K mg base 2 "_law_verdict" (sp__law_verdict K) [] :=
  gz_of F hm (F.bindsN (ps := ["answers", "liars"]) fun _ _ _ _ _ _ us hl => match us, hl with | [_, _], _ => rfl) sc__law_verdict (len__law_verdict) (fun cdv A outer s H E hr => b__law_verdict g_len G__law_possible cdv A outer s H E hr) law_verdict
theorem len__law_row_told {K : PySem.W.Frag} (ds : List D) (S : Store) (Q : ZK) (h : sp__law_row_told K ds S Q) : ds.length = 3 := by
  unfold sp__law_row_told at h
  first | (obtain ⟨rfl, _⟩ := h; rfl) | (obtain ⟨_, rfl, _⟩ := h; rfl) | (obtain ⟨_, _, rfl, _⟩ := h; rfl) | (obtain ⟨_, _, _, rfl, _⟩ := h; rfl) | (obtain ⟨_, _, _, _, rfl, _⟩ := h; rfl) | (obtain ⟨_, _, _, _, _, rfl, _⟩ := h; rfl) | (obtain ⟨_, _, _, _, _, _, rfl, _⟩ := h; rfl) | (obtain ⟨_, _, _, _, _, _, _, rfl, _⟩ := h; rfl) | (obtain ⟨_, _, _, _, _, _, _, _, rfl, _⟩ := h; rfl)
theorem gf__law_row_told {P : Program} {w : World} {K : PySem.W.Frag} {mg : Str → Option Value} {base : Heap} {f : Addr} {fd : FuncData} (F : FnP K "_law_row_told" s__law_row_told f fd) (hm : mg "_law_row_told" = some (.ref f)) (g_tuple : mg "tuple" = none) (g_range : mg "range" = none) (g_len : mg "len" = none) (G__law_same : GF P w K mg base 2 "_law_same" (sp__law_same K) []) (G__law_possible : GF P w K mg base 1 "_law_possible" (sp__law_possible K) []) (G_possible : GF P w K mg base 2 "possible" (sp_possible K) []) (G__law_verdict : GF P w K mg base 2 "_law_verdict" (sp__law_verdict K) []) (G_trusted : GF P w K mg base 3 "trusted" (sp_trusted K) []) (G_lies : GF P w K mg base 2 "lies" (sp_lies K) []) (G_asked_in_turn : GF P w K mg base 4 "asked_in_turn" (sp_asked_in_turn K) []) : GF P w K mg base 5 "_law_row_told" (sp__law_row_told K) [] :=
  gz_of F hm (F.bindsN (ps := ["pool", "answers", "liars"]) fun _ _ _ _ _ _ us hl => match us, hl with | [_, _, _], _ => rfl) sc__law_row_told (len__law_row_told) (fun cdv A outer s H E hr => b__law_row_told g_tuple g_range g_len G__law_same G__law_possible G_possible G__law_verdict G_trusted G_lies G_asked_in_turn cdv A outer s H E hr) law_row_told
theorem len__law_is_within {K : PySem.W.Frag} (ds : List D) (S : Store) (Q : ZK) (h : sp__law_is_within K ds S Q) : ds.length = 2 := by
  unfold sp__law_is_within at h
  first | (obtain ⟨rfl, _⟩ := h; rfl) | (obtain ⟨_, rfl, _⟩ := h; rfl) | (obtain ⟨_, _, rfl, _⟩ := h; rfl) | (obtain ⟨_, _, _, rfl, _⟩ := h; rfl) | (obtain ⟨_, _, _, _, rfl, _⟩ := h; rfl) | (obtain ⟨_, _, _, _, _, rfl, _⟩ := h; rfl) | (obtain ⟨_, _, _, _, _, _, rfl, _⟩ := h; rfl) | (obtain ⟨_, _, _, _, _, _, _, rfl, _⟩ := h; rfl) | (obtain ⟨_, _, _, _, _, _, _, _, rfl, _⟩ := h; rfl)
theorem gf__law_is_within {P : Program} {w : World} {K : PySem.W.Frag} {mg : Str → Option Value} {base : Heap} {f : Addr} {fd : FuncData} (F : FnP K "_law_is_within" s__law_is_within f fd) (hm : mg "_law_is_within" = some (.ref f)) (g_all : mg "all" = none) : GF P w K mg base 1 "_law_is_within" (sp__law_is_within K) [] :=
  gz_of F hm (F.bindsN (ps := ["one", "other"]) fun _ _ _ _ _ _ us hl => match us, hl with | [_, _], _ => rfl) sc__law_is_within (len__law_is_within) (fun cdv A outer s H E hr => b__law_is_within g_all cdv A outer s H E hr) law_is_within
theorem len__law_changes_told {K : PySem.W.Frag} (ds : List D) (S : Store) (Q : ZK) (h : sp__law_changes_told K ds S Q) : ds.length = 4 := by
  unfold sp__law_changes_told at h
  first | (obtain ⟨rfl, _⟩ := h; rfl) | (obtain ⟨_, rfl, _⟩ := h; rfl) | (obtain ⟨_, _, rfl, _⟩ := h; rfl) | (obtain ⟨_, _, _, rfl, _⟩ := h; rfl) | (obtain ⟨_, _, _, _, rfl, _⟩ := h; rfl) | (obtain ⟨_, _, _, _, _, rfl, _⟩ := h; rfl) | (obtain ⟨_, _, _, _, _, _, rfl, _⟩ := h; rfl) | (obtain ⟨_, _, _, _, _, _, _, rfl, _⟩ := h; rfl) | (obtain ⟨_, _, _, _, _, _, _, _, rfl, _⟩ := h; rfl)
theorem gf__law_changes_told {P : Program} {w : World} {K : PySem.W.Frag} {mg : Str → Option Value} {base : Heap} {f : Addr} {fd : FuncData} (F : FnP K "_law_changes_told" s__law_changes_told f fd) (hm : mg "_law_changes_told" = some (.ref f)) (g_tuple : mg "tuple" = none) (g_len : mg "len" = none) (G_possible : GF P w K mg base 2 "possible" (sp_possible K) []) (G__law_draw : GF P w K mg base 1 "_law_draw" (sp__law_draw K) []) (G__law_pick : GF P w K mg base 2 "_law_pick" (sp__law_pick K) []) (G__law_row_told : GF P w K mg base 5 "_law_row_told" (sp__law_row_told K) []) (G__law_is_within : GF P w K mg base 1 "_law_is_within" (sp__law_is_within K) []) (G__law_shuffled : GF P w K mg base 2 "_law_shuffled" (sp__law_shuffled K) []) (G_trusted : GF P w K mg base 3 "trusted" (sp_trusted K) []) : GF P w K mg base 6 "_law_changes_told" (sp__law_changes_told K) [] :=
  gz_of F hm (F.bindsN (ps := ["d", "pool", "answers", "liars"]) fun _ _ _ _ _ _ us hl => match us, hl with | [_, _, _, _], _ => rfl) sc__law_changes_told (len__law_changes_told) (fun cdv A outer s H E hr => b__law_changes_told g_tuple g_len G_possible G__law_draw G__law_pick G__law_row_told G__law_is_within G__law_shuffled G_trusted cdv A outer s H E hr) law_changes_told
theorem len_law {K : PySem.W.Frag} (ds : List D) (S : Store) (Q : ZK) (h : sp_law K ds S Q) : ds.length = 1 := by
  unfold sp_law at h
  first | (obtain ⟨rfl, _⟩ := h; rfl) | (obtain ⟨_, rfl, _⟩ := h; rfl) | (obtain ⟨_, _, rfl, _⟩ := h; rfl) | (obtain ⟨_, _, _, rfl, _⟩ := h; rfl) | (obtain ⟨_, _, _, _, rfl, _⟩ := h; rfl) | (obtain ⟨_, _, _, _, _, rfl, _⟩ := h; rfl) | (obtain ⟨_, _, _, _, _, _, rfl, _⟩ := h; rfl) | (obtain ⟨_, _, _, _, _, _, _, rfl, _⟩ := h; rfl) | (obtain ⟨_, _, _, _, _, _, _, _, rfl, _⟩ := h; rfl)
theorem ok_law {P : Program} {w : World} {K : PySem.W.Frag} {mg : Str → Option Value} {base : Heap} {f : Addr} {fd : FuncData} (F : FnP K "law" s_law f fd) (g_range : mg "range" = none) (g_tuple : mg "tuple" = none) (G__law_begin : GF P w K mg base 1 "_law_begin" (sp__law_begin K) []) (G__law_pool : GF P w K mg base 4 "_law_pool" (sp__law_pool K) []) (G__law_row_of : GF P w K mg base 3 "_law_row_of" (sp__law_row_of K) []) (G__law_row_told : GF P w K mg base 5 "_law_row_told" (sp__law_row_told K) []) (G__law_changes_told : GF P w K mg base 6 "_law_changes_told" (sp__law_changes_told K) []) (G__law_same : GF P w K mg base 2 "_law_same" (sp__law_same K) []) (G_trusted : GF P w K mg base 3 "trusted" (sp_trusted K) []) : FnOk P w K mg base L2.CX0 7 f fd ["script"] (liSp K w (sp_law K)) :=
  fz_of F sc_law (len_law) (fun cdv A outer s H E hr => b_law g_range g_tuple G__law_begin G__law_pool G__law_row_of G__law_row_told G__law_changes_told G__law_same G_trusted cdv A outer s H E hr) law_law
/-! ### the head -/
def d_spoken : He.DefD := ⟨("spoken", none), "spoken", "spoken", defArgs s_spoken, defBody s_spoken, defScope s_spoken, [], []⟩
def d_lying_places : He.DefD := ⟨("lying_places", none), "lying_places", "lying_places", defArgs s_lying_places, defBody s_lying_places, defScope s_lying_places, [], []⟩
def d_possible : He.DefD := ⟨("possible", none), "possible", "possible", defArgs s_possible, defBody s_possible, defScope s_possible, [], []⟩
def d_trusted : He.DefD := ⟨("trusted", none), "trusted", "trusted", defArgs s_trusted, defBody s_trusted, defScope s_trusted, [], []⟩
def d_lies : He.DefD := ⟨("lies", none), "lies", "lies", defArgs s_lies, defBody s_lies, defScope s_lies, [], []⟩
def d_asked_in_turn : He.DefD := ⟨("asked_in_turn", none), "asked_in_turn", "asked_in_turn", defArgs s_asked_in_turn, defBody s_asked_in_turn, defScope s_asked_in_turn, [], []⟩
def d__law_begin : He.DefD := ⟨("_law_begin", none), "_law_begin", "_law_begin", defArgs s__law_begin, defBody s__law_begin, defScope s__law_begin, [], []⟩
def d__law_draw : He.DefD := ⟨("_law_draw", none), "_law_draw", "_law_draw", defArgs s__law_draw, defBody s__law_draw, defScope s__law_draw, [], []⟩
def d__law_pick : He.DefD := ⟨("_law_pick", none), "_law_pick", "_law_pick", defArgs s__law_pick, defBody s__law_pick, defScope s__law_pick, [], []⟩
def d__law_shuffled : He.DefD := ⟨("_law_shuffled", none), "_law_shuffled", "_law_shuffled", defArgs s__law_shuffled, defBody s__law_shuffled, defScope s__law_shuffled, [], []⟩
def d__law_is_int : He.DefD := ⟨("_law_is_int", none), "_law_is_int", "_law_is_int", defArgs s__law_is_int, defBody s__law_is_int, defScope s__law_is_int, [], []⟩
def d__law_same : He.DefD := ⟨("_law_same", none), "_law_same", "_law_same", defArgs s__law_same, defBody s__law_same, defScope s__law_same, [], []⟩
def d__law_string : He.DefD := ⟨("_law_string", none), "_law_string", "_law_string", defArgs s__law_string, defBody s__law_string, defScope s__law_string, [], []⟩
def d__law_near_string : He.DefD := ⟨("_law_near_string", none), "_law_near_string", "_law_near_string", defArgs s__law_near_string, defBody s__law_near_string, defScope s__law_near_string, [], []⟩
def d__law_pool : He.DefD := ⟨("_law_pool", none), "_law_pool", "_law_pool", defArgs s__law_pool, defBody s__law_pool, defScope s__law_pool, [], []⟩
def d__law_row_of : He.DefD := ⟨("_law_row_of", none), "_law_row_of", "_law_row_of", defArgs s__law_row_of, defBody s__law_row_of, defScope s__law_row_of, [], []⟩
def d__law_possible : He.DefD := ⟨("_law_possible", none), "_law_possible", "_law_possible", defArgs s__law_possible, defBody s__law_possible, defScope s__law_possible, [], []⟩
def d__law_verdict : He.DefD := ⟨("_law_verdict", none), "_law_verdict", "_law_verdict", defArgs s__law_verdict, defBody s__law_verdict, defScope s__law_verdict, [], []⟩
def d__law_row_told : He.DefD := ⟨("_law_row_told", none), "_law_row_told", "_law_row_told", defArgs s__law_row_told, defBody s__law_row_told, defScope s__law_row_told, [], []⟩
def d__law_is_within : He.DefD := ⟨("_law_is_within", none), "_law_is_within", "_law_is_within", defArgs s__law_is_within, defBody s__law_is_within, defScope s__law_is_within, [], []⟩
def d__law_changes_told : He.DefD := ⟨("_law_changes_told", none), "_law_changes_told", "_law_changes_told", defArgs s__law_changes_told, defBody s__law_changes_told, defScope s__law_changes_told, [], []⟩
def d_law : He.DefD := ⟨("law", none), "law", "law", defArgs s_law, defBody s_law, defScope s_law, [], []⟩
def fn : List He.DefD := [d_spoken, d_lying_places, d_possible, d_trusted, d_lies, d_asked_in_turn, d__law_begin, d__law_draw, d__law_pick, d__law_shuffled, d__law_is_int, d__law_same, d__law_string, d__law_near_string, d__law_pool, d__law_row_of, d__law_possible, d__law_verdict, d__law_row_told, d__law_is_within, d__law_changes_told, d_law]
def fa : List He.Fa := [.glo "spoken", .glo "lying_places", .glo "possible", .glo "trusted", .glo "lies", .glo "asked_in_turn", .glo "_law_begin", .glo "_law_draw", .glo "_law_pick", .glo "_law_shuffled", .glo "_law_is_int", .glo "_law_same", .glo "_law_string", .glo "_law_near_string", .glo "_law_pool", .glo "_law_row_of", .glo "_law_possible", .glo "_law_verdict", .glo "_law_row_told", .glo "_law_is_within", .glo "_law_changes_told", .glo "law", .free "enumerate", .free "tuple", .free "len", .free "sorted", .free "range", .free "int", .free "abs", .free "list", .free "isinstance", .free "bool", .free "str", .free "min", .free "max", .free "all"]
abbrev R : PySem.W.OpenRow := PySem.W.OpenLaw.row PySem.Challenge.rw_holdstill_k70_answers_added
abbrev hk : PySem.W.Hook := He.hookD 4 fa fn
def ob (s : PySem.W.SharedT) : He.AlD := He.obsDG 4 fa fn (HandSHeadRun.getT s)
theorem ob_eq (s : PySem.W.SharedT) : ob s = hk.obs s.abs := He.obsDG_eq (HandSHeadRun.getT_eq s)
theorem run (w : World) : HandSHeadRun.RunEq R (PySem.W.view R.prog [23]) hk ob 2000 ["spoken", "lying_places", "possible", "trusted", "lies", "asked_in_turn", "_law_begin", "_law_draw", "_law_pick", "_law_shuffled", "_law_is_int", "_law_same", "_law_string", "_law_near_string", "_law_pool", "_law_row_of", "_law_possible", "_law_verdict", "_law_row_told", "_law_is_within", "_law_changes_told"] w := by
  intro os
  kernel_rfl
theorem facts {P : Program} {w : World} {K : PySem.W.Frag} {h : Heap} {mg : Str → Option Value} {f : Addr} (X : K.In h) (G : h.Ns mainGlobals mg) (hfa : mg ("law" : Str) = some (.ref f)) (c : He.SaysD fa fn K) :
    ∃ fd : FuncData, (∀ (s : Shared) (v : Value), BindsTo s fd ⟨[v], []⟩ [("script", v)]) ∧ ∀ base : Heap, K.In base → base.Ns mainGlobals mg → FnOk P w K mg base L2.CX0 7 f fd ["script"] (liSp K w (sp_law K)) := by
  obtain ⟨fd_spoken, F_spoken⟩ := c.def_ 0 (d := d_spoken) rfl
  have m_spoken := He.glo_ok X G (c.fact 0 (f := .glo "spoken") rfl)
  obtain ⟨fd_lying_places, F_lying_places⟩ := c.def_ 1 (d := d_lying_places) rfl
  have m_lying_places := He.glo_ok X G (c.fact 1 (f := .glo "lying_places") rfl)
  obtain ⟨fd_possible, F_possible⟩ := c.def_ 2 (d := d_possible) rfl
  have m_possible := He.glo_ok X G (c.fact 2 (f := .glo "possible") rfl)
  obtain ⟨fd_trusted, F_trusted⟩ := c.def_ 3 (d := d_trusted) rfl
  have m_trusted := He.glo_ok X G (c.fact 3 (f := .glo "trusted") rfl)
  obtain ⟨fd_lies, F_lies⟩ := c.def_ 4 (d := d_lies) rfl
  have m_lies := He.glo_ok X G (c.fact 4 (f := .glo "lies") rfl)
  obtain ⟨fd_asked_in_turn, F_asked_in_turn⟩ := c.def_ 5 (d := d_asked_in_turn) rfl
  have m_asked_in_turn := He.glo_ok X G (c.fact 5 (f := .glo "asked_in_turn") rfl)
  obtain ⟨fd__law_begin, F__law_begin⟩ := c.def_ 6 (d := d__law_begin) rfl
  have m__law_begin := He.glo_ok X G (c.fact 6 (f := .glo "_law_begin") rfl)
  obtain ⟨fd__law_draw, F__law_draw⟩ := c.def_ 7 (d := d__law_draw) rfl
  have m__law_draw := He.glo_ok X G (c.fact 7 (f := .glo "_law_draw") rfl)
  obtain ⟨fd__law_pick, F__law_pick⟩ := c.def_ 8 (d := d__law_pick) rfl
  have m__law_pick := He.glo_ok X G (c.fact 8 (f := .glo "_law_pick") rfl)
  obtain ⟨fd__law_shuffled, F__law_shuffled⟩ := c.def_ 9 (d := d__law_shuffled) rfl
  have m__law_shuffled := He.glo_ok X G (c.fact 9 (f := .glo "_law_shuffled") rfl)
  obtain ⟨fd__law_is_int, F__law_is_int⟩ := c.def_ 10 (d := d__law_is_int) rfl
  have m__law_is_int := He.glo_ok X G (c.fact 10 (f := .glo "_law_is_int") rfl)
  obtain ⟨fd__law_same, F__law_same⟩ := c.def_ 11 (d := d__law_same) rfl
  have m__law_same := He.glo_ok X G (c.fact 11 (f := .glo "_law_same") rfl)
  obtain ⟨fd__law_string, F__law_string⟩ := c.def_ 12 (d := d__law_string) rfl
  have m__law_string := He.glo_ok X G (c.fact 12 (f := .glo "_law_string") rfl)
  obtain ⟨fd__law_near_string, F__law_near_string⟩ := c.def_ 13 (d := d__law_near_string) rfl
  have m__law_near_string := He.glo_ok X G (c.fact 13 (f := .glo "_law_near_string") rfl)
  obtain ⟨fd__law_pool, F__law_pool⟩ := c.def_ 14 (d := d__law_pool) rfl
  have m__law_pool := He.glo_ok X G (c.fact 14 (f := .glo "_law_pool") rfl)
  obtain ⟨fd__law_row_of, F__law_row_of⟩ := c.def_ 15 (d := d__law_row_of) rfl
  have m__law_row_of := He.glo_ok X G (c.fact 15 (f := .glo "_law_row_of") rfl)
  obtain ⟨fd__law_possible, F__law_possible⟩ := c.def_ 16 (d := d__law_possible) rfl
  have m__law_possible := He.glo_ok X G (c.fact 16 (f := .glo "_law_possible") rfl)
  obtain ⟨fd__law_verdict, F__law_verdict⟩ := c.def_ 17 (d := d__law_verdict) rfl
  have m__law_verdict := He.glo_ok X G (c.fact 17 (f := .glo "_law_verdict") rfl)
  obtain ⟨fd__law_row_told, F__law_row_told⟩ := c.def_ 18 (d := d__law_row_told) rfl
  have m__law_row_told := He.glo_ok X G (c.fact 18 (f := .glo "_law_row_told") rfl)
  obtain ⟨fd__law_is_within, F__law_is_within⟩ := c.def_ 19 (d := d__law_is_within) rfl
  have m__law_is_within := He.glo_ok X G (c.fact 19 (f := .glo "_law_is_within") rfl)
  obtain ⟨fd__law_changes_told, F__law_changes_told⟩ := c.def_ 20 (d := d__law_changes_told) rfl
  have m__law_changes_told := He.glo_ok X G (c.fact 20 (f := .glo "_law_changes_told") rfl)
  obtain ⟨fd_law, F_law⟩ := c.def_ 21 (d := d_law) rfl
  have m_law := He.glo_ok X G (c.fact 21 (f := .glo "law") rfl)
  have g_enumerate : mg "enumerate" = none := He.free_ok X G (c.fact 22 (f := .free "enumerate") rfl)
  have g_tuple : mg "tuple" = none := He.free_ok X G (c.fact 23 (f := .free "tuple") rfl)
  have g_len : mg "len" = none := He.free_ok X G (c.fact 24 (f := .free "len") rfl)
  have g_sorted : mg "sorted" = none := He.free_ok X G (c.fact 25 (f := .free "sorted") rfl)
  have g_range : mg "range" = none := He.free_ok X G (c.fact 26 (f := .free "range") rfl)
  have g_int : mg "int" = none := He.free_ok X G (c.fact 27 (f := .free "int") rfl)
  have g_abs : mg "abs" = none := He.free_ok X G (c.fact 28 (f := .free "abs") rfl)
  have g_list : mg "list" = none := He.free_ok X G (c.fact 29 (f := .free "list") rfl)
  have g_isinstance : mg "isinstance" = none := He.free_ok X G (c.fact 30 (f := .free "isinstance") rfl)
  have g_bool : mg "bool" = none := He.free_ok X G (c.fact 31 (f := .free "bool") rfl)
  have g_str : mg "str" = none := He.free_ok X G (c.fact 32 (f := .free "str") rfl)
  have g_min : mg "min" = none := He.free_ok X G (c.fact 33 (f := .free "min") rfl)
  have g_max : mg "max" = none := He.free_ok X G (c.fact 34 (f := .free "max") rfl)
  have g_all : mg "all" = none := He.free_ok X G (c.fact 35 (f := .free "all") rfl)
  have e := hfa.symm.trans m_law
  cases e
  have b := FunD.bindsA (ps := ["script"]) F_law fun _ _ _ _ _ _ us hl => match us, hl with | [_], _ => rfl
  refine ⟨fd_law, fun s v => b s [v] rfl, fun base _ _ => ?_⟩
  have G_spoken : GF P w K mg base 1 "spoken" (sp_spoken K) [] := gf_spoken F_spoken m_spoken
  have G_lying_places : GF P w K mg base 1 "lying_places" (sp_lying_places K) [] := gf_lying_places F_lying_places m_lying_places g_enumerate g_tuple
  have G_possible : GF P w K mg base 2 "possible" (sp_possible K) [] := gf_possible F_possible m_possible g_len g_tuple g_sorted G_spoken G_lying_places
  have G_trusted : GF P w K mg base 3 "trusted" (sp_trusted K) [] := gf_trusted F_trusted m_trusted g_len G_possible
  have G_lies : GF P w K mg base 2 "lies" (sp_lies K) [] := gf_lies F_lies m_lies g_len G_lying_places
  have G_asked_in_turn : GF P w K mg base 4 "asked_in_turn" (sp_asked_in_turn K) [] := gf_asked_in_turn F_asked_in_turn m_asked_in_turn g_range g_len G_trusted
  have G__law_begin : GF P w K mg base 1 "_law_begin" (sp__law_begin K) [] := gf__law_begin F__law_begin m__law_begin g_int
  have G__law_draw : GF P w K mg base 1 "_law_draw" (sp__law_draw K) [] := gf__law_draw F__law_draw m__law_draw g_int g_len g_abs
  have G__law_pick : GF P w K mg base 2 "_law_pick" (sp__law_pick K) [] := gf__law_pick F__law_pick m__law_pick g_len G__law_draw
  have G__law_shuffled : GF P w K mg base 2 "_law_shuffled" (sp__law_shuffled K) [] := gf__law_shuffled F__law_shuffled m__law_shuffled g_list g_range g_len G__law_draw
  have G__law_is_int : GF P w K mg base 1 "_law_is_int" (sp__law_is_int K) [] := gf__law_is_int F__law_is_int m__law_is_int g_isinstance g_int g_bool
  have G__law_same : GF P w K mg base 2 "_law_same" (sp__law_same K) [] := gf__law_same F__law_same m__law_same g_range g_isinstance g_tuple g_len g_str G__law_is_int
  have G__law_string : GF P w K mg base 3 "_law_string" (sp__law_string K) [] := gf__law_string F__law_string m__law_string g_range g_len G__law_pick G__law_draw
  have G__law_near_string : GF P w K mg base 2 "_law_near_string" (sp__law_near_string K) [] := gf__law_near_string F__law_near_string m__law_near_string g_len G__law_draw
  have G__law_pool : GF P w K mg base 4 "_law_pool" (sp__law_pool K) [] := gf__law_pool F__law_pool m__law_pool g_len G__law_string G__law_near_string G__law_pick G__law_draw G__law_shuffled
  have G__law_row_of : GF P w K mg base 3 "_law_row_of" (sp__law_row_of K) [] := gf__law_row_of F__law_row_of m__law_row_of g_len g_range g_min g_max G__law_draw G__law_pick G__law_shuffled
  have G__law_possible : GF P w K mg base 1 "_law_possible" (sp__law_possible K) [] := gf__law_possible F__law_possible m__law_possible g_len g_tuple g_sorted
  have G__law_verdict : GF P w K mg base 2 "_law_verdict" (sp__law_verdict K) [] := gf__law_verdict F__law_verdict m__law_verdict g_len G__law_possible
  have G__law_row_told : GF P w K mg base 5 "_law_row_told" (sp__law_row_told K) [] := gf__law_row_told F__law_row_told m__law_row_told g_tuple g_range g_len G__law_same G__law_possible G_possible G__law_verdict G_trusted G_lies G_asked_in_turn
  have G__law_is_within : GF P w K mg base 1 "_law_is_within" (sp__law_is_within K) [] := gf__law_is_within F__law_is_within m__law_is_within g_all
  have G__law_changes_told : GF P w K mg base 6 "_law_changes_told" (sp__law_changes_told K) [] := gf__law_changes_told F__law_changes_told m__law_changes_told g_tuple g_len G_possible G__law_draw G__law_pick G__law_row_told G__law_is_within G__law_shuffled G_trusted
  exact ok_law F_law g_range g_tuple G__law_begin G__law_pool G__law_row_of G__law_row_told G__law_changes_told G__law_same G_trusted
end K70
open PySem PySem.W PySem.Calls PyProof.Rows
theorem PySem.Challenge.cw_holdstill_k70_answers_added_holds : PySem.Challenge.rw_holdstill_k70_answers_added.Holds := by
  w_on; o_law
  refine HandSHeadRun.head_any (r := OpenLaw.row PySem.Challenge.rw_holdstill_k70_answers_added) (q := view (OpenLaw.row PySem.Challenge.rw_holdstill_k70_answers_added).prog [23]) (H := K70.hk) (ob := K70.ob) (M := 2000) (loose := ["spoken", "lying_places", "possible", "trusted", "lies", "asked_in_turn", "_law_begin", "_law_draw", "_law_pick", "_law_shuffled", "_law_is_int", "_law_same", "_law_string", "_law_near_string", "_law_pool", "_law_row_of", "_law_possible", "_law_verdict", "_law_row_told", "_law_is_within", "_law_changes_told"]) (d := HandSHeadRun.topDef (OpenLaw.row PySem.Challenge.rw_holdstill_k70_answers_added).prog 23) (kwd := []) K70.ob_eq
    (by kernel_rfl) (fun s => by kernel_rfl) K70.run (by kernel_rfl) (by kernel_rfl) (by kernel_rfl) (by rfl) (by first | assumption | decide +kernel) (by decide +kernel) ⟨rfl, rfl, rfl, rfl, rfl, by decide +kernel⟩ ?hw ?hc
  case hw => w_witness2
  case hc =>
    refine L2.walk_ofE (l := PySem.Challenge.rw_holdstill_k70_answers_added) (n := 63) (k := 7) (x := "script") (CX := L2.CX0) rfl (by decide) (by kernel_rfl) ⟨rfl, by decide, by decide⟩ ?F (fun _ _ _ _ z => z)
    intro w mg fa h Y G hmg0
    obtain ⟨K, KX, c⟩ := Y
    have hmg : mg ("law" : PySem.Str) = some (.ref fa) := by
      have e : (HandSHeadRun.topDef (OpenLaw.row PySem.Challenge.rw_holdstill_k70_answers_added).prog 23).name = ("law" : PySem.Str) := by kernel_rfl
      rw [← e]
      exact hmg0
    obtain ⟨fd, hb, hF⟩ := K70.facts (P := (PySem.Challenge.rw_holdstill_k70_answers_added).prog) (w := w) KX G hmg c
    exact ⟨K, fd, Z.liSp K w (K70.sp_law K), KX, hb, fun H a ns hl _ hS => Z.script_z hS fun S src h1 h2 => ⟨a, ns, src, rfl, h1, h2, by omega, fun _ => rfl⟩, hF⟩
