import PyProof.Rows.All
import Wide.All
import OpenK.AllK
import Wide.FinOn
import HandS.ForMost
import HandS.Exc
import HandS.ExcOwn
import HandS.WordsExc
import HandS.Flow
import HandS.Wide
import HandS.WideBits
import HandS.IsInst
import HandS.Style
import HandS.EndBits
import HandS.TryOnly
import HandS.More
import PyProof.ReprRoads
import HandS.RaiseMore
import PySem.Challenge.RW_retrynest_k21_first_attempts_of_long_nes
set_option Elab.async false
set_option linter.all false
set_option maxRecDepth 100000
/-! VL1: deep data, what stands for it in the heap, ownership by counting. -/
namespace VL
open PySem PySem.Spec L2

/-- deep data -/
inductive D where
  | non | bl (b : Bool) | int (i : Int) | str (x : Str) | ty (n : String) | fn (a : Addr)
  | lst (xs : List D) | tup (xs : List D) | dct (kvs : List (Key × D))
  /-- the script -/
  | scr (ns : List Int)

abbrev Cnt := Addr → Nat
def z0 : Cnt := fun _ => 0
def one (a : Addr) : Cnt := fun b => if b = a then 1 else 0
def add (c d : Cnt) : Cnt := fun a => c a + d a
theorem add_z (c : Cnt) : add c z0 = c := by funext a; simp [add, z0]
theorem z_add (c : Cnt) : add z0 c = c := by funext a; simp [add, z0]
theorem add_comm' (c d : Cnt) : add c d = add d c := by funext a; simp [add, Nat.add_comm]
theorem add_assoc' (c d e : Cnt) : add (add c d) e = add c (add d e) := by funext a; simp [add, Nat.add_assoc]
theorem add_left_comm' (c d e : Cnt) : add c (add d e) = add d (add c e) := by funext a; simp only [add]; omega
theorem add_at (c d : Cnt) (a : Addr) : add c d a = c a + d a := rfl
theorem z_at (a : Addr) : z0 a = 0 := rfl
theorem one_at (a b : Addr) : one a b = if b = a then 1 else 0 := rfl
theorem one_same (a : Addr) : one a a = 1 := if_pos rfl
theorem one_ne {a b : Addr} (h : b ≠ a) : one a b = 0 := if_neg h

def MutO : HO → Prop
  | .lst _ => True
  | .dK _ => True
  | _ => False
theorem MutO.mut {o : HO} (h : MutO o) : Mut (some o) := by
  cases o <;> first | exact h | exact h.elim

mutual
/-- at the heap H the value stands for the data; the first n levels of lists and dicts are owned (counted by c), what lies below is shared (counted by s); tuples are not counted -/
inductive Rep (K : PySem.W.Frag) (H : Hp) : Nat → D → V → Cnt → Cnt → Prop
  | non {n} : Rep K H n .non .non z0 z0
  | bl {n} (b : Bool) : Rep K H n (.bl b) (.bl b) z0 z0
  | int {n} (i : Int) : Rep K H n (.int i) (.int i) z0 z0
  | str {n} (x : Str) : Rep K H n (.str x) (.str x) z0 z0
  | ty {n} (x : String) : Rep K H n (.ty x) (.ty x) z0 z0
  | fn {n} (a : Addr) : Rep K H n (.fn a) (.ref a) z0 z0
  | lst0 {a vs ds c s} : H a = some (.lst vs) → Reps K H 0 ds vs c s → Rep K H 0 (.lst ds) (.ref a) c (add (one a) s)
  | scr {n a ns} (o : Obj) : H a = some (.frz o (.lst (ns.map V.int))) → Rep K H n (.scr ns) (.ref a) z0 (one a)
  | scrK {n a ns} : (∀ H', SqL K H' a (ns.map V.int)) → Rep K H n (.scr ns) (.ref a) z0 z0
  | lstS {n a vs ds c s} : H a = some (.lst vs) → Reps K H n ds vs c s → Rep K H (n + 1) (.lst ds) (.ref a) (add (one a) c) s
  | tup {n a vs ds c s} : H a = some (.tup vs) → Reps K H n ds vs c s → Rep K H n (.tup ds) (.ref a) c s
  | dct0 {a kvs ks ds vs c s} : H a = some (.dK kvs) → kvs.map (·.2) = vs → kvs.map (·.1) = ks.map (·.1) → ks.map (·.2) = ds → Reps K H 0 ds vs c s → Rep K H 0 (.dct ks) (.ref a) c (add (one a) s)
  | dctS {n a kvs ks ds vs c s} : H a = some (.dK kvs) → kvs.map (·.2) = vs → kvs.map (·.1) = ks.map (·.1) → ks.map (·.2) = ds → Reps K H n ds vs c s → Rep K H (n + 1) (.dct ks) (.ref a) (add (one a) c) s
inductive Reps (K : PySem.W.Frag) (H : Hp) : Nat → List D → List V → Cnt → Cnt → Prop
  | nil {n} : Reps K H n [] [] z0 z0
  | cons {n d ds v vs c1 s1 c2 s2} : Rep K H n d v c1 s1 → Reps K H n ds vs c2 s2 → Reps K H n (d :: ds) (v :: vs) (add c1 c2) (add s1 s2)
end

def tupO : HO → Prop
  | .tup _ => True
  | _ => False
/-- what a heap must keep for data with these counts -/
def Kp (c s : Cnt) (H H' : Hp) : Prop := ∀ a o, H a = some o → (0 < c a ∨ 0 < s a ∨ tupO o) → H' a = some o

section
variable {K : PySem.W.Frag} {H H' : Hp}
theorem Kp.left {c1 c2 s1 s2 : Cnt} (k : Kp (add c1 c2) (add s1 s2) H H') : Kp c1 s1 H H' := fun a o e h => k a o e (by
  simp only [add_at]; rcases h with h | h | h
  · exact .inl (by omega)
  · exact .inr (.inl (by omega))
  · exact .inr (.inr h))
theorem Kp.right {c1 c2 s1 s2 : Cnt} (k : Kp (add c1 c2) (add s1 s2) H H') : Kp c2 s2 H H' := fun a o e h => k a o e (by
  simp only [add_at]; rcases h with h | h | h
  · exact .inl (by omega)
  · exact .inr (.inl (by omega))
  · exact .inr (.inr h))
theorem Kp.rS {c x s : Cnt} (k : Kp c (add x s) H H') : Kp c s H H' := fun a o e h => k a o e (by
  simp only [add_at]; rcases h with h | h | h
  · exact .inl h
  · exact .inr (.inl (by omega))
  · exact .inr (.inr h))
theorem Kp.rC {c x s : Cnt} (k : Kp (add x c) s H H') : Kp c s H H' := fun a o e h => k a o e (by
  simp only [add_at]; rcases h with h | h | h
  · exact .inl (by omega)
  · exact .inr (.inl h)
  · exact .inr (.inr h))
theorem one_add_pos (a : Addr) (c : Cnt) : 0 < add (one a) c a := by simp only [add_at, one_same]; omega
mutual
theorem Rep.keep : ∀ {n : Nat} {d : D} {v : V} {c s : Cnt}, Rep K H n d v c s → Kp c s H H' → Rep K H' n d v c s
  | _, _, _, _, _, .non, _ => .non
  | _, _, _, _, _, .bl b, _ => .bl b
  | _, _, _, _, _, .int i, _ => .int i
  | _, _, _, _, _, .str x, _ => .str x
  | _, _, _, _, _, .ty x, _ => .ty x
  | _, _, _, _, _, .fn a, _ => .fn a
  | _, _, _, _, _, .lst0 h r, k => .lst0 (k _ _ h (.inr (.inl (one_add_pos _ _)))) (Reps.keep r k.rS)
  | _, _, _, _, _, .scr o h, k => .scr o (k _ _ h (.inr (.inl (by rw [one_same]; exact Nat.one_pos))))
  | _, _, _, _, _, .scrK h, _ => .scrK h
  | _, _, _, _, _, .lstS h r, k => .lstS (k _ _ h (.inl (one_add_pos _ _))) (Reps.keep r k.rC)
  | _, _, _, _, _, .tup h r, k => .tup (k _ _ h (.inr (.inr trivial))) (Reps.keep r k)
  | _, _, _, _, _, .dct0 h e1 e2 e3 r, k => .dct0 (k _ _ h (.inr (.inl (one_add_pos _ _)))) e1 e2 e3 (Reps.keep r k.rS)
  | _, _, _, _, _, .dctS h e1 e2 e3 r, k => .dctS (k _ _ h (.inl (one_add_pos _ _))) e1 e2 e3 (Reps.keep r k.rC)
theorem Reps.keep : ∀ {n : Nat} {ds : List D} {vs : List V} {c s : Cnt}, Reps K H n ds vs c s → Kp c s H H' → Reps K H' n ds vs c s
  | _, _, _, _, _, .nil, _ => .nil
  | _, _, _, _, _, .cons a b, k => .cons (Rep.keep a k.left) (Reps.keep b k.right)
end
/-- what is counted stands in the heap, as a list or a dict -/
def Dom (c s : Cnt) (H : Hp) : Prop := ∀ a, (0 < c a → ∃ o, H a = some o ∧ MutO o) ∧ (0 < s a → ∃ o, H a = some o ∧ ¬ tupO o)
theorem Dom.add {c1 c2 s1 s2 : Cnt} (h1 : Dom c1 s1 H) (h2 : Dom c2 s2 H) : Dom (add c1 c2) (add s1 s2) H := fun a => by
  refine ⟨fun h => ?_, fun h => ?_⟩
  · by_cases p : 0 < c1 a
    · exact (h1 a).1 p
    · exact (h2 a).1 (by simp only [add_at] at h; omega)
  · by_cases p : 0 < s1 a
    · exact (h1 a).2 p
    · exact (h2 a).2 (by simp only [add_at] at h; omega)
theorem Dom.z : Dom z0 z0 H := fun a => ⟨fun h => absurd h (Nat.lt_irrefl 0), fun h => absurd h (Nat.lt_irrefl 0)⟩
theorem Dom.oneS {a : Addr} {u : HO} (h : H a = some u) (m : ¬ tupO u) : Dom z0 (one a) H := fun b => by
  refine ⟨fun h => absurd h (Nat.lt_irrefl 0), fun p => ?_⟩
  by_cases e : b = a
  · subst e
    exact ⟨_, h, m⟩
  · rw [one_ne e] at p; exact absurd p (Nat.lt_irrefl 0)
theorem Dom.oneC {a : Addr} {u : HO} (h : H a = some u) (m : MutO u) : Dom (one a) z0 H := fun b => by
  refine ⟨fun p => ?_, fun h => absurd h (Nat.lt_irrefl 0)⟩
  by_cases e : b = a
  · subst e; exact ⟨_, h, m⟩
  · rw [one_ne e] at p; exact absurd p (Nat.lt_irrefl 0)
theorem Dom.addS {a : Addr} {u : HO} {c s : Cnt} (h : H a = some u) (m : ¬ tupO u) (q : Dom c s H) : Dom c (VL.add (one a) s) H := by
  have q := (Dom.oneS h m).add q
  rw [z_add] at q
  exact q
theorem Dom.addC {a : Addr} {u : HO} {c s : Cnt} (h : H a = some u) (m : MutO u) (q : Dom c s H) : Dom (VL.add (one a) c) s H := by
  have q := (Dom.oneC h m).add q
  rw [z_add] at q
  exact q
mutual
theorem Rep.dom : ∀ {n : Nat} {d : D} {v : V} {c s : Cnt}, Rep K H n d v c s → Dom c s H
  | _, _, _, _, _, .non => .z
  | _, _, _, _, _, .bl b => .z
  | _, _, _, _, _, .int i => .z
  | _, _, _, _, _, .str x => .z
  | _, _, _, _, _, .ty x => .z
  | _, _, _, _, _, .fn a => .z
  | _, _, _, _, _, .lst0 h r => .addS h (fun z => z) (Reps.dom r)
  | _, _, _, _, _, .scr o h => .oneS h (fun z => z)
  | _, _, _, _, _, .scrK h => .z
  | _, _, _, _, _, .lstS h r => .addC h trivial (Reps.dom r)
  | _, _, _, _, _, .tup h r => Reps.dom r
  | _, _, _, _, _, .dct0 h e1 e2 e3 r => .addS h (fun z => z) (Reps.dom r)
  | _, _, _, _, _, .dctS h e1 e2 e3 r => .addC h trivial (Reps.dom r)
theorem Reps.dom : ∀ {n : Nat} {ds : List D} {vs : List V} {c s : Cnt}, Reps K H n ds vs c s → Dom c s H
  | _, _, _, _, _, .nil => .z
  | _, _, _, _, _, .cons a b => (Rep.dom a).add (Reps.dom b)
end
/-- less is owned -/
structure Wk (c s c' s' : Cnt) : Prop where
  le : ∀ a, c' a ≤ c a
  sum : ∀ a, c' a + s' a = c a + s a
theorem Wk.refl (c s : Cnt) : Wk c s c s := ⟨fun _ => Nat.le_refl _, fun _ => rfl⟩
theorem Wk.trans {c s c1 s1 c2 s2 : Cnt} (a : Wk c s c1 s1) (b : Wk c1 s1 c2 s2) : Wk c s c2 s2 :=
  ⟨fun x => Nat.le_trans (b.le x) (a.le x), fun x => (b.sum x).trans (a.sum x)⟩
theorem Wk.add {c1 s1 c1' s1' c2 s2 c2' s2' : Cnt} (a : Wk c1 s1 c1' s1') (b : Wk c2 s2 c2' s2') : Wk (add c1 c2) (add s1 s2) (add c1' c2') (add s1' s2') :=
  ⟨fun x => by have := a.le x; have := b.le x; simp only [add_at]; omega, fun x => by have := a.sum x; have := b.sum x; simp only [add_at]; omega⟩
theorem Wk.toS {a : Addr} {c s c' s' : Cnt} (w : Wk c s c' s') : Wk (VL.add (one a) c) s c' (VL.add (one a) s') :=
  ⟨fun x => by have := w.le x; simp only [add_at]; omega, fun x => by have := w.sum x; simp only [add_at]; omega⟩
theorem Wk.toC {a : Addr} {c s c' s' : Cnt} (w : Wk c s c' s') : Wk (VL.add (one a) c) s (VL.add (one a) c') s' :=
  ⟨fun x => by have := w.le x; simp only [add_at]; omega, fun x => by have := w.sum x; simp only [add_at]; omega⟩
mutual
theorem Rep.wk : ∀ {n : Nat} {d : D} {v : V} {c s : Cnt}, Rep K H n d v c s → ∀ m : Nat, m ≤ n → ∃ c' s', Rep K H m d v c' s' ∧ Wk c s c' s'
  | _, _, _, _, _, .non, _, _ => ⟨_, _, .non, .refl _ _⟩
  | _, _, _, _, _, .bl b, _, _ => ⟨_, _, .bl b, .refl _ _⟩
  | _, _, _, _, _, .int i, _, _ => ⟨_, _, .int i, .refl _ _⟩
  | _, _, _, _, _, .str x, _, _ => ⟨_, _, .str x, .refl _ _⟩
  | _, _, _, _, _, .ty x, _, _ => ⟨_, _, .ty x, .refl _ _⟩
  | _, _, _, _, _, .fn a, _, _ => ⟨_, _, .fn a, .refl _ _⟩
  | _, _, _, _, _, .lst0 hh r, 0, _ => ⟨_, _, .lst0 hh r, .refl _ _⟩
  | _, _, _, _, _, .scr o hh, _, _ => ⟨_, _, .scr o hh, .refl _ _⟩
  | _, _, _, _, _, .scrK hh, _, _ => ⟨_, _, .scrK hh, .refl _ _⟩
  | _, _, _, _, _, .lstS hh r, 0, _ =>
    let ⟨_, _, r', w⟩ := Reps.wk r 0 (Nat.zero_le _)
    ⟨_, _, .lst0 hh r', w.toS⟩
  | _, _, _, _, _, .lstS hh r, m + 1, h =>
    let ⟨_, _, r', w⟩ := Reps.wk r m (Nat.le_of_succ_le_succ h)
    ⟨_, _, .lstS hh r', w.toC⟩
  | _, _, _, _, _, .tup hh r, m, h =>
    let ⟨_, _, r', w⟩ := Reps.wk r m h
    ⟨_, _, .tup hh r', w⟩
  | _, _, _, _, _, .dct0 hh e1 e2 e3 r, 0, _ => ⟨_, _, .dct0 hh e1 e2 e3 r, .refl _ _⟩
  | _, _, _, _, _, .dctS hh e1 e2 e3 r, 0, _ =>
    let ⟨_, _, r', w⟩ := Reps.wk r 0 (Nat.zero_le _)
    ⟨_, _, .dct0 hh e1 e2 e3 r', w.toS⟩
  | _, _, _, _, _, .dctS hh e1 e2 e3 r, m + 1, h =>
    let ⟨_, _, r', w⟩ := Reps.wk r m (Nat.le_of_succ_le_succ h)
    ⟨_, _, .dctS hh e1 e2 e3 r', w.toC⟩
theorem Reps.wk : ∀ {n : Nat} {ds : List D} {vs : List V} {c s : Cnt}, Reps K H n ds vs c s → ∀ m : Nat, m ≤ n → ∃ c' s', Reps K H m ds vs c' s' ∧ Wk c s c' s'
  | _, _, _, _, _, .nil, _, _ => ⟨_, _, .nil, .refl _ _⟩
  | _, _, _, _, _, .cons a b, m, h =>
    let ⟨_, _, r1, w1⟩ := Rep.wk a m h
    let ⟨_, _, r2, w2⟩ := Reps.wk b m h
    ⟨_, _, .cons r1 r2, w1.add w2⟩
end
mutual
theorem Rep.zero' : ∀ {n : Nat} {d : D} {v : V} {c s : Cnt}, Rep K H n d v c s → n = 0 → c = z0
  | _, _, _, _, _, .non, _ => rfl
  | _, _, _, _, _, .bl b, _ => rfl
  | _, _, _, _, _, .int i, _ => rfl
  | _, _, _, _, _, .str x, _ => rfl
  | _, _, _, _, _, .ty x, _ => rfl
  | _, _, _, _, _, .fn a, _ => rfl
  | _, _, _, _, _, .lst0 h r, e => Reps.zero' r rfl
  | _, _, _, _, _, .scr o h, _ => rfl
  | _, _, _, _, _, .scrK h, _ => rfl
  | _, _, _, _, _, .lstS h r, e => by cases e
  | _, _, _, _, _, .tup h r, e => Reps.zero' r e
  | _, _, _, _, _, .dct0 h e1 e2 e3 r, e => Reps.zero' r rfl
  | _, _, _, _, _, .dctS h e1 e2 e3 r, e => by cases e
theorem Reps.zero' : ∀ {n : Nat} {ds : List D} {vs : List V} {c s : Cnt}, Reps K H n ds vs c s → n = 0 → c = z0
  | _, _, _, _, _, .nil, _ => rfl
  | _, _, _, _, _, .cons a b, e => by rw [Rep.zero' a e, Reps.zero' b e, z_add]
end
theorem Rep.zero {d : D} {v : V} {c s : Cnt} (r : Rep K H 0 d v c s) : c = z0 := Rep.zero' r rfl
theorem Reps.zero {ds : List D} {vs : List V} {c s : Cnt} (r : Reps K H 0 ds vs c s) : c = z0 := Reps.zero' r rfl
theorem Reps.length {n : Nat} : ∀ {ds : List D} {vs : List V} {c s : Cnt}, Reps K H n ds vs c s → ds.length = vs.length
  | _, _, _, _, .nil => rfl
  | _, _, _, _, .cons _ b => congrArg (· + 1) (Reps.length b)
end

/-! ### steps of the heap -/
def Ok (c s : Cnt) : Prop := ∀ a, c a ≤ 1 ∧ (c a = 0 ∨ s a = 0)
theorem Ok.wk {c s c' s' : Cnt} (h : Ok c s) (w : Wk c s c' s') : Ok c' s' := fun a => by
  have h1 := h a; have h2 := w.le a; have h3 := w.sum a
  omega
structure Step (c s : Cnt) (H : Hp) (c' s' : Cnt) (H' : Hp) : Prop where
  own : ∀ a, 0 < c' a → 0 < c a ∨ H a = none
  sh : ∀ a, 0 < s' a → 0 < c a ∨ 0 < s a ∨ H a = none
  keep : ∀ a o, H a = some o → (c a = 0 ∨ tupO o) → H' a = some o
  dom : ∀ a, H a ≠ none → H' a ≠ none
  ok : Ok c' s'
theorem Step.refl {c s : Cnt} {H : Hp} (h : Ok c s) : Step c s H c s H := ⟨fun _ h => .inl h, fun _ h => .inr (.inl h), fun _ _ e _ => e, fun _ h => h, h⟩
theorem Step.trans {c s c1 s1 c2 s2 : Cnt} {H H1 H2 : Hp} (x : Step c s H c1 s1 H1) (y : Step c1 s1 H1 c2 s2 H2) : Step c s H c2 s2 H2 where
  own := fun a h => by
    rcases y.own a h with h | h
    · exact x.own a h
    · by_cases e : H a = none
      · exact .inr e
      · exact absurd h (x.dom a e)
  sh := fun a h => by
    rcases y.sh a h with h | h | h
    · rcases x.own a h with h | h
      · exact .inl h
      · exact .inr (.inr h)
    · exact x.sh a h
    · by_cases e : H a = none
      · exact .inr (.inr e)
      · exact absurd h (x.dom a e)
  keep := fun a o e h => by
    refine y.keep a o (x.keep a o e h) ?_
    rcases h with h | h
    · by_cases p : 0 < c1 a
      · rcases x.own a p with q | q
        · omega
        · rw [e] at q; cases q
      · exact .inl (by omega)
    · exact .inr h
  dom := fun a h => y.dom a (x.dom a h)
  ok := y.ok
/-- what is owned may be shared at the end -/
theorem Step.wk {c s c1 s1 c2 s2 : Cnt} {H H1 : Hp} (x : Step c s H c1 s1 H1) (w : Wk c1 s1 c2 s2) : Step c s H c2 s2 H1 where
  own := fun a h => x.own a (Nat.lt_of_lt_of_le h (w.le a))
  sh := fun a h => by
    have h1 := w.sum a; have h2 := w.le a
    by_cases p : 0 < s1 a
    · exact x.sh a p
    · rcases x.own a (by omega) with q | q
      · exact .inl q
      · exact .inr (.inr q)
  keep := x.keep
  dom := x.dom
  ok := x.ok.wk w
/-- less at the end -/
theorem Step.less {c s c1 s1 c2 s2 : Cnt} {H H1 : Hp} (x : Step c s H c1 s1 H1) (hc : ∀ a, c2 a ≤ c1 a) (hs : ∀ a, 0 < s2 a → 0 < s1 a) : Step c s H c2 s2 H1 where
  own := fun a h => x.own a (Nat.lt_of_lt_of_le h (hc a))
  sh := fun a h => x.sh a (hs a h)
  keep := x.keep
  dom := x.dom
  ok := fun a => by
    have h1 := x.ok a; have h2 := hc a; have h3 := hs a
    refine ⟨by omega, ?_⟩
    by_cases p : 0 < s2 a
    · have := h3 p; omega
    · omega
/-- from less owned, more shared -/
theorem Step.wk0 {c s c0 s0 c1 s1 : Cnt} {H H1 : Hp} (w : Wk c s c0 s0) (x : Step c0 s0 H c1 s1 H1) : Step c s H c1 s1 H1 where
  own := fun a h => by
    rcases x.own a h with q | q
    · exact .inl (Nat.lt_of_lt_of_le q (w.le a))
    · exact .inr q
  sh := fun a h => by
    have h1 := w.sum a; have h2 := w.le a
    rcases x.sh a h with q | q | q
    · exact .inl (by omega)
    · by_cases p : 0 < s a
      · exact .inr (.inl p)
      · exact .inl (by omega)
    · exact .inr (.inr q)
  keep := fun a o e h => x.keep a o e (by
    have h2 := w.le a
    rcases h with h | h
    · exact .inl (by omega)
    · exact .inr h)
  dom := x.dom
  ok := x.ok
/-- with something put aside -/
theorem Step.frame {c s c1 s1 cf sf : Cnt} {H H1 : Hp} (x : Step c s H c1 s1 H1) (ok : Ok (add c cf) (add s sf)) (d : Dom cf sf H) : Step (add c cf) (add s sf) H (add c1 cf) (add s1 sf) H1 where
  own := fun a h => by
    simp only [add_at] at h ⊢
    by_cases p : 0 < cf a
    · exact .inl (by omega)
    · rcases x.own a (by omega) with q | q
      · exact .inl (by omega)
      · exact .inr q
  sh := fun a h => by
    simp only [add_at] at h ⊢
    by_cases p : 0 < sf a
    · exact .inr (.inl (by omega))
    · rcases x.sh a (by omega) with q | q | q
      · exact .inl (by omega)
      · exact .inr (.inl (by omega))
      · exact .inr (.inr q)
  keep := fun a o e h => x.keep a o e (by
    simp only [add_at] at h
    rcases h with h | h
    · exact .inl (by omega)
    · exact .inr h)
  dom := x.dom
  ok := fun a => by
    have h1 := x.ok a; have h2 := ok a
    simp only [add_at] at h2 ⊢
    have df := d a
    by_cases p : 0 < cf a
    · obtain ⟨o, e, _⟩ := df.1 p
      have n1 : ¬ 0 < c1 a := fun q => by
        rcases x.own a q with q | q
        · omega
        · rw [e] at q; cases q
      have n2 : ¬ 0 < s1 a := fun q => by
        rcases x.sh a q with q | q | q
        · omega
        · omega
        · rw [e] at q; cases q
      omega
    · by_cases p2 : 0 < sf a
      · obtain ⟨o, e, _⟩ := df.2 p2
        have n1 : ¬ 0 < c1 a := fun q => by
          rcases x.own a q with q | q
          · omega
          · rw [e] at q; cases q
        omega
      · omega
/-- what is put aside stands -/
theorem Step.aside {c s c1 s1 cf sf : Cnt} {H H1 : Hp} (x : Step c s H c1 s1 H1) (ok : Ok (add c cf) (add s sf)) : Kp cf sf H H1 := fun a o e h => x.keep a o e (by
  have h2 := ok a
  simp only [add_at] at h2
  rcases h with h | h | h
  · exact .inl (by omega)
  · exact .inl (by omega)
  · exact .inr h)
end VL

namespace VL
open PySem PySem.Spec L2

abbrev Rho := List (Option D)
def rget : Rho → Nat → Option D
  | [], _ => none
  | o :: _, 0 => o
  | _ :: r, i + 1 => rget r i
def gget : List Nat → Nat → Nat
  | [], _ => 0
  | n :: _, 0 => n
  | _ :: r, i + 1 => gget r i
/-- the slots' data -/
inductive SR (K : PySem.W.Frag) (H : Hp) : List Nat → Rho → St → Cnt → Cnt → Prop
  | nil : SR K H [] [] [] z0 z0
  | no {G r σ c s n o} : SR K H G r σ c s → SR K H (n :: G) (none :: r) (o :: σ) c s
  | yes {G r σ c s n d v c1 s1} : Rep K H n d v c1 s1 → SR K H G r σ c s → SR K H (n :: G) (some d :: r) (some v :: σ) (add c1 c) (add s1 s)
section
variable {K : PySem.W.Frag} {H H' : Hp}
theorem SR.keep : ∀ {G r σ c s}, SR K H G r σ c s → Kp c s H H' → SR K H' G r σ c s
  | _, _, _, _, _, .nil, _ => .nil
  | _, _, _, _, _, .no x, k => .no (SR.keep x k)
  | _, _, _, _, _, .yes a x, k => .yes (a.keep k.left) (SR.keep x k.right)
theorem SR.dom : ∀ {G r σ c s}, SR K H G r σ c s → Dom c s H
  | _, _, _, _, _, .nil => .z
  | _, _, _, _, _, .no x => SR.dom x
  | _, _, _, _, _, .yes a x => a.dom.add (SR.dom x)
/-- masks below -/
inductive LeG : List Nat → List Nat → Prop
  | nil : LeG [] []
  | cons {m n G G'} : m ≤ n → LeG G G' → LeG (m :: G) (n :: G')
theorem LeG.refl : ∀ G : List Nat, LeG G G
  | [] => .nil
  | _ :: G => .cons (Nat.le_refl _) (LeG.refl G)
def leG : List Nat → List Nat → Bool
  | [], [] => true
  | m :: G, n :: G' => Nat.ble m n && leG G G'
  | _, _ => false
theorem LeG.of : ∀ {G G' : List Nat}, leG G G' = true → LeG G G'
  | [], [], _ => .nil
  | m :: G, n :: G', h => by
    have h' : (Nat.ble m n && leG G G') = true := h
    rw [Bool.and_eq_true] at h'
    exact .cons (Nat.le_of_ble_eq_true h'.1) (LeG.of h'.2)
  | [], _ :: _, h => by cases h
  | _ :: _, [], h => by cases h
theorem SR.wk : ∀ {G r σ c s}, SR K H G r σ c s → ∀ {G'}, LeG G' G → ∃ c' s', SR K H G' r σ c' s' ∧ Wk c s c' s'
  | _, _, _, _, _, .nil, _, .nil => ⟨_, _, .nil, .refl _ _⟩
  | _, _, _, _, _, .no x, _, .cons _ g =>
    let ⟨_, _, x', w⟩ := SR.wk x g
    ⟨_, _, .no x', w⟩
  | _, _, _, _, _, .yes a x, _, .cons h g =>
    let ⟨_, _, x', w⟩ := SR.wk x g
    let ⟨_, _, a', w'⟩ := a.wk _ h
    ⟨_, _, .yes a' x', w'.add w⟩
theorem SR.lenG : ∀ {G r σ c s}, SR K H G r σ c s → G.length = r.length
  | _, _, _, _, _, .nil => rfl
  | _, _, _, _, _, .no x => congrArg (· + 1) (SR.lenG x)
  | _, _, _, _, _, .yes a x => congrArg (· + 1) (SR.lenG x)
theorem SR.lenS : ∀ {G r σ c s}, SR K H G r σ c s → σ.length = r.length
  | _, _, _, _, _, .nil => rfl
  | _, _, _, _, _, .no x => congrArg (· + 1) (SR.lenS x)
  | _, _, _, _, _, .yes a x => congrArg (· + 1) (SR.lenS x)
/-- a slot taken out -/
theorem SR.out : ∀ {G r σ c s}, SR K H G r σ c s → ∀ {i d}, rget r i = some d → ∃ v c1 s1 c2 s2, σ[i]? = some (some v) ∧ Rep K H (gget G i) d v c1 s1 ∧ SR K H G (r.set i none) σ c2 s2 ∧ c = add c1 c2 ∧ s = add s1 s2
  | _, _, _, _, _, .nil, _, _, h => by cases h
  | _, _, _, _, _, .no x, 0, _, h => by cases h
  | _, _, _, _, _, .no x, i + 1, d, h =>
    let ⟨v, c1, s1, c2, s2, e, rp, x', e1, e2⟩ := SR.out x (i := i) (d := d) h
    ⟨v, c1, s1, c2, s2, e, rp, .no x', e1, e2⟩
  | _, _, _, _, _, .yes a x, 0, d, h => by
    have h' : some _ = some d := h
    cases h'
    exact ⟨_, _, _, _, _, rfl, a, .no x, rfl, rfl⟩
  | _, _, _, _, _, .yes (c1 := ca) (s1 := sa) a x, i + 1, d, h =>
    let ⟨v, c1, s1, c2, s2, e, rp, x', e1, e2⟩ := SR.out x (i := i) (d := d) h
    ⟨v, c1, s1, _, _, e, rp, .yes a x', by rw [e1, add_left_comm'], by rw [e2, add_left_comm']⟩
/-- a slot forgotten -/
theorem SR.del : ∀ {G r σ c s}, SR K H G r σ c s → ∀ i, ∃ c2 s2, SR K H G (r.set i none) σ c2 s2 ∧ (∀ a, c2 a ≤ c a) ∧ ∀ a, s2 a ≤ s a
  | _, _, _, _, _, .nil, _ => ⟨_, _, .nil, fun _ => Nat.le_refl _, fun _ => Nat.le_refl _⟩
  | _, _, _, _, _, .no x, 0 => ⟨_, _, .no x, fun _ => Nat.le_refl _, fun _ => Nat.le_refl _⟩
  | _, _, _, _, _, .no x, i + 1 =>
    let ⟨_, _, x', e1, e2⟩ := SR.del x i
    ⟨_, _, .no x', e1, e2⟩
  | _, _, _, _, _, .yes a x, 0 => ⟨_, _, .no x, fun _ => Nat.le_add_left _ _, fun _ => Nat.le_add_left _ _⟩
  | _, _, _, _, _, .yes a x, i + 1 =>
    let ⟨_, _, x', e1, e2⟩ := SR.del x i
    ⟨_, _, .yes a x', fun b => Nat.add_le_add_left (e1 b) _, fun b => Nat.add_le_add_left (e2 b) _⟩
/-- a slot without data is filled -/
theorem SR.put : ∀ {G r σ c s}, SR K H G r σ c s → ∀ {i n d v c1 s1}, i < r.length → rget r i = none → Rep K H n d v c1 s1 → SR K H (G.set i n) (r.set i (some d)) (σ.set i (some v)) (add c1 c) (add s1 s)
  | _, _, _, _, _, .nil, _, _, _, _, _, _, h, _, _ => absurd h (Nat.not_lt_zero _)
  | _, _, _, _, _, .no x, 0, _, _, _, _, _, _, _, rp => .yes rp x
  | _, _, _, _, _, .no x, i + 1, _, _, _, _, _, h, e, rp => .no (SR.put x (i := i) (Nat.lt_of_succ_lt_succ h) e rp)
  | _, _, _, _, _, .yes a x, 0, _, _, _, _, _, _, e, _ => by cases e
  | _, _, _, _, _, .yes (c1 := ca) (s1 := sa) a x, i + 1, _, _, _, c1, s1, h, e, rp => by
    have q := SR.put x (i := i) (Nat.lt_of_succ_lt_succ h) e rp
    rw [add_left_comm' c1 ca, add_left_comm' s1 sa]
    exact .yes a q
theorem rget_set_none : ∀ (r : Rho) (i : Nat), rget (r.set i none) i = none
  | [], _ => rfl
  | _ :: _, 0 => rfl
  | _ :: r, i + 1 => rget_set_none r i
theorem rget_lt : ∀ {r : Rho} {i : Nat} {d : D}, rget r i = some d → i < r.length
  | [], _, _, h => by cases h
  | _ :: _, 0, _, _ => Nat.succ_pos _
  | _ :: r, i + 1, d, h => Nat.succ_lt_succ (rget_lt (r := r) (i := i) (d := d) h)
theorem set_same {α : Type} : ∀ {l : List α} {i : Nat} {x : α}, l[i]? = some x → l.set i x = l
  | [], _, _, h => by simp at h
  | y :: l, 0, x, h => by
    have h' : some y = some x := by simpa using h
    cases h'; rfl
  | y :: l, i + 1, x, h => by
    have h' : l[i]? = some x := by simpa using h
    show y :: l.set i x = y :: l
    rw [set_same h']
theorem set_set {α : Type} : ∀ (l : List α) (i : Nat) (x y : α), (l.set i x).set i y = l.set i y
  | [], _, _, _ => rfl
  | _ :: _, 0, _, _ => rfl
  | z :: l, i + 1, x, y => by show z :: (l.set i x).set i y = _; rw [set_set l i x y]; rfl
/-- a slot's data changed, the value stays -/
theorem SR.upd {G r σ c s} (x : SR K H G r σ c s) {i n d v c1 s1} (h : i < r.length) (e : rget r i = none) (hv : σ[i]? = some (some v)) (rp : Rep K H n d v c1 s1) : SR K H (G.set i n) (r.set i (some d)) σ (add c1 c) (add s1 s) := by
  have q := x.put h e rp
  rw [set_same hv] at q
  exact q
end

/-! ### results -/
inductive R (α : Type) where
  | ok (a : α) (r : Rho)
  | ex (n : Str) (x : D) (r : Rho)
  | no
def R.bind {α β : Type} (x : R α) (f : α → Rho → R β) : R β := match x with
  | .ok a r => f a r
  | .ex n x r => .ex n x r
  | .no => .no
@[simp] theorem R.bind_ok {α β : Type} (a : α) (r : Rho) (f : α → Rho → R β) : (R.ok a r).bind f = f a r := rfl
@[simp] theorem R.bind_ex {α β : Type} (n : Str) (x : D) (r : Rho) (f : α → Rho → R β) : (R.ex n x r : R α).bind f = .ex n x r := rfl
@[simp] theorem R.bind_no {α β : Type} (f : α → Rho → R β) : (R.no : R α).bind f = .no := rfl
def lift {α : Type} (o : Option α) (r : Rho) : R α := match o with
  | some a => .ok a r
  | none => .no
@[simp] theorem lift_some {α : Type} (a : α) (r : Rho) : lift (some a) r = .ok a r := rfl
@[simp] theorem lift_none {α : Type} (r : Rho) : lift (none : Option α) r = .no := rfl
inductive SO where
  | nx (r : Rho) | rt (d : D) (r : Rho) | bk (r : Rho) | ct (r : Rho) | ex (n : Str) (x : D) (r : Rho) | no
def R.then {α : Type} (x : R α) (f : α → Rho → SO) : SO := match x with
  | .ok a r => f a r
  | .ex n x r => .ex n x r
  | .no => .no
@[simp] theorem R.then_ok {α : Type} (a : α) (r : Rho) (f : α → Rho → SO) : (R.ok a r).then f = f a r := rfl
@[simp] theorem R.then_ex {α : Type} (n : Str) (x : D) (r : Rho) (f : α → Rho → SO) : (R.ex n x r : R α).then f = .ex n x r := rfl
@[simp] theorem R.then_no {α : Type} (f : α → Rho → SO) : (R.no : R α).then f = .no := rfl

/-- flat data as a value -/
def vOf : D → Option V
  | .non => some .non
  | .bl b => some (.bl b)
  | .int i => some (.int i)
  | .str x => some (.str x)
  | .ty n => some (.ty n)
  | .fn a => some (.ref a)
  | _ => none
structure Fx where
  W : WX
  io : Option Nat
  kr : Nat
  Gb : List Nat
  Gc : List Nat
abbrev Fx.nox (F : Fx) : Fx := { F with W := fun _ _ _ _ => False, io := none }
/-- the thing raised: of the class of that name, with its value -/
def ExP (mg : Str → Option Value) (n : Str) (x : D) (H : Hp) (cls : Value) (dx : Option Addr) : Prop :=
  ∃ C d v, cls = .ref C ∧ mg n = some (.ref C) ∧ dx = some d ∧ H d = some (.xd [(("value" : Str), v)]) ∧ vOf x = some v
def IoG (F : Fx) (G : List Nat) : Prop := ∀ m, F.io = some m → gget G 0 = m
def Pr (F : Fx) (v0 : V) (σ : St) : Prop := ∀ m, F.io = some m → σ[0]? = some (some v0)
def ExW (X : Cx) (F : Fx) (c s : Cnt) (H : Hp) (σ : St) (n : Str) (x : D) (r : Rho) : Prop :=
  ∀ cls dx H' G c1 s1, ExP X.mg n x H' cls dx → IoG F G → SR X.K H' G r σ c1 s1 → Step c s H c1 s1 H' → F.W cls dx σ H'
def OutX {α : Type} (X : Cx) (F : Fx) (c s : Cnt) (H : Hp) (σ : St) (ok : α → Rho → Prop) : R α → Prop
  | .ok a r => ok a r
  | .ex n x r => ExW X F c s H σ n x r
  | .no => False
theorem ExW.shift {X : Cx} {F : Fx} {c s c1 s1 : Cnt} {H H1 : Hp} {σ : St} {n : Str} {x : D} {r : Rho} (w : ExW X F c s H σ n x r) (st : Step c s H c1 s1 H1) : ExW X F c1 s1 H1 σ n x r :=
  fun cls dx H' G c2 s2 e g sr st2 => w cls dx H' G c2 s2 e g sr (st.trans st2)
/-- an expression: its data, the slots behind it; the result's first k levels are owned -/
def OkE (X : Cx) (G' : List Nat) (k : Nat) (c s : Cnt) (H : Hp) (σ : St) (Q : VK) (d : D) (r : Rho) : Prop :=
  ∀ v H' c1 s1 cr sr, SR X.K H' G' r σ c1 s1 → Rep X.K H' k d v cr sr → Step c s H (add c1 cr) (add s1 sr) H' → Q v H'
structure PV (X : Cx) (F : Fx) (G G' : List Nat) (k : Nat) (e : Expr) (f : Rho → R D) : Prop where
  go : ∃ t, PE X e t ∧ ∀ σ H r c s Q, SR X.K H G r σ c s → Ok c s → OutX X F c s H σ (OkE X G' k c s H σ Q) (f r) → t σ H Q
def OkT (X : Cx) (G' : List Nat) (c s : Cnt) (H : Hp) (σ : St) (Q : Bool → Hp → Prop) (b : Bool) (r : Rho) : Prop :=
  ∀ H' c1 s1, SR X.K H' G' r σ c1 s1 → Step c s H c1 s1 H' → Q b H'
/-- a test -/
structure PB (X : Cx) (F : Fx) (G G' : List Nat) (e : Expr) (f : Rho → R Bool) : Prop where
  go : ∃ t, PT X e t ∧ ∀ σ H r c s Q, SR X.K H G r σ c s → Ok c s → OutX X F c s H σ (OkT X G' c s H σ Q) (f r) → t σ H Q
structure PBw (X : Cx) (F : Fx) (G G' : List Nat) (e : Expr) (f : Rho → R Bool) : Prop where
  go : ∃ t, PW X e t ∧ ∀ σ H r c s Q, SR X.K H G r σ c s → Ok c s → OutX X F c s H σ (OkT X G' c s H σ Q) (f r) → t σ H Q
def OkL (X : Cx) (G' : List Nat) (k : Nat) (c s : Cnt) (H : Hp) (σ : St) (Q : List V → Hp → Prop) (ds : List D) (r : Rho) : Prop :=
  ∀ vs H' c1 s1 cr sr, SR X.K H' G' r σ c1 s1 → Reps X.K H' k ds vs cr sr → Step c s H (add c1 cr) (add s1 sr) H' → Q vs H'
/-- an argument list -/
structure PL (X : Cx) (F : Fx) (G G' : List Nat) (k : Nat) (es : List Expr) (f : Rho → R (List D)) : Prop where
  go : ∃ t, PA X es t ∧ ∀ σ H r c s Q, SR X.K H G r σ c s → Ok c s → OutX X F c s H σ (OkL X G' k c s H σ Q) (f r) → t σ H Q

section
variable {X : Cx} {F : Fx} {G G1 G2 G' : List Nat} {k k1 k2 : Nat} {e a b : Expr} {es : List Expr}
theorem OutX.bind {α β : Type} {c s : Cnt} {H : Hp} {σ : St} {ok : β → Rho → Prop} {x : R α} {f : α → Rho → R β} (h : OutX X F c s H σ ok (x.bind f)) :
    OutX X F c s H σ (fun a r => OutX X F c s H σ ok (f a r)) x := by
  cases x with
  | ok a r => exact h
  | ex n x r => exact h
  | no => exact h
theorem OutX.imp {α : Type} {c s c1 s1 : Cnt} {H H1 : Hp} {σ : St} {ok ok' : α → Rho → Prop} {x : R α} (h : OutX X F c s H σ ok x) (st : Step c s H c1 s1 H1) (g : ∀ a r, ok a r → ok' a r) : OutX X F c1 s1 H1 σ ok' x := by
  cases x with
  | ok a r => exact g a r h
  | ex n x r => exact ExW.shift h st
  | no => exact h
theorem OutX.mono {α : Type} {c s : Cnt} {H : Hp} {σ : St} {ok ok' : α → Rho → Prop} {x : R α} (h : OutX X F c s H σ ok x) (g : ∀ a r, ok a r → ok' a r) : OutX X F c s H σ ok' x := by
  cases x with
  | ok a r => exact g a r h
  | ex n x r => exact h
  | no => exact h

/-- an expression, then something with its value in hand -/
theorem PV.use {f : Rho → R D} (A : PV X F G G1 k a f) : ∃ t, PE X a t ∧ ∀ σ H r c s (Q : VK), SR X.K H G r σ c s → Ok c s →
    OutX X F c s H σ (fun d r1 => ∀ v H1 c1 s1 ca sa, SR X.K H1 G1 r1 σ c1 s1 → Rep X.K H1 k d v ca sa → Step c s H (add c1 ca) (add s1 sa) H1 → Q v H1) (f r) → t σ H Q := A.go
/-- less -/
theorem PV.weak {f : Rho → R D} (A : PV X F G G1 k a f) (h : k1 ≤ k) : PV X F G G1 k1 a f := by
  obtain ⟨t, ht, q⟩ := A.go
  refine ⟨t, ht, fun σ H r c s Q sr ok h1 => q σ H r c s Q sr ok (h1.mono fun d r1 g => ?_)⟩
  intro v H1 c1 s1 cr srr x rp st
  obtain ⟨c', s', rp', w⟩ := rp.wk k1 h
  exact g v H1 c1 s1 c' s' x rp' (st.wk ((Wk.refl c1 s1).add w))
theorem PV.weakG {f : Rho → R D} (A : PV X F G G1 k a f) (h : LeG G' G1) : PV X F G G' k a f := by
  obtain ⟨t, ht, q⟩ := A.go
  refine ⟨t, ht, fun σ H r c s Q sr ok h1 => q σ H r c s Q sr ok (h1.mono fun d r1 g => ?_)⟩
  intro v H1 c1 s1 cr srr x rp st
  obtain ⟨c', s', x', w⟩ := x.wk h
  exact g v H1 c' s' cr srr x' rp (st.wk (w.add (Wk.refl cr srr)))
end
end VL

namespace VL
open PySem PySem.Spec L2

/-- a new thing (or a part of old ones), all that stood stands; S: what the parts may share -/
structure New (S : Cnt) (H : Hp) (cr sr : Cnt) (H' : Hp) : Prop where
  own : ∀ a, 0 < cr a → H a = none
  sh : ∀ a, 0 < sr a → 0 < S a ∨ H a = none
  keep : ∀ a o, H a = some o → H' a = some o
  ok : Ok cr sr
theorem New.flat {S : Cnt} {H : Hp} : New S H z0 z0 H := ⟨fun a h => absurd h (Nat.lt_irrefl 0), fun a h => absurd h (Nat.lt_irrefl 0), fun _ _ h => h, fun a => ⟨Nat.zero_le _, .inl rfl⟩⟩
theorem ex_kp {c s : Cnt} {H H' : Hp} (k : ∀ a o, H a = some o → H' a = some o) : Kp c s H H' := fun a o e _ => k a o e
theorem Step.new {c s c2 s2 s2' S cr sr : Cnt} {H H2 H3 : Hp} (x : Step c s H c2 s2' H2) (d : Dom c2 s2' H2) (hs : ∀ a, 0 < s2 a → 0 < s2' a) (hS : ∀ a, 0 < S a → 0 < s2' a) (n : New S H2 cr sr H3) : Step c s H (add c2 cr) (add s2 sr) H3 where
  own := fun a h => by
    simp only [add_at] at h
    by_cases p : 0 < cr a
    · have q := n.own a p
      by_cases e : H a = none
      · exact .inr e
      · exact absurd q (x.dom a e)
    · exact x.own a (by omega)
  sh := fun a h => by
    simp only [add_at] at h
    have old : H2 a = none → 0 < c a ∨ 0 < s a ∨ H a = none := fun q => by
      by_cases e : H a = none
      · exact .inr (.inr e)
      · exact absurd q (x.dom a e)
    by_cases p : 0 < sr a
    · rcases n.sh a p with q | q
      · exact x.sh a (hS a q)
      · exact old q
    · exact x.sh a (hs a (by omega))
  keep := fun a o e h => n.keep a o (x.keep a o e h)
  dom := fun a h => by
    have q := x.dom a h
    cases e : H2 a with
    | none => exact absurd e q
    | some o => rw [n.keep a o e]; exact fun z => nomatch z
  ok := fun a => by
    simp only [add_at]
    have h1 := x.ok a; have h2 := n.ok a; have hsa := hs a
    have nn : H2 a = none → c2 a = 0 ∧ s2' a = 0 := fun q => by
      refine ⟨?_, ?_⟩
      · by_cases p : 0 < c2 a
        · obtain ⟨o, e, _⟩ := (d a).1 p
          rw [q] at e; cases e
        · omega
      · by_cases p : 0 < s2' a
        · obtain ⟨o, e, _⟩ := (d a).2 p
          rw [q] at e; cases e
        · omega
    by_cases p : 0 < cr a
    · obtain ⟨e1, e2⟩ := nn (n.own a p)
      have : s2 a = 0 := by
        by_cases q : 0 < s2 a
        · have := hsa q; omega
        · omega
      omega
    · by_cases p2 : 0 < sr a
      · rcases n.sh a p2 with q | q
        · have := hS a q; omega
        · obtain ⟨e1, e2⟩ := nn q
          omega
      · by_cases q : 0 < s2 a
        · have := hsa q; omega
        · omega

section
variable {X : Cx} {F : Fx} {G G1 G2 G' : List Nat} {k k1 k2 : Nat} {e a b : Expr} {es : List Expr} {pos : Pos}

/-- two expressions, one behind the other -/
theorem two {fa fb : Rho → R D} (A : PV X F G G1 k1 a fa) (B : PV X F G1 G2 k2 b fb) : ∃ ta tb, PE X a ta ∧ PE X b tb ∧ ∀ σ H r c s (Rr : V → V → Hp → Prop), SR X.K H G r σ c s → Ok c s →
    OutX X F c s H σ (fun p r2 => ∀ x y H2 c2 s2 ca sa cb sb, SR X.K H2 G2 r2 σ c2 s2 → Rep X.K H2 k1 p.1 x ca sa → Rep X.K H2 k2 p.2 y cb sb → Step c s H (add (add c2 cb) ca) (add (add s2 sb) sa) H2 → Rr x y H2)
      ((fa r).bind fun da r1 => (fb r1).bind fun db r2 => .ok (da, db) r2) → ta σ H fun x H1 => tb σ H1 fun y H2 => Rr x y H2 := by
  obtain ⟨ta, ha, qa⟩ := A.go
  obtain ⟨tb, hb, qb⟩ := B.go
  refine ⟨ta, tb, ha, hb, fun σ H r c s Rr sr ok h => qa σ H r c s _ sr ok (h.bind.mono fun da r1 h1 => ?_)⟩
  intro x H1 c1 s1 ca sa sr1 rpa st
  have ok1 : Ok c1 s1 := fun z => by have := st.ok z; simp only [add_at] at this; omega
  have st1 : Step c s H c1 s1 H1 := st.less (fun z => by simp only [add_at]; omega) (fun z hz => by simp only [add_at]; omega)
  refine qb σ H1 r1 c1 s1 _ sr1 ok1 (h1.bind.imp st1 fun db r2 h2 => ?_)
  intro y H2 c2 s2 cb sb sr2 rpb st2
  refine h2 x y H2 c2 s2 ca sa cb sb sr2 (rpa.keep (st2.aside st.ok)) rpb ?_
  exact st.trans (st2.frame st.ok rpa.dom)

/-- two things made one -/
def P2 (X : Cx) (r : R2) (k : Nat) (g : D → D → Option D) : Prop := ∀ da db d, g da db = some d → ∀ x y H sa sb (Q : VK), Rep X.K H 0 da x z0 sa → Rep X.K H 0 db y z0 sb →
  (∀ v H' cr sr, Rep X.K H' k d v cr sr → New (add sa sb) H cr sr H' → Q v H') → r x y H Q
def P1 (X : Cx) (r : V → Hp → VK → Prop) (k : Nat) (g : D → Option D) : Prop := ∀ da d, g da = some d → ∀ x H sa (Q : VK), Rep X.K H 0 da x z0 sa →
  (∀ v H' cr sr, Rep X.K H' k d v cr sr → New sa H cr sr H' → Q v H') → r x H Q
/-- a test of two things -/
def PN (X : Cx) (r : List V → Hp → VK → Prop) (k : Nat) (g : List D → Option D) : Prop := ∀ ds d, g ds = some d → ∀ xs H sa (Q : VK), Reps X.K H 0 ds xs z0 sa →
  (∀ v H' cr sr, Rep X.K H' k d v cr sr → New sa H cr sr H' → Q v H') → r xs H Q
def d2 (g : D → D → Option D) (fa fb : Rho → R D) : Rho → R D := fun r => (fa r).bind fun da r1 => (fb r1).bind fun db r2 => lift (g da db) r2
def d1 (g : D → Option D) (fa : Rho → R D) : Rho → R D := fun r => (fa r).bind fun da r1 => lift (g da) r1
def dN (g : List D → Option D) (fa : Rho → R (List D)) : Rho → R D := fun r => (fa r).bind fun da r1 => lift (g da) r1
theorem OutX.bind2 {α β γ : Type} {c s : Cnt} {H : Hp} {σ : St} {ok : γ → Rho → Prop} {x : R α} {y : α → Rho → R β} {g : α → β → Option γ}
    (h : OutX X F c s H σ ok (x.bind fun a r1 => (y a r1).bind fun b r2 => lift (g a b) r2)) :
    OutX X F c s H σ (fun (p : α × β) r2 => ∃ z, g p.1 p.2 = some z ∧ ok z r2) (x.bind fun a r1 => (y a r1).bind fun b r2 => .ok (a, b) r2) := by
  cases x with
  | ok a r =>
    show OutX X F c s H σ _ ((y a r).bind fun b r2 => .ok (a, b) r2)
    have h' : OutX X F c s H σ ok ((y a r).bind fun b r2 => lift (g a b) r2) := h
    cases e : y a r with
    | ok b r2 =>
      rw [e] at h'
      have h2 : OutX X F c s H σ ok (lift (g a b) r2) := h'
      cases e2 : g a b with
      | none => rw [e2] at h2; exact False.elim h2
      | some z => rw [e2] at h2; exact ⟨z, e2, h2⟩
    | ex n x r => rw [e] at h'; exact h'
    | no => rw [e] at h'; exact h'
  | ex n x r => exact h
  | no => exact h
theorem OutX.bind1 {α γ : Type} {c s : Cnt} {H : Hp} {σ : St} {ok : γ → Rho → Prop} {x : R α} {g : α → Option γ} (h : OutX X F c s H σ ok (x.bind fun a r1 => lift (g a) r1)) :
    OutX X F c s H σ (fun a r2 => ∃ z, g a = some z ∧ ok z r2) x := by
  cases x with
  | ok a r =>
    have h2 : OutX X F c s H σ ok (lift (g a) r) := h
    cases e2 : g a with
    | none => rw [e2] at h2; exact False.elim h2
    | some z => rw [e2] at h2; exact ⟨z, e2, h2⟩
  | ex n x r => exact h
  | no => exact h
theorem two_r {fa fb : Rho → R D} {r2 : R2} {g : D → D → Option D} (A0 : PV X F G G1 k1 a fa) (B0 : PV X F G1 G2 k2 b fb) (p : P2 X r2 k g) : ∃ ta tb, PE X a ta ∧ PE X b tb ∧ ∀ σ H r c s (Q : VK), SR X.K H G r σ c s → Ok c s →
    OutX X F c s H σ (OkE X G2 k c s H σ Q) (d2 g fa fb r) → tOp r2 ta tb σ H Q := by
  have A := A0.weak (Nat.zero_le k1)
  have B := B0.weak (Nat.zero_le k2)
  obtain ⟨ta, tb, ha, hb, q⟩ := two A B
  refine ⟨ta, tb, ha, hb, fun σ H r c s Q sr ok h => q σ H r c s _ sr ok (h.bind2.mono fun ⟨da, db⟩ rr h2 => ?_)⟩
  obtain ⟨d, hd, h2⟩ := h2
  intro x y H2 c2 s2 ca sa cb sb srx rpa rpb st
  have ea := rpa.zero; have eb := rpb.zero
  subst ea; subst eb
  simp only [add_z] at st
  refine p da db d hd x y H2 sa sb Q rpa rpb fun v H3 cr sr' rp n => ?_
  refine h2 v H3 c2 s2 cr sr' (srx.keep (ex_kp n.keep)) rp ?_
  have dm : Dom (add (add c2 z0) z0) (add (add s2 sb) sa) H2 := (srx.dom.add rpb.dom).add rpa.dom
  simp only [add_z] at dm
  exact st.new dm (fun z hz => by simp only [add_at]; omega) (fun z hz => by simp only [add_at] at hz ⊢; omega) n

theorem v_op {fa fb : Rho → R D} {op : Operator} {r2 : R2} {g : D → D → Option D} (A : PV X F G G1 k1 a fa) (B : PV X F G1 G2 k2 b fb) (ho : OpR X (binaryOp op) r2) (p : P2 X r2 k g) : PV X F G G2 k (.BinOp a op b pos) (d2 g fa fb) := by
  obtain ⟨ta, tb, ha, hb, q⟩ := two_r A B p
  exact ⟨_, pe_op ho ha hb, q⟩
theorem v_cmp {fa fb : Rho → R D} {op : CmpOp} {r2 : R2} {g : D → D → Option D} (A : PV X F G G1 k1 a fa) (B : PV X F G1 G2 k2 b fb) (ho : OpR X (compareOp op) r2) (p : P2 X r2 k g) (hm : behindInMarks op b = false := by first | exact nomark _ | rfl) :
    PV X F G G2 k (.Compare a [op] [b] pos) (d2 g fa fb) := by
  obtain ⟨ta, tb, ha, hb, q⟩ := two_r A B p
  exact ⟨_, pe_cmpR ho ha hb hm, q⟩
def asB : D → Option Bool
  | .bl b => some b
  | _ => none
def dB (f : Rho → R D) : Rho → R Bool := fun r => (f r).bind fun d r1 => lift (asB d) r1
/-- a value that is True or False, as a test -/
theorem okE_b {c s : Cnt} {H : Hp} {σ : St} {Q : Bool → Hp → Prop} {f : Rho → R D} {r : Rho} (h : OutX X F c s H σ (OkT X G' c s H σ Q) (dB f r)) : OutX X F c s H σ (OkE X G' k c s H σ fun x H' => ∃ c, x = .bl c ∧ Q c H') (f r) :=
  h.bind1.mono fun d r1 ⟨b, hb, h2⟩ => by
    intro v H' c1 s1 cr sr x rp st
    cases d with
    | bl b' =>
      cases hb
      cases rp
      simp only [add_z] at st
      exact ⟨_, rfl, h2 H' c1 s1 x st⟩
    | _ => cases hb
theorem b_cmp {fa fb : Rho → R D} {op : CmpOp} {r2 : R2} {g : D → D → Option D} (A : PV X F G G1 k1 a fa) (B : PV X F G1 G2 k2 b fb) (ho : OpR X (compareOp op) r2) (p : P2 X r2 0 g) (hm : behindInMarks op b = false := by first | exact nomark _ | rfl) :
    PB X F G G2 (.Compare a [op] [b] pos) (dB (d2 g fa fb)) := by
  obtain ⟨ta, tb, ha, hb, q⟩ := two_r A B p
  exact ⟨_, pt_cmpR ho ha hb hm, fun σ H r c s Q sr ok h => q σ H r c s _ sr ok (okE_b h)⟩
theorem b_val {f : Rho → R D} (A : PV X F G G1 k e f) (he : ∀ whole, isTrue e X.env whole = (do let v ← whole; standAt e.pos; holding [v] (truthy v)) := by intro _; rfl) : PB X F G G1 e (dB f) := by
  obtain ⟨t, ht, q⟩ := A.go
  exact ⟨_, pt_val ht he, fun σ H r c s Q sr ok h => q σ H r c s _ sr ok (okE_b h)⟩
theorem b_not {f : Rho → R Bool} (A : PB X F G G1 e f) : PB X F G G1 (.UnaryOp .Not e pos) (fun r => (f r).bind fun b r1 => .ok (!b) r1) := by
  obtain ⟨t, ht, q⟩ := A.go
  refine ⟨_, pt_not ht, fun σ H r c s Q sr ok h => q σ H r c s _ sr ok ?_⟩
  have h' := h.bind
  exact h'.mono fun b r1 h2 => h2
theorem bw_pb {f : Rho → R Bool} (A : PBw X F G G1 e f) : PB X F G G1 e f := by
  obtain ⟨t, ht, q⟩ := A.go
  exact ⟨t, ht.pt, q⟩
theorem bw_and1 {f : Rho → R Bool} (A : PB X F G G1 a f) : PBw X F G G1 (.BoolOp .And [a] pos) f := by
  obtain ⟨t, ht, q⟩ := A.go
  exact ⟨t, pw_and1 ht, q⟩
theorem bw_or1 {f : Rho → R Bool} (A : PB X F G G1 a f) : PBw X F G G1 (.BoolOp .Or [a] pos) f := by
  obtain ⟨t, ht, q⟩ := A.go
  exact ⟨t, pw_or1 ht, q⟩
theorem okT_ite {c s : Cnt} {H : Hp} {σ : St} {Q : Bool → Hp → Prop} (g1 : LeG G' G1) {v : Bool} {r1 : Rho} (h2 : OkT X G' c s H σ Q v r1) {H' : Hp} {c1 s1 : Cnt} (x : SR X.K H' G1 r1 σ c1 s1) (st : Step c s H c1 s1 H') : Q v H' := by
  obtain ⟨c', s', x', w⟩ := x.wk g1
  exact h2 H' c' s' x' (st.wk w)
/-- a and b: the slots' masks behind it are those behind b (less than behind a) -/
theorem bw_and {rest : List Expr} {fa fb : Rho → R Bool} (A : PB X F G G1 a fa) (B : PBw X F G1 G2 (.BoolOp .And (b :: rest) pos) fb) (hg : leG G2 G1 = true := by rfl) :
    PBw X F G G2 (.BoolOp .And (a :: b :: rest) pos) (fun r => (fa r).bind fun v r1 => if v = true then fb r1 else .ok false r1) := by
  obtain ⟨t, ht, q⟩ := A.go
  obtain ⟨u, hu, q2⟩ := B.go
  refine ⟨_, pw_and ht hu, fun σ H r c s Q sr ok h => q σ H r c s _ sr ok (h.bind.mono fun v r1 h2 => ?_)⟩
  intro H' c1 s1 x st
  cases v with
  | true =>
    rw [if_pos rfl] at h2
    show if true = true then _ else _
    rw [if_pos rfl]
    refine q2 σ H' r1 c1 s1 Q x st.ok (h2.imp st fun b r2 h3 => ?_)
    exact fun H2 c2 s2 x2 st2 => h3 H2 c2 s2 x2 (st.trans st2)
  | false =>
    rw [if_neg Bool.false_ne_true] at h2
    show if false = true then _ else _
    rw [if_neg Bool.false_ne_true]
    exact okT_ite (LeG.of hg) h2 x st
theorem bw_or {rest : List Expr} {fa fb : Rho → R Bool} (A : PB X F G G1 a fa) (B : PBw X F G1 G2 (.BoolOp .Or (b :: rest) pos) fb) (hg : leG G2 G1 = true := by rfl) :
    PBw X F G G2 (.BoolOp .Or (a :: b :: rest) pos) (fun r => (fa r).bind fun v r1 => if v = true then .ok true r1 else fb r1) := by
  obtain ⟨t, ht, q⟩ := A.go
  obtain ⟨u, hu, q2⟩ := B.go
  refine ⟨_, pw_or ht hu, fun σ H r c s Q sr ok h => q σ H r c s _ sr ok (h.bind.mono fun v r1 h2 => ?_)⟩
  intro H' c1 s1 x st
  cases v with
  | false =>
    rw [if_neg Bool.false_ne_true] at h2
    show if false = true then _ else _
    rw [if_neg Bool.false_ne_true]
    refine q2 σ H' r1 c1 s1 Q x st.ok (h2.imp st fun b r2 h3 => ?_)
    exact fun H2 c2 s2 x2 st2 => h3 H2 c2 s2 x2 (st.trans st2)
  | true =>
    rw [if_pos rfl] at h2
    show if true = true then _ else _
    rw [if_pos rfl]
    exact okT_ite (LeG.of hg) h2 x st
/-- a if c else b -/
theorem v_if {c : Expr} {fc : Rho → R Bool} {fa fb : Rho → R D} (C : PB X F G G1 c fc) (A : PV X F G1 G2 k a fa) (B : PV X F G1 G2 k b fb) :
    PV X F G G2 k (.IfExp c a b pos) (fun r => (fc r).bind fun v r1 => if v = true then fa r1 else fb r1) := by
  obtain ⟨t, ht, q⟩ := C.go
  obtain ⟨ta, ha, qa⟩ := A.go
  obtain ⟨tb, hb, qb⟩ := B.go
  refine ⟨_, pe_ifExp ht ha hb, fun σ H r c s Q sr ok h => q σ H r c s _ sr ok (h.bind.mono fun v r1 h2 => ?_)⟩
  intro H' c1 s1 x st
  cases v with
  | true =>
    rw [if_pos rfl] at h2
    show if true = true then _ else _
    rw [if_pos rfl]
    refine qa σ H' r1 c1 s1 Q x st.ok (h2.imp st fun b r2 h3 => ?_)
    exact fun v H2 c2 s2 cr sr x2 rp st2 => h3 v H2 c2 s2 cr sr x2 rp (st.trans st2)
  | false =>
    rw [if_neg Bool.false_ne_true] at h2
    show if false = true then _ else _
    rw [if_neg Bool.false_ne_true]
    refine qb σ H' r1 c1 s1 Q x st.ok (h2.imp st fun b r2 h3 => ?_)
    exact fun v H2 c2 s2 cr sr x2 rp st2 => h3 v H2 c2 s2 cr sr x2 rp (st.trans st2)
/-- a test as a value -/
theorem v_and {rest : List Expr} {fa fb : Rho → R D} (A : PV X F G G1 k1 a fa) (B : PV X F G1 G2 k (.BoolOp .And (b :: rest) pos) fb) (hg : leG G2 G1 = true := by rfl) :
    PV X F G G2 k (.BoolOp .And (a :: b :: rest) pos) (fun r => (dB fa r).bind fun v r1 => if v = true then fb r1 else .ok (.bl false) r1) := by
  obtain ⟨t, ht, q⟩ := A.go
  obtain ⟨u, hu, q2⟩ := B.go
  refine ⟨_, pe_and ht hu, fun σ H r c s Q sr ok h => q σ H r c s _ sr ok (okE_b (f := fa) ?_)⟩
  refine h.bind.mono fun v r1 h2 => ?_
  intro H' c1 s1 x st
  cases v with
  | true =>
    rw [if_pos rfl] at h2
    rw [if_pos rfl]
    refine q2 σ H' r1 c1 s1 Q x st.ok (h2.imp st fun b r2 h3 => ?_)
    exact fun v H2 c2 s2 cr sr x2 rp st2 => h3 v H2 c2 s2 cr sr x2 rp (st.trans st2)
  | false =>
    rw [if_neg Bool.false_ne_true] at h2
    rw [if_neg Bool.false_ne_true]
    obtain ⟨c', s', x', w⟩ := x.wk (LeG.of hg)
    exact h2 (.bl false) H' c' s' z0 z0 x' (.bl false) (by simp only [add_z]; exact st.wk w)
theorem v_or {rest : List Expr} {fa fb : Rho → R D} (A : PV X F G G1 k1 a fa) (B : PV X F G1 G2 k (.BoolOp .Or (b :: rest) pos) fb) (hg : leG G2 G1 = true := by rfl) :
    PV X F G G2 k (.BoolOp .Or (a :: b :: rest) pos) (fun r => (dB fa r).bind fun v r1 => if v = true then .ok (.bl true) r1 else fb r1) := by
  obtain ⟨t, ht, q⟩ := A.go
  obtain ⟨u, hu, q2⟩ := B.go
  refine ⟨_, pe_or ht hu, fun σ H r c s Q sr ok h => q σ H r c s _ sr ok (okE_b (f := fa) ?_)⟩
  refine h.bind.mono fun v r1 h2 => ?_
  intro H' c1 s1 x st
  cases v with
  | false =>
    rw [if_neg Bool.false_ne_true] at h2
    rw [if_neg Bool.false_ne_true]
    refine q2 σ H' r1 c1 s1 Q x st.ok (h2.imp st fun b r2 h3 => ?_)
    exact fun v H2 c2 s2 cr sr x2 rp st2 => h3 v H2 c2 s2 cr sr x2 rp (st.trans st2)
  | true =>
    rw [if_pos rfl] at h2
    rw [if_pos rfl]
    obtain ⟨c', s', x', w⟩ := x.wk (LeG.of hg)
    exact h2 (.bl true) H' c' s' z0 z0 x' (.bl true) (by simp only [add_z]; exact st.wk w)
theorem v_one {op : BoolOp} {f : Rho → R D} (A : PV X F G G1 k a f) : PV X F G G1 k (.BoolOp op [a] pos) f := by
  obtain ⟨t, ht, q⟩ := A.go
  exact ⟨t, pe_one ht, q⟩
theorem v_not {f : Rho → R D} (A : PV X F G G1 k1 a f) : PV X F G G1 k (.UnaryOp .Not a pos) (fun r => (dB f r).bind fun v r1 => .ok (.bl (!v)) r1) := by
  obtain ⟨t, ht, q⟩ := A.go
  refine ⟨_, pe_not ht, fun σ H r c s Q sr ok h => q σ H r c s _ sr ok (okE_b (f := f) ?_)⟩
  refine h.bind.mono fun v r1 h2 => ?_
  exact fun H' c1 s1 x st => h2 (.bl (!v)) H' c1 s1 z0 z0 x (.bl _) (by simp only [add_z]; exact st)

/-! ### names and constants -/
theorem flat_ok {c s : Cnt} {H : Hp} {σ : St} {Q : VK} {d : D} {v : V} {r : Rho} (sr : SR X.K H G r σ c s) (ok : Ok c s) (rp : Rep X.K H k d v z0 z0) (h : OkE X G k c s H σ Q d r) : Q v H :=
  h v H c s z0 z0 sr rp (by simp only [add_z]; exact .refl ok)
theorem v_int {i j} : PV X F G G k (.Constant (.int i) j pos) (fun r => .ok (.int i) r) := ⟨_, pe_int, fun σ H r c s Q sr ok h => flat_ok sr ok (.int i) h⟩
theorem v_bl {b j} : PV X F G G k (.Constant (.bool b) j pos) (fun r => .ok (.bl b) r) := ⟨_, pe_bl, fun σ H r c s Q sr ok h => flat_ok sr ok (.bl b) h⟩
theorem v_non {j} : PV X F G G k (.Constant .none j pos) (fun r => .ok .non r) := ⟨_, pe_non, fun σ H r c s Q sr ok h => flat_ok sr ok .non h⟩
theorem v_str {x j} : PV X F G G k (.Constant (.str x) j pos) (fun r => .ok (.str x) r) := ⟨_, pe_str, fun σ H r c s Q sr ok h => flat_ok sr ok (.str x) h⟩
/-- a module's constant -/
theorem v_glob {x : Str} {d : D} {v : V} {u : Value} (hg : Gl X x) (hm : X.mg x = some u) (r : RelV v u) (rp : ∀ H, Rep X.K H k d v z0 z0) (hd : (x == ("__debug__" : Str)) = false := by decide) : PV X F G G k (.Name x pos) (fun r => .ok d r) :=
  ⟨_, pe_glob hg hm r hd, fun σ H r c s Q sr ok h => flat_ok sr ok (rp H) h⟩
/-- a name; the slot shares it from here on -/
theorem rset_same : ∀ {r : Rho} {i : Nat} {d : D}, rget r i = some d → r.set i (some d) = r
  | [], _, _, h => by cases h
  | o :: r, 0, d, h => by
    have e' : o = some d := h
    rw [e']; rfl
  | o :: r, i + 1, d, h => by
    show o :: r.set i (some d) = o :: r
    rw [rset_same (r := r) (i := i) h]
def dVar (i : Nat) : Rho → R D := fun r => lift (rget r i) r
theorem v_var (i : Nat) {x : Str} (hN : X.N[i]? = some x := by rfl) (hv : Vis X.env.scope x := by first | exact Or.inl rfl | exact Or.inr (Or.inl rfl) | exact Or.inr (Or.inr rfl)) (hd : (x == ("__debug__" : Str)) = false := by decide)
    (hcd : (x == ("__classdict__" : Str)) = false := by decide) : PV X F G (G.set i 0) 0 (.Name x pos) (dVar i) := by
  refine ⟨_, pv i hN hv hd hcd, fun σ H r c s Q sr ok h => ?_⟩
  unfold dVar at h
  cases e : rget r i with
  | none => rw [e] at h; exact False.elim h
  | some d =>
    rw [e] at h
    have h : OkE X (G.set i 0) 0 c s H σ Q d r := h
    obtain ⟨v, c1, s1, c2, s2, ev, rp, x', ec, es⟩ := sr.out e
    obtain ⟨c1', s1', rp', w⟩ := rp.wk 0 (Nat.zero_le _)
    have z := rp'.zero
    subst z
    have hl := rget_lt e
    have q := x'.upd (by rw [List.length_set]; exact hl) (rget_set_none r i) ev rp'
    rw [set_set] at q
    have er : r.set i (some d) = r := rset_same e
    rw [er] at q
    refine ⟨v, ev, h v H _ _ z0 s1' q rp' ?_⟩
    subst ec; subst es
    have w2 : Wk (add c1 c2) (add s1 s2) (add z0 c2) (add s1' s2) := w.add (Wk.refl c2 s2)
    have st := (Step.refl (H := H) ok).wk (c2 := add z0 c2) (s2 := add s1' s2) w2
    simp only [add_z] at st ⊢
    refine ⟨st.own, fun a ha => st.sh a (by simp only [add_at] at ha ⊢; omega), st.keep, st.dom, fun a => ?_⟩
    have := st.ok a
    simp only [add_at] at this ⊢
    omega
/-- a name that is not used again: what it owns is moved -/
def dMv (i : Nat) : Rho → R D := fun r => lift (rget r i) (r.set i none)
theorem v_mv (i : Nat) {x : Str} (hN : X.N[i]? = some x := by rfl) (hv : Vis X.env.scope x := by first | exact Or.inl rfl | exact Or.inr (Or.inl rfl) | exact Or.inr (Or.inr rfl)) (hd : (x == ("__debug__" : Str)) = false := by decide)
    (hcd : (x == ("__classdict__" : Str)) = false := by decide) : PV X F G G (gget G i) (.Name x pos) (dMv i) := by
  refine ⟨_, pv i hN hv hd hcd, fun σ H r c s Q sr ok h => ?_⟩
  unfold dMv at h
  cases e : rget r i with
  | none => rw [e] at h; exact False.elim h
  | some d =>
    rw [e] at h
    have h : OkE X G (gget G i) c s H σ Q d (r.set i none) := h
    obtain ⟨v, c1, s1, c2, s2, ev, rp, x', ec, es⟩ := sr.out e
    refine ⟨v, ev, h v H c2 s2 c1 s1 x' rp ?_⟩
    subst ec; subst es
    rw [add_comm' c2 c1, add_comm' s2 s1]
    exact .refl ok

/-! ### borrowing: an expression that only reads -/
def zG (G : List Nat) : List Nat := G.map fun _ => 0
theorem zG_le : ∀ G : List Nat, LeG (zG G) G
  | [] => .nil
  | n :: G => .cons (Nat.zero_le n) (zG_le G)
mutual
/-- no list or dict lies below the first k levels -/
def fits : Nat → D → Bool
  | 0, .lst _ => false
  | 0, .dct _ => false
  | 0, .scr _ => false
  | _ + 1, .scr _ => false
  | k + 1, .lst xs => fitsL k xs
  | k + 1, .dct _ => false
  | k, .tup xs => fitsL k xs
  | _, _ => true
def fitsL : Nat → List D → Bool
  | _, [] => true
  | k, x :: xs => fits k x && fitsL k xs
end
mutual
theorem Rep.fits0 {K : PySem.W.Frag} {H : Hp} : ∀ {n : Nat} {d : D} {v : V} {c s : Cnt}, Rep K H n d v c s → fits n d = true → s = z0
  | _, _, _, _, _, .non, _ => rfl
  | _, _, _, _, _, .bl b, _ => rfl
  | _, _, _, _, _, .int i, _ => rfl
  | _, _, _, _, _, .str x, _ => rfl
  | _, _, _, _, _, .ty x, _ => rfl
  | _, _, _, _, _, .fn a, _ => rfl
  | _, _, _, _, _, .lst0 h r, f => by simp [fits] at f
  | n, _, _, _, _, .scr o h, f => by cases n <;> simp [fits] at f
  | _, _, _, _, _, .scrK h, f => rfl
  | _, _, _, _, _, .lstS h r, f => Reps.fits0 r (by simpa [fits] using f)
  | n, _, _, _, _, .tup h r, f => Reps.fits0 r (by cases n <;> simpa [fits] using f)
  | _, _, _, _, _, .dct0 h e1 e2 e3 r, f => by simp [fits] at f
  | _, _, _, _, _, .dctS h e1 e2 e3 r, f => by simp [fits] at f
theorem Reps.fits0 {K : PySem.W.Frag} {H : Hp} : ∀ {n : Nat} {ds : List D} {vs : List V} {c s : Cnt}, Reps K H n ds vs c s → fitsL n ds = true → s = z0
  | _, _, _, _, _, .nil, _ => rfl
  | _, _, _, _, _, .cons a b, f => by
    simp only [fitsL, Bool.and_eq_true] at f
    rw [Rep.fits0 a f.1, Reps.fits0 b f.2, z_add]
end
theorem SR.zz {K : PySem.W.Frag} {H : Hp} : ∀ {Z r σ c s}, SR K H Z r σ c s → ∀ G, Z = zG G → c = z0
  | _, _, _, _, _, .nil, _, _ => rfl
  | _, _, _, _, _, .no y, G, e => by
    cases G with
    | nil => cases e
    | cons m G => exact SR.zz y G (by injection e)
  | _, _, _, _, _, .yes a y, G, e => by
    cases G with
    | nil => cases e
    | cons m G =>
      injection e with e1 e2
      subst e1
      rw [a.zero, SR.zz y G e2, z_add]
def dBor (k : Nat) (f : Rho → R D) : Rho → R D := fun r => match f r with
  | .ok d _ => if fits k d = true then .ok d r else .no
  | _ => .no
theorem v_bor {f : Rho → R D} (A : PV X F.nox (zG G) G' k e f) : PV X F G G k e (dBor k f) := by
  obtain ⟨t, ht, q⟩ := A.go
  refine ⟨t, ht, fun σ H r c s Q sr ok h => ?_⟩
  unfold dBor at h
  cases e1 : f r with
  | no => rw [e1] at h; exact False.elim h
  | ex n x r1 => rw [e1] at h; exact False.elim h
  | ok d r1 =>
    rw [e1] at h
    by_cases hf : fits k d = true
    · have h : OutX X F c s H σ (OkE X G k c s H σ Q) (if fits k d = true then .ok d r else .no) := h
      rw [if_pos hf] at h
      obtain ⟨c', s', x', w⟩ := sr.wk (zG_le G)
      have cz : c' = z0 := x'.zz G rfl
      subst cz
      refine q σ H r z0 s' Q x' (ok.wk w) ?_
      rw [e1]
      intro v H' c1 s1 cr sr' x1 rp st
      have kp : ∀ a o, H a = some o → H' a = some o := fun a o ha => st.keep a o ha (.inl rfl)
      have ez := rp.fits0 hf
      subst ez
      refine h v H' c s cr z0 (sr.keep (ex_kp kp)) rp ?_
      have hown : ∀ a, 0 < cr a → H a = none := fun a ha => by
        rcases st.own a (by simp only [add_at]; omega) with z | z
        · exact absurd z (Nat.lt_irrefl 0)
        · exact z
      refine (Step.refl ok).new sr.dom (fun a ha => ha) (S := z0) (fun a ha => absurd ha (Nat.lt_irrefl 0)) ⟨hown, fun a ha => absurd ha (Nat.lt_irrefl 0), kp, fun a => ?_⟩
      have := st.ok a
      simp only [add_at] at this
      exact ⟨by omega, .inr rfl⟩
    · have h : OutX X F c s H σ (OkE X G k c s H σ Q) (if fits k d = true then .ok d r else .no) := h
      rw [if_neg hf] at h
      exact False.elim h
def dBorB (f : Rho → R Bool) : Rho → R Bool := fun r => match f r with
  | .ok d _ => .ok d r
  | _ => .no
theorem b_bor {f : Rho → R Bool} (A : PB X F.nox (zG G) G' e f) : PB X F G G e (dBorB f) := by
  obtain ⟨t, ht, q⟩ := A.go
  refine ⟨t, ht, fun σ H r c s Q sr ok h => ?_⟩
  unfold dBorB at h
  cases e1 : f r with
  | no => rw [e1] at h; exact False.elim h
  | ex n x r1 => rw [e1] at h; exact False.elim h
  | ok d r1 =>
    rw [e1] at h
    obtain ⟨c', s', x', w⟩ := sr.wk (zG_le G)
    have cz := x'.zz G rfl
    subst cz
    refine q σ H r z0 s' Q x' (ok.wk w) ?_
    rw [e1]
    intro H' c1 s1 x1 st
    have kp : ∀ a o, H a = some o → H' a = some o := fun a o ha => st.keep a o ha (.inl rfl)
    refine h H' c s (sr.keep (ex_kp kp)) ⟨fun _ h => .inl h, fun _ h => .inr (.inl h), fun a o e _ => kp a o e, fun a ha => ?_, ok⟩
    exact st.dom a ha
end
end VL

namespace VL
open PySem PySem.Spec L2

section
variable {X : Cx} {F : Fx} {G G1 G2 G' : List Nat} {k k1 k2 : Nat} {e a b : Expr} {es : List Expr} {pos p : Pos}
/-! ### lists of expressions -/
theorem l_nil : PL X F G G k [] (fun r => .ok [] r) := ⟨_, pa_nil, fun σ H r c s Q sr ok h => h [] H c s z0 z0 sr .nil (by simp only [add_z]; exact .refl ok)⟩
theorem l_cons {f : Rho → R D} {g : Rho → R (List D)} (A : PV X F G G1 k e f) (B : PL X F G1 G2 k es g) (hs : starEach (e :: es) X.env = (false, eval e X.env) :: starEach es X.env := by rfl) :
    PL X F G G2 k (e :: es) (fun r => (f r).bind fun d r1 => (g r1).bind fun ds r2 => .ok (d :: ds) r2) := by
  obtain ⟨ta, ha, qa⟩ := A.go
  obtain ⟨tb, hb, qb⟩ := B.go
  refine ⟨_, pa_cons ha hb hs, fun σ H r c s Q sr ok h => qa σ H r c s _ sr ok (h.bind.mono fun d r1 h1 => ?_)⟩
  intro x H1 c1 s1 ca sa sr1 rpa st
  have ok1 : Ok c1 s1 := fun z => by have := st.ok z; simp only [add_at] at this; omega
  have st1 : Step c s H c1 s1 H1 := st.less (fun z => by simp only [add_at]; omega) (fun z hz => by simp only [add_at]; omega)
  refine qb σ H1 r1 c1 s1 _ sr1 ok1 (h1.bind.imp st1 fun ds r2 h2 => ?_)
  intro xs H2 c2 s2 cb sb sr2 rpb st2
  refine h2 (x :: xs) H2 c2 s2 (add ca cb) (add sa sb) sr2 (.cons (rpa.keep (st2.aside st.ok)) rpb) ?_
  have q := st.trans (st2.frame st.ok rpa.dom)
  rw [add_assoc', add_assoc', add_comm' cb ca, add_comm' sb sa] at q
  exact q
theorem lst_fresh {c s c1 s1 cr sr : Cnt} {H H' : Hp} {p : Addr} {xs : List V} (st : Step c s H (add c1 cr) (add s1 sr) H') (dm : Dom (add c1 cr) (add s1 sr) H') (hp : H' p = none) :
    Step c s H (add c1 (add (one p) cr)) (add s1 sr) (L2.upd H' p (.lst xs)) := by
  have nz : ∀ {n : Cnt}, (∀ a, n a ≤ add c1 cr a) ∨ (∀ a, n a ≤ add s1 sr a) → n p = 0 := fun {n} h => by
    have d := dm p
    rcases h with h | h
    · by_cases q : 0 < n p
      · obtain ⟨o, e, _⟩ := d.1 (Nat.lt_of_lt_of_le q (h p))
        rw [hp] at e; cases e
      · omega
    · by_cases q : 0 < n p
      · obtain ⟨o, e, _⟩ := d.2 (Nat.lt_of_lt_of_le q (h p))
        rw [hp] at e; cases e
      · omega
  have e1 : add c1 cr p = 0 := nz (.inl fun _ => Nat.le_refl _)
  have e2 : add s1 sr p = 0 := nz (.inr fun _ => Nat.le_refl _)
  have hH : H p = none := by
    cases e : H p with
    | none => rfl
    | some o => exact absurd hp (st.dom p (by rw [e]; exact fun z => nomatch z))
  refine ⟨fun a h => ?_, fun a h => st.sh a h, fun a o e h => ?_, fun a h => ?_, fun a => ?_⟩
  · by_cases q : a = p
    · subst q; exact .inr hH
    · refine st.own a ?_
      simp only [add_at, one_ne q] at h ⊢
      omega
  · rw [upd_ne (ne_of_none e hH)]
    exact st.keep a o e h
  · by_cases q : a = p
    · subst q; exact absurd hH h
    · rw [upd_ne q]; exact st.dom a h
  · have := st.ok a
    by_cases q : a = p
    · subst q
      simp only [add_at, one_same] at this e1 e2 ⊢
      omega
    · simp only [add_at, one_ne q] at this ⊢
      omega
theorem ex_upd {H : Hp} {p : Addr} {o : HO} (hp : H p = none) : ∀ a u, H a = some u → (L2.upd H p o) a = some u := fun a u e => by
  rw [upd_ne (ne_of_none e hp)]; exact e
def lstD (ds : List D) : Option D := if ds.length ≤ 100000 then some (.lst ds) else none
def tupD (ds : List D) : Option D := if ds.length ≤ 100000 then some (.tup ds) else none
theorem line5 {n : Nat} (h : n ≤ 100000) : n ≤ sizeLine := Nat.le_trans h (by decide)
/-- [..] -/
theorem v_lst {f : Rho → R (List D)} (A : PL X F G G1 k es f) : PV X F G G1 (k + 1) (.List es pos) (fun r => (f r).bind fun ds r1 => lift (lstD ds) r1) := by
  obtain ⟨t, ht, q⟩ := A.go
  refine ⟨_, pe_lst ht, fun σ H r c s Q sr ok h => q σ H r c s _ sr ok (h.bind1.mono fun ds r1 h2 => ?_)⟩
  obtain ⟨d, hd, h2⟩ := h2
  intro vs H' c1 s1 cr sr' x rp st
  unfold lstD at hd
  split at hd
  · rename_i hl
    cases hd
    refine ⟨by rw [← rp.length]; exact line5 hl, fun p hp => ?_⟩
    have ke := ex_upd (o := .lst vs) hp
    exact h2 (.ref p) _ c1 s1 (add (one p) cr) sr' (x.keep (ex_kp ke)) (.lstS upd_same (rp.keep (ex_kp ke))) (lst_fresh st (x.dom.add rp.dom) hp)
  · cases hd
theorem tup_fresh {c s c1 s1 : Cnt} {H H' : Hp} {p : Addr} {xs : List V} (st : Step c s H c1 s1 H') (hp : H' p = none) : Step c s H c1 s1 (L2.upd H' p (.tup xs)) := by
  have hH : H p = none := by
    cases e : H p with
    | none => rfl
    | some o => exact absurd hp (st.dom p (by rw [e]; exact fun z => nomatch z))
  refine ⟨st.own, st.sh, fun a o e h => ?_, fun a h => ?_, st.ok⟩
  · rw [upd_ne (ne_of_none e hH)]
    exact st.keep a o e h
  · by_cases q : a = p
    · subst q; exact absurd hH h
    · rw [upd_ne q]; exact st.dom a h
/-- (..) -/
theorem v_tup {f : Rho → R (List D)} {x1} (A : PL X F G G1 k es f) : PV X F G G1 k (.Tuple es x1 pos) (fun r => (f r).bind fun ds r1 => lift (tupD ds) r1) := by
  obtain ⟨t, ht, q⟩ := A.go
  refine ⟨_, pe_tup ht, fun σ H r c s Q sr ok h => q σ H r c s _ sr ok (h.bind1.mono fun ds r1 h2 => ?_)⟩
  obtain ⟨d, hd, h2⟩ := h2
  intro vs H' c1 s1 cr sr' x rp st
  unfold tupD at hd
  split at hd
  · rename_i hl
    cases hd
    refine ⟨by rw [← rp.length]; exact line5 hl, fun p hp => ?_⟩
    have ke := ex_upd (o := .tup vs) hp
    exact h2 (.ref p) _ c1 s1 cr sr' (x.keep (ex_kp ke)) (.tup upd_same (rp.keep (ex_kp ke))) (tup_fresh st hp)
  · cases hd
/-- a call of a built-in function, of a built-in class -/
theorem l_weak {f : Rho → R (List D)} (A : PL X F G G1 k es f) : PL X F G G1 0 es f := by
  obtain ⟨t, ht, q⟩ := A.go
  refine ⟨t, ht, fun σ H r c s Q sr ok h1 => q σ H r c s Q sr ok (h1.mono fun d r1 g => ?_)⟩
  intro v H1 c1 s1 cr srr x rp st
  obtain ⟨c', s', rp', w⟩ := rp.wk 0 (Nat.zero_le _)
  exact g v H1 c1 s1 c' s' x rp' (st.wk ((Wk.refl c1 s1).add w))
theorem args_r {f : Rho → R (List D)} {r : List V → Hp → VK → Prop} {g : List D → Option D} (A : PL X F G G1 k1 es f) (pn : PN X r k g) : ∃ t, PA X es t ∧ ∀ σ H rr c s (Q : VK), SR X.K H G rr σ c s → Ok c s →
    OutX X F c s H σ (OkE X G1 k c s H σ Q) (dN g f rr) → tCB r t σ H Q := by
  obtain ⟨t, ht, q⟩ := (l_weak A).go
  refine ⟨t, ht, fun σ H rr c s Q sr ok h => q σ H rr c s _ sr ok (h.bind1.mono fun ds r1 h2 => ?_)⟩
  obtain ⟨d, hd, h2⟩ := h2
  intro vs H' c1 s1 cr sr' x rp st
  have ez := rp.zero
  subst ez
  simp only [add_z] at st
  refine pn ds d hd vs H' sr' Q rp fun v H3 cr3 sr3 rp3 n => ?_
  have dm := x.dom.add rp.dom
  simp only [add_z] at dm
  exact h2 v H3 c1 s1 cr3 sr3 (x.keep (ex_kp n.keep)) rp3 (st.new dm (fun z hz => by simp only [add_at]; omega) (fun z hz => by simp only [add_at]; omega) n)
theorem v_callB {f : Rho → R (List D)} {x : Str} {id : String} {r : List V → Hp → VK → Prop} {g : List D → Option D} (A : PL X F G G1 k1 (e :: es) f) (hc : CallR X (.builtin id) r) (pn : PN X r k g) (hg : Gl X x) (hm : X.mg x = none) (hv : bootBuiltins x = some (.builtin id))
    (hn : x ≠ "__name__" := by decide) (hdb : (x == ("__debug__" : Str)) = false := by decide) (he : starEach (e :: es) X.env = (false, eval e X.env) :: starEach es X.env := by rfl) (hpl : (backTo pos (starEach es X.env)).any (·.1) = false := by rfl) :
    PV X F G G1 k (.Call (.Name x p) (e :: es) [] pos) (dN g f) := by
  obtain ⟨t, ht, q⟩ := args_r A pn
  exact ⟨_, pe_callB hc hg hm hv ht hn hdb he hpl, q⟩
theorem v_callTy {f : Rho → R (List D)} {x : Str} {T : String} {r : List V → Hp → VK → Prop} {g : List D → Option D} (A : PL X F G G1 k1 (e :: es) f) (hc : CallR X (.type T) r) (pn : PN X r k g) (hg : Gl X x) (hm : X.mg x = none) (hv : bootBuiltins x = some (.type T))
    (hn : x ≠ "__name__" := by decide) (hdb : (x == ("__debug__" : Str)) = false := by decide) (he : starEach (e :: es) X.env = (false, eval e X.env) :: starEach es X.env := by rfl) (hpl : (backTo pos (starEach es X.env)).any (·.1) = false := by rfl) :
    PV X F G G1 k (.Call (.Name x p) (e :: es) [] pos) (dN g f) := by
  obtain ⟨t, ht, q⟩ := args_r A pn
  exact ⟨_, pe_callTy hc hg hm hv ht hn hdb he hpl, q⟩
/-- a built-in's name as a value -/
theorem v_bltn {x : Str} {n : String} (hg : Gl X x) (hm : X.mg x = none) (hv : bootBuiltins x = some (.type n)) (hn : x ≠ "__name__" := by decide) (hd : (x == ("__debug__" : Str)) = false := by decide) : PV X F G G k (.Name x pos) (fun r => .ok (.ty n) r) :=
  ⟨_, pe_bltn (v := .ty n) hg hm hv rfl hn hd, fun σ H r c s Q sr ok h => flat_ok sr ok (.ty n) h⟩
/-- flat data lies on every level -/
def flat : D → Bool
  | .non | .bl _ | .int _ | .str _ | .ty _ | .fn _ => true
  | _ => false
theorem Rep.flatUp {K : PySem.W.Frag} {H : Hp} {n m : Nat} {d : D} {v : V} {c s : Cnt} (r : Rep K H n d v c s) (h : flat d = true) : Rep K H m d v c s := by
  cases r <;> first | (cases h; done) | constructor
theorem v_up {f : Rho → R D} (A : PV X F G G1 k1 e f) : PV X F G G1 k e (fun r => (f r).bind fun d r1 => if flat d = true then .ok d r1 else .no) := by
  obtain ⟨t, ht, q⟩ := A.go
  refine ⟨t, ht, fun σ H r c s Q sr ok h => q σ H r c s _ sr ok (h.bind.mono fun d r1 h2 => ?_)⟩
  intro v H' c1 s1 cr sr' x rp st
  by_cases hf : flat d = true
  · rw [if_pos hf] at h2
    exact h2 v H' c1 s1 cr sr' x (rp.flatUp hf) st
  · rw [if_neg hf] at h2
    exact False.elim h2
/-- a subscript -/
theorem v_ix {fa fb : Rho → R D} {r2 : R2} {g : D → D → Option D} (A : PV X F G G1 k1 a fa) (B : PV X F G1 G2 k2 b fb) (hr : IxR X r2) (pr : P2 X r2 k g) (hs : PlainIx b := by exact fun _ _ => rfl) : PV X F G G2 k (.Subscript a b pos) (d2 g fa fb) := by
  obtain ⟨ta, tb, ha, hb, q⟩ := two_r A B pr
  exact ⟨_, pe_ix hr ha hb hs, q⟩
def orD (o p : Option D) : Option D := match o with
  | some z => some z
  | none => p
@[simp] theorem orD_some (z : D) (p : Option D) : orD (some z) p = some z := rfl
@[simp] theorem orD_none (p : Option D) : orD none p = p := rfl
theorem P2.or {r1 r2 : R2} {g1 g2 : D → D → Option D} (h1 : P2 X r1 k g1) (h2 : P2 X r2 k g2) : P2 X (fun x y H Q => r1 x y H Q ∨ r2 x y H Q) k (fun a b => orD (g1 a b) (g2 a b)) := by
  intro da db d hd x y H sa sb Q ra rb h
  have hd : orD (g1 da db) (g2 da db) = some d := hd
  cases e : g1 da db with
  | some z =>
    rw [e] at hd
    have hd : some z = some d := hd
    cases hd
    exact .inl (h1 da db _ e x y H sa sb Q ra rb h)
  | none =>
    rw [e] at hd
    exact .inr (h2 da db d hd x y H sa sb Q ra rb h)
theorem PN.or {r1 r2 : List V → Hp → VK → Prop} {g1 g2 : List D → Option D} (h1 : PN X r1 k g1) (h2 : PN X r2 k g2) : PN X (fun xs H Q => r1 xs H Q ∨ r2 xs H Q) k (fun a => orD (g1 a) (g2 a)) := by
  intro ds d hd xs H sa Q ra h
  have hd : orD (g1 ds) (g2 ds) = some d := hd
  cases e : g1 ds with
  | some z =>
    rw [e] at hd
    have hd : some z = some d := hd
    cases hd
    exact .inl (h1 ds _ e xs H sa Q ra h)
  | none =>
    rw [e] at hd
    exact .inr (h2 ds d hd xs H sa Q ra h)
theorem callR_or {f : Value} {r r' : List V → Hp → VK → Prop} (h : CallR X f r) (h' : CallR X f r') : CallR X f (fun xs H Q => r xs H Q ∨ r' xs H Q) := by
  intro pins s σ H xs us Q I rv q
  rcases q with q | q
  · exact h pins s σ H xs us Q I rv q
  · exact h' pins s σ H xs us Q I rv q
end

/-! ### ints -/
def iAdd : D → D → Option D
  | .int i, .int j => some (.int (i + j))
  | _, _ => none
def iSub : D → D → Option D
  | .int i, .int j => some (.int (i - j))
  | _, _ => none
def mulOk (i j : Int) : Bool := (decide (i.natAbs < 2 ^ 64) || decide (j.natAbs < 2 ^ 64)) || decide (i.natAbs.log2 + j.natAbs.log2 < 1000000)
def iMul : D → D → Option D
  | .int i, .int j => if mulOk i j = true then some (.int (i * j)) else none
  | _, _ => none
def divOk (j : Int) : Bool := decide (0 < j) && (decide (j < 1073741824) || decide (j.natAbs.log2 < 9000))
def iDiv : D → D → Option D
  | .int i, .int j => if divOk j = true then some (.int (i / j)) else none
  | _, _ => none
def iMod : D → D → Option D
  | .int i, .int j => if 0 < j then some (.int (i % j)) else none
  | _, _ => none
/-- the guard is closed to the kernel: it would count down from it -/
noncomputable def powGo (i j : Int) : Option D := @ite _ (0 ≤ j ∧ (i.natAbs.log2 + 1 : Int) * j ≤ 134217728) (Classical.propDecidable _) (some (.int (i ^ j.toNat))) none
noncomputable def iPow : D → D → Option D
  | .int i, .int j => powGo i j
  | _, _ => none
def iNeg : D → Option D
  | .int i => some (.int (-i))
  | _ => none
def iLt : D → D → Option D
  | .int i, .int j => some (.bl (decide (i < j)))
  | _, _ => none
def iLe : D → D → Option D
  | .int i, .int j => some (.bl (decide (i ≤ j)))
  | _, _ => none
def iGt : D → D → Option D
  | .int i, .int j => some (.bl (decide (j < i)))
  | _, _ => none
def iGe : D → D → Option D
  | .int i, .int j => some (.bl (decide (j ≤ i)))
  | _, _ => none

section
variable {X : Cx} {k : Nat}
/-- two ints make a flat thing -/
theorem p2_int {C : Int → Int → Prop} {h : Int → Int → V} {g : D → D → Option D} (hg : ∀ i j d, g (.int i) (.int j) = some d → C i j ∧ ∃ dd, d = dd ∧ ∀ H, Rep X.K H k dd (h i j) z0 z0) (hn : ∀ a b d, g a b = some d → (∃ i, a = .int i) ∧ ∃ j, b = .int j) : P2 X (rI C h) k g := by
  intro da db d hd x y H sa sb Q ra rb hq
  obtain ⟨⟨i, rfl⟩, ⟨j, rfl⟩⟩ := hn da db d hd
  obtain ⟨hc, dd, rfl, hr⟩ := hg i j d hd
  cases ra
  cases rb
  exact ⟨i, j, rfl, rfl, hc, hq _ H z0 z0 (hr H) .flat⟩
theorem p2_int0 {h : Int → Int → V} {g : D → D → Option D} (hg : ∀ i j d, g (.int i) (.int j) = some d → ∀ H, Rep X.K H k d (h i j) z0 z0) (hn : ∀ a b d, g a b = some d → (∃ i, a = .int i) ∧ ∃ j, b = .int j) : P2 X (rI0 h) k g := by
  intro da db d hd x y H sa sb Q ra rb hq
  obtain ⟨⟨i, rfl⟩, ⟨j, rfl⟩⟩ := hn da db d hd
  have hr := hg i j d hd
  cases ra
  cases rb
  exact ⟨i, j, rfl, rfl, hq _ H z0 z0 (hr H) .flat⟩
theorem ints_only {g : Int → Int → Option D} {f : D → D → Option D} (hf : ∀ a b, f a b = match a, b with | .int i, .int j => g i j | _, _ => none) : ∀ a b d, f a b = some d → (∃ i, a = .int i) ∧ ∃ j, b = .int j := fun a b d h => by
  rw [hf] at h
  split at h
  · exact ⟨⟨_, rfl⟩, _, rfl⟩
  · cases h
theorem p_add : P2 X (rI0 fun i j => .int (i + j)) k iAdd := p2_int0 (fun i j d h H => by cases h; exact .int _) (ints_only (g := fun i j => some (.int (i + j))) fun a b => by unfold iAdd; rfl)
theorem p_sub : P2 X (rI0 fun i j => .int (i - j)) k iSub := p2_int0 (fun i j d h H => by cases h; exact .int _) (ints_only (g := fun i j => some (.int (i - j))) fun a b => by unfold iSub; rfl)
theorem p_lt : P2 X (rI0 fun i j => .bl (decide (i < j))) k iLt := p2_int0 (fun i j d h H => by cases h; exact .bl _) (ints_only (g := fun i j => some (.bl (decide (i < j)))) fun a b => by unfold iLt; rfl)
theorem p_le : P2 X (rI0 fun i j => .bl (decide (i ≤ j))) k iLe := p2_int0 (fun i j d h H => by cases h; exact .bl _) (ints_only (g := fun i j => some (.bl (decide (i ≤ j)))) fun a b => by unfold iLe; rfl)
theorem p_gt : P2 X (rI0 fun i j => .bl (decide (j < i))) k iGt := p2_int0 (fun i j d h H => by cases h; exact .bl _) (ints_only (g := fun i j => some (.bl (decide (j < i)))) fun a b => by unfold iGt; rfl)
theorem p_ge : P2 X (rI0 fun i j => .bl (decide (j ≤ i))) k iGe := p2_int0 (fun i j d h H => by cases h; exact .bl _) (ints_only (g := fun i j => some (.bl (decide (j ≤ i)))) fun a b => by unfold iGe; rfl)
/-- * of great ints, // by great ints, ** of great ints -/
def CMulV (i j : Int) : Prop := mulOk i j = true
def CDivV (_ j : Int) : Prop := divOk j = true
def CPowV (i j : Int) : Prop := 0 ≤ j ∧ (i.natAbs.log2 + 1 : Int) * j ≤ 134217728
theorem op_mulV : OpR X (binaryOp .Mult) (rI CMulV fun i j => .int (i * j)) := opI fun i j _ _ _ _ _ hc q => PyProof.Rows.mul_int q (by
  have hc : mulOk i j = true := hc
  unfold mulOk at hc
  simp only [Bool.or_eq_true, decide_eq_true_eq] at hc
  rcases hc with (h | h) | h
  · exact .of_left (intBits_le_64 (by omega) (by omega))
  · exact .of_right (intBits_le_64 (by omega) (by omega))
  · exact CMulW.ok h)
theorem op_divV : OpR X (binaryOp .FloorDiv) (rI CDivV fun i j => .int (i / j)) := opI fun i j _ _ _ _ _ hc q => by
  have hc : divOk j = true := hc
  unfold divOk at hc
  simp only [Bool.and_eq_true, Bool.or_eq_true, decide_eq_true_eq] at hc
  obtain ⟨h1, h2⟩ := hc
  refine PyProof.Rows.floordiv_int (by omega) (by rw [Int.fdiv_eq_ediv_of_nonneg i (by omega)]; exact q) (.inl ?_)
  rcases h2 with h2 | h2
  · exact PyProof.noPylong_small (by omega)
  · exact PyProof.noPylong_of_log2 h2
theorem op_powV : OpR X (binaryOp .Pow) (rI CPowV fun i j => .int (i ^ j.toNat)) := opI fun i j _ _ _ _ _ hc q => PyProof.Rows.pow_int hc.1 (by
  have b : Builtin.Int.intBits i ≤ i.natAbs.log2 + 1 := by
    unfold Builtin.Int.intBits
    split <;> omega
  have h0 := hc.1
  have h2 := hc.2
  have : (Builtin.Int.intBits i : Int) * j ≤ (i.natAbs.log2 + 1 : Int) * j := Int.mul_le_mul_of_nonneg_right (by omega) h0
  have e : (2 : Int) ^ 27 = 134217728 := by decide
  rw [e]
  omega) q
theorem p_mul : P2 X (rI CMulV fun i j => .int (i * j)) k iMul := p2_int (fun i j d h => by
  unfold iMul at h
  by_cases c : mulOk i j = true
  · simp only [if_pos c] at h; cases h; exact ⟨c, _, rfl, fun H => .int _⟩
  · simp only [if_neg c] at h; cases h) (ints_only (g := fun i j => if mulOk i j = true then some (.int (i * j)) else none) fun a b => by unfold iMul; rfl)
theorem p_div : P2 X (rI CDivV fun i j => .int (i / j)) k iDiv := p2_int (fun i j d h => by
  unfold iDiv at h
  by_cases c : divOk j = true
  · simp only [if_pos c] at h; cases h; exact ⟨c, _, rfl, fun H => .int _⟩
  · simp only [if_neg c] at h; cases h) (ints_only (g := fun i j => if divOk j = true then some (.int (i / j)) else none) fun a b => by unfold iDiv; rfl)
theorem p_mod : P2 X (rI (fun _ j => 0 < j) fun i j => .int (i % j)) k iMod := p2_int (fun i j d h => by
  unfold iMod at h
  by_cases c : 0 < j
  · simp only [if_pos c] at h; cases h; exact ⟨c, _, rfl, fun H => .int _⟩
  · simp only [if_neg c] at h; cases h) (ints_only (g := fun i j => if 0 < j then some (.int (i % j)) else none) fun a b => by unfold iMod; rfl)
theorem p_pow : P2 X (rI CPowV fun i j => .int (i ^ j.toNat)) k iPow := p2_int (fun i j d h => by
  have h : powGo i j = some d := h
  unfold powGo at h
  by_cases c : 0 ≤ j ∧ (i.natAbs.log2 + 1 : Int) * j ≤ 134217728
  · rw [if_pos c] at h; cases h; exact ⟨c, _, rfl, fun H => .int _⟩
  · rw [if_neg c] at h; cases h) (ints_only (g := fun i j => powGo i j) fun a b => by unfold iPow; rfl)
theorem p_neg : P1 X (rU fun i => .int (-i)) k iNeg := by
  intro da d hd x H sa Q ra hq
  cases ra <;> first | (cases hd; done) | skip
  cases hd
  exact ⟨_, rfl, hq _ H z0 z0 (.int _) .flat⟩
end
section
variable {X : Cx} {F : Fx} {G G1 G2 G' : List Nat} {k k1 k2 : Nat} {e a b : Expr} {es : List Expr} {pos p : Pos}
theorem v_un {fa : Rho → R D} {op : UnaryOp} {r1 : V → Hp → VK → Prop} {g : D → Option D} (A0 : PV X F G G1 k1 a fa) (ho : UnR X (unaryOp op) r1) (pr : P1 X r1 k g) : PV X F G G1 k (.UnaryOp op a pos) (d1 g fa) := by
  have A := A0.weak (Nat.zero_le k1)
  obtain ⟨t, ht, q⟩ := A.go
  refine ⟨_, pe_un ho ht, fun σ H rr c s Q sr ok h => q σ H rr c s _ sr ok (h.bind1.mono fun ds r1 h2 => ?_)⟩
  obtain ⟨d, hd, h2⟩ := h2
  intro vs H' c1 s1 cr sr' x rp st
  have ez := rp.zero
  subst ez
  simp only [add_z] at st
  refine pr ds d hd vs H' sr' Q rp fun v H3 cr3 sr3 rp3 n => ?_
  have dm := x.dom.add rp.dom
  simp only [add_z] at dm
  exact h2 v H3 c1 s1 cr3 sr3 (x.keep (ex_kp n.keep)) rp3 (st.new dm (fun z hz => by simp only [add_at]; omega) (fun z hz => by simp only [add_at]; omega) n)
end
end VL

namespace VL
open PySem PySem.Spec L2

def IoP (K : PySem.W.Frag) (H : Hp) (io : Option Nat) (o : Option D) (v0 : V) (c0 s0 : Cnt) : Prop := match io, o with
  | some m, some d => Rep K H m d v0 c0 s0
  | _, _ => c0 = z0 ∧ s0 = z0
def OutS (X : Cx) (F : Fx) (v0 : V) (G' : List Nat) (c s : Cnt) (H : Hp) (Dn : Ends) : SO → Prop
  | .nx r => ∀ σ' H' c' s', SR X.K H' G' r σ' c' s' → Pr F v0 σ' → Step c s H c' s' H' → Dn.nx σ' H'
  | .bk r => ∀ σ' H' c' s', SR X.K H' F.Gb r σ' c' s' → Pr F v0 σ' → Step c s H c' s' H' → Dn.bk σ' H'
  | .ct r => ∀ σ' H' c' s', SR X.K H' F.Gc r σ' c' s' → Pr F v0 σ' → Step c s H c' s' H' → Dn.ct σ' H'
  | .rt d r => ∀ v H' cr sr c0 s0, Rep X.K H' F.kr d v cr sr → IoP X.K H' F.io (rget r 0) v0 c0 s0 → Step c s H (add c0 cr) (add s0 sr) H' → Dn.rt v H'
  | .ex n x r => ∀ cls dx σ' H' G c1 s1, ExP X.mg n x H' cls dx → IoG F G → SR X.K H' G r σ' c1 s1 → Pr F v0 σ' → Step c s H c1 s1 H' → F.W cls dx σ' H'
  | .no => False
structure PSt (X : Cx) (F : Fx) (G G' : List Nat) (st : Stmt) (f : Rho → SO) : Prop where
  go : ∃ t, PS X st t ∧ ∀ v0 σ H r c s Dn, SR X.K H G r σ c s → Ok c s → Pr F v0 σ → OutS X F v0 G' c s H Dn (f r) → t Dn σ H
structure PBk (X : Cx) (F : Fx) (G G' : List Nat) (sts : List Stmt) (f : Rho → SO) : Prop where
  go : ∃ t, PSs X sts t ∧ ∀ v0 σ H r c s Dn, SR X.K H G r σ c s → Ok c s → Pr F v0 σ → OutS X F v0 G' c s H Dn (f r) → t Dn σ H
theorem io_none {F : Fx} {G : List Nat} (h : F.io = none) : IoG F G := fun m e => by rw [h] at e; cases e
theorem io_some {F : Fx} {G : List Nat} {n : Nat} (h : F.io = some n) (h2 : gget G 0 = n) : IoG F G := fun m e => by rw [h] at e; cases e; exact h2
def dSeq (f g : Rho → SO) : Rho → SO := fun r => match f r with
  | .nx r1 => g r1
  | o => o
section
variable {X : Cx} {F : Fx} {G G1 G2 G' : List Nat} {k k1 k2 : Nat} {e a b : Expr} {es : List Expr} {pos p : Pos} {st : Stmt} {sts : List Stmt}
theorem OutS.shift {v0 : V} {c s c1 s1 : Cnt} {H H1 : Hp} {Dn : Ends} {o : SO} (h : OutS X F v0 G' c s H Dn o) (x : Step c s H c1 s1 H1) : OutS X F v0 G' c1 s1 H1 Dn o := by
  cases o with
  | nx r => exact fun σ' H' c' s' a p y => h σ' H' c' s' a p (x.trans y)
  | bk r => exact fun σ' H' c' s' a p y => h σ' H' c' s' a p (x.trans y)
  | ct r => exact fun σ' H' c' s' a p y => h σ' H' c' s' a p (x.trans y)
  | rt d r => exact fun v H' cr sr c0 s0 a p y => h v H' cr sr c0 s0 a p (x.trans y)
  | ex n d r => exact fun cls dx σ' H' G c1 s1 e g a p y => h cls dx σ' H' G c1 s1 e g a p (x.trans y)
  | no => exact h
theorem OutS.weakG {v0 : V} {c s : Cnt} {H : Hp} {Dn : Ends} {o : SO} (h : OutS X F v0 G' c s H Dn o) (g : LeG G' G1) : OutS X F v0 G1 c s H Dn o := by
  cases o with
  | nx r =>
    intro σ' H' c' s' a p y
    obtain ⟨c2, s2, a2, w⟩ := a.wk g
    exact h σ' H' c2 s2 a2 p (y.wk w)
  | _ => exact h
theorem PSt.weakG {f : Rho → SO} (A : PSt X F G G1 st f) (g : leG G' G1 = true := by rfl) : PSt X F G G' st f := by
  obtain ⟨t, ht, q⟩ := A.go
  exact ⟨t, ht, fun v0 σ H r c s Dn sr ok pr h => q v0 σ H r c s Dn sr ok pr (h.weakG (LeG.of g))⟩
theorem PBk.weakG {f : Rho → SO} (A : PBk X F G G1 sts f) (g : leG G' G1 = true := by rfl) : PBk X F G G' sts f := by
  obtain ⟨t, ht, q⟩ := A.go
  exact ⟨t, ht, fun v0 σ H r c s Dn sr ok pr h => q v0 σ H r c s Dn sr ok pr (h.weakG (LeG.of g))⟩
/-- starting with less -/
theorem PBk.weak0 {f : Rho → SO} (A : PBk X F G1 G' sts f) (g : leG G1 G = true := by rfl) : PBk X F G G' sts f := by
  obtain ⟨t, ht, q⟩ := A.go
  refine ⟨t, ht, fun v0 σ H r c s Dn sr ok pr h => ?_⟩
  obtain ⟨c2, s2, sr2, w⟩ := sr.wk (LeG.of g)
  exact q v0 σ H r c2 s2 Dn sr2 (ok.wk w) pr (h.shift ((Step.refl ok).wk w))
theorem PSt.weak0 {f : Rho → SO} (A : PSt X F G1 G' st f) (g : leG G1 G = true := by rfl) : PSt X F G G' st f := by
  obtain ⟨t, ht, q⟩ := A.go
  refine ⟨t, ht, fun v0 σ H r c s Dn sr ok pr h => ?_⟩
  obtain ⟨c2, s2, sr2, w⟩ := sr.wk (LeG.of g)
  exact q v0 σ H r c2 s2 Dn sr2 (ok.wk w) pr (h.shift ((Step.refl ok).wk w))
theorem k_nil : PBk X F G G [] (fun r => .nx r) := ⟨_, pss_nil, fun v0 σ H r c s Dn sr ok pr h => h σ H c s sr pr (.refl ok)⟩
theorem k_cons {f g : Rho → SO} (A : PSt X F G G1 st f) (B : PBk X F G1 G' sts g) : PBk X F G G' (st :: sts) (dSeq f g) := by
  obtain ⟨t, ht, q⟩ := A.go
  obtain ⟨u, hu, q2⟩ := B.go
  refine ⟨_, pss_cons ht hu, fun v0 σ H r c s Dn sr ok pr h => q v0 σ H r c s _ sr ok pr ?_⟩
  unfold dSeq at h
  cases e : f r with
  | nx r1 =>
    rw [e] at h
    intro σ' H' c' s' sr' pr' x
    exact q2 v0 σ' H' r1 c' s' Dn sr' x.ok pr' (OutS.shift h x)
  | bk r1 => rw [e] at h; exact h
  | ct r1 => rw [e] at h; exact h
  | rt d r1 => rw [e] at h; exact h
  | ex n d r1 => rw [e] at h; exact h
  | no => rw [e] at h; exact h
theorem k_one {f : Rho → SO} (A : PSt X F G G1 st f) : PBk X F G G1 [st] f := by
  obtain ⟨t, ht, q⟩ := A.go
  exact ⟨t, pss_one ht, q⟩
theorem s_never : PSt X F G G' st (fun _ => .no) := ⟨_, ps_never, fun v0 σ H r c s Dn sr ok pr h => h⟩
theorem k_never : PBk X F G G' sts (fun _ => .no) := ⟨_, pss_never, fun v0 σ H r c s Dn sr ok pr h => h⟩
theorem s_pass : PSt X F G G (.Pass pos) (fun r => .nx r) := ⟨_, ps_pass, fun v0 σ H r c s Dn sr ok pr h => h σ H c s sr pr (.refl ok)⟩
theorem s_doc {x j pos'} : PSt X F G G (.Expr (.Constant (.str x) j pos) pos') (fun r => .nx r) := ⟨_, ps_doc, fun v0 σ H r c s Dn sr ok pr h => h σ H c s sr pr (.refl ok)⟩
theorem s_break (g : leG F.Gb G = true := by rfl) : PSt X F G G' (.Break pos) (fun r => .bk r) := ⟨_, ps_break, fun v0 σ H r c s Dn sr ok pr h => by
  obtain ⟨c2, s2, sr2, w⟩ := sr.wk (LeG.of g)
  exact h σ H c2 s2 sr2 pr ((Step.refl ok).wk w)⟩
theorem s_continue (g : leG F.Gc G = true := by rfl) : PSt X F G G' (.Continue pos) (fun r => .ct r) := ⟨_, ps_continue, fun v0 σ H r c s Dn sr ok pr h => by
  obtain ⟨c2, s2, sr2, w⟩ := sr.wk (LeG.of g)
  exact h σ H c2 s2 sr2 pr ((Step.refl ok).wk w)⟩
/-- an expression's ends for a statement -/
theorem OutS.useX {α : Type} {v0 : V} {c s : Cnt} {H : Hp} {σ : St} {Dn : Ends} {x : R α} {f : α → Rho → SO} {ok : α → Rho → Prop} (pr : Pr F v0 σ) (h : OutS X F v0 G' c s H Dn (x.then f)) (g : ∀ a r, OutS X F v0 G' c s H Dn (f a r) → ok a r) :
    OutX X F c s H σ ok x := by
  cases x with
  | ok a r => exact g a r h
  | ex n d r => exact fun cls dx H' G c1 s1 e gg a y => h cls dx σ H' G c1 s1 e gg a pr y
  | no => exact h
theorem s_expr {f : Rho → R D} (A : PV X F G G1 k e f) (hs : swapsWith e none pos.line X.env = pure false := by rfl) : PSt X F G G1 (.Expr e pos) (fun r => (f r).then fun _ r1 => .nx r1) := by
  obtain ⟨t, ht, q⟩ := A.go
  refine ⟨_, ps_expr ht hs, fun v0 σ H r c s Dn sr ok pr h => q σ H r c s _ sr ok (h.useX pr fun d r1 h2 => ?_)⟩
  intro v H' c1 s1 cr sr' x rp y
  exact h2 σ H' c1 s1 x pr (y.less (fun z => by simp only [add_at]; omega) (fun z hz => by simp only [add_at]; omega))
/-- the in-out argument at the end -/
theorem io_end {v0 : V} {c1 s1 : Cnt} {H' : Hp} {σ : St} {r1 : Rho} (hio : IoG F G1) (pr : Pr F v0 σ) (x : SR X.K H' G1 r1 σ c1 s1) : ∃ c0 s0, IoP X.K H' F.io (rget r1 0) v0 c0 s0 ∧ (∀ a, c0 a ≤ c1 a) ∧ ∀ a, s0 a ≤ s1 a := by
  cases ei : F.io with
  | none => exact ⟨z0, z0, ⟨rfl, rfl⟩, fun _ => Nat.zero_le _, fun _ => Nat.zero_le _⟩
  | some m =>
    have hm := hio m ei
    have hv := pr m ei
    cases e0 : rget r1 0 with
    | none => exact ⟨z0, z0, ⟨rfl, rfl⟩, fun _ => Nat.zero_le _, fun _ => Nat.zero_le _⟩
    | some d0 =>
      obtain ⟨v', c3, s3, c4, s4, ev, rp0, x', ec, es⟩ := x.out e0
      rw [hv] at ev
      cases ev
      rw [hm] at rp0
      subst ec; subst es
      exact ⟨c3, s3, rp0, fun a => by simp only [add_at]; omega, fun a => by simp only [add_at]; omega⟩
theorem s_ret {f : Rho → R D} (A : PV X F G G1 F.kr e f) (hio : IoG F G1 := by first | exact io_none rfl | exact io_some rfl rfl) : PSt X F G G' (.Return (some e) pos) (fun r => (f r).then fun d r1 => .rt d r1) := by
  obtain ⟨t, ht, q⟩ := A.go
  refine ⟨_, ps_ret ht, fun v0 σ H r c s Dn sr ok pr h => q σ H r c s _ sr ok (h.useX pr fun d r1 h2 => ?_)⟩
  intro v H' c1 s1 cr sr' x rp y
  obtain ⟨c0, s0, i, hc, hs⟩ := io_end hio pr x
  exact h2 v H' cr sr' c0 s0 rp i (y.less (fun z => by have := hc z; simp only [add_at]; omega) (fun z hz => by have := hs z; simp only [add_at] at hz ⊢; omega))
theorem s_retN (hio : IoG F G := by first | exact io_none rfl | exact io_some rfl rfl) : PSt X F G G' (.Return none pos) (fun r => .rt .non r) := by
  refine ⟨_, ps_retN, fun v0 σ H r c s Dn sr ok pr h => ?_⟩
  obtain ⟨c0, s0, i, hc, hs⟩ := io_end hio pr sr
  exact h .non H z0 z0 c0 s0 .non i ((Step.refl ok).less (fun z => by have := hc z; simp only [add_at, z_at]; omega) (fun z hz => by have := hs z; simp only [add_at, z_at] at hz ⊢; omega))
def dIf (c : Rho → R Bool) (f g : Rho → SO) : Rho → SO := fun r => (c r).then fun b r1 => if b = true then f r1 else g r1
theorem s_if {c : Expr} {th el : List Stmt} {fc : Rho → R Bool} {f g : Rho → SO} (C : PB X F G G1 c fc) (A : PBk X F G1 G' th f) (B : PBk X F G1 G' el g) : PSt X F G G' (.If c th el pos) (dIf fc f g) := by
  obtain ⟨t, ht, q⟩ := C.go
  obtain ⟨ta, ha, qa⟩ := A.go
  obtain ⟨tb, hb, qb⟩ := B.go
  refine ⟨_, ps_if ht ha hb, fun v0 σ H r c s Dn sr ok pr h => q σ H r c s _ sr ok (OutS.useX pr h fun v r1 h2 => ?_)⟩
  intro H' c1 s1 x st
  cases v with
  | true =>
    rw [if_pos rfl] at h2
    show if true = true then _ else _
    rw [if_pos rfl]
    exact qa v0 σ H' r1 c1 s1 Dn x st.ok pr (h2.shift st)
  | false =>
    rw [if_neg Bool.false_ne_true] at h2
    show if false = true then _ else _
    rw [if_neg Bool.false_ne_true]
    exact qb v0 σ H' r1 c1 s1 Dn x st.ok pr (h2.shift st)
/-- a slot filled anew -/
theorem SR.fill {K : PySem.W.Frag} {H : Hp} {r : Rho} {σ : St} {c s cr sr : Cnt} {d : D} {v : V} (x : SR K H G r σ c s) {i m : Nat} (hi : i < r.length) (rp : Rep K H m d v cr sr) :
    ∃ c2 s2, SR K H (G.set i m) (r.set i (some d)) (σ.set i (some v)) (add cr c2) (add sr s2) ∧ (∀ a, c2 a ≤ c a) ∧ ∀ a, s2 a ≤ s a := by
  obtain ⟨c2, s2, x2, hc, hs⟩ := x.del i
  have q := x2.put (by rw [List.length_set]; exact hi) (rget_set_none r i) rp
  rw [set_set] at q
  exact ⟨c2, s2, q, hc, hs⟩
theorem Pr.set {v0 : V} {σ : St} (pr : Pr F v0 σ) {i : Nat} {o : Option V} (hp : F.io = none ∨ i ≠ 0) : Pr F v0 (σ.set i o) := fun m hm => by
  rcases hp with h | h
  · rw [h] at hm; cases hm
  · rw [List.getElem?_set_ne h]
    exact pr m hm
def dSet (i : Nat) (f : Rho → R D) : Rho → SO := fun r => (f r).then fun d r1 => .nx (r1.set i (some d))
theorem lt_of_ix {N : List Str} {i : Nat} {x : Str} (h : N[i]? = some x) : i < N.length := (List.getElem?_eq_some_iff.mp h).1
/-- x = e -/
theorem s_set {f : Rho → R D} (i : Nat) {x : Str} {pos' : Pos} (nd : X.N.Nodup) (A : PV X F G G1 k e f) (hi : X.N[i]? = some x := by rfl) (hx : Loc X.env.scope x := by first | exact Or.inl rfl | exact Or.inr rfl)
    (hp : F.io = none ∨ i ≠ 0 := by first | exact Or.inl rfl | exact Or.inr (by decide)) (hl : i < G.length := by decide) (hs : swapsWith e (some (.Name x pos')) pos.line X.env = pure false := by rfl)
    (hf : X.fn x = true ∨ X.env.scope.names.lookup x = some .local := by first | exact .inl rfl | exact .inr rfl) :
    PSt X F G (G1.set i k) (.Assign [.Name x pos'] e pos) (dSet i f) := by
  obtain ⟨t, ht, q⟩ := A.go
  refine ⟨_, ps_set nd hi hx ht hs hf, fun v0 σ H r c s Dn sr ok pr h => q σ H r c s _ sr ok (OutS.useX pr h fun d r1 h2 => ?_)⟩
  intro v H' c1 s1 cr sr' x rp y
  have hlen : i < r1.length := by
    have e1 := x.lenS
    have e2 := sr.lenS
    have e3 := sr.lenG
    omega
  obtain ⟨c2, s2, x2, hc, hs2⟩ := x.fill hlen rp
  exact h2 (σ.set i (some v)) H' _ _ x2 (pr.set hp) (y.less (fun z => by have := hc z; simp only [add_at]; omega) (fun z hz => by have := hs2 z; simp only [add_at] at hz ⊢; omega))
theorem Rep.flatZ {K : PySem.W.Frag} {H H' : Hp} {n m : Nat} {d : D} {v : V} {c s : Cnt} (r : Rep K H n d v c s) (h : flat d = true) : Rep K H' m d v z0 z0 := by
  cases r <;> first | (cases h; done) | constructor
/-- x op= e, x flat ahead of it -/
def augN (i : Nat) (o : Option D) (r1 : Rho) : SO := match o with
  | some y => .nx (r1.set i (some y))
  | none => .no
def dAug (i : Nat) (g : D → D → Option D) (f : Rho → R D) : Rho → SO := fun r => match rget r i with
  | some x => if flat x = true then (f r).then fun d r1 => augN i (g x d) r1 else .no
  | none => .no
theorem s_aug {f : Rho → R D} {op : Operator} {r2 : R2} {g : D → D → Option D} (i : Nat) {x : Str} {pos' : Pos} (nd : X.N.Nodup) (A0 : PV X F G G1 k e f) (ho : OpR X (inplaceOp op) r2) (p2 : P2 X r2 0 g) (hi : X.N[i]? = some x := by rfl) (hx : Loc X.env.scope x := by first | exact Or.inl rfl | exact Or.inr rfl)
    (hp : F.io = none ∨ i ≠ 0 := by first | exact Or.inl rfl | exact Or.inr (by decide)) (hl : i < G.length := by decide)
    (hf : X.fn x = true ∨ X.env.scope.names.lookup x = some .local := by first | exact .inl rfl | exact .inr rfl) :
    PSt X F G (G1.set i 0) (.AugAssign (.Name x pos') op e pos) (dAug i g f) := by
  have A := A0.weak (Nat.zero_le k)
  obtain ⟨t, ht, q⟩ := A.go
  refine ⟨_, ps_aug (ti := r2) nd hi hx ht ho hf, fun v0 σ H r c s Dn sr ok pr h => ?_⟩
  unfold dAug at h
  cases ex : rget r i with
  | none => rw [ex] at h; exact False.elim h
  | some dx =>
    rw [ex] at h
    have h : OutS X F v0 (G1.set i 0) c s H Dn (if flat dx = true then (f r).then fun d r1 => augN i (g dx d) r1 else .no) := h
    by_cases hfl : flat dx = true
    · rw [if_pos hfl] at h
      obtain ⟨vx, c3, s3, c4, s4, ev, rpx, _, _, _⟩ := sr.out ex
      refine ⟨vx, ev, q σ H r c s _ sr ok (OutS.useX pr h fun d r1 h2 => ?_)⟩
      intro v H' c1 s1 cr sr' x rp y
      have ez := rp.zero
      subst ez
      simp only [add_z] at y
      cases eg : g dx d with
      | none => rw [eg] at h2; exact False.elim h2
      | some dy =>
        rw [eg] at h2
        have rpx0 : Rep X.K H' 0 dx vx z0 z0 := rpx.flatZ hfl
        refine p2 dx d dy eg vx v H' z0 sr' _ rpx0 rp fun w H2 cw sw rpw n => ?_
        have hlen : i < r1.length := by
          have e1 := x.lenS
          have e2 := sr.lenS
          have e3 := sr.lenG
          omega
        have x2 := x.keep (ex_kp n.keep)
        have dm := x.dom.add rp.dom
        simp only [add_z] at dm
        have y2 := y.new (s2 := s1) dm (fun z hz => by simp only [add_at]; omega) (S := add z0 sr') (fun z hz => by simp only [add_at, z_at] at hz ⊢; omega) n
        obtain ⟨c5, s5, x5, hc, hs2⟩ := x2.fill hlen rpw
        exact h2 (σ.set i (some w)) H2 _ _ x5 (pr.set hp) (y2.less (fun z => by have := hc z; simp only [add_at]; omega) (fun z hz => by have := hs2 z; simp only [add_at] at hz ⊢; omega))
    · rw [if_neg hfl] at h
      exact False.elim h
end
end VL

namespace VL
open PySem PySem.Spec L2

theorem Reps.get {K : PySem.W.Frag} {H : Hp} {n : Nat} : ∀ {ds : List D} {vs : List V} {c s : Cnt}, Reps K H n ds vs c s → ∀ {i : Nat} {d : D}, ds[i]? = some d → ∃ v ci si, vs[i]? = some v ∧ Rep K H n d v ci si ∧ (∀ a, ci a ≤ c a) ∧ ∀ a, si a ≤ s a
  | _, _, _, _, .nil, _, _, h => by simp at h
  | _, _, _, _, .cons a b, 0, d, h => by
    simp only [List.getElem?_cons_zero, Option.some.injEq] at h
    subst h
    exact ⟨_, _, _, rfl, a, fun _ => Nat.le_add_right _ _, fun _ => Nat.le_add_right _ _⟩
  | _, _, _, _, .cons a b, i + 1, d, h => by
    obtain ⟨v, ci, si, e, r, h1, h2⟩ := Reps.get b (i := i) (d := d) (by simpa using h)
    exact ⟨v, ci, si, by simpa using e, r, fun x => Nat.le_trans (h1 x) (Nat.le_add_left _ _), fun x => Nat.le_trans (h2 x) (Nat.le_add_left _ _)⟩

/-! ### what is walked -/
structure WalkOk (K : PySem.W.Frag) (J : It) (ds : List D) (sI : Cnt) (W : Hp → Prop) : Prop where
  keep : ∀ H H', W H → Kp z0 sI H H' → W H'
  dom : ∀ H, W H → Dom z0 sI H
  go : ∀ H i, W H → i < ds.length → J.go i H
  yld : ∀ H i x H' d, W H → ds[i]? = some d → J.yld i H x H' → ∃ si, Rep K H' 0 d x z0 si ∧ (∀ a, 0 < si a → 0 < sI a) ∧ ∀ a o, H a = some o → H' a = some o
  stop : ∀ H, W H → J.stop ds.length H
structure PIt (X : Cx) (F : Fx) (G G' : List Nat) (tg iter : Expr) (f : Rho → R (List D)) : Prop where
  go : ∃ wi, PI X tg iter wi ∧ ∀ σ H r c s (Rr : It → Hp → Prop), SR X.K H G r σ c s → Ok c s →
    OutX X F c s H σ (fun ds r1 => ∀ J H1 c1 s1 sI W, SR X.K H1 G' r1 σ c1 s1 → WalkOk X.K J ds sI W → W H1 → Step c s H c1 (add s1 sI) H1 → Rr J H1) (f r) → wi σ H Rr
def rngD (lo : Int) (n : Nat) : List D := (List.range n).map fun i => .int (lo + (i : Nat))
theorem rngD_len (lo : Int) (n : Nat) : (rngD lo n).length = n := by simp [rngD]
theorem rngD_get {lo : Int} {n i : Nat} {d : D} (h : (rngD lo n)[i]? = some d) : d = .int (lo + (i : Nat)) := by
  unfold rngD at h
  rw [List.getElem?_map] at h
  cases e : (List.range n)[i]? with
  | none => rw [e] at h; cases h
  | some j =>
    rw [e] at h
    have : j = i := by
      have := List.getElem?_eq_some_iff.mp e
      obtain ⟨h1, h2⟩ := this
      simpa using h2.symm
    subst this
    exact (Option.some.inj h).symm
section
variable {X : Cx} {F : Fx} {G G1 G2 G3 G4 G' : List Nat} {k k1 k2 : Nat} {e a b tg iter : Expr} {es : List Expr} {pos p : Pos} {st : Stmt} {sts : List Stmt}
def itemsL : D → Option (List D)
  | .lst ds => some ds
  | .scr ns => some (ns.map D.int)
  | _ => none
theorem SqL.scr {K : PySem.W.Frag} {H : Hp} {a : Addr} {o : Obj} {xs : List V} (h : H a = some (.frz o (.lst xs))) : SqL K H a xs := .inl (.inr ⟨o, h⟩)
theorem rep_scr {K : PySem.W.Frag} {H : Hp} {n : Nat} {ns : List Int} {v : V} {c s : Cnt} (r : Rep K H n (.scr ns) v c s) : ∃ a, v = .ref a ∧ SqL K H a (ns.map V.int) := by
  cases r with
  | scr o h => exact ⟨_, rfl, SqL.scr h⟩
  | scrK h => exact ⟨_, rfl, h H⟩
theorem rep_lst {K : PySem.W.Frag} {H : Hp} {n : Nat} {ds : List D} {v : V} {c s : Cnt} (r : Rep K H n (.lst ds) v c s) : ∃ a vs, v = .ref a ∧ H a = some (.lst vs) ∧ ∃ m c' s', Reps K H m ds vs c' s' ∧ (∀ x, c' x ≤ c x) ∧ ∀ x, s' x ≤ s x := by
  cases r with
  | lst0 h r => exact ⟨_, _, rfl, h, _, _, _, r, fun _ => Nat.le_refl _, fun _ => Nat.le_add_left _ _⟩
  | lstS h r => exact ⟨_, _, rfl, h, _, _, _, r, fun _ => Nat.le_add_left _ _, fun _ => Nat.le_refl _⟩
theorem rep_lst0 {K : PySem.W.Frag} {H : Hp} {ds : List D} {v : V} {c s : Cnt} (r : Rep K H 0 (.lst ds) v c s) : ∃ a vs s', v = .ref a ∧ H a = some (.lst vs) ∧ Reps K H 0 ds vs z0 s' ∧ s = add (one a) s' ∧ c = z0 := by
  have z := r.zero
  cases r with
  | lst0 h r => subst z; exact ⟨_, _, _, rfl, h, r, rfl, rfl⟩
theorem it_list {f : Rho → R D} (A0 : PV X F G G1 k iter f) : PIt X F G G1 tg iter (fun r => (f r).bind fun d r1 => lift (itemsL d) r1) := by
  have A := A0.weak (Nat.zero_le k)
  obtain ⟨t, ht, q⟩ := A.go
  refine ⟨_, pi_list ht, fun σ H r c s Rr sr ok h => q σ H r c s _ sr ok (h.bind1.mono fun d r1 h2 => ?_)⟩
  obtain ⟨ds, hd, h2⟩ := h2
  intro v H1 c1 s1 cr sI x rp st
  have z := rp.zero
  subst z
  simp only [add_z] at st
  cases d with
  | lst ds' =>
    cases hd
    obtain ⟨a, vs, s', rfl, ha, rs, _, _⟩ := rep_lst0 rp
    refine ⟨a, rfl, ⟨vs, SqL.of ha⟩, h2 _ H1 c1 s1 sI (fun H => Rep X.K H 0 (.lst ds) (.ref a) z0 sI) x ⟨fun H H' w k => w.keep k, fun H w => w.dom, fun H i w hi => ?_, fun H i y H' d w hd hy => ?_, fun H w => ?_⟩ rp st⟩
    · obtain ⟨a', vs', s2, e, ha', rs', _, _⟩ := rep_lst0 w
      cases e
      have hl := rs'.length
      exact ⟨vs', vs'[i], SqL.of ha', by simp [← hl, hi]⟩
    · obtain ⟨a', vs', s2, e, ha', rs', es, _⟩ := rep_lst0 w
      cases e
      obtain ⟨u, ci, si, eu, ru, h1, h3⟩ := rs'.get hd
      obtain ⟨rfl, hy⟩ := hy
      have e2 := hy vs' (SqL.of ha')
      rw [eu] at e2
      cases e2
      have zz := ru.zero
      subst zz
      refine ⟨si, ru, fun z hz => ?_, fun _ _ h => h⟩
      rw [es]
      have := h3 z
      simp only [add_at]
      omega
    · obtain ⟨a', vs', s2, e, ha', rs', _, _⟩ := rep_lst0 w
      cases e
      exact ⟨vs', SqL.of ha', by rw [rs'.length]; exact Nat.le_refl _⟩
  | scr ns =>
    cases hd
    obtain ⟨a, rfl, hq⟩ := rep_scr rp
    refine ⟨a, rfl, ⟨_, hq⟩, h2 _ H1 c1 s1 sI (fun H => Rep X.K H 0 (.scr ns) (.ref a) z0 sI) x ⟨fun H H' w k => w.keep k, fun H w => w.dom, fun H i w hi => ?_, fun H i y H' d w hd hy => ?_, fun H w => ?_⟩ rp st⟩
    · obtain ⟨a', e, hq'⟩ := rep_scr w
      cases e
      rw [List.length_map] at hi
      exact ⟨_, .int (ns[i]'hi), hq', by rw [List.getElem?_map, List.getElem?_eq_getElem hi]; rfl⟩
    · obtain ⟨a', e, hq'⟩ := rep_scr w
      cases e
      obtain ⟨rfl, hy⟩ := hy
      have e2 := hy _ hq'
      rw [List.getElem?_map] at hd e2
      cases e3 : ns[i]? with
      | none => rw [e3] at hd; cases hd
      | some m =>
        rw [e3] at hd e2
        cases hd
        cases e2
        exact ⟨z0, .int m, fun z hz => absurd hz (Nat.lt_irrefl 0), fun _ _ h => h⟩
    · obtain ⟨a', e, hq'⟩ := rep_scr w
      cases e
      exact ⟨_, hq', by rw [List.length_map, List.length_map]; exact Nat.le_refl _⟩
  | _ => cases hd
theorem rep_tup {K : PySem.W.Frag} {H : Hp} {n : Nat} {ds : List D} {v : V} {c s : Cnt} (r : Rep K H n (.tup ds) v c s) : ∃ a vs, v = .ref a ∧ H a = some (.tup vs) ∧ Reps K H n ds vs c s := by
  cases r with
  | tup h r => exact ⟨_, _, rfl, h, r⟩
def itemsT : D → Option (List D)
  | .tup ds => some ds
  | _ => none
theorem it_tup {f : Rho → R D} (A0 : PV X F G G1 k iter f) : PIt X F G G1 tg iter (fun r => (f r).bind fun d r1 => lift (itemsT d) r1) := by
  have A := A0.weak (Nat.zero_le k)
  obtain ⟨t, ht, q⟩ := A.go
  refine ⟨_, pi_tup ht, fun σ H r c s Rr sr ok h => q σ H r c s _ sr ok (h.bind1.mono fun d r1 h2 => ?_)⟩
  obtain ⟨ds, hd, h2⟩ := h2
  intro v H1 c1 s1 cr sI x rp st
  have z := rp.zero
  subst z
  simp only [add_z] at st
  cases d with
  | tup ds' =>
    cases hd
    obtain ⟨a, vs, rfl, ha, rs⟩ := rep_tup rp
    refine ⟨a, rfl, ⟨vs, SqT.of ha⟩, h2 _ H1 c1 s1 sI (fun H => Rep X.K H 0 (.tup ds) (.ref a) z0 sI) x ⟨fun H H' w k => w.keep k, fun H w => w.dom, fun H i w hi => ?_, fun H i y H' d w hd hy => ?_, fun H w => ?_⟩ rp st⟩
    · obtain ⟨a', vs', e, ha', rs'⟩ := rep_tup w
      cases e
      have hl := rs'.length
      exact ⟨vs', vs'[i], SqT.of ha', by simp [← hl, hi]⟩
    · obtain ⟨a', vs', e, ha', rs'⟩ := rep_tup w
      cases e
      obtain ⟨u, ci, si, eu, ru, h1, h3⟩ := rs'.get hd
      obtain ⟨rfl, hy⟩ := hy
      have e2 := hy vs' (SqT.of ha')
      rw [eu] at e2
      cases e2
      have zz := ru.zero
      subst zz
      exact ⟨si, ru, fun z hz => Nat.lt_of_lt_of_le hz (h3 z), fun _ _ h => h⟩
    · obtain ⟨a', vs', e, ha', rs'⟩ := rep_tup w
      cases e
      exact ⟨vs', SqT.of ha', by rw [rs'.length]; exact Nat.le_refl _⟩
  | _ => cases hd
/-- range(j) -/
def rng1 : List D → Option (List D)
  | [.int j] => if -4611686018427387904 ≤ j ∧ j < 4611686018427387904 then some (rngD 0 j.toNat) else none
  | _ => none
def rng2 : List D → Option (List D)
  | [.int i, .int j] => if (-4611686018427387904 ≤ i ∧ i < 4611686018427387904) ∧ (-4611686018427387904 ≤ j ∧ j < 4611686018427387904) then some (rngD i (j - i).toNat) else none
  | _ => none
theorem walk_rng (K : PySem.W.Frag) (lo : Int) (n : Nat) : WalkOk K (Itr lo n) (rngD lo n) z0 (fun _ => True) :=
  ⟨fun _ _ _ _ => trivial, fun _ _ => .z, fun H i _ hi => by rw [rngD_len] at hi; exact hi, fun H i x H' d _ hd hy => by
    obtain ⟨rfl, rfl⟩ := hy
    have e := rngD_get hd
    subst e
    exact ⟨z0, .int _, fun z hz => absurd hz (Nat.lt_irrefl 0), fun _ _ h => h⟩, fun H _ => by show n ≤ _; rw [rngD_len]; exact Nat.le_refl _⟩
theorem it_range1 {f : Rho → R (List D)} (A0 : PL X F G G1 k [a] f) (hg : Gl X "range") (hm : X.mg "range" = none) (hs : starEach [a] X.env = [(false, eval a X.env)] := by rfl) :
    PIt X F G G1 tg (.Call (.Name "range" p) [a] [] pos) (fun r => (f r).bind fun ds r1 => lift (rng1 ds) r1) := by
  obtain ⟨t, ht, q⟩ := (l_weak A0).go
  refine ⟨_, pi_range1 hg hm ht hs, fun σ H r c s Rr sr ok h => q σ H r c s _ sr ok (h.bind1.mono fun ds r1 h2 => ?_)⟩
  obtain ⟨is, hd, h2⟩ := h2
  intro vs H1 c1 s1 cr sI x rp st
  unfold rng1 at hd
  split at hd
  · rename_i j
    split at hd
    · rename_i hj
      cases hd
      cases rp with
      | cons r1 r2 =>
        cases r1
        cases r2
        simp only [add_z] at st
        exact ⟨j, rfl, by omega, by omega, h2 _ H1 c1 s1 z0 _ x (walk_rng X.K 0 j.toNat) trivial (by rw [add_z]; exact st)⟩
    · cases hd
  · cases hd
end
end VL

namespace VL
open PySem PySem.Spec L2
section
variable {X : Cx} {F : Fx} {G G1 G2 G3 G4 G' Gt Gn : List Nat} {k k1 k2 : Nat} {e a b tg iter : Expr} {es : List Expr} {pos p : Pos} {st : Stmt} {sts : List Stmt}
theorem it_range2 {f : Rho → R (List D)} (A0 : PL X F G G1 k [a, b] f) (hg : Gl X "range") (hm : X.mg "range" = none) (hs : starEach [a, b] X.env = [(false, eval a X.env), (false, eval b X.env)] := by rfl) (hs2 : starEach [b] X.env = [(false, eval b X.env)] := by rfl) :
    PIt X F G G1 tg (.Call (.Name "range" p) [a, b] [] pos) (fun r => (f r).bind fun ds r1 => lift (rng2 ds) r1) := by
  obtain ⟨t, ht, q⟩ := (l_weak A0).go
  refine ⟨_, pi_range2 hg hm ht hs hs2, fun σ H r c s Rr sr ok h => q σ H r c s _ sr ok (h.bind1.mono fun ds r1 h2 => ?_)⟩
  obtain ⟨is, hd, h2⟩ := h2
  intro vs H1 c1 s1 cr sI x rp st
  unfold rng2 at hd
  split at hd
  · rename_i i j
    split at hd
    · rename_i hj
      cases hd
      cases rp with
      | cons r1 r2 =>
        cases r1
        cases r2 with
        | cons r2 r3 =>
          cases r2
          cases r3
          simp only [add_z] at st
          exact ⟨i, j, rfl, by omega, h2 _ H1 c1 s1 z0 _ x (walk_rng X.K i (j - i).toNat) trivial (by rw [add_z]; exact st)⟩
    · cases hd
  · cases hd
/-! ### targets -/
structure PTg (X : Cx) (F : Fx) (G G' : List Nat) (tg : Expr) (g : D → Rho → Option Rho) : Prop where
  go : ∃ t, PG X tg t ∧ ∀ v0 σ H r c s d x sx Q r1, SR X.K H G r σ c s → Ok c (add s sx) → Rep X.K H 0 d x z0 sx → Pr F v0 σ → g d r = some r1 →
    (∀ σ' c' s', SR X.K H G' r1 σ' c' s' → Pr F v0 σ' → Step c (add s sx) H c' s' H → Q σ' H) → t x σ H Q
structure PTgs (X : Cx) (F : Fx) (G G' : List Nat) (tgs : List Expr) (g : List D → Rho → Option Rho) : Prop where
  go : ∃ t, PGs X tgs t ∧ ∀ v0 σ H r c s ds xs sx Q r1, SR X.K H G r σ c s → Ok c (add s sx) → Reps X.K H 0 ds xs z0 sx → Pr F v0 σ → g ds r = some r1 →
    (∀ σ' c' s', SR X.K H G' r1 σ' c' s' → Pr F v0 σ' → Step c (add s sx) H c' s' H → Q σ' H) → t xs σ H Q
def gSet (i : Nat) : D → Rho → Option Rho := fun d r => some (r.set i (some d))
theorem g_name (i : Nat) {x : Str} (nd : X.N.Nodup) (hi : X.N[i]? = some x := by rfl) (hx : Loc X.env.scope x := by first | exact Or.inl rfl | exact Or.inr rfl) (hp : F.io = none ∨ i ≠ 0 := by first | exact Or.inl rfl | exact Or.inr (by decide)) (hl : i < G.length := by decide)
    (hf : X.fn x = true ∨ X.env.scope.names.lookup x = some .local := by first | exact .inl rfl | exact .inr rfl) : PTg X F G (G.set i 0) (.Name x pos) (gSet i) := by
  refine ⟨_, pg_name nd hi hx hf, fun v0 σ H r c s d x sx Q r1 sr ok rp pr hg h => ?_⟩
  cases hg
  have hlen : i < r.length := by
    have e3 := sr.lenG
    omega
  obtain ⟨c2, s2, x2, hc, hs2⟩ := sr.fill hlen rp
  refine h (σ.set i (some x)) _ _ x2 (pr.set hp) ((Step.refl ok).less (fun z => by have := hc z; simp only [add_at, z_at]; omega) (fun z hz => by have := hs2 z; simp only [add_at] at hz ⊢; omega))
theorem Reps.inv0 {K : PySem.W.Frag} {H : Hp} {n : Nat} {vs : List V} {c s : Cnt} (r : Reps K H n [] vs c s) : vs = [] ∧ c = z0 ∧ s = z0 := by
  cases r with
  | nil => exact ⟨rfl, rfl, rfl⟩
theorem Reps.inv1 {K : PySem.W.Frag} {H : Hp} {n : Nat} {d : D} {ds : List D} {vs : List V} {c s : Cnt} (r : Reps K H n (d :: ds) vs c s) : ∃ v vs' c1 s1 c2 s2, vs = v :: vs' ∧ Rep K H n d v c1 s1 ∧ Reps K H n ds vs' c2 s2 ∧ c = add c1 c2 ∧ s = add s1 s2 := by
  cases r with
  | cons a b => exact ⟨_, _, _, _, _, _, rfl, a, b, rfl, rfl⟩
def gNil' : List D → Rho → Option Rho := fun ds r => match ds with | [] => some r | _ => none
theorem gs_nil : PTgs X F G G [] gNil' := by
  refine ⟨_, pgs_nil, fun v0 σ H r c s ds xs sx Q r1 sr ok rp pr hg h => ?_⟩
  cases ds with
  | nil =>
    cases hg
    obtain ⟨rfl, _, rfl⟩ := rp.inv0
    exact ⟨rfl, h σ c s sr pr (by rw [add_z]; exact .refl (by rw [add_z] at ok; exact ok))⟩
  | cons a b => cases hg
def gCons' (g : D → Rho → Option Rho) (gs : List D → Rho → Option Rho) : List D → Rho → Option Rho := fun ds r => match ds with
  | d :: ds => (g d r).bind fun r1 => gs ds r1
  | [] => none
theorem gs_cons {g : D → Rho → Option Rho} {gs : List D → Rho → Option Rho} (A : PTg X F G G1 e g) (B : PTgs X F G1 G2 es gs) (hs : (assignEach (e :: es) X.env).map (·.2) = assign e X.env :: (assignEach es X.env).map (·.2) := by rfl) :
    PTgs X F G G2 (e :: es) (gCons' g gs) := by
  obtain ⟨t, ht, q⟩ := A.go
  obtain ⟨u, hu, q2⟩ := B.go
  refine ⟨_, pgs_cons ht hu hs, fun v0 σ H r c s ds xs sx Q r1 sr ok rp pr hg h => ?_⟩
  cases ds with
  | nil => cases hg
  | cons d ds =>
    obtain ⟨v, vs, ca, sa, cb, sb, rfl, ra, rb, _, rfl⟩ := rp.inv1
    have za := ra.zero; have zb := rb.zero
    have ra0 : Rep X.K H 0 d v z0 sa := by rw [za] at ra; exact ra
    have rb0 : Reps X.K H 0 ds vs z0 sb := by rw [zb] at rb; exact rb
    unfold gCons' at hg
    cases e1 : g d r with
    | none => simp only [e1] at hg; cases hg
    | some r2 =>
      simp only [e1, Option.bind_some] at hg
      refine ⟨v, vs, rfl, q v0 σ H r c s d v sa _ r2 sr (fun z => by have := ok z; simp only [add_at] at this ⊢; omega) ra0 pr e1 fun σ' c' s' sr' pr' st => ?_⟩
      have st2 : Step c (add s (add sa sb)) H c' (add s' sb) H := by
        have hf : Ok (add c z0) (add (add s sa) sb) := by rw [add_z, add_assoc']; exact ok
        have q := st.frame (cf := z0) (sf := sb) hf rb0.dom
        rw [add_z, add_z, add_assoc'] at q
        exact q
      exact q2 v0 σ' H r2 c' s' ds vs sb Q r1 sr' st2.ok rb0 pr' hg fun σ2 c2 s2 sr2 pr2 st3 => h σ2 c2 s2 sr2 pr2 (st2.trans st3)
theorem g_tup {kk : Nat} {gs : List D → Rho → Option Rho} {n : Nat} (hc : X.calm = true) (A : PTgs X F G G1 es gs) (hn : (assignEach es X.env).length = n := by rfl) (hst : (assignEach es X.env).findIdx? (·.1) = none := by rfl) :
    PTg X F G G1 (.Tuple es kk pos) (fun d r => match d with | .tup ds => if ds.length = n then gs ds r else none | _ => none) := by
  obtain ⟨t, ht, q⟩ := A.go
  refine ⟨_, pg_tup hc ht hn hst, fun v0 σ H r c s d x sx Q r1 sr ok rp pr hg h => ?_⟩
  cases d with
  | tup ds =>
    obtain ⟨a, vs, rfl, ha, rs⟩ := rep_tup rp
    have hg : (if ds.length = n then gs ds r else none) = some r1 := hg
    by_cases hl : ds.length = n
    · rw [if_pos hl] at hg
      exact ⟨a, vs, rfl, SqT.of ha, by rw [← rs.length]; exact hl, q v0 σ H r c s ds vs sx Q r1 sr ok rs pr hg h⟩
    · rw [if_neg hl] at hg
      cases hg
  | _ => cases hg
/-- a, b = e (a tuple) -/
theorem s_asg {f : Rho → R D} {g : D → Rho → Option Rho} (A0 : PV X F G G1 k e f) (T : PTg X F G1 G2 tg g) (hs : swapsWithSole [tg] e pos.line X.env = pure false := by rfl) (hw : swappedStores [tg] e X.env = pure none := by rfl)
    (h1 : (assignEach [tg] X.env).map (·.2) = [assign tg X.env] := by rfl) : PSt X F G G2 (.Assign [tg] e pos) (fun r => (f r).then fun d r1 => match g d r1 with | some r2 => .nx r2 | none => .no) := by
  obtain ⟨t, ht, q⟩ := (A0.weak (Nat.zero_le k)).go
  obtain ⟨u, hu, q2⟩ := T.go
  refine ⟨_, ps_asg ht hu hs hw h1, fun v0 σ H r c s Dn sr ok pr h => q σ H r c s _ sr ok (OutS.useX pr h fun d r1 h2 => ?_)⟩
  intro v H' c1 s1 cr sr' x rp y
  have z := rp.zero
  subst z
  simp only [add_z] at y
  cases eg : g d r1 with
  | none => simp only [eg] at h2; exact False.elim h2
  | some r2 =>
    simp only [eg] at h2
    exact q2 v0 σ H' r1 c1 s1 d v sr' _ r2 x y.ok rp pr eg fun σ' c' s' sr2 pr2 st => h2 σ' H' c' s' sr2 pr2 (y.trans st)

/-! ### loops -/
def loopD (g : D → Rho → Option Rho) (b : Rho → SO) : List D → Rho → SO
  | [], r => .nx r
  | d :: ds, r => match g d r with
    | none => .no
    | some r1 => match b r1 with
      | .nx r2 => loopD g b ds r2
      | .ct r2 => loopD g b ds r2
      | .bk r2 => .nx r2
      | o => o
theorem Step.dup {c s c1 s1 si sI : Cnt} {H H1 : Hp} (x : Step c s H c1 (add s1 sI) H1) (h : ∀ a, 0 < si a → 0 < sI a) : Step c s H c1 (add (add s1 si) sI) H1 :=
  ⟨x.own, fun a ha => x.sh a (by have := h a; simp only [add_at] at ha ⊢; omega), x.keep, x.dom, fun a => by have h1 := x.ok a; have h2 := h a; simp only [add_at] at h1 ⊢; omega⟩
theorem Step.ext {c s c1 s1 : Cnt} {H H1 H2 : Hp} (x : Step c s H c1 s1 H1) (k : ∀ a o, H1 a = some o → H2 a = some o) : Step c s H c1 s1 H2 :=
  ⟨x.own, x.sh, fun a o e h => k a o (x.keep a o e h), fun a h => (by
    have q := x.dom a h
    cases e : H1 a with
    | none => exact absurd e q
    | some o => rw [k a o e]; exact fun z => nomatch z), x.ok⟩
abbrev Fx.at (F : Fx) (Gb Gc : List Nat) : Fx := { F with Gb := Gb, Gc := Gc }
/-- for tg in iter: body; G2: the masks ahead of each turn -/
theorem s_for (G2 : List Nat) {body : List Stmt} {fi : Rho → R (List D)} {g : D → Rho → Option Rho} {b : Rho → SO} (hp : PassesOwn (model X.prog X.w) X.A X.env X.xe) (hc : X.calm = true) (I : PIt X F G G1 tg iter fi) (T : PTg X F G2 Gt tg g) (B : PBk X (F.at G2 G2) Gt Gn body b)
    (h1 : leG G2 G1 = true := by rfl) (h2 : leG G2 Gn = true := by rfl) (hs : ∀ x, foldedSetIterable iter X.env x = pure x := by intro _; rfl) :
    PSt X F G G2 (.For tg iter body [] pos) (fun r => (fi r).then fun ds r1 => loopD g b ds r1) := by
  obtain ⟨wi, hwi, qi⟩ := I.go
  obtain ⟨tt, htt, qt⟩ := T.go
  obtain ⟨tb, htb, qb⟩ := B.go
  refine ⟨_, ps_for hp hc hwi htt htb hs, fun v0 σ H r c s Dn sr ok pr h => qi σ H r c s _ sr ok (OutS.useX pr h fun ds r1 h3 => ?_)⟩
  intro J H1 c1 s1 sI W x wk w1 st
  refine ⟨fun i m σ' H' => m = ds.length - i ∧ i ≤ ds.length ∧ ∃ r' c' s', SR X.K H' G2 r' σ' c' s' ∧ W H' ∧ Pr F v0 σ' ∧ Step c s H c' (add s' sI) H' ∧ OutS X F v0 G2 c s H Dn (loopD g b (ds.drop i) r'), ?_, ?_⟩
  · obtain ⟨c', s', x', w⟩ := x.wk (LeG.of h1)
    exact ⟨ds.length, by simp, Nat.zero_le _, r1, c', s', x', w1, pr, st.wk (by have q := w.add (Wk.refl z0 sI); rw [add_z, add_z] at q; exact q), h3⟩
  · rintro i m σ' H' ⟨rfl, hi, r', c', s', x', w', pr', st', o⟩
    by_cases hlt : i < ds.length
    · have hd : ds[i]? = some ds[i] := List.getElem?_eq_getElem hlt
      rw [List.drop_eq_getElem_cons hlt] at o
      unfold loopD at o
      cases eg : g ds[i] r' with
      | none => simp only [eg] at o; exact False.elim o
      | some r2 =>
        simp only [eg] at o
        refine .inr ⟨wk.go H' i w' hlt, fun σ' H' => ∃ r' c' s', SR X.K H' G2 r' σ' c' s' ∧ W H' ∧ Pr F v0 σ' ∧ Step c s H c' (add s' sI) H' ∧ OutS X F v0 G2 c s H Dn (loopD g b (ds.drop (i + 1)) r'), fun σ2 H2 hN => ⟨ds.length - (i + 1), by omega, rfl, hlt, hN⟩, fun y H2 hy => ?_⟩
        obtain ⟨si, ry, hsi, hk⟩ := wk.yld H' i y H2 ds[i] w' hd hy
        have x2 := x'.keep (ex_kp hk)
        have w2 := wk.keep H' H2 w' (ex_kp hk)
        have st2 := (st'.ext hk).dup hsi
        have okk : Ok c' (add s' si) := fun z => by have := st2.ok z; simp only [add_at] at this ⊢; omega
        refine qt v0 σ' H2 r' c' s' ds[i] y si _ r2 x2 okk ry pr' eg fun σ3 c3 s3 x3 pr3 st3 => ?_
        have fr := fun {c4 s4 H4} (z : Step c3 s3 H2 c4 s4 H4) => ((st3.trans z).frame (cf := z0) (sf := sI) (by rw [add_z]; exact st2.ok) (wk.dom H2 w2))
        simp only [add_z] at fr
        have aside : ∀ {c4 s4 H4}, Step c3 s3 H2 c4 s4 H4 → Kp z0 sI H2 H4 := fun {c4 s4 H4} z => (st3.trans z).aside (cf := z0) (sf := sI) (by rw [add_z]; exact st2.ok)
        have again : ∀ {σ4 H4 c4 s4 r4}, SR X.K H4 G2 r4 σ4 c4 s4 → Pr F v0 σ4 → Step c3 s3 H2 c4 s4 H4 → OutS X F v0 G2 c s H Dn (loopD g b (ds.drop (i + 1)) r4) →
            ∃ r' c' s', SR X.K H4 G2 r' σ4 c' s' ∧ W H4 ∧ Pr F v0 σ4 ∧ Step c s H c' (add s' sI) H4 ∧ OutS X F v0 G2 c s H Dn (loopD g b (ds.drop (i + 1)) r') := fun {σ4 H4 c4 s4 r4} sr4 pr4 z o4 =>
          ⟨r4, c4, s4, sr4, wk.keep H2 H4 w2 (aside z), pr4, st2.trans (fr z), o4⟩
        have back : ∀ {c4 s4 H4}, Step c3 s3 H2 c4 s4 H4 → Step c s H c4 s4 H4 := fun {c4 s4 H4} z => (st2.trans (fr z)).less (fun _ => Nat.le_refl _) (fun a ha => by simp only [add_at]; omega)
        refine qb v0 σ3 H2 r2 c3 s3 _ x3 st3.ok pr3 ?_
        cases eb : b r2 with
        | nx r3 =>
          simp only [eb] at o
          intro σ4 H4 c4 s4 sr4 pr4 z
          obtain ⟨c5, s5, sr5, w5⟩ := sr4.wk (LeG.of h2)
          exact again sr5 pr4 (z.wk w5) o
        | ct r3 =>
          simp only [eb] at o
          exact fun σ4 H4 c4 s4 sr4 pr4 z => again sr4 pr4 z o
        | bk r3 =>
          simp only [eb] at o
          exact fun σ4 H4 c4 s4 sr4 pr4 z => o σ4 H4 c4 s4 sr4 pr4 (back z)
        | rt d r3 =>
          simp only [eb] at o
          exact fun v H4 cr sr c0 s0 rp i z => o v H4 cr sr c0 s0 rp i (back z)
        | ex n d r3 =>
          simp only [eb] at o
          exact fun cls dx σ4 H4 G4 c4 s4 e gg sr4 pr4 z => o cls dx σ4 H4 G4 c4 s4 e gg sr4 pr4 (back z)
        | no =>
          simp only [eb] at o
          exact False.elim o
    · obtain rfl : i = ds.length := by omega
      rw [List.drop_length] at o
      exact .inl ⟨wk.stop H' w', o σ' H' c' s' x' pr' (st'.less (fun _ => Nat.le_refl _) (fun a ha => by simp only [add_at]; omega))⟩
/-! ### while -/
def whileD (c : Rho → R Bool) (b : Rho → SO) : Nat → Rho → SO
  | 0, _ => .no
  | n + 1, r => (c r).then fun t r1 => if t = true then (match b r1 with
      | .nx r2 => whileD c b n r2
      | .ct r2 => whileD c b n r2
      | .bk r2 => .nx r2
      | o => o) else .nx r1
/-- while c: body; at most n turns -/
theorem s_while (n : Nat) {c : Expr} {body : List Stmt} {fc : Rho → R Bool} {b : Rho → SO} (hp : PassesOwn (model X.prog X.w) X.A X.env X.xe) (C : PB X F G G1 c fc) (B : PBk X (F.at G1 G) G1 Gn body b) (h2 : leG G Gn = true := by rfl) :
    PSt X F G G1 (.While c body [] pos) (whileD fc b n) := by
  obtain ⟨tc, htc, qc⟩ := C.go
  obtain ⟨tb, htb, qb⟩ := B.go
  refine ⟨_, ps_while hp htc htb, fun v0 σ H r cc s Dn sr ok pr h => ?_⟩
  refine ⟨fun m σ' H' => ∃ r' c' s', SR X.K H' G r' σ' c' s' ∧ Pr F v0 σ' ∧ Step cc s H c' s' H' ∧ OutS X F v0 G1 cc s H Dn (whileD fc b m r'), ⟨n, r, cc, s, sr, pr, .refl ok, h⟩, ?_⟩
  rintro m σ' H' ⟨r', c', s', x', pr', st', o⟩
  cases m with
  | zero => exact False.elim o
  | succ m =>
    unfold whileD at o
    cases ef : fc r' with
    | no => simp only [ef, R.then_no] at o; exact False.elim o
    | ex nn d r1 =>
      simp only [ef, R.then_ex] at o
      refine qc σ' H' r' c' s' _ x' st'.ok ?_
      rw [ef]
      exact fun cls dx H4 G4 c4 s4 e gg sr4 z => o cls dx σ' H4 G4 c4 s4 e gg sr4 pr' (st'.trans z)
    | ok t r1 =>
      simp only [ef, R.then_ok] at o
      refine qc σ' H' r' c' s' _ x' st'.ok ?_
      rw [ef]
      intro H1 c1 s1 x1 st1
      cases t with
      | false =>
        rw [if_neg Bool.false_ne_true] at o
        rw [if_neg Bool.false_ne_true]
        exact o σ' H1 c1 s1 x1 pr' (st'.trans st1)
      | true =>
        rw [if_pos rfl] at o
        rw [if_pos rfl]
        refine ⟨fun σ' H' => ∃ r' c' s', SR X.K H' G r' σ' c' s' ∧ Pr F v0 σ' ∧ Step cc s H c' s' H' ∧ OutS X F v0 G1 cc s H Dn (whileD fc b m r'), fun σ2 H2 hN => ⟨m, Nat.lt_succ_self m, hN⟩, ?_⟩
        refine qb v0 σ' H1 r1 c1 s1 _ x1 st1.ok pr' ?_
        have back : ∀ {c4 s4 H4}, Step c1 s1 H1 c4 s4 H4 → Step cc s H c4 s4 H4 := fun {c4 s4 H4} z => st'.trans (st1.trans z)
        cases eb : b r1 with
        | nx r3 =>
          simp only [eb] at o
          intro σ4 H4 c4 s4 sr4 pr4 z
          obtain ⟨c5, s5, sr5, w5⟩ := sr4.wk (LeG.of h2)
          exact ⟨r3, c5, s5, sr5, pr4, (back z).wk w5, o⟩
        | ct r3 =>
          simp only [eb] at o
          exact fun σ4 H4 c4 s4 sr4 pr4 z => ⟨r3, c4, s4, sr4, pr4, back z, o⟩
        | bk r3 =>
          simp only [eb] at o
          exact fun σ4 H4 c4 s4 sr4 pr4 z => o σ4 H4 c4 s4 sr4 pr4 (back z)
        | rt d r3 =>
          simp only [eb] at o
          exact fun v H4 cr sr c0 s0 rp i z => o v H4 cr sr c0 s0 rp i (back z)
        | ex nn d r3 =>
          simp only [eb] at o
          exact fun cls dx σ4 H4 G4 c4 s4 e gg sr4 pr4 z => o cls dx σ4 H4 G4 c4 s4 e gg sr4 pr4 (back z)
        | no =>
          simp only [eb] at o
          exact False.elim o
end
end VL

namespace VL
open PySem PySem.Spec L2
def wipeR (r : Rho) : List Nat → Rho
  | [] => r
  | v :: vs => (wipeR r vs).set v none
section
variable {X : Cx} {F : Fx} {G G1 G2 G3 G4 G' Gt Gs Gn : List Nat} {k k1 k2 : Nat} {e a b tg iter elt : Expr} {es ifs : List Expr} {pos p : Pos} {st : Stmt} {sts : List Stmt}
theorem SR.delS {K : PySem.W.Frag} {H : Hp} : ∀ {G r σ c s}, SR K H G r σ c s → ∀ (i : Nat) (o : Option V), ∃ c2 s2, SR K H G (r.set i none) (σ.set i o) c2 s2 ∧ (∀ a, c2 a ≤ c a) ∧ ∀ a, s2 a ≤ s a
  | _, _, _, _, _, .nil, _, _ => ⟨_, _, .nil, fun _ => Nat.le_refl _, fun _ => Nat.le_refl _⟩
  | _, _, _, _, _, .no x, 0, _ => ⟨_, _, .no x, fun _ => Nat.le_refl _, fun _ => Nat.le_refl _⟩
  | _, _, _, _, _, .no x, i + 1, o =>
    let ⟨_, _, x', e1, e2⟩ := SR.delS x i o
    ⟨_, _, .no x', e1, e2⟩
  | _, _, _, _, _, .yes a x, 0, _ => ⟨_, _, .no x, fun _ => Nat.le_add_left _ _, fun _ => Nat.le_add_left _ _⟩
  | _, _, _, _, _, .yes a x, i + 1, o =>
    let ⟨_, _, x', e1, e2⟩ := SR.delS x i o
    ⟨_, _, .yes a x', fun b => Nat.add_le_add_left (e1 b) _, fun b => Nat.add_le_add_left (e2 b) _⟩
theorem SR.wipe {K : PySem.W.Frag} {H : Hp} {G r σ c s} (x : SR K H G r σ c s) : ∀ vs : List Nat, ∃ c2 s2, SR K H G (wipeR r vs) (L2.wipe σ vs) c2 s2 ∧ (∀ a, c2 a ≤ c a) ∧ ∀ a, s2 a ≤ s a
  | [] => ⟨c, s, x, fun _ => Nat.le_refl _, fun _ => Nat.le_refl _⟩
  | v :: vs =>
    let ⟨_, _, x1, h1, h2⟩ := SR.wipe x vs
    let ⟨_, _, x2, h3, h4⟩ := x1.delS v none
    ⟨_, _, x2, fun a => Nat.le_trans (h3 a) (h1 a), fun a => Nat.le_trans (h4 a) (h2 a)⟩
theorem SR.swap {K : PySem.W.Frag} {H : Hp} : ∀ {G r σ c s}, SR K H G r σ c s → ∀ {σ' : St}, σ'.length = σ.length → (∀ i, rget r i ≠ none → σ'[i]? = σ[i]?) → SR K H G r σ' c s
  | _, _, _, _, _, .nil, [], _, _ => .nil
  | _, _, _, _, _, .nil, _ :: _, h, _ => by cases h
  | _, _, _, _, _, .no x, [], h, _ => by cases h
  | _, _, _, _, _, .no x, _ :: _, h, g => .no (SR.swap x (Nat.succ.inj h) fun i hi => by simpa using g (i + 1) hi)
  | _, _, _, _, _, .yes a x, [], h, _ => by cases h
  | _, _, _, _, _, .yes a x, o :: _, h, g => by
    have e := g 0 (fun z => by cases z)
    simp only [List.getElem?_cons_zero, Option.some.injEq] at e
    subst e
    exact .yes a (SR.swap x (Nat.succ.inj h) fun i hi => by simpa using g (i + 1) hi)
theorem wipeR_none (r : Rho) : ∀ (vs : List Nat) (i : Nat), i ∈ vs → rget (wipeR r vs) i = none
  | v :: vs, i, h => by
    unfold wipeR
    by_cases e : i = v
    · subst e; exact rget_set_none _ _
    · have h' : i ∈ vs := by
        rcases List.mem_cons.mp h with h | h
        · exact absurd h e
        · exact h
      have q := wipeR_none r vs i h'
      have sn : ∀ (r : Rho) (i v : Nat), i ≠ v → rget (r.set v none) i = rget r i := by
        intro r
        induction r with
        | nil => intro i v _; rfl
        | cons o r ih =>
          intro i v hne
          cases v with
          | zero =>
            cases i with
            | zero => exact absurd rfl hne
            | succ i => rfl
          | succ v =>
            cases i with
            | zero => rfl
            | succ i => exact ih i v (fun z => hne (by rw [z]))
      rw [sn _ _ _ e]
      exact q
theorem wipe_else (σ : St) : ∀ (vs : List Nat) (i : Nat), i ∉ vs → (L2.wipe σ vs)[i]? = σ[i]?
  | [], i, _ => rfl
  | v :: vs, i, h => by
    unfold L2.wipe
    rw [List.getElem?_set_ne (fun z => h (by rw [z]; exact List.mem_cons_self))]
    exact wipe_else σ vs i fun z => h (List.mem_cons_of_mem _ z)
theorem SR.unwipe {K : PySem.W.Frag} {H : Hp} {r : Rho} {σ : St} {vs : List Nat} {c s : Cnt} (x : SR K H G (wipeR r vs) (L2.wipe σ vs) c s) : SR K H G (wipeR r vs) σ c s := by
  refine x.swap (wipe_length σ vs).symm fun i hi => (wipe_else σ vs i fun z => hi (wipeR_none r vs i z)).symm
theorem wipe_at (σ : St) : ∀ (vs : List Nat) (i : Nat), (L2.wipe σ vs)[i]? = if i ∈ vs then (if i < σ.length then some none else none) else σ[i]?
  | [], i => by rw [if_neg (fun h => by cases h)]; rfl
  | v :: vs, i => by
    show ((L2.wipe σ vs).set v none)[i]? = _
    by_cases hv : v = i
    · subst hv
      rw [if_pos List.mem_cons_self]
      by_cases hl : v < σ.length
      · rw [List.getElem?_set_self (by rw [wipe_length]; exact hl), if_pos hl]
      · rw [List.getElem?_eq_none (by rw [List.length_set, wipe_length]; omega), if_neg hl]
    · rw [List.getElem?_set_ne hv, wipe_at σ vs i]
      by_cases hm : i ∈ vs
      · rw [if_pos hm, if_pos (List.mem_cons_of_mem _ hm)]
      · rw [if_neg hm, if_neg (fun z => by rcases List.mem_cons.mp z with z | z; exact hv z.symm; exact hm z)]
theorem wipe_wipe_set (σ : St) (vs : List Nat) : L2.wipe (L2.wipe σ vs) vs = L2.wipe σ vs := by
  refine List.ext_getElem? fun i => ?_
  rw [wipe_at (L2.wipe σ vs), wipe_at σ, wipe_length]
  by_cases hm : i ∈ vs
  · rw [if_pos hm, if_pos hm]
  · rw [if_neg hm, if_neg hm]

/-! ### canonical readings -/
def rdE (X : Cx) (F : Fx) (G G' : List Nat) (k : Nat) (f : Rho → R D) : TE := fun σ H Q => ∃ r c s, SR X.K H G r σ c s ∧ Ok c s ∧ OutX X F c s H σ (OkE X G' k c s H σ Q) (f r)
theorem PV.pe {f : Rho → R D} (A : PV X F G G' k e f) : PE X e (rdE X F G G' k f) := by
  obtain ⟨t, ht, q⟩ := A.go
  exact ⟨fun pins s σ H Q I ⟨r, c, s', sr, ok, h⟩ => ht.run pins s σ H Q I (q σ H r c s' Q sr ok h)⟩
structure PTst (X : Cx) (F : Fx) (G G' : List Nat) (ifs : List Expr) (f : Rho → R Bool) : Prop where
  go : ∃ t, PTs X ifs t ∧ ∀ σ H r c s Q, SR X.K H G r σ c s → Ok c s → OutX X F c s H σ (OkT X G' c s H σ Q) (f r) → t σ H Q
theorem t_nil : PTst X F G G [] (fun r => .ok true r) := ⟨_, pts_nil, fun σ H r c s Q sr ok h => h H c s sr (.refl ok)⟩
theorem t_one {f : Rho → R Bool} (A : PB X F G G1 e f) : PTst X F G G1 [e] f := by
  obtain ⟨t, ht, q⟩ := A.go
  exact ⟨t, pts_one ht, q⟩
def rdT (X : Cx) (F : Fx) (G G' : List Nat) (f : Rho → R Bool) : TT := fun σ H Q => ∃ r c s, SR X.K H G r σ c s ∧ Ok c s ∧ OutX X F c s H σ (OkT X G' c s H σ Q) (f r)
theorem PTst.pt {f : Rho → R Bool} (A : PTst X F G G' ifs f) : PTs X ifs (rdT X F G G' f) := by
  obtain ⟨t, ht, q⟩ := A.go
  exact ⟨fun pins s σ H Q I ⟨r, c, s', sr, ok, h⟩ => ht.run pins s σ H Q I (q σ H r c s' Q sr ok h)⟩
/-- a target that is one name, or a tuple of names: only the comprehension's own slots are stored -/
structure PTo (X : Cx) (F : Fx) (G G' : List Nat) (vs : List Nat) (tg : Expr) (g : D → Rho → Option Rho) : Prop where
  go : ∃ t, PG X tg t ∧ ∀ σ H r c s d x sx Q r1, SR X.K H G r σ c s → Ok c (add s sx) → Rep X.K H 0 d x z0 sx → g d r = some r1 →
    (∀ σ' c' s', SR X.K H G' r1 σ' c' s' → L2.wipe σ' vs = L2.wipe σ vs → Step c (add s sx) H c' s' H → Q σ' H) → t x σ H Q
def rdG (X : Cx) (G G' : List Nat) (vs : List Nat) (g : D → Rho → Option Rho) : TG := fun x σ H Q => ∃ r c s d sx r1, SR X.K H G r σ c s ∧ Ok c (add s sx) ∧ Rep X.K H 0 d x z0 sx ∧ g d r = some r1 ∧
    (∀ σ' c' s', SR X.K H G' r1 σ' c' s' → L2.wipe σ' vs = L2.wipe σ vs → Step c (add s sx) H c' s' H → Q σ' H)
theorem PTo.pg {vs : List Nat} {g : D → Rho → Option Rho} (A : PTo X F G G' vs tg g) : PG X tg (rdG X G G' vs g) := by
  obtain ⟨t, ht, q⟩ := A.go
  exact ⟨fun pins s σ H v u Q I rv ⟨r, c, s', d, sx, r1, sr, ok, rp, hg, h⟩ => ht.run pins s σ H v u Q I rv (q σ H r c s' d v sx Q r1 sr ok rp hg h)⟩
theorem wipe_set (σ : St) (o : Option V) (vs : List Nat) (i : Nat) (h : i ∈ vs) : L2.wipe (σ.set i o) vs = L2.wipe σ vs := by
  refine List.ext_getElem? fun j => ?_
  rw [wipe_at, wipe_at, List.length_set]
  by_cases hm : j ∈ vs
  · rw [if_pos hm, if_pos hm]
  · rw [if_neg hm, if_neg hm, List.getElem?_set_ne (show i ≠ j from fun z => hm (by rw [← z]; exact h))]
theorem to_name (i : Nat) {x : Str} {vs : List Nat} (nd : X.N.Nodup) (hi : X.N[i]? = some x := by rfl) (hx : Loc X.env.scope x := by first | exact Or.inl rfl | exact Or.inr rfl) (hl : i < G.length := by decide) (hv : i ∈ vs := by decide)
    (hf : X.fn x = true ∨ X.env.scope.names.lookup x = some .local := by first | exact .inl rfl | exact .inr rfl) : PTo X F G (G.set i 0) vs (.Name x pos) (gSet i) := by
  refine ⟨_, pg_name nd hi hx hf, fun σ H r c s d x sx Q r1 sr ok rp hg h => ?_⟩
  cases hg
  have hlen : i < r.length := by
    have e3 := sr.lenG
    omega
  obtain ⟨c2, s2, x2, hc, hs2⟩ := sr.fill hlen rp
  refine h (σ.set i (some x)) _ _ x2 (wipe_set σ _ vs i hv) ((Step.refl ok).less (fun z => by have := hc z; simp only [add_at, z_at]; omega) (fun z hz => by have := hs2 z; simp only [add_at] at hz ⊢; omega))

def compD (vs : List Nat) (g : D → Rho → Option Rho) (ts : Rho → R Bool) (fe : Rho → R D) : List D → List D → Rho → R (List D)
  | [], acc, r => .ok acc r
  | d :: ds, acc, r => match g d r with
    | none => .no
    | some r1 => match ts r1 with
      | .ok true r2 => (match fe r2 with
        | .ok e r3 => compD vs g ts fe ds (acc ++ [e]) (wipeR r3 vs)
        | _ => .no)
      | .ok false r2 => compD vs g ts fe ds acc (wipeR r2 vs)
      | _ => .no
theorem Reps.snoc {K : PySem.W.Frag} {H : Hp} {n : Nat} {d : D} {v : V} {c2 s2 : Cnt} (r : Rep K H n d v c2 s2) : ∀ {ds : List D} {vs : List V} {c s : Cnt}, Reps K H n ds vs c s → Reps K H n (ds ++ [d]) (vs ++ [v]) (add c c2) (add s s2)
  | _, _, _, _, .nil => by
    have q : Reps K H n [d] [v] (add c2 z0) (add s2 z0) := .cons r .nil
    rw [add_z, add_z] at q
    rw [z_add, z_add]
    exact q
  | _, _, _, _, .cons a b => by
    rw [add_assoc', add_assoc']
    exact .cons a (Reps.snoc r b)
def lcD (vs : List Nat) (fi : Rho → R (List D)) (g : D → Rho → Option Rho) (ts : Rho → R Bool) (fe : Rho → R D) : Rho → R D := fun r =>
  (fi r).bind fun ds r1 => if ds.length ≤ 100000 then (compD vs g ts fe ds [] (wipeR r1 vs)).bind fun out r2 => .ok (.lst out) r2 else .no
theorem lc_read (G2 : List Nat) {vs : List Nat} {fi : Rho → R (List D)} {g : D → Rho → Option Rho} {ts : Rho → R Bool} {fe : Rho → R D} (I : PIt X F G G1 tg iter fi)
    (h1 : leG G2 G1 = true) (h2 : leG G2 Gn = true) (h3 : leG G2 Gs = true) :
    ∃ wi, PI X tg iter wi ∧ ∀ σ H r c s Q, SR X.K H G r σ c s → Ok c s → OutX X F c s H σ (OkE X G2 (k + 1) c s H σ Q) (lcD vs fi g ts fe r) → tLc wi (rdG X G2 Gt vs g) (rdT X F.nox Gt Gs ts) (rdE X F.nox Gs Gn k fe) vs σ H Q := by
  obtain ⟨wi, hwi, qi⟩ := I.go
  refine ⟨_, hwi, ?_⟩
  intro σ H r c s Q sr ok h
  unfold lcD at h
  refine qi σ H r c s _ sr ok (h.bind.mono fun ds r1 h4 => ?_)
  by_cases hl : ds.length ≤ 100000
  case neg => rw [if_neg hl] at h4; exact fun J H1 c1 s1 sI W x wk w1 st => False.elim h4
  rw [if_pos hl] at h4
  intro J H1 c1 s1 sI W x wk w1 st D0 hD
  refine ⟨fun i m H' => m = ds.length - i ∧ i ≤ ds.length ∧ ∃ r' c' s' acc va cA sA, acc.length ≤ i ∧ SR X.K H' G2 (wipeR r' vs) (L2.wipe σ vs) c' s' ∧ W H' ∧ H' D0 = some (.lst va) ∧ Reps X.K H' k acc va cA sA ∧ Step c s H (add c' (add (one D0) cA)) (add (add s' sA) sI) H' ∧
    OutX X F c s H σ (OkE X G2 (k + 1) c s H σ Q) ((compD vs g ts fe (ds.drop i) acc (wipeR r' vs)).bind fun out r2 => .ok (.lst out) r2), ?_, ?_⟩
  · obtain ⟨c', s', x', w⟩ := x.wk (LeG.of h1)
    obtain ⟨c2, s2, x2, hc2, hs2⟩ := x'.wipe vs
    have ke := ex_upd (o := .lst []) hD
    refine ⟨ds.length, by simp, Nat.zero_le _, r1, c2, s2, [], [], z0, z0, Nat.zero_le _, x2.keep (ex_kp ke), wk.keep _ _ w1 (ex_kp ke), upd_same, .nil, ?_, h4⟩
    have st' : Step c s H c' (add s' sI) H1 := st.wk (by have q := w.add (Wk.refl z0 sI); rw [add_z, add_z] at q; exact q)
    have st2 : Step c s H (add c2 z0) (add s2 sI) H1 := by
      rw [add_z]
      exact st'.less hc2 (fun a ha => by have := hs2 a; simp only [add_at] at ha ⊢; omega)
    have dm : Dom (add c2 z0) (add s2 sI) H1 := x2.dom.add (wk.dom H1 w1)
    have q := lst_fresh (xs := []) st2 dm hD
    rw [add_z (s2)]
    exact q
  · rintro i m H' ⟨rfl, hi, r', c', s', acc, va, cA, sA, hacc, x', w', hD', ra, st', o⟩
    by_cases hlt : i < ds.length
    · have hd : ds[i]? = some ds[i] := List.getElem?_eq_getElem hlt
      rw [List.drop_eq_getElem_cons hlt] at o
      unfold compD at o
      cases eg : g ds[i] (wipeR r' vs) with
      | none => simp only [eg] at o; exact False.elim o
      | some r2 =>
        simp only [eg] at o
        refine .inr ⟨wk.go H' i w' hlt, fun H' => ∃ r' c' s' acc va cA sA, acc.length ≤ i + 1 ∧ SR X.K H' G2 (wipeR r' vs) (L2.wipe σ vs) c' s' ∧ W H' ∧ H' D0 = some (.lst va) ∧ Reps X.K H' k acc va cA sA ∧ Step c s H (add c' (add (one D0) cA)) (add (add s' sA) sI) H' ∧
          OutX X F c s H σ (OkE X G2 (k + 1) c s H σ Q) ((compD vs g ts fe (ds.drop (i + 1)) acc (wipeR r' vs)).bind fun out r2 => .ok (.lst out) r2), fun H2 hN => ⟨ds.length - (i + 1), by omega, rfl, hlt, hN⟩, fun y H2 hy => ?_⟩
        obtain ⟨si, ry, hsi, hk⟩ := wk.yld H' i y H2 ds[i] w' hd hy
        have x2 := x'.keep (ex_kp hk)
        have w2 := wk.keep H' H2 w' (ex_kp hk)
        have ra2 := ra.keep (ex_kp hk)
        have hD2 := hk _ _ hD'
        -- what is put aside: the list that grows, what is walked
        have st2 : Step c s H (add (add c' (add (one D0) cA)) z0) (add (add (add s' si) sA) sI) H2 := by
          have q := (st'.ext hk).dup hsi
          rw [add_z]
          have e : add (add (add s' sA) si) sI = add (add (add s' si) sA) sI := by rw [add_assoc' s' sA si, add_comm' sA si, ← add_assoc']
          rw [← e]
          exact q
        have okk : Ok c' (add s' si) := fun z => by have := st2.ok z; simp only [add_at] at this ⊢; omega
        have okF : Ok (add c' (add (one D0) cA)) (add (add s' si) (add sA sI)) := fun z => by have := st2.ok z; simp only [add_at, z_at] at this ⊢; omega
        have domF : Dom (add (one D0) cA) (add sA sI) H2 := by
          have d1 : Dom (add (one D0) cA) sA H2 := Dom.addC hD2 trivial ra2.dom
          have q := d1.add (wk.dom H2 w2)
          rw [add_z] at q
          exact q
        refine ⟨wipeR r' vs, c', s', ds[i], si, r2, x2, okk, ry, eg, fun σ3 c3 s3 x3 hw3 st3 => ?_⟩
        have hw3' : L2.wipe σ3 vs = L2.wipe σ vs := hw3.trans (wipe_wipe_set σ vs)
        have back : ∀ {c4 s4 H4}, Step c3 s3 H2 c4 s4 H4 → Step c s H (add c4 (add (one D0) cA)) (add s4 (add sA sI)) H4 := fun {c4 s4 H4} z => by
          have q := (st3.trans z).frame okF domF
          have st2' : Step c s H (add c' (add (one D0) cA)) (add (add s' si) (add sA sI)) H2 := by
            have e : add (add (add s' si) sA) sI = add (add s' si) (add sA sI) := add_assoc' _ _ _
            rw [add_z, e] at st2
            exact st2
          exact st2'.trans q
        have aside : ∀ {c4 s4 H4}, Step c3 s3 H2 c4 s4 H4 → Kp (add (one D0) cA) (add sA sI) H2 H4 := fun {c4 s4 H4} z => (st3.trans z).aside okF
        have kD : ∀ {H4}, Kp (add (one D0) cA) (add sA sI) H2 H4 → H4 D0 = some (.lst va) ∧ Reps X.K H4 k acc va cA sA ∧ W H4 := fun {H4} kp =>
          ⟨kp D0 _ hD2 (.inl (one_add_pos _ _)), ra2.keep (fun a o e z => kp a o e (by simp only [add_at]; rcases z with z | z | z; exact .inl (by omega); exact .inr (.inl (by omega)); exact .inr (.inr z))), wk.keep H2 H4 w2 (fun a o e z => kp a o e (by simp only [add_at, z_at] at z ⊢; rcases z with z | z | z; exact absurd z (Nat.lt_irrefl 0); exact .inr (.inl (by omega)); exact .inr (.inr z)))⟩
        refine ⟨hw3', r2, c3, s3, x3, st3.ok, ?_⟩
        cases et : ts r2 with
        | no => simp only [et] at o; exact False.elim o
        | ex n d r3 => simp only [et] at o; exact False.elim o
        | ok bb r3 =>
          intro H4 c4 s4 x4 z4
          cases bb with
          | false =>
            simp only [et] at o
            show if false = true then _ else _
            rw [if_neg Bool.false_ne_true]
            obtain ⟨c5, s5, x5, w5⟩ := x4.wk (LeG.of h3)
            obtain ⟨c6, s6, x6, hc6, hs6⟩ := x5.wipe vs
            rw [hw3'] at x6
            obtain ⟨d1, d2, d3⟩ := kD (aside z4)
            refine ⟨r3, c6, s6, acc, va, cA, sA, by omega, x6, d3, d1, d2, ?_, o⟩
            have q := (back z4).wk ((w5.add (Wk.refl (add (one D0) cA) (add sA sI))))
            rw [← add_assoc'] at q
            exact q.less (fun a => by have := hc6 a; simp only [add_at]; omega) (fun a ha => by have := hs6 a; simp only [add_at] at ha ⊢; omega)
          | true =>
            simp only [et] at o
            show if true = true then _ else _
            rw [if_pos rfl]
            cases ef : fe r3 with
            | no => simp only [ef] at o; exact False.elim o
            | ex n d r4 => simp only [ef] at o; exact False.elim o
            | ok d r4 =>
              simp only [ef] at o
              refine ⟨r3, c4, s4, x4, z4.ok, ?_⟩
              rw [ef]
              intro v H5 c5 s5 cr srr x5 rp z5
              have zz := z4.trans z5
              obtain ⟨d1, d2, d3⟩ := kD (aside zz)
              have hlen := d2.length
              refine ⟨va, d1, by rw [← hlen]; exact Nat.lt_of_le_of_lt (Nat.le_trans hacc (Nat.le_trans hi hl)) (by decide), ?_⟩
              obtain ⟨c6, s6, x6, w6⟩ := x5.wk (LeG.of h2)
              obtain ⟨c7, s7, x7, hc7, hs7⟩ := x6.wipe vs
              rw [hw3'] at x7
              have q0 := back zz
              have e0 : ∀ x y z u : Cnt, add (add x y) (add z u) = add x (add z (add u y)) := fun x y z u => by funext a; simp only [add]; omega
              rw [e0, e0] at q0
              have q := q0.wk (w6.add (Wk.refl (add (one D0) (add cA cr)) (add sA (add sI srr))))
              have okq := q.ok D0
              have kp : ∀ {c s : Cnt}, c D0 = 0 → s D0 = 0 → Kp c s H5 (L2.upd H5 D0 (.lst (va ++ [v]))) := fun {c s} e1 e2 a o e z => by
                by_cases ha : a = D0
                · subst ha
                  rcases z with z | z | z
                  · omega
                  · omega
                  · rw [d1] at e; cases e; exact z.elim
                · rw [upd_ne ha]; exact e
              simp only [add_at, one_same] at okq
              have hc7' := hc7 D0; have hs7' := hs7 D0
              refine ⟨r4, c7, s7, acc ++ [d], va ++ [v], add cA cr, add sA srr, by rw [List.length_append]; show acc.length + 1 ≤ _; omega, x7.keep (kp (by omega) (by omega)), wk.keep _ _ d3 (kp rfl (by omega)), upd_same, Reps.snoc (rp.keep (kp (by omega) (by omega))) (d2.keep (kp (by omega) (by omega))), ?_, o⟩
              have nH : ∀ a o, H a = some o → c a = 0 ∨ tupO o → a ≠ D0 := fun a o e z ha => by
                subst ha
                have := q.keep a o e z
                rw [d1] at this
                cases this
                rcases z with z | z
                · rcases q.own a (by simp only [add_at, one_same]; omega) with z2 | z2
                  · omega
                  · rw [e] at z2; cases z2
                · exact z.elim
              refine ⟨fun a ha => q.own a ?_, fun a ha => q.sh a ?_, fun a o e z => ?_, fun a ha => ?_, fun a => ?_⟩
              · have := hc7 a
                simp only [add_at] at ha ⊢; omega
              · have h7 := hs7 a
                simp only [add_at] at ha ⊢; omega
              · rw [upd_ne (nH a o e z)]
                exact q.keep a o e z
              · by_cases hz : a = D0
                · subst hz; rw [upd_same]; exact fun z => nomatch z
                · rw [upd_ne hz]; exact q.dom a ha
              · have h6 := q.ok a; have h7 := hs7 a; have h10 := hc7 a
                simp only [add_at] at h6 ⊢
                omega
    · obtain rfl : i = ds.length := by omega
      rw [List.drop_length] at o
      refine .inl ⟨wk.stop H' w', ?_⟩
      exact o (.ref D0) H' c' s' (add (one D0) cA) sA x'.unwipe (.lstS hD' ra) (st'.less (fun _ => Nat.le_refl _) (fun a ha => by simp only [add_at] at ha ⊢; omega))
/-- [elt for tg in iter if ..] -/
theorem v_lc (G2 : List Nat) (own : List (Str × Nat)) {scope : Scope} {fi : Rho → R (List D)} {g : D → Rho → Option Rho} {ts : Rho → R Bool} {fe : Rho → R D} (hc : X.calm = true) (nd : X.N.Nodup) (I : PIt X F G G1 tg iter fi) (okb : BlkOk X.N X.env.scope scope own)
    (T : ∀ (s : Shared) (H : Hp) (C : Addr) (cl : List (Str × Addr)) (fp : List Addr), PTo (X.blk s H scope (compEnvC scope cl C X.env) fp) F.nox G2 Gt (own.map (·.2)) tg g)
    (Ts : ∀ (s : Shared) (H : Hp) (C : Addr) (cl : List (Str × Addr)) (fp : List Addr), PTst (X.blk s H scope (compEnvC scope cl C X.env) fp) F.nox Gt Gs ifs ts)
    (E : ∀ (s : Shared) (H : Hp) (C : Addr) (cl : List (Str × Addr)) (fp : List Addr), PV (X.blk s H scope (compEnvC scope cl C X.env) fp) F.nox Gs Gn k elt fe)
    (h1 : leG G2 G1 = true := by rfl) (h2 : leG G2 Gn = true := by rfl) (h3 : leG G2 Gs = true := by rfl) (hs : ∀ x, foldedSetIterable iter X.env x = pure x := by intro _; rfl) :
    PV X F G G2 (k + 1) (.ListComp elt [⟨tg, iter, ifs, 0⟩] scope pos) (lcD (own.map (·.2)) fi g ts fe) := by
  obtain ⟨wi, hwi, q⟩ := lc_read (k := k) (Gt := Gt) (Gs := Gs) (vs := own.map (·.2)) (g := g) (ts := ts) (fe := fe) G2 I h1 h2 h3
  exact ⟨_, pe_lc hc nd hwi okb (g := rdG X G2 Gt (List.map (fun p : Str × Nat => p.2) own) g) (tt := rdT X F.nox Gt Gs ts) (te := rdE X F.nox Gs Gn k fe) (fun s H C cl fp => (T s H C cl fp).pg) (fun s H C cl fp => (Ts s H C cl fp).pt) (fun s H C cl fp => (E s H C cl fp).pe) hs, q⟩
/-- y = [elt for tg in iter if ..] on one line, y a local name -/
theorem s_setLc (i : Nat) (G2 : List Nat) (own : List (Str × Nat)) {scope : Scope} {y : Str} {py spos : Pos} {fi : Rho → R (List D)} {g : D → Rho → Option Rho} {ts : Rho → R Bool} {fe : Rho → R D} (hc : X.calm = true) (nd : X.N.Nodup) (I : PIt X F G G1 tg iter fi) (okb : BlkOk X.N X.env.scope scope own)
    (T : ∀ (s : Shared) (H : Hp) (C : Addr) (cl : List (Str × Addr)) (fp : List Addr), PTo (X.blk s H scope (compEnvC scope cl C X.env) fp) F.nox G2 Gt (own.map (·.2)) tg g)
    (Ts : ∀ (s : Shared) (H : Hp) (C : Addr) (cl : List (Str × Addr)) (fp : List Addr), PTst (X.blk s H scope (compEnvC scope cl C X.env) fp) F.nox Gt Gs ifs ts)
    (E : ∀ (s : Shared) (H : Hp) (C : Addr) (cl : List (Str × Addr)) (fp : List Addr), PV (X.blk s H scope (compEnvC scope cl C X.env) fp) F.nox Gs Gn k elt fe)
    (hi : X.N[i]? = some y) (hyl : X.env.scope.names.lookup y = some .local) (hsw : swapsWith (.ListComp elt [⟨tg, iter, ifs, 0⟩] scope pos) (some (.Name y py)) spos.line X.env = pure true)
    (hp : F.io = none ∨ i ≠ 0 := by first | exact Or.inl rfl | exact Or.inr (by decide)) (hl : i < G.length := by decide)
    (h1 : leG G2 G1 = true := by rfl) (h2 : leG G2 Gn = true := by rfl) (h3 : leG G2 Gs = true := by rfl) (hs : ∀ x, foldedSetIterable iter X.env x = pure x := by intro _; rfl) :
    PSt X F G (G2.set i (k + 1)) (.Assign [.Name y py] (.ListComp elt [⟨tg, iter, ifs, 0⟩] scope pos) spos) (dSet i (lcD (own.map (·.2)) fi g ts fe)) := by
  obtain ⟨wi, hwi, q⟩ := lc_read (k := k) (Gt := Gt) (Gs := Gs) (vs := own.map (·.2)) (g := g) (ts := ts) (fe := fe) G2 I h1 h2 h3
  refine ⟨_, ps_setLc hc nd hi hyl hsw hwi okb (g := rdG X G2 Gt (List.map (fun p : Str × Nat => p.2) own) g) (tt := rdT X F.nox Gt Gs ts) (te := rdE X F.nox Gs Gn k fe) (fun s H C cl fp => (T s H C cl fp).pg) (fun s H C cl fp => (Ts s H C cl fp).pt) (fun s H C cl fp => (E s H C cl fp).pe) hs, fun v0 σ H r c s Dn sr ok pr h => q σ H r c s _ sr ok (OutS.useX pr h fun d r1 h2 => ?_)⟩
  intro v H' c1 s1 cr sr' x rp y
  have hlen : i < r1.length := by
    have e1 := x.lenS
    have e2 := sr.lenS
    have e3 := sr.lenG
    omega
  obtain ⟨c2, s2, x2, hc, hs2⟩ := x.fill hlen rp
  exact h2 (σ.set i (some v)) H' _ _ x2 (pr.set hp) (y.less (fun z => by have := hc z; simp only [add_at]; omega) (fun z hz => by have := hs2 z; simp only [add_at] at hz ⊢; omega))
end
end VL

/-! VLG: defs whose promise holds where no repr runs around the call (the stack's guards are known to be none). -/
namespace VL
open PySem PySem.Spec PyProof.Rows L2 Sem
/-- as FnOk, asked for stacks without guards alone -/
structure FnG (P : Program) (w : World) (K : PySem.W.Frag) (mg : Str → Option Value) (base : Heap) (k : Nat) (f : Addr) (fd : FuncData) (ps : List Str) (sp : Sp) : Prop where
  few : ∀ vs H Q E, sp vs H Q E → vs.length = ps.length
  runs : ∀ (A : Around) (out : List Env) (s : Shared) (H : Hp) (args : Args) (us : List Value) (vs : List V) (Q : VK) (E : XK), A.guards = some [] → Room k A → Env0 P w K mg base A out s H → Vals vs us → BindsTo s fd args (ps.zip us) → sp vs H Q E →
    codeAny (model P w) A (.call (.ref f) args) (CR (L2.CX P w) out P w H s Q E) s
section
variable {P : Program} {w : World} {K : PySem.W.Frag} {mg : Str → Option Value} {base : Heap} {k j : Nat} {f : Addr} {fd : FuncData} {ps : List Str} {sp : Sp}
theorem FnG.up (F : FnG P w K mg base j f fd ps sp) (h : j ≤ k) : FnG P w K mg base k f fd ps sp :=
  ⟨F.few, fun A out s H args us vs Q E g hr => F.runs A out s H args us vs Q E g (hr.mono h)⟩
end
section
variable {X : Cx} {k : Nat} {f : Addr} {fd : FuncData} {ps : List Str} {sp : Sp} {E : L2.St → XK} {x : Str} {p pos : Pos} {e : Expr} {es : List Expr} {t : TA}
theorem fng_step {pins : List (Addr × Obj)} {σ : L2.St} {H : Hp} {s : Shared} {Q : VK} {us : List Value} {vs : List V} {args : Args} (F : FnG X.prog X.w X.K X.mg X.base k f fd ps sp) (g : X.A.guards = some []) (hr : Room k X.A)
    (b : us.length = ps.length → BindsTo s fd args (ps.zip us)) (hx : PassesAt (L2.CX X.prog X.w) X σ (E σ)) (I : Inv X pins σ H s) (rv : Vals vs us) (h : sp vs H Q (E σ)) :
    codeAny (model X.prog X.w) X.A (.call (.ref f) args) (fun r s' => match r with
      | .ok fl => (match fl with | .ret u => EP X pins σ Q u s' | _ => False)
      | .error er => X.xe er s') s := by
  have few := F.few _ _ _ _ h
  refine codeAny_mono (F.runs X.A X.stack s H args us vs Q (E σ) g hr I.env0 rv (b (by rw [← rv.length]; exact few)) h) fun res s' done => ?_
  match res, done with
  | .error er, done => exact hx pins H s er s' I done
  | .ok (.ret u), done => exact I.after done
  | .ok .next, done => exact done.elim
  | .ok .brk, done => exact done.elim
  | .ok .cont, done => exact done.elim
theorem wp_of_code {pins : List (Addr × Obj)} {σ : L2.St} {Q : VK} {s : Shared} {v : Value} {us : List Value} {kw : List (Str × Value)}
    (h : codeAny (model X.prog X.w) X.A (.call v ⟨us, kw⟩) (fun r s' => match r with
      | .ok fl => (match fl with | .ret u => EP X pins σ Q u s' | _ => False)
      | .error er => X.xe er s') s) : wpAny (model X.prog X.w) X.A (call v us kw) (EP X pins σ Q) X.xe s := by
  refine wpAny_call (codeAny_mono h fun res s' done => ?_)
  match res, done with
  | .error er, done => exact done
  | .ok (.ret u), done => exact done
  | .ok .next, done => exact done.elim
  | .ok .brk, done => exact done.elim
  | .ok .cont, done => exact done.elim
/-- f(e, ..) -/
theorem pe_callG (F : FnG X.prog X.w X.K X.mg X.base k f fd ps sp) (g : X.A.guards = some []) (hr : Room k X.A) (hg : Gl X x) (hm : X.mg x = some (.ref f)) (hk : PySem.W.keepIn X.K (.ref f) = true) (hb : Binds X.K fd ps []) (hx : ∀ σ, PassesAt (L2.CX X.prog X.w) X σ (E σ))
    (ha : PA X (e :: es) t) (hdb : (x == ("__debug__" : Str)) = false := by decide) (he : starEach (e :: es) X.env = (false, eval e X.env) :: starEach es X.env := by rfl) (hpl : (backTo pos (starEach es X.env)).any (·.1) = false := by rfl) :
    PE X (.Call (.Name x p) (e :: es) [] pos) (tCallS sp E t) := ⟨fun pins s σ H Q I want =>
  wpAny_Call_Name_kw (ld_glob I hg hm (PySem.W.callWith_K (h₀ := X.base) I.ok.mod.kin hk (thn (ha.run pos pins s σ H _ I want) fun us s1 ⟨vs, H1, I1, rv, q⟩ =>
    ⟨I1.kIn, wp_of_code (fng_step F g hr (fun hl => by
      have bb := hb s1 us I1.kIn (by rw [List.append_nil]; exact hl)
      rw [List.append_nil] at bb
      exact bb) (hx σ) I1 rv q)⟩) he hpl) hdb)⟩
/-- the keywords' values in the parameters' order: as they are written, or the other way round -/
def turned {α : Type} (sw : Bool) (l : List α) : List α := if sw = true then l.reverse else l
theorem turned_len {α : Type} (sw : Bool) (l : List α) : (turned sw l).length = l.length := by
  unfold turned; split <;> simp
theorem vals_rev : ∀ {vs : List V} {us : List Value}, Vals vs us → Vals vs.reverse us.reverse
  | _, _, .nil => .nil
  | _, _, .cons a b => by
    rw [List.reverse_cons, List.reverse_cons]
    exact (vals_rev b).append (.cons a .nil)
theorem vals_turned {vs : List V} {us : List Value} (sw : Bool) (r : Vals vs us) : Vals (turned sw vs) (turned sw us) := by
  unfold turned; split
  · exact vals_rev r
  · exact r
def KwBinds (K : PySem.W.Frag) (fd : FuncData) (ps ks : List Str) (sw : Bool) : Prop := ∀ (s : Shared) (ws : List Value), K.In s.heap → ws.length = ps.length → BindsTo s fd ⟨[], ks.zip ws⟩ (ps.zip (turned sw ws))
theorem Fun.kwBinds {K : PySem.W.Frag} {x qual : Str} {st : Stmt} {f : Addr} {fd : FuncData} {ps ks : List Str} {sw : Bool} (F : Fun K x qual st f fd)
    (h : ∀ (kV doc pm : Value) (an : Option Addr) (cdv ct : Value) (ws : List Value), ws.length = ps.length → bindArgs (PySem.W.fnOf x qual (defArgs st) (defBody st) (defScope st) .none kV doc pm an cdv ct) ⟨[], ks.zip ws⟩ = pure (ps.zip (turned sw ws))) : KwBinds K fd ps ks sw := by
  obtain ⟨oc, od, kV, doc, pm, an, cdv, ct, osl, rfl, look, code⟩ := F.ex
  exact fun s ws _ hl => .of_eq (h kV doc pm an cdv ct ws hl)
/-- f(k = v, ..), keywords alone -/
theorem pe_callGK {ks : List Str} {kws : List Keyword} {tk : TA} {sw : Bool} (F : FnG X.prog X.w X.K X.mg X.base k f fd ps sp) (g : X.A.guards = some []) (hr : Room k X.A) (hg : Gl X x) (hm : X.mg x = some (.ref f)) (hk : PySem.W.keepIn X.K (.ref f) = true)
    (hb : KwBinds X.K fd ps ks sw) (hx : ∀ σ, PassesAt (L2.CX X.prog X.w) X σ (E σ)) (hkw : PK X kws tk)
    (hall : (backToKw pos (keywordEach kws X.env)).all (·.1.isSome) = true := by rfl) (hks : (backToKw pos (keywordEach kws X.env)).filterMap (·.1) = ks := by rfl) (hdb : (x == ("__debug__" : Str)) = false := by decide)
    (hpl : ((backTo pos (starEach [] X.env)).any (·.1) || (backToKw pos (keywordEach kws X.env)).any (·.1.isNone)) = false := by rfl) :
    PE X (.Call (.Name x p) [] kws pos) (fun σ H Q => tk σ H fun zs H1 => sp (turned sw zs) H1 Q (E σ)) := ⟨fun pins s σ H Q I want =>
  wpAny_Call_Name_kw (ld_glob I hg hm (PySem.W.callWith_KW0 (h₀ := X.base) I.ok.mod.kin hk hall
    (thn (hkw.run pos pins s σ H _ I want) fun ws s2 ⟨zs, H2, I2, rz, q2⟩ => ⟨I2.kIn, by
      rw [hks]
      exact wp_of_code (fng_step F g hr (fun hl => hb s2 ws I2.kIn (by rw [← hl, turned_len])) (hx σ) I2 (vals_turned sw rz) q2)⟩) hpl) hdb)⟩
end
section
variable {P : Program} {w : World} {K : PySem.W.Frag} {mg : Str → Option Value} {base : Heap}
/-- THE RULE for a def: its body, entered without guards around it -/
theorem fng_of {x qual : Str} {st : Stmt} {f : Addr} {fd : FuncData} {N ps : List Str} {k : Nat} {sp : Sp} (F : Fun K x qual st f fd) (S : FnScope N ps (defScope st)) (len : ∀ vs H Q E, sp vs H Q E → vs.length = ps.length)
    (hbody : ∀ (cdv : Value) (A : Around) (out : List Env) (s : Shared) (H : Hp) (vs : List V) (Q : VK) (E : XK), (A.deeper (envOfC qual (defScope st) s.heap.objs.size f cdv)).guards = some [] → Room k (A.deeper (envOfC qual (defScope st) s.heap.objs.size f cdv)) → sp vs H Q E →
      ∃ t, PSs (cxOf (L2.CX P w) P w K mg base N qual (defScope st) f cdv A out s H E) (defBody st) t ∧ t { nx := fun _ H' => Q .non H', rt := Q } (L2.start N vs) H) :
    FnG P w K mg base (k + 1) f fd ps sp := by
  obtain ⟨oc, od, kV, doc, pm, an, cdv, ct, osl, rfl, look, code⟩ := F.ex
  refine ⟨len, fun A out s H args us vs Q E hgd room e0 rv bind want => ?_⟩
  have few : vs.length = ps.length := len vs H Q E want
  have old : ∀ (b : Addr) (o : Obj), base.get? b = some o → s.heap.get? b = some o := fun b o e => (e0.bs b o e).1
  have KS : K.In s.heap := e0.mod.kin.keeps old
  have noLim : s.heap.NoLimit := e0.mod.nolimit.keeps old
  have kinds : ∀ y ∈ ps.zip us, (defScope st).names.lookup y.1 = some .local ∨ ((defScope st).names.lookup y.1 = some .cell ∧ ((cellsFrom (s.heap.objs.size + 1) (defScope st).names []).lookup y.1).isSome = true) := by
    rintro ⟨nm, val⟩ mem
    rcases S.par nm (List.of_mem_zip mem).1 with loc | cel
    · exact Or.inl loc
    · exact Or.inr ⟨cel, PySem.W.cellsFrom_some _ _ _ (Or.inl cel)⟩
  refine codeAny_call_function room.depth (KS _ _ look) rfl S.co S.gen rfl (PySem.W.codeRec_of KS code) (bind _ _ _ _ ?_)
  refine wpAny_newFunctionEnv_cells S.kind kinds fun env envEq s1 inCall => ?_
  subst envEq
  refine ⟨noLim.keeps inCall.toInCall.keep, codeAny_func ?_⟩
  obtain ⟨t, run, reading⟩ := hbody cdv A out s H vs Q E hgd (room.deeper _) want
  have start' : Inv (cxOf (L2.CX P w) P w K mg base N qual (defScope st) f cdv A out s H E) [] (L2.start N vs) H s1 := inv_start S room.hd e0 few rv inCall
  refine wpAny_mono (run.run [] s1 (L2.start N vs) H _ start' reading) (fun flow s' got => ?_) fun _ _ left => left
  match flow, got with
  | .ret u, ⟨v, σ', H', J, rel, q⟩ => exact ⟨v, H', J.os, J.bare, J.base, J.hok, rel, q⟩
  | .next, ⟨σ', H', J, q⟩ => exact ⟨V.non, H', J.os, J.bare, J.base, J.hok, (rfl : RelV V.non Value.none), q⟩
  | .brk, ⟨_, _, _, q⟩ => exact q.elim
  | .cont, ⟨_, _, _, q⟩ => exact q.elim
/-- THE END: the law's own def, called with the script -/
theorem lawG {mb : Str → Option Value} {k : Nat} {fa a : Addr} {fd : FuncData} {x : Str} {sp : Sp} {s1 : Shared} {vs : List Value} {ns : List Int}
    (KX : K.In s1.heap) (hns : s1.heap.Ns mainGlobals mg) (hb : s1.heap.Ns builtinsNs mb) (hbb : ∀ x : Str, x ≠ "__name__" → mb x = bootBuiltins x) (hlim : s1.heap.NoLimit) (hgens : s1.gens = #[])
    (ha : s1.heap.get? a = some { cls := .type "list", data := .seq vs.toArray }) (hi : IntsAre vs ns) (hl : ns.length ≤ sizeLine) (hr : Room k callerA)
    (F : ∀ base : Heap, K.In base → base.Ns mainGlobals mg → FnG P w K mg base k fa fd [x] sp) (hbind : ∀ (s : Shared) (u : Value), BindsTo s fd ⟨[u], []⟩ [(x, u)])
    (hsp : ∀ H : Hp, Only H → SqL K H a (ns.map V.int) → sp [.ref a] H (fun v _ => v = .bl true) fun _ _ _ => False) :
    codeAny (model P w) callerA (.call (.ref fa) ⟨[.ref a], []⟩) (fun r s' => r = .ok (.ret (.bool true)) ∧ OldK s1.heap s'.heap ∧ s'.os = s1.os ∧ AllBare s'.gens) s1 := by
  have lens := hi.length
  have intsV := vals_ints hi
  suffices core : ∀ H : Hp, Only H → SqL K H a (ns.map V.int) → HOk P w H s1.heap → (∀ b, H b ≠ none → b = a) → (H a ≠ none → K.lookup a = none) →
      codeAny (model P w) callerA (.call (.ref fa) ⟨[.ref a], []⟩) (fun r s' => r = .ok (.ret (.bool true)) ∧ OldK s1.heap s'.heap ∧ s'.os = s1.os ∧ AllBare s'.gens) s1 by
    cases look : K.lookup a with
    | some own =>
      have there := KX a own look
      rw [ha] at there
      cases there
      refine core (fun _ => none) (fun _ => Or.inl rfl) (Or.inr ⟨_, vs.toArray, _, look, rfl, rfl, rfl, by simpa [lens] using hl, by simpa using intsV⟩) (fun b u z => ?_) (fun b z => absurd rfl z) (fun z => absurd rfl z)
      have z1 : (none : Option HO) = some u := z
      cases z1
    | none =>
      have at_a : (fun b : Addr => if b = a then some (HO.frz { cls := .type "list", data := .seq vs.toArray } (.lst (ns.map V.int))) else none) a = some (HO.frz { cls := .type "list", data := .seq vs.toArray } (.lst (ns.map V.int))) := if_pos rfl
      refine core (fun b => if b = a then some (.frz { cls := .type "list", data := .seq vs.toArray } (.lst (ns.map V.int))) else none) (fun b => ?_) (Or.inl (Or.inr ⟨_, at_a⟩)) (fun b u z => ?_) (fun b z => ?_) (fun _ => look)
      · by_cases e : b = a
        · exact Or.inr ⟨_, _, if_pos e⟩
        · exact Or.inl (if_neg e)
      · by_cases e : b = a
        · subst e
          have z1 := at_a.symm.trans z
          cases z1
          exact ⟨ha, by simpa using hl, vs, 0, intsV, ha⟩
        · have z1 := (if_neg e).symm.trans z
          cases z1
      · exact Classical.byContradiction fun e => z (if_neg e)
  intro H only script okH justA notK
  -- a dict stands untracked
  have dictFree : ∀ {b : Addr} {o : Obj} {es : Array DictEntry} {ep : Nat}, s1.heap.get? b = some o → o.data = .dict es ep → H b = none := by
    intro b o es ep got isDict
    refine Classical.byContradiction fun tracked => ?_
    have e := justA b tracked
    subst e
    rw [ha] at got
    cases got
    cases isDict
  have space : ∀ {b : Addr} {m : Str → Option Value}, s1.heap.Ns b m → (hidT s1.heap H).Ns b m := by
    rintro b m ⟨o, es, ep, got, isDict, more⟩
    exact ⟨o, es, ep, hidT_get got (dictFree got isDict), isDict, more⟩
  have KB : K.In (hidT s1.heap H) := by
    intro b o got
    refine hidT_get (KX b o got) (Classical.byContradiction fun tracked => ?_)
    have e := justA b tracked
    subst e
    rw [notK tracked] at got
    cases got
  obtain ⟨mc, lim1, lim2⟩ := hlim
  have module : Mod K mg (hidT s1.heap H) := ⟨KB, space hns, ⟨mb, space hb, hbb⟩, ⟨mc, space lim1, lim2⟩⟩
  have around : Env0 P w K mg (hidT s1.heap H) callerA [] s1 H := by
    refine ⟨rfl, module, fun b o got => of_hidT got, Nat.le_of_eq (hidT_size _ _), trivial, fun b inNil => ?_, okH, AllBare.of_eq hgens⟩
    have none' : b ∈ ([] : List Addr) := inNil
    cases none'
  have ran := (F _ KB (space hns)).runs callerA [] s1 H ⟨[.ref a], []⟩ [.ref a] [.ref a] _ _ rfl hr around (.cons rfl .nil) (hbind s1 (.ref a)) (hsp H only script)
  refine codeAny_mono ran fun res s' done => ?_
  match res, done with
  | .error er, done =>
    obtain ⟨_, _, _, _, _, _, _, _, _, _, _, _, z⟩ := done
    exact z.elim
  | .ok .next, done => exact done.elim
  | .ok .brk, done => exact done.elim
  | .ok .cont, done => exact done.elim
  | .ok (.ret u), done =>
    obtain ⟨v, H2, sameOs, bare2, un, okH2, rel, isTrue'⟩ := done
    have isTrue2 : v = .bl true := isTrue'
    subst isTrue2
    have rel2 : u = Value.bool true := rel
    subst rel2
    refine ⟨rfl, OldK.of_keep fun b o got => ?_, sameOs, bare2⟩
    rcases only b with free | ⟨ob, xs, frozen⟩
    · refine un.keep b o got free (fun z => ?_) (by simp)
      have z1 : b ∈ ([] : List Addr) := z
      cases z1
    · have was := (okH b _ frozen).1
      have now := (okH2 b _ (un.frzs b ob _ frozen)).1
      rw [got] at was
      cases was
      exact now
end
/-- the goal that k_head leaves -/
theorem walkG {l : PySem.W.OpenLaw} {n k : Nat} {q : Program} {loose : List Str} {XP : (Str → Option Value) → Heap → Prop} {YP : World → Heap → Prop} {d : DefRec} {KK : Params → PySem.W.Frag} {sp : PySem.W.Frag → (Str → Option Value) → Sp} {x : Str}
    (hn : l.most = some n) (hn2 : n ≤ sizeLine) (hdf : d.params.defaults = []) (hr : Room k callerA) (hY : ∀ (w : World) (h : Heap), YP w h → (KK w.params).In h)
    (F : ∀ (w : World) (mg : Str → Option Value) (fa : Addr) (h : Heap), (KK w.params).In h → h.Ns mainGlobals mg → mg d.name = some (.ref fa) →
      ∃ fd : FuncData, (∀ (s : Shared) (u : Value), BindsTo s fd ⟨[u], []⟩ [(x, u)]) ∧ ∀ base : Heap, (KK w.params).In base → base.Ns mainGlobals mg → FnG l.prog w (KK w.params) mg base k fa fd [x] (sp (KK w.params) mg))
    (hsp : ∀ (w : World) (mg : Str → Option Value) (H : Hp) (a : Addr) (ns : List Int), ns.length ≤ n → (∀ z ∈ ns, Builtin.Int.intBits z ≤ 1048576) → Only H → SqL (KK w.params) H a (ns.map V.int) → sp (KK w.params) mg [.ref a] H (fun v _ => v = .bl true) fun _ _ _ => False) :
    PySem.W.WalkO q loose XP YP l.row.toRowW d [] (fun f vs => PySem.call f vs) :=
  Att.attach_callB hn hdf fun w _ _ mg _ fa _ _ _ _ a _ ns G Y _ _ _ hmg hobj hints hlen hbits hg => by
    obtain ⟨fd, hb, made⟩ := F w mg fa _ (hY w _ Y) G.T.g hmg
    exact lawG (hY w _ Y) G.T.g G.T.b G.T.builtins G.T.nolimit hg hobj hints (Nat.le_trans hlen hn2) hr made hb fun H only script => hsp w mg H a ns hlen hbits only script
end VL

namespace VL
open PySem PySem.Spec L2

/-- a def's end -/
inductive DR where
  | ok (d : D) (d0 : Option D) | ex (n : Str) (x : D) (d0 : Option D) | no
def fin (io : Option Nat) (r : Rho) (f : Option D → DR) : DR := match io with
  | none => f none
  | some _ => match rget r 0 with
    | some d => f (some d)
    | none => .no
def runF (io : Option Nat) (nN np : Nat) (f : Rho → SO) (ds : List D) : DR :=
  if ds.length = np then (match f (ds.map some ++ List.replicate (nN - np) none) with
    | .rt d r => fin io r (.ok d)
    | .nx r => fin io r (.ok .non)
    | .ex n x r => fin io r (.ex n x)
    | _ => .no) else .no
def gam (io : Option Nat) (np : Nat) : List Nat := match io with
  | none => List.replicate np 0
  | some m => m :: List.replicate (np - 1) 0
def SpD (K : PySem.W.Frag) (mg : Str → Option Value) (io : Option Nat) (np : Nat) (kr : Nat) (g : List D → DR) : Sp := fun vs H Q E =>
  ∃ ds c s, vs.length = np ∧ SR K H (gam io np) (ds.map some) (vs.map some) c s ∧ Ok c s ∧ match g ds with
    | .ok d d0 => ∀ v H' cr sr c0 s0, Rep K H' kr d v cr sr → IoP K H' io d0 (vs.headD .non) c0 s0 → Step c s H (add c0 cr) (add s0 sr) H' → Q v H'
    | .ex n x d0 => ∀ cls dx H' c0 s0, ExP mg n x H' cls dx → IoP K H' io d0 (vs.headD .non) c0 s0 → Step c s H c0 s0 H' → E cls dx H'
    | .no => False
abbrev FnV (P : Program) (w : World) (K : PySem.W.Frag) (mg : Str → Option Value) (base : Heap) (k : Nat) (f : Addr) (fd : FuncData) (ps : List Str) (io : Option Nat) (kr : Nat) (g : List D → DR) : Prop :=
  FnG P w K mg base k f fd ps (SpD K mg io ps.length kr g)
section
variable {K : PySem.W.Frag} {H : Hp}
theorem SR.more : ∀ {G r σ c s}, SR K H G r σ c s → ∀ (n : Nat), SR K H (G ++ List.replicate n 0) (r ++ List.replicate n none) (σ ++ List.replicate n none) c s
  | _, _, _, _, _, .nil, n => by
    simp only [List.nil_append]
    induction n with
    | zero => exact .nil
    | succ n ih => rw [List.replicate_succ, List.replicate_succ, List.replicate_succ]; exact .no ih
  | _, _, _, _, _, .no x, n => .no (SR.more x n)
  | _, _, _, _, _, .yes a x, n => .yes a (SR.more x n)
theorem SR.args {n : Nat} : ∀ {ds : List D} {vs : List V} {c s : Cnt}, Reps K H n ds vs c s → SR K H (List.replicate ds.length n) (ds.map some) (vs.map some) c s
  | _, _, _, _, .nil => .nil
  | _, _, _, _, .cons a b => .yes a (SR.args b)
theorem rget_app : ∀ (ds : List D) (m : Nat) (r : Rho), rget (ds.map some ++ r) 0 = match ds with | [] => rget r 0 | d :: _ => some d
  | [], _, _ => rfl
  | _ :: _, _, _ => rfl
end
section
variable {P : Program} {w : World} {K : PySem.W.Frag} {mg : Str → Option Value} {base : Heap}
/-- the context's wishes for a def's body -/
def fxOf (E : XK) (io : Option Nat) (kr : Nat) : Fx := { W := fun cls d _ H => E cls d H, io := io, kr := kr, Gb := [], Gc := [] }
theorem gam_len (io : Option Nat) (np : Nat) (h : io = none ∨ 0 < np) : (gam io np).length = np := by
  cases io with
  | none => simp [gam]
  | some m => rcases h with h | h
              · cases h
              · simp [gam]; omega
/-- THE RULE for a def -/
theorem fnv_of {x qual : Str} {st : Stmt} {f : Addr} {fd : FuncData} {N ps : List Str} {k : Nat} {io : Option Nat} {kr : Nat} {body : Rho → SO} {G' : List Nat} (F : Fun K x qual st f fd) (S : FnScope N ps (defScope st)) (hio : io = none ∨ 0 < ps.length) (hps : ps.length ≤ N.length)
    (B : ∀ (cdv : Value) (A : Around) (outer : List Env) (s : Shared) (H : Hp) (E : XK), (A.deeper (PyProof.Rows.envOfC qual (defScope st) s.heap.objs.size f cdv)).guards = some [] → Room k (A.deeper (PyProof.Rows.envOfC qual (defScope st) s.heap.objs.size f cdv)) →
      PBk (cxOf (L2.CX P w) P w K mg base N qual (defScope st) f cdv A outer s H E) (fxOf E io kr) (gam io ps.length ++ List.replicate (N.length - ps.length) 0) G' (defBody st) body) (hG : ∀ m, io = some m → gget G' 0 = m) :
    FnV P w K mg base (k + 1) f fd ps io kr (runF io N.length ps.length body) := by
  refine fng_of F S (fun vs H Q E h => ?_) (fun cdv A outer s H vs Q E hgd hr h => ?_)
  · obtain ⟨ds, c, s, hl, _⟩ := h
    exact hl
  · obtain ⟨ds, c, s', hl, sr, ok, h⟩ := h
    obtain ⟨t, ht, q⟩ := (B cdv A outer s H E hgd hr).go
    refine ⟨t, ht, ?_⟩
    have hdl : ds.length = vs.length := by
      have e := sr.lenS
      simpa using e.symm
    have hst : L2.start N vs = vs.map some ++ List.replicate (N.length - ps.length) none := by unfold L2.start; rw [hl]
    rw [hst]
    have sr2 := sr.more (N.length - ps.length)
    have hdp : ds.length = ps.length := by omega
    unfold runF at h
    rw [if_pos hdp] at h
    have hv0 : ∀ m, io = some m → (vs.map some ++ List.replicate (N.length - ps.length) none)[0]? = some (some (vs.headD .non)) := fun m hm => by
      rcases hio with z | z
      · rw [z] at hm; cases hm
      · cases vs with
        | nil => simp at hl; omega
        | cons v vs => rfl
    refine q (vs.headD .non) _ H _ c s' _ sr2 ok (fun m hm => hv0 m hm) ?_
    cases eb : body (ds.map some ++ List.replicate (N.length - ps.length) none) with
    | nx r =>
      rw [eb] at h
      intro σ' H' c1 s1 x pr y
      have hio' : IoG (fxOf E io kr) G' := hG
      obtain ⟨c0, s0, i, hc, hs⟩ := io_end hio' pr x
      cases io with
      | none => exact h .non H' z0 z0 c0 s0 .non i (by simp only [add_z]; exact y.less hc (fun a ha => Nat.lt_of_lt_of_le ha (hs a)))
      | some m =>
        have h : (match fin (some m) r (.ok .non) with | .ok d d0 => _ | .ex n x d0 => _ | .no => False) := h
        unfold fin at h
        cases e0 : rget r 0 with
        | none => simp only [e0] at h
        | some d0 =>
          simp only [e0] at h
          have i' : IoP K H' (some m) (rget r 0) (vs.headD .non) c0 s0 := i
          rw [e0] at i'
          exact h .non H' z0 z0 c0 s0 .non i' (by simp only [add_z]; exact y.less hc (fun a ha => Nat.lt_of_lt_of_le ha (hs a)))
    | bk r => rw [eb] at h; exact False.elim h
    | ct r => rw [eb] at h; exact False.elim h
    | rt d r =>
      rw [eb] at h
      intro v H' cr sr' c0 s0 rp i y
      cases io with
      | none => exact h v H' cr sr' c0 s0 rp i y
      | some m =>
        have h : (match fin (some m) r (.ok d) with | .ok d d0 => _ | .ex n x d0 => _ | .no => False) := h
        unfold fin at h
        cases e0 : rget r 0 with
        | none => simp only [e0] at h
        | some d0 =>
          simp only [e0] at h
          have i' : IoP K H' (some m) (rget r 0) (vs.headD .non) c0 s0 := i
          rw [e0] at i'
          exact h v H' cr sr' c0 s0 rp i' y
    | ex n d r =>
      rw [eb] at h
      intro cls dx σ' H' G c1 s1 e gg x pr y
      obtain ⟨c0, s0, i, hc, hs⟩ := io_end gg pr x
      have y' := y.less hc (fun a ha => Nat.lt_of_lt_of_le ha (hs a))
      cases io with
      | none => exact h cls dx H' c0 s0 e i y'
      | some m =>
        have h : (match fin (some m) r (.ex n d) with | .ok d d0 => _ | .ex n x d0 => _ | .no => False) := h
        unfold fin at h
        cases e0 : rget r 0 with
        | none => simp only [e0] at h
        | some d0 =>
          simp only [e0] at h
          have i' : IoP K H' (some m) (rget r 0) (vs.headD .non) c0 s0 := i
          rw [e0] at i'
          exact h cls dx H' c0 s0 e i' y'
    | no => rw [eb] at h; exact False.elim h
end
end VL

namespace VL
open PySem PySem.Spec L2
def ofDR (dr : DR) (r : Rho) : R D := match dr with
  | .ok d _ => .ok d r
  | .ex n x _ => .ex n x r
  | .no => .no
def dCall (g : List D → DR) (fa : Rho → R (List D)) : Rho → R D := fun r => (fa r).bind fun ds r1 => ofDR (g ds) r1
section
variable {X : Cx} {F : Fx} {G G1 G2 G3 G4 G' Gt Gs Gn : List Nat} {k k1 k2 kr lv : Nat} {e a b tg iter elt : Expr} {es ifs : List Expr} {pos p : Pos} {st : Stmt} {sts : List Stmt}
/-- what a def's body may let out is taken by the body around -/
abbrev Pf (X : Cx) (F : Fx) : Prop := ∀ σ, PassesAt (L2.CX X.prog X.w) X σ (WE F.W σ)
theorem passN : Pf X F.nox := fun σ pins H s e s' I h => by
  obtain ⟨_, _, _, _, _, _, _, _, _, _, _, _, z⟩ := h
  exact z.elim
theorem gam0 (n : Nat) : gam none n = List.replicate n 0 := rfl
/-- a call's arguments handed over, its end taken back -/
theorem call_end {g : List D → DR} {np : Nat} {c s c1 s1 sa : Cnt} {H H1 : Hp} {σ : St} {Q : VK} {ds : List D} {vs : List V} {r1 : Rho} (hio : IoG F G1) (x : SR X.K H1 G1 r1 σ c1 s1) (rp : Reps X.K H1 0 ds vs z0 sa) (st : Step c s H c1 (add s1 sa) H1) (hl : ds.length = np)
    (h : OutX X F c s H σ (OkE X G1 kr c s H σ Q) (ofDR (g ds) r1)) : SpD X.K X.mg none np kr g vs H1 Q (WE F.W σ) := by
  have hvl := rp.length
  refine ⟨ds, z0, sa, by omega, by have q := SR.args rp; rw [gam0, ← hl]; exact q, fun z => ⟨Nat.zero_le _, .inl rfl⟩, ?_⟩
  have okk : Ok (add z0 c1) (add sa s1) := fun z => by have := st.ok z; simp only [add_at, z_at] at this ⊢; omega
  cases eg : g ds with
  | no => rw [eg] at h; exact False.elim h
  | ok d d0 =>
    rw [eg] at h
    intro v H' cr sr c0 s0 rr i y
    obtain ⟨rfl, rfl⟩ : c0 = z0 ∧ s0 = z0 := i
    simp only [z_add] at y
    have fr := y.frame okk x.dom
    have as' := y.aside okk
    refine h v H' c1 s1 cr sr (x.keep as') rr ?_
    have st' : Step c s H (add z0 c1) (add sa s1) H1 := by rw [z_add, add_comm' sa s1]; exact st
    have q := st'.trans fr
    rw [add_comm' cr c1, add_comm' sr s1] at q
    exact q
  | ex n d d0 =>
    rw [eg] at h
    intro cls dx H' c0 s0 e i y
    obtain ⟨rfl, rfl⟩ : c0 = z0 ∧ s0 = z0 := i
    have fr := y.frame okk x.dom
    have as' := y.aside okk
    have st' : Step c s H (add z0 c1) (add sa s1) H1 := by rw [z_add, add_comm' sa s1]; exact st
    have q := st'.trans fr
    simp only [z_add] at q
    exact h cls dx H' G1 c1 s1 e hio (x.keep as') q
/-- f(e, ..), f a def that changes none of its arguments -/
theorem v_call {x : Str} {f : Addr} {fd : FuncData} {ps : List Str} {g : List D → DR} {fa : Rho → R (List D)} (Fv : FnV X.prog X.w X.K X.mg X.base lv f fd ps none kr g) (gd : X.A.guards = some []) (hr : Room lv X.A) (hm : X.mg x = some (.ref f)) (hk : PySem.W.keepIn X.K (.ref f) = true) (hb : Binds X.K fd ps []) (pf : Pf X F)
    (A0 : PL X F G G1 k (e :: es) fa) (hps : (e :: es).length = ps.length := by rfl) (hg : Gl X x := by rfl) (hio : IoG F G1 := by first | exact io_none rfl | exact io_some rfl rfl)
    (hdb : (x == ("__debug__" : Str)) = false := by decide) (he : starEach (e :: es) X.env = (false, eval e X.env) :: starEach es X.env := by rfl) (hpl : (backTo pos (starEach es X.env)).any (·.1) = false := by rfl) :
    PV X F G G1 kr (.Call (.Name x p) (e :: es) [] pos) (fun r => (fa r).bind fun ds r1 => if ds.length = ps.length then ofDR (g ds) r1 else .no) := by
  obtain ⟨t, ht, q⟩ := (l_weak A0).go
  refine ⟨_, pe_callG Fv gd hr hg hm hk hb pf ht hdb he hpl, fun σ H r c s Q sr ok h => q σ H r c s _ sr ok (h.bind.mono fun ds r1 h2 => ?_)⟩
  intro vs H1 c1 s1 ca sa x rp st
  have z := rp.zero
  subst z
  simp only [add_z] at st
  by_cases hl : ds.length = ps.length
  · rw [if_pos hl] at h2
    exact call_end hio x rp st hl h2
  · rw [if_neg hl] at h2
    exact False.elim h2
/-- keywords' values -/
structure PKw (X : Cx) (F : Fx) (G G' : List Nat) (k : Nat) (kws : List Keyword) (f : Rho → R (List D)) : Prop where
  go : ∃ t, PK X kws t ∧ ∀ σ H r c s Q, SR X.K H G r σ c s → Ok c s → OutX X F c s H σ (OkL X G' k c s H σ Q) (f r) → t σ H Q
theorem kw_nil : PKw X F G G k [] (fun r => .ok [] r) := ⟨_, pk_nil, fun σ H r c s Q sr ok h => h [] H c s z0 z0 sr .nil (by simp only [add_z]; exact .refl ok)⟩
theorem kw_cons {nm : Option Str} {kpos : Pos} {kws : List Keyword} {f : Rho → R D} {g : Rho → R (List D)} (A : PV X F G G1 k e f) (B : PKw X F G1 G2 k kws g) :
    PKw X F G G2 k (⟨nm, e, kpos⟩ :: kws) (fun r => (f r).bind fun d r1 => (g r1).bind fun ds r2 => .ok (d :: ds) r2) := by
  obtain ⟨ta, ha, qa⟩ := A.go
  obtain ⟨tb, hb, qb⟩ := B.go
  refine ⟨_, pk_cons ha hb, fun σ H r c s Q sr ok h => qa σ H r c s _ sr ok (h.bind.mono fun d r1 h1 => ?_)⟩
  intro x H1 c1 s1 ca sa sr1 rpa st
  have ok1 : Ok c1 s1 := fun z => by have := st.ok z; simp only [add_at] at this; omega
  have st1 : Step c s H c1 s1 H1 := st.less (fun z => by simp only [add_at]; omega) (fun z hz => by simp only [add_at]; omega)
  refine qb σ H1 r1 c1 s1 _ sr1 ok1 (h1.bind.imp st1 fun ds r2 h2 => ?_)
  intro xs H2 c2 s2 cb sb sr2 rpb st2
  refine h2 (x :: xs) H2 c2 s2 (add ca cb) (add sa sb) sr2 (.cons (rpa.keep (st2.aside st.ok)) rpb) ?_
  have q := st.trans (st2.frame st.ok rpa.dom)
  rw [add_assoc', add_assoc', add_comm' cb ca, add_comm' sb sa] at q
  exact q
theorem reps_turned {K : PySem.W.Frag} {H : Hp} {n : Nat} {ds : List D} {vs : List V} {c s : Cnt} (sw : Bool) (r : Reps K H n ds vs c s) : Reps K H n (turned sw ds) (turned sw vs) c s := by
  unfold turned; split
  · have gen : ∀ {ds : List D} {vs : List V} {c s : Cnt}, Reps K H n ds vs c s → Reps K H n ds.reverse vs.reverse c s := by
      intro ds
      induction ds with
      | nil => intro vs c s r; obtain ⟨rfl, rfl, rfl⟩ := r.inv0; exact .nil
      | cons d ds ih =>
        intro vs c s r
        obtain ⟨v, vs', c1, s1, c2, s2, rfl, a, b, rfl, rfl⟩ := r.inv1
        rw [List.reverse_cons, List.reverse_cons, add_comm' c1, add_comm' s1]
        exact Reps.snoc a (ih b)
    exact gen r
  · exact r
/-- f(k = e, ..) -/
theorem v_callK {x : Str} {f : Addr} {fd : FuncData} {ps ks : List Str} {sw : Bool} {kws : List Keyword} {g : List D → DR} {fa : Rho → R (List D)} (Fv : FnV X.prog X.w X.K X.mg X.base lv f fd ps none kr g) (gd : X.A.guards = some []) (hr : Room lv X.A) (hm : X.mg x = some (.ref f)) (hk : PySem.W.keepIn X.K (.ref f) = true) (hb : KwBinds X.K fd ps ks sw) (pf : Pf X F)
    (A0 : PKw X F G G1 0 kws fa) (hg : Gl X x := by rfl) (hio : IoG F G1 := by first | exact io_none rfl | exact io_some rfl rfl)
    (hall : (backToKw pos (keywordEach kws X.env)).all (·.1.isSome) = true := by rfl) (hks : (backToKw pos (keywordEach kws X.env)).filterMap (·.1) = ks := by rfl) (hdb : (x == ("__debug__" : Str)) = false := by decide)
    (hpl : ((backTo pos (starEach [] X.env)).any (·.1) || (backToKw pos (keywordEach kws X.env)).any (·.1.isNone)) = false := by rfl) :
    PV X F G G1 kr (.Call (.Name x p) [] kws pos) (fun r => (fa r).bind fun ds r1 => if ds.length = ps.length then ofDR (g (turned sw ds)) r1 else .no) := by
  obtain ⟨t, ht, q⟩ := A0.go
  refine ⟨_, pe_callGK Fv gd hr hg hm hk hb pf ht hall hks hdb hpl, fun σ H r c s Q sr ok h => q σ H r c s _ sr ok (h.bind.mono fun ds r1 h2 => ?_)⟩
  intro vs H1 c1 s1 ca sa x rp st
  have z := rp.zero
  subst z
  simp only [add_z] at st
  by_cases hl : ds.length = ps.length
  · rw [if_pos hl] at h2
    exact call_end hio x (reps_turned sw rp) st (by rw [turned_len]; exact hl) h2
  · rw [if_neg hl] at h2
    exact False.elim h2
/-- f(x, e, ..), f a def that changes the object at its first argument, the name x of slot i -/
def ioDR (i : Nat) (dr : DR) (r : Rho) : R D := match dr with
  | .ok d (some d1) => .ok d (r.set i (some d1))
  | .ex n x (some d1) => .ex n x (r.set i (some d1))
  | _ => .no
def ioGo (i np : Nat) (g : List D → DR) (ds : List D) (r1 : Rho) : R D := match rget r1 i with
  | some d0 => if ds.length + 1 = np then ioDR i (g (d0 :: ds)) r1 else .no
  | none => .no
def dCallIo (i np : Nat) (g : List D → DR) (fa : Rho → R (List D)) : Rho → R D := fun r => match rget r i with
  | some _ => (fa r).bind fun ds r1 => ioGo i np g ds r1
  | none => .no
theorem SR.cons_args {K : PySem.W.Frag} {H : Hp} {m : Nat} {d0 : D} {v0 : V} {c0 s0 : Cnt} {ds : List D} {vs : List V} {sa : Cnt} (r0 : Rep K H m d0 v0 c0 s0) (rp : Reps K H 0 ds vs z0 sa) : SR K H (gam (some m) (ds.length + 1)) ((d0 :: ds).map some) ((v0 :: vs).map some) c0 (add s0 sa) := by
  have q : SR K H (m :: List.replicate ds.length 0) (some d0 :: ds.map some) (some v0 :: vs.map some) (add c0 z0) (add s0 sa) := .yes r0 (SR.args rp)
  rw [add_z] at q
  exact q
theorem v_callIo (i m : Nat) {x y : Str} {py : Pos} {f : Addr} {fd : FuncData} {ps : List Str} {g : List D → DR} {fa : Rho → R (List D)} (Fv : FnV X.prog X.w X.K X.mg X.base lv f fd ps (some m) kr g) (gd : X.A.guards = some []) (hr : Room lv X.A) (hm : X.mg x = some (.ref f)) (hk : PySem.W.keepIn X.K (.ref f) = true) (hb : Binds X.K fd ps []) (pf : Pf X F)
    (A0 : PL X F G G1 k es fa) (hN : X.N[i]? = some y := by rfl) (hv : Vis X.env.scope y := by first | exact Or.inl rfl | exact Or.inr (Or.inl rfl) | exact Or.inr (Or.inr rfl)) (hmm : gget G1 i = m := by rfl) (hio : IoG F G1 := by first | exact io_none rfl | exact io_some rfl rfl) (hg : Gl X x := by rfl)
    (hd : (y == ("__debug__" : Str)) = false := by decide) (hcd : (y == ("__classdict__" : Str)) = false := by decide)
    (hdb : (x == ("__debug__" : Str)) = false := by decide) (he : starEach (.Name y py :: es) X.env = (false, eval (.Name y py) X.env) :: starEach es X.env := by rfl) (hpl : (backTo pos (starEach es X.env)).any (·.1) = false := by rfl) :
    PV X F G G1 kr (.Call (.Name x p) (.Name y py :: es) [] pos) (dCallIo i ps.length g fa) := by
  obtain ⟨t, ht, q⟩ := (l_weak A0).go
  refine ⟨_, pe_callG Fv gd hr hg hm hk hb pf (pa_cons (pv i hN hv hd hcd) ht he) hdb he hpl, fun σ H r c s Q sr ok h => ?_⟩
  unfold dCallIo at h
  cases e0 : rget r i with
  | none => simp only [e0] at h; exact False.elim h
  | some dd =>
    simp only [e0] at h
    obtain ⟨v0, _, _, _, _, ev0, _⟩ := sr.out e0
    refine ⟨v0, ev0, q σ H r c s _ sr ok (h.bind.mono fun ds r1 h2 => ?_)⟩
    intro vs H1 c1 s1 ca sa x rp st
    have z := rp.zero
    subst z
    simp only [add_z] at st
    unfold ioGo at h2
    cases e1 : rget r1 i with
    | none => simp only [e1] at h2; exact False.elim h2
    | some d0 =>
      simp only [e1] at h2
      by_cases hl : ds.length + 1 = ps.length
      case neg => rw [if_neg hl] at h2; exact False.elim h2
      rw [if_pos hl] at h2
      obtain ⟨v, c3, s3, c4, s4, ev, r0, x', ec, es'⟩ := x.out e1
      rw [ev0] at ev
      cases ev
      rw [hmm] at r0
      have hvl := rp.length
      have hlt := rget_lt e1
      subst ec; subst es'
      refine ⟨d0 :: ds, c3, add s3 sa, by show vs.length + 1 = _; omega, by rw [← hl]; exact SR.cons_args r0 rp, fun z => by have := st.ok z; simp only [add_at] at this ⊢; omega, ?_⟩
      -- what is put aside: the other slots
      have okk : Ok (add c3 c4) (add (add s3 sa) s4) := fun z => by have := st.ok z; simp only [add_at] at this ⊢; omega
      have st' : Step c s H (add c3 c4) (add (add s3 sa) s4) H1 := by
        have e : add (add s3 s4) sa = add (add s3 sa) s4 := by rw [add_assoc', add_comm' s4 sa, ← add_assoc']
        rw [← e]; exact st
      cases eg : g (d0 :: ds) with
      | no => rw [eg] at h2; exact False.elim h2
      | ok d od =>
        rw [eg] at h2
        cases od with
        | none => exact False.elim h2
        | some d1 =>
          have h2 : OkE X G1 kr c s H σ Q d (r1.set i (some d1)) := h2
          intro v' H' cr srr c0 s0 rr io y
          have io : Rep X.K H' m d1 v0 c0 s0 := io
          have fr := y.frame okk x'.dom
          have xk := x'.keep (y.aside okk)
          have xu := xk.upd (by rw [List.length_set]; exact hlt) (rget_set_none r1 i) ev0 io
          have eG : G1.set i m = G1 := by
            have gs : ∀ (l : List Nat) (i : Nat), l.set i (gget l i) = l := by
              intro l
              induction l with
              | nil => intro i; rfl
              | cons n l ih =>
                intro i
                cases i with
                | zero => rfl
                | succ i => show n :: l.set i (gget l i) = _; rw [ih i]
            rw [← hmm]; exact gs G1 i
          rw [set_set, eG] at xu
          refine h2 v' H' _ _ cr srr xu rr ?_
          have q := st'.trans fr
          have e : ∀ a b c : Cnt, add (add a b) c = add (add a c) b := fun a b c => by rw [add_assoc', add_comm' b c, ← add_assoc']
          rw [e c0 cr c4, e s0 srr s4] at q
          exact q
      | ex n d od =>
        rw [eg] at h2
        cases od with
        | none => exact False.elim h2
        | some d1 =>
          have h2 : ExW X F c s H σ n d (r1.set i (some d1)) := h2
          intro cls dx H' c0 s0 ee io y
          have io : Rep X.K H' m d1 v0 c0 s0 := io
          have fr := y.frame okk x'.dom
          have xk := x'.keep (y.aside okk)
          have xu := xk.upd (by rw [List.length_set]; exact hlt) (rget_set_none r1 i) ev0 io
          have eG : G1.set i m = G1 := by
            have gs : ∀ (l : List Nat) (i : Nat), l.set i (gget l i) = l := by
              intro l
              induction l with
              | nil => intro i; rfl
              | cons n l ih =>
                intro i
                cases i with
                | zero => rfl
                | succ i => show n :: l.set i (gget l i) = _; rw [ih i]
            rw [← hmm]; exact gs G1 i
          rw [set_set, eG] at xu
          exact h2 cls dx H' G1 _ _ ee hio xu (st'.trans fr)
end
end VL

namespace VL
open PySem PySem.Spec L2
/-- a method that changes the list it is called on: the data ahead, the arguments; the value, the data behind -/
def MuOk (X : Cx) (r : V → List V → Hp → VK → Prop) (n kr : Nat) (h : List D → List D → Option (D × List D)) : Prop :=
  ∀ ds as d ds', h ds as = some (d, ds') → ∀ l vs us H c s ca sa (Q : VK), H l = some (.lst vs) → Reps X.K H n ds vs c s → Reps X.K H n as us ca sa →
    (∀ vs' v c' s' cr sr, Reps X.K H n ds' vs' c' s' → Rep X.K H kr d v cr sr → (∀ a, c' a + cr a ≤ c a + ca a) → (∀ a, 0 < s' a + sr a → 0 < s a + sa a) → Q v (L2.upd H l (.lst vs'))) → r (.ref l) us H Q
theorem Step.mut {c s C S C' S' : Cnt} {H H1 : Hp} {l : Addr} {o o' : HO} (x : Step c s H C S H1) (hl : 0 < C l) (ho : H1 l = some o) (hm : ¬ tupO o) (hC : ∀ a, C' a ≤ C a) (hS : ∀ a, 0 < S' a → 0 < S a) : Step c s H C' S' (L2.upd H1 l o') where
  own := fun a h => x.own a (Nat.lt_of_lt_of_le h (hC a))
  sh := fun a h => x.sh a (hS a h)
  keep := fun a u e h => by
    have q := x.keep a u e h
    by_cases ha : a = l
    · subst ha
      rw [ho] at q
      cases q
      rcases h with h | h
      · rcases x.own a hl with z | z
        · omega
        · rw [e] at z; cases z
      · exact absurd h hm
    · rw [upd_ne ha]; exact q
  dom := fun a h => by
    by_cases ha : a = l
    · subst ha; rw [upd_same]; exact fun z => nomatch z
    · rw [upd_ne ha]; exact x.dom a h
  ok := fun a => by
    have h1 := x.ok a; have h2 := hC a; have h3 := hS a
    refine ⟨by omega, ?_⟩
    by_cases p : 0 < S' a
    · have := h3 p; omega
    · omega
theorem Kp.upd {c s : Cnt} {H : Hp} {l : Addr} {o o' : HO} (ho : H l = some o) (hm : ¬ tupO o) (e1 : c l = 0) (e2 : s l = 0) : Kp c s H (L2.upd H l o') := fun a u e h => by
  by_cases ha : a = l
  · subst ha
    rw [ho] at e
    cases e
    rcases h with h | h | h
    · omega
    · omega
    · exact absurd h hm
  · rw [upd_ne ha]; exact e
theorem Reps.app {K : PySem.W.Frag} {H : Hp} {n : Nat} {es : List D} {ws : List V} {c2 s2 : Cnt} (r : Reps K H n es ws c2 s2) : ∀ {ds : List D} {vs : List V} {c s : Cnt}, Reps K H n ds vs c s → Reps K H n (ds ++ es) (vs ++ ws) (add c c2) (add s s2)
  | _, _, _, _, .nil => by rw [z_add, z_add]; exact r
  | _, _, _, _, .cons a b => by
    rw [add_assoc', add_assoc']
    exact .cons a (Reps.app r b)
theorem Reps.erase {K : PySem.W.Frag} {H : Hp} {n : Nat} : ∀ {ds : List D} {vs : List V} {c s : Cnt}, Reps K H n ds vs c s → ∀ {i : Nat} {d : D}, ds[i]? = some d → ∃ v c1 s1 c2 s2, vs[i]? = some v ∧ Rep K H n d v c1 s1 ∧ Reps K H n (ds.eraseIdx i) (vs.eraseIdx i) c2 s2 ∧ c = add c1 c2 ∧ s = add s1 s2
  | _, _, _, _, .nil, _, _, h => by simp at h
  | _, _, _, _, .cons a b, 0, d, h => by
    simp only [List.getElem?_cons_zero, Option.some.injEq] at h
    subst h
    exact ⟨_, _, _, _, _, rfl, a, b, rfl, rfl⟩
  | _, _, _, _, .cons (c1 := ca) (s1 := sa) a b, i + 1, d, h => by
    obtain ⟨v, c1, s1, c2, s2, e, r, rs, e1, e2⟩ := Reps.erase b (i := i) (d := d) (by simpa using h)
    exact ⟨v, c1, s1, _, _, by simpa using e, r, .cons a rs, by rw [e1, add_left_comm'], by rw [e2, add_left_comm']⟩
theorem Reps.take {K : PySem.W.Frag} {H : Hp} {n : Nat} : ∀ {ds : List D} {vs : List V} {c s : Cnt}, Reps K H n ds vs c s → ∀ i : Nat, ∃ c1 s1 c2 s2, Reps K H n (ds.take i) (vs.take i) c1 s1 ∧ Reps K H n (ds.drop i) (vs.drop i) c2 s2 ∧ c = add c1 c2 ∧ s = add s1 s2
  | _, _, _, _, r, 0 => ⟨_, _, _, _, .nil, r, by rw [z_add], by rw [z_add]⟩
  | _, _, _, _, .nil, _ + 1 => ⟨_, _, _, _, .nil, .nil, by rw [z_add], by rw [z_add]⟩
  | _, _, _, _, .cons a b, i + 1 => by
    obtain ⟨c1, s1, c2, s2, r1, r2, e1, e2⟩ := Reps.take b i
    exact ⟨_, _, _, _, .cons a r1, r2, by rw [e1, add_assoc'], by rw [e2, add_assoc']⟩
theorem Reps.rev {K : PySem.W.Frag} {H : Hp} {n : Nat} : ∀ {ds : List D} {vs : List V} {c s : Cnt}, Reps K H n ds vs c s → Reps K H n ds.reverse vs.reverse c s
  | _, _, _, _, .nil => .nil
  | _, _, _, _, .cons (c1 := c1) (s1 := s1) (c2 := c2) (s2 := s2) a b => by
    rw [List.reverse_cons, List.reverse_cons]
    have q := Reps.snoc a (Reps.rev b)
    rw [add_comm' c2 c1, add_comm' s2 s1] at q
    exact q
/-- one element of the list, and the others -/
theorem Reps.focus {K : PySem.W.Frag} {H : Hp} {n : Nat} : ∀ {ds : List D} {vs : List V} {c s : Cnt}, Reps K H n ds vs c s → ∀ {i : Nat} {d : D}, ds[i]? = some d → ∃ v c1 s1 c2 s2, vs[i]? = some v ∧ Rep K H n d v c1 s1 ∧ c = add c1 c2 ∧ s = add s1 s2 ∧ Dom c2 s2 H ∧
    ∀ H' d' c1' s1', Kp c2 s2 H H' → Rep K H' n d' v c1' s1' → Reps K H' n (ds.set i d') vs (add c1' c2) (add s1' s2)
  | _, _, _, _, .nil, _, _, h => by simp at h
  | _, _, _, _, .cons a b, 0, d, h => by
    simp only [List.getElem?_cons_zero, Option.some.injEq] at h
    subst h
    exact ⟨_, _, _, _, _, rfl, a, rfl, rfl, b.dom, fun H' d' c1' s1' k r => .cons r (b.keep k)⟩
  | _, _, _, _, .cons (c1 := ca) (s1 := sa) a b, i + 1, d, h => by
    obtain ⟨v, c1, s1, c2, s2, e, r, e1, e2, dm, f⟩ := Reps.focus b (i := i) (d := d) (by simpa using h)
    refine ⟨v, c1, s1, add ca c2, add sa s2, by simpa using e, r, by rw [e1, add_left_comm'], by rw [e2, add_left_comm'], a.dom.add dm, fun H' d' c1' s1' k r' => ?_⟩
    have q := f H' d' c1' s1' k.right r'
    rw [add_left_comm' c1', add_left_comm' s1']
    exact .cons (a.keep k.left) q
section
variable {X : Cx} {F : Fx} {G G1 G2 G3 G4 G' Gt Gs Gn : List Nat} {k k1 k2 kr lv n : Nat} {e a b tg iter elt : Expr} {es ifs : List Expr} {pos p apos cpos : Pos} {st : Stmt} {sts : List Stmt}
def muGo (i : Nat) (h : List D → List D → Option (D × List D)) (as : List D) (r1 : Rho) : R D := match rget r1 i with
  | some (.lst ds) => (match h ds as with
    | some (d, ds') => .ok d (r1.set i (some (.lst ds')))
    | none => .no)
  | _ => .no
def isLst : Option D → Bool
  | some (.lst _) => true
  | _ => false
def dMut (i : Nat) (h : List D → List D → Option (D × List D)) (fa : Rho → R (List D)) : Rho → R D := fun r => if isLst (rget r i) = true then (fa r).bind fun as r1 => muGo i h as r1 else .no
theorem gset_same : ∀ (l : List Nat) (i : Nat), l.set i (gget l i) = l
  | [], _ => rfl
  | _ :: _, 0 => rfl
  | n :: l, i + 1 => by show n :: l.set i (gget l i) = _; rw [gset_same l i]
theorem isLst_of {o : Option D} (h : isLst o = true) : ∃ ds, o = some (.lst ds) := by
  cases o with
  | none => cases h
  | some d => cases d <;> first | exact ⟨_, rfl⟩ | cases h
theorem mu_end {i : Nat} {h : List D → List D → Option (D × List D)} {r0 : V → List V → Hp → VK → Prop} (mu : MuOk X r0 n kr h) {c s c1 s1 ca sa : Cnt} {H H1 : Hp} {σ : St} {Q : VK} {as : List D} {us : List V} {r1 : Rho} {l : Addr} (hm : gget G1 i = n + 1) (x : SR X.K H1 G1 r1 σ c1 s1) (rp : Reps X.K H1 n as us ca sa)
    (st : Step c s H (add c1 ca) (add s1 sa) H1) (ev0 : σ[i]? = some (some (.ref l))) (hh : OutX X F c s H σ (OkE X G1 kr c s H σ Q) (muGo i h as r1)) : r0 (.ref l) us H1 Q := by
  unfold muGo at hh
  cases e1 : rget r1 i with
  | none => rw [e1] at hh; exact False.elim hh
  | some d0 =>
    rw [e1] at hh
    cases d0 with
    | lst ds =>
      cases eh : h ds as with
      | none => simp only [eh] at hh; exact False.elim hh
      | some pr =>
        obtain ⟨d, ds'⟩ := pr
        simp only [eh] at hh
        obtain ⟨v, c3, s3, c4, s4, ev, rr, x', ec, es'⟩ := x.out e1
        rw [ev0] at ev
        cases ev
        rw [hm] at rr
        have hlt := rget_lt e1
        cases rr with
        | @lstS _ _ vs _ cc ss hl rs =>
          subst ec; subst es'
          have okl := st.ok l
          simp only [add_at, one_same] at okl
          refine mu ds as d ds' eh l vs us H1 cc s3 ca sa Q hl rs rp fun vs' v c' s' cr sr rs' rv hc hs => ?_
          have hcl := hc l
          have hsl : s' l = 0 ∧ sr l = 0 := by
            have := hs l
            omega
          have kp : ∀ {c s : Cnt}, c l = 0 → s l = 0 → Kp c s H1 (L2.upd H1 l (.lst vs')) := fun {c s} e1 e2 => Kp.upd hl (fun z => z) e1 e2
          have xk := x'.keep (kp (by omega) (by omega))
          have rk := rs'.keep (kp (by omega) hsl.1)
          have xu := xk.upd (by rw [List.length_set]; exact hlt) (rget_set_none r1 i) ev0 (.lstS upd_same rk)
          rw [set_set, ← hm, gset_same] at xu
          refine hh v _ _ _ cr sr xu (rv.keep (kp (by omega) hsl.2)) ?_
          refine st.mut (by simp only [add_at, one_same]; omega) hl (fun z => z) (fun a => ?_) (fun a ha => ?_)
          · have := hc a
            simp only [add_at]; omega
          · have := hs a
            simp only [add_at] at ha ⊢; omega
    | _ => exact False.elim hh
/-- x.m(e, ..), x the name of slot i, a list that is owned -/
theorem v_mt (i n : Nat) {y name : Str} {py : Pos} {id : String} {r0 : V → List V → Hp → VK → Prop} {h : List D → List D → Option (D × List D)} {fa : Rho → R (List D)} (slot : Slot "list" name id) (hty : typeOf (.builtin id) = pure (.type "method_descriptor")) (hmt : MtR X id r0) (mu : MuOk X r0 n kr h)
    (A : PL X F G G1 n (e :: es) fa) (hmm : gget G1 i = n + 1 := by rfl) (hN : X.N[i]? = some y := by rfl) (hv : Vis X.env.scope y := by first | exact Or.inl rfl | exact Or.inr (Or.inl rfl) | exact Or.inr (Or.inr rfl))
    (hd : (y == ("__debug__" : Str)) = false := by decide) (hcd : (y == ("__classdict__" : Str)) = false := by decide)
    (hbase : attributeBase (.Name y py) name X.env (eval (.Name y py) X.env) = eval (.Name y py) X.env := by rfl)
    (hfew : ((backTo cpos (starEach (e :: es) X.env)).all (fun x => !x.1) && (backToKw cpos (keywordEach [] X.env)).all (fun x => x.1.isSome)
      && decide ((e :: es).length + ([] : List Keyword).length + (if ([] : List Keyword).isEmpty then 0 else 1) < 30)) = true := by rfl)
    (hline : (apos.endLine == cpos.line) = true := by rfl) (hs : starEach (e :: es) X.env = (false, eval e X.env) :: starEach es X.env := by rfl) (hplain : (backTo cpos (starEach es X.env)).any (·.1) = false := by rfl) :
    PV X F G G1 kr (.Call (.Attribute (.Name y py) name apos) (e :: es) [] cpos) (dMut i h fa) := by
  obtain ⟨t, ht, q⟩ := A.go
  refine ⟨_, pe_bm PySem.F.plainAttrs_list slot hty hmt (pv i hN hv hd hcd) ht hbase hfew hline hs hplain, fun σ H r c s Q sr ok h0 => ?_⟩
  unfold dMut at h0
  by_cases hi : isLst (rget r i) = true
  case neg => rw [if_neg hi] at h0; exact False.elim h0
  rw [if_pos hi] at h0
  obtain ⟨ds0, e0⟩ := isLst_of hi
  obtain ⟨v0, _, _, _, _, ev0, rp0, _⟩ := sr.out e0
  obtain ⟨l, vs0, rfl, hl0, _⟩ := rep_lst rp0
  refine ⟨.ref l, ev0, .inl ⟨rfl, vs0, SqL.of hl0⟩, q σ H r c s _ sr ok (h0.bind.mono fun as r1 h2 => ?_)⟩
  intro us H1 c1 s1 ca sa x rp st
  exact mu_end mu hmm x rp st ev0 h2
/-- x.m() -/
theorem v_mt0 (i n : Nat) {y name : Str} {py : Pos} {id : String} {r0 : V → List V → Hp → VK → Prop} {h : List D → List D → Option (D × List D)} (slot : Slot "list" name id) (hty : typeOf (.builtin id) = pure (.type "method_descriptor")) (hmt : MtR X id r0) (mu : MuOk X r0 n kr h)
    (hmm : gget G i = n + 1 := by rfl) (hN : X.N[i]? = some y := by rfl) (hv : Vis X.env.scope y := by first | exact Or.inl rfl | exact Or.inr (Or.inl rfl) | exact Or.inr (Or.inr rfl))
    (hd : (y == ("__debug__" : Str)) = false := by decide) (hcd : (y == ("__classdict__" : Str)) = false := by decide)
    (hbase : attributeBase (.Name y py) name X.env (eval (.Name y py) X.env) = eval (.Name y py) X.env := by rfl) (hline : (apos.endLine == cpos.line) = true := by rfl) :
    PV X F G G kr (.Call (.Attribute (.Name y py) name apos) [] [] cpos) (dMut i h (fun r => .ok [] r)) := by
  refine ⟨_, pe_bm0 PySem.F.plainAttrs_list slot hty hmt (pv i hN hv hd hcd) hbase hline, fun σ H r c s Q sr ok h0 => ?_⟩
  unfold dMut at h0
  by_cases hi : isLst (rget r i) = true
  case neg => rw [if_neg hi] at h0; exact False.elim h0
  rw [if_pos hi] at h0
  obtain ⟨ds0, e0⟩ := isLst_of hi
  obtain ⟨v0, _, _, _, _, ev0, rp0, _⟩ := sr.out e0
  obtain ⟨l, vs0, rfl, hl0, _⟩ := rep_lst rp0
  refine ⟨.ref l, ev0, .inl ⟨rfl, vs0, SqL.of hl0⟩, ?_⟩
  exact mu_end mu hmm sr .nil (by simp only [add_z]; exact .refl ok) ev0 h0
/-! ### the methods -/
def hAppend : List D → List D → Option (D × List D) := fun ds as => match as with
  | [x] => if ds.length < 100000 then some (.non, ds ++ [x]) else none
  | _ => none
theorem line6 {n : Nat} (h : n < 100000) : n < sizeLine := Nat.lt_of_lt_of_le h (by decide)
theorem mu_append : MuOk X rAppend n kr hAppend := by
  intro ds as d ds' hh l vs us H c s ca sa Q hl rs ra hq
  unfold hAppend at hh
  split at hh
  · rename_i x
    split at hh
    · rename_i hlen
      cases hh
      obtain ⟨v, _, c1, s1, c2, s2, rfl, rx, rn, rfl, rfl⟩ := ra.inv1
      obtain ⟨rfl, rfl, rfl⟩ := rn.inv0
      exact ⟨l, vs, v, rfl, rfl, hl, by rw [← rs.length]; exact line6 hlen, hq _ .non _ _ z0 z0 (Reps.snoc rx rs) .non (fun a => by simp only [add_at, z_at]; omega) (fun a h => by simp only [add_at, z_at] at h ⊢; omega)⟩
    · cases hh
  · cases hh
def hReverse : List D → List D → Option (D × List D) := fun ds as => match as with
  | [] => some (.non, ds.reverse)
  | _ => none
theorem mu_reverse : MuOk X rReverse n kr hReverse := by
  intro ds as d ds' hh l vs us H c s ca sa Q hl rs ra hq
  unfold hReverse at hh
  split at hh
  · cases hh
    obtain ⟨rfl, rfl, rfl⟩ := ra.inv0
    exact ⟨l, vs, rfl, rfl, hl, hq _ .non _ _ z0 z0 rs.rev .non (fun a => Nat.le_refl _) (fun a h => h)⟩
  · cases hh
def hPopAt : List D → List D → Option (D × List D) := fun ds as => match as with
  | [.int i] => if ds.length ≤ 100000 then (match ixN ds.length i with
    | some k => (match ds[k]? with
      | some d => some (d, ds.eraseIdx k)
      | none => none)
    | none => none) else none
  | _ => none
theorem mu_popAt : MuOk X rPopAt n n hPopAt := by
  intro ds as d ds' hh l vs us H c s ca sa Q hl rs ra hq
  unfold hPopAt at hh
  split at hh
  · rename_i i
    split at hh
    · rename_i hlen
      split at hh
      · rename_i k hk
        split at hh
        · rename_i dd hd
          cases hh
          obtain ⟨v, _, c1, s1, c2, s2, rfl, rx, rn, rfl, rfl⟩ := ra.inv1
          obtain ⟨rfl, rfl, rfl⟩ := rn.inv0
          cases rx
          obtain ⟨w, c3, s3, c4, s4, ew, rw', rs', rfl, rfl⟩ := rs.erase hd
          obtain ⟨h1, h2, h3, h4⟩ := ixN_seq hk
          have hlv := rs.length
          refine ⟨l, vs, i, k, w, rfl, rfl, hl, by omega, by omega, by rw [← hlv]; exact h1, ew, hq _ w c4 s4 c3 s3 rs' rw' (fun a => by simp only [add_at]; omega) (fun a h => by simp only [add_at] at h ⊢; omega)⟩
        · cases hh
      · cases hh
    · cases hh
  · cases hh
def hPop : List D → List D → Option (D × List D) := fun ds as => match as with
  | [] => (match ds[ds.length - 1]? with
    | some d => some (d, ds.dropLast)
    | none => none)
  | _ => none
theorem eraseLast {α : Type} : ∀ (l : List α), l.eraseIdx (l.length - 1) = l.dropLast
  | [] => rfl
  | [x] => rfl
  | x :: y :: l => by
    show x :: (y :: l).eraseIdx ((y :: l).length - 1) = x :: (y :: l).dropLast
    rw [eraseLast (y :: l)]
theorem mu_pop : MuOk X rPop n n hPop := by
  intro ds as d ds' hh l vs us H c s ca sa Q hl rs ra hq
  unfold hPop at hh
  split at hh
  · split at hh
    · rename_i dd hd
      cases hh
      obtain ⟨rfl, rfl, rfl⟩ := ra.inv0
      obtain ⟨w, c3, s3, c4, s4, ew, rw', rs', rfl, rfl⟩ := rs.erase hd
      have hlv := rs.length
      rw [eraseLast, hlv, eraseLast] at rs'
      refine ⟨l, vs, w, rfl, rfl, hl, by rw [← hlv]; exact ew, hq _ w c4 s4 c3 s3 rs' rw' (fun a => by simp only [add_at]; omega) (fun a h => by simp only [add_at] at h ⊢; omega)⟩
    · cases hh
  · cases hh
def hExtend : List D → List D → Option (D × List D) := fun ds as => match as with
  | [.lst es] => if ds.length + es.length ≤ 100000 then some (.non, ds ++ es) else none
  | _ => none
theorem mu_extend : MuOk X rExtend 0 kr hExtend := by
  intro ds as d ds' hh l vs us H c s ca sa Q hl rs ra hq
  unfold hExtend at hh
  split at hh
  · rename_i es
    split at hh
    · rename_i hlen
      cases hh
      obtain ⟨v, _, c1, s1, c2, s2, rfl, rx, rn, rfl, rfl⟩ := ra.inv1
      obtain ⟨rfl, rfl, rfl⟩ := rn.inv0
      obtain ⟨b, zs, s3, rfl, hb, re, rfl, rfl⟩ := rep_lst0 rx
      refine ⟨l, b, vs, zs, rfl, rfl, hl, hb, by rw [← rs.length, ← re.length]; exact line5 hlen, hq _ .non _ _ z0 z0 (re.app rs) .non (fun a => by simp only [add_at, z_at]; omega) (fun a h => by simp only [add_at, z_at] at h ⊢; omega)⟩
    · cases hh
  · cases hh
end
end VL

namespace VL
open PySem PySem.Spec L2
/-- an element replaced -/
theorem Reps.putAt {K : PySem.W.Frag} {H : Hp} {n : Nat} : ∀ {ds : List D} {vs : List V} {c s : Cnt}, Reps K H n ds vs c s → ∀ {i : Nat}, i < ds.length → ∃ c1 s1 c2 s2, c = add c1 c2 ∧ s = add s1 s2 ∧ ∀ d v c' s', Rep K H n d v c' s' → Reps K H n (ds.set i d) (vs.set i v) (add c' c2) (add s' s2)
  | _, _, _, _, .nil, _, h => absurd h (Nat.not_lt_zero _)
  | _, _, _, _, .cons a b, 0, _ => ⟨_, _, _, _, rfl, rfl, fun d v c' s' r => .cons r b⟩
  | _, _, _, _, .cons (c1 := ca) (s1 := sa) a b, i + 1, h => by
    obtain ⟨c1, s1, c2, s2, e1, e2, f⟩ := Reps.putAt b (i := i) (Nat.lt_of_succ_lt_succ h)
    refine ⟨c1, s1, add ca c2, add sa s2, by rw [e1, add_left_comm'], by rw [e2, add_left_comm'], fun d v c' s' r => ?_⟩
    rw [add_left_comm' c', add_left_comm' s']
    exact .cons a (f d v c' s' r)
section
variable {X : Cx} {F : Fx} {G G1 G2 G3 G4 G' Gt Gs Gn : List Nat} {k k1 k2 kr lv n : Nat} {e a b tg iter elt : Expr} {es ifs : List Expr} {pos p apos cpos : Pos} {st : Stmt} {sts : List Stmt}
def setGo (i : Nat) (d dj : D) (r : Rho) : SO := match rget r i, dj with
  | some (.lst ds), .int j => (match ixN ds.length j with
    | some k => .nx (r.set i (some (.lst (ds.set k d))))
    | none => .no)
  | _, _ => .no
/-- x[j] = e, x the name of slot i, a list that is owned -/
theorem s_setIx (i n : Nat) {y : Str} {py ps : Pos} {fe fj : Rho → R D} (A : PV X F G G1 n e fe) (B0 : PV X F G1 G2 k2 b fj) (hmm : gget G2 i = n + 1 := by rfl) (hN : X.N[i]? = some y := by rfl) (hv : Vis X.env.scope y := by first | exact Or.inl rfl | exact Or.inr (Or.inl rfl) | exact Or.inr (Or.inr rfl))
    (hd : (y == ("__debug__" : Str)) = false := by decide) (hcd : (y == ("__classdict__" : Str)) = false := by decide)
    (ha : ∀ v, assign (.Subscript (.Name y py) b ps) X.env v = (do
      let ov ← holding [v] (eval (.Name y py) X.env)
      let iv ← holding [v, ov] (eval b X.env)
      standAt ps
      holding [v, ov, iv] (setItem ov iv v)
      release [v, ov, iv] []) := by intro _; rfl)
    (hs : swapsWithSole [.Subscript (.Name y py) b ps] e pos.line X.env = pure false := by rfl) (hw : swappedStores [.Subscript (.Name y py) b ps] e X.env = pure none := by rfl)
    (h1 : (assignEach [.Subscript (.Name y py) b ps] X.env).map (·.2) = [assign (.Subscript (.Name y py) b ps) X.env] := by rfl) :
    PSt X F G G2 (.Assign [.Subscript (.Name y py) b ps] e pos) (fun r => (fe r).then fun d r1 => if isLst (rget r1 i) = true then (fj r1).then fun dj r2 => setGo i d dj r2 else .no) := by
  have B := B0.weak (Nat.zero_le k2)
  obtain ⟨t, ht, q⟩ := A.go
  obtain ⟨u, hu, q2⟩ := B.go
  refine ⟨_, ps_asg ht (pg_sub (pv i hN hv hd hcd) hu set_list ha) hs hw h1, fun v0 σ H r c s Dn sr ok pr h => q σ H r c s _ sr ok (OutS.useX pr h fun d r1 h2 => ?_)⟩
  intro v0'' H1 c1 s1 ca sa x rp st
  by_cases hi : isLst (rget r1 i) = true
  case neg => rw [if_neg hi] at h2; exact False.elim h2
  rw [if_pos hi] at h2
  obtain ⟨ds0, e0⟩ := isLst_of hi
  obtain ⟨v0', _, _, _, _, ev0, rp0, _⟩ := x.out e0
  obtain ⟨l, vs0, rfl, hl0, _⟩ := rep_lst rp0
  have ok1 : Ok c1 s1 := fun z => by have := st.ok z; simp only [add_at] at this; omega
  have st1 : Step c s H c1 s1 H1 := st.less (fun z => by simp only [add_at]; omega) (fun z hz => by simp only [add_at]; omega)
  refine ⟨.ref l, ev0, q2 σ H1 r1 c1 s1 _ x ok1 ?_⟩
  cases ej : fj r1 with
  | no => rw [ej] at h2; exact False.elim h2
  | ex nn dd r2 => rw [ej] at h2; exact fun cls dx H' G c1 s1 e gg sr4 z => h2 cls dx σ H' G c1 s1 e gg sr4 pr (st1.trans z)
  | ok dj r2 =>
  rw [ej] at h2
  have h3 : OutS X F v0 G2 c s H Dn (setGo i d dj r2) := h2
  intro vj H2 c2 s2 cj sj x2 rj st2
  have zj := rj.zero
  subst zj
  unfold setGo at h3
  cases e1 : rget r2 i with
  | none => rw [e1] at h3; exact False.elim h3
  | some d0 =>
    rw [e1] at h3
    cases d0 with
    | lst ds =>
      cases dj with
      | int j =>
        cases hk : ixN ds.length j with
        | none => simp only [hk] at h3; exact False.elim h3
        | some kk =>
          simp only [hk] at h3
          cases rj
          simp only [add_z] at st2
          obtain ⟨v, c3, s3, c4, s4, ev, rr, x', ec, es'⟩ := x2.out e1
          rw [ev0] at ev
          cases ev
          rw [hmm] at rr
          have hlt := rget_lt e1
          cases rr with
          | @lstS _ _ vs _ cc ss hl rs =>
            subst ec; subst es'
            have hlen := rs.length
            have hkk : kk < ds.length := (ixN_seq hk).2.1
            obtain ⟨c5, s5, c6, s6, ecc, ess, put⟩ := rs.putAt hkk
            subst ecc; subst ess
            have stf := st2.frame (cf := ca) (sf := sa) st.ok rp.dom
            have rp2 := rp.keep (st2.aside st.ok)
            have rs2 := put d v0'' ca sa rp2
            have okl := stf.ok l
            simp only [add_at, one_same] at okl
            have kp : ∀ {c s : Cnt}, c l = 0 → s l = 0 → Kp c s H2 (L2.upd H2 l (.lst (vs.set kk v0''))) := fun {c s} e1 e2 => Kp.upd hl (fun z => z) e1 e2
            refine ⟨l, vs, j, kk, rfl, rfl, hl, by rw [← hlen]; exact hk, ?_⟩
            have xk := x'.keep (kp (by omega) (by omega))
            have rk := rs2.keep (kp (by simp only [add_at]; omega) (by simp only [add_at]; omega))
            have xu := xk.upd (by rw [List.length_set]; exact hlt) (rget_set_none r2 i) ev0 (.lstS upd_same rk)
            rw [set_set, ← hmm, gset_same] at xu
            refine h3 σ _ _ _ xu pr ?_
            exact (st.trans stf).mut (by simp only [add_at, one_same]; omega) hl (fun z => z) (fun a => by simp only [add_at]; omega) (fun a ha => by simp only [add_at] at ha ⊢; omega)
      | _ => exact False.elim h3
    | _ => exact False.elim h3
end
end VL

namespace VL
open PySem PySem.Spec L2

/-! ### equality of deep data -/
mutual
def toPy : D → PyData
  | .bl b => .bool b
  | .int i => .int i
  | .str x => .str x
  | .lst xs => .list (toPyL xs)
  | .tup xs => .tuple (toPyL xs)
  | _ => .none
def toPyL : List D → List PyData
  | [] => []
  | x :: xs => toPy x :: toPyL xs
end
mutual
/-- plain data, at most n levels of lists and tuples -/
def shD : Nat → D → Bool
  | _, .non => true
  | _, .bl _ => true
  | _, .int _ => true
  | _, .str x => PyData.strOk x
  | n + 1, .lst xs => shDL n xs
  | n + 1, .tup xs => shDL n xs
  | _, _ => false
def shDL : Nat → List D → Bool
  | _, [] => true
  | n, x :: xs => shD n x && shDL n xs
end
mutual
def eqD : D → D → Bool
  | .non, .non => true
  | .bl a, .bl b => a == b
  | .bl a, .int j => (if a then 1 else 0) == j
  | .int i, .bl b => i == (if b then 1 else 0)
  | .int i, .int j => i == j
  | .str x, .str y => x == y
  | .lst xs, .lst ys => eqDL xs ys
  | .tup xs, .tup ys => eqDL xs ys
  | _, _ => false
def eqDL : List D → List D → Bool
  | [], [] => true
  | x :: xs, y :: ys => eqD x y && eqDL xs ys
  | _, _ => false
end
mutual
theorem shD_lay : ∀ (n : Nat) (d : D), shD n d = true → (toPy d).canLay0 = true ∧ (toPy d).depth ≤ n
  | _, .non, _ => ⟨rfl, Nat.zero_le _⟩
  | _, .bl _, _ => ⟨rfl, Nat.zero_le _⟩
  | _, .int _, _ => ⟨rfl, Nat.zero_le _⟩
  | n, .str x, h => ⟨by unfold shD at h; unfold toPy PyData.canLay0; exact h, by unfold toPy PyData.depth; exact Nat.zero_le _⟩
  | n + 1, .lst xs, h => by
    unfold shD at h
    have q := shDL_lay n xs h
    unfold toPy PyData.canLay0 PyData.depth
    exact ⟨q.1, Nat.succ_le_succ q.2⟩
  | n + 1, .tup xs, h => by
    unfold shD at h
    have q := shDL_lay n xs h
    unfold toPy PyData.canLay0 PyData.depth
    exact ⟨q.1, Nat.succ_le_succ q.2⟩
  | 0, .lst xs, h => by simp [shD] at h
  | 0, .tup xs, h => by simp [shD] at h
  | n, .ty _, h => by cases n <;> simp [shD] at h
  | n, .fn _, h => by cases n <;> simp [shD] at h
  | n, .dct _, h => by cases n <;> simp [shD] at h
  | n, .scr _, h => by cases n <;> simp [shD] at h
theorem shDL_lay : ∀ (n : Nat) (ds : List D), shDL n ds = true → PyData.canLayAll0 (toPyL ds) = true ∧ PyData.depthAll (toPyL ds) ≤ n
  | _, [], _ => ⟨rfl, Nat.zero_le _⟩
  | n, d :: ds, h => by
    unfold shDL at h
    rw [Bool.and_eq_true] at h
    have q1 := shD_lay n d h.1
    have q2 := shDL_lay n ds h.2
    unfold toPyL PyData.canLayAll0 PyData.depthAll
    rw [q1.1, q2.1]
    exact ⟨rfl, Nat.max_le.mpr ⟨q1.2, q2.2⟩⟩
end
theorem shD_shaped {d : D} (h : shD 64 d = true) : SeqAt.shaped (toPy d) = true := by
  have q := shD_lay 64 d h
  unfold SeqAt.shaped
  rw [q.1, decide_eq_true q.2]
  rfl
mutual
theorem eqD_eqv : ∀ (n m : Nat) (a b : D), shD n a = true → shD m b = true → PyData.eqv (toPy a) (toPy b) = eqD a b
  | n, m, .lst xs, .lst ys, h1, h2 => by
    cases n with
    | zero => simp [shD] at h1
    | succ n =>
      cases m with
      | zero => simp [shD] at h2
      | succ m =>
        unfold shD at h1 h2
        unfold toPy PyData.eqv eqD
        exact eqDL_eqv n m xs ys h1 h2
  | n, m, .tup xs, .tup ys, h1, h2 => by
    cases n with
    | zero => simp [shD] at h1
    | succ n =>
      cases m with
      | zero => simp [shD] at h2
      | succ m =>
        unfold shD at h1 h2
        unfold toPy PyData.eqv eqD
        exact eqDL_eqv n m xs ys h1 h2
  | n, m, .non, b, h1, h2 => by cases b <;> first | (simp [toPy, PyData.eqv, eqD]; done) | (cases m <;> simp [shD] at h2)
  | n, m, .bl _, b, h1, h2 => by cases b <;> first | (simp [toPy, PyData.eqv, eqD]; done) | (cases m <;> simp [shD] at h2)
  | n, m, .int _, b, h1, h2 => by cases b <;> first | (simp [toPy, PyData.eqv, eqD]; done) | (cases m <;> simp [shD] at h2)
  | n, m, .str _, b, h1, h2 => by cases b <;> first | (simp [toPy, PyData.eqv, eqD]; done) | (cases m <;> simp [shD] at h2)
  | n, m, .ty _, b, h1, h2 => by cases n <;> simp [shD] at h1
  | n, m, .fn _, b, h1, h2 => by cases n <;> simp [shD] at h1
  | n, m, .dct _, b, h1, h2 => by cases n <;> simp [shD] at h1
  | n, m, .scr _, b, h1, h2 => by cases n <;> simp [shD] at h1
  | n, m, .lst _, .non, h1, h2 => by simp [toPy, PyData.eqv, eqD]
  | n, m, .lst _, .bl _, h1, h2 => by simp [toPy, PyData.eqv, eqD]
  | n, m, .lst _, .int _, h1, h2 => by simp [toPy, PyData.eqv, eqD]
  | n, m, .lst _, .str _, h1, h2 => by simp [toPy, PyData.eqv, eqD]
  | n, m, .lst _, .tup _, h1, h2 => by simp [toPy, PyData.eqv, eqD]
  | n, m, .lst _, .ty _, h1, h2 => by cases m <;> simp [shD] at h2
  | n, m, .lst _, .fn _, h1, h2 => by cases m <;> simp [shD] at h2
  | n, m, .lst _, .dct _, h1, h2 => by cases m <;> simp [shD] at h2
  | n, m, .lst _, .scr _, h1, h2 => by cases m <;> simp [shD] at h2
  | n, m, .tup _, .non, h1, h2 => by simp [toPy, PyData.eqv, eqD]
  | n, m, .tup _, .bl _, h1, h2 => by simp [toPy, PyData.eqv, eqD]
  | n, m, .tup _, .int _, h1, h2 => by simp [toPy, PyData.eqv, eqD]
  | n, m, .tup _, .str _, h1, h2 => by simp [toPy, PyData.eqv, eqD]
  | n, m, .tup _, .lst _, h1, h2 => by simp [toPy, PyData.eqv, eqD]
  | n, m, .tup _, .ty _, h1, h2 => by cases m <;> simp [shD] at h2
  | n, m, .tup _, .fn _, h1, h2 => by cases m <;> simp [shD] at h2
  | n, m, .tup _, .dct _, h1, h2 => by cases m <;> simp [shD] at h2
  | n, m, .tup _, .scr _, h1, h2 => by cases m <;> simp [shD] at h2
theorem eqDL_eqv : ∀ (n m : Nat) (a b : List D), shDL n a = true → shDL m b = true → PyData.eqvAll (toPyL a) (toPyL b) = eqDL a b
  | _, _, [], [], _, _ => by simp [toPyL, PyData.eqvAll, eqDL]
  | _, _, [], _ :: _, _, _ => by simp [toPyL, PyData.eqvAll, eqDL]
  | _, _, _ :: _, [], _, _ => by simp [toPyL, PyData.eqvAll, eqDL]
  | n, m, a :: as, b :: bs, h1, h2 => by
    unfold shDL at h1 h2
    rw [Bool.and_eq_true] at h1 h2
    unfold toPyL PyData.eqvAll eqDL
    rw [eqD_eqv n m a b h1.1 h2.1, eqDL_eqv n m as bs h1.2 h2.2]
end
section
variable {K : PySem.W.Frag} {H : Hp}
mutual
theorem Rep.dp : ∀ {n : Nat} {d : D} {v : V} {c s : Cnt}, Rep K H n d v c s → ∀ {m : Nat}, shD m d = true → Dp K H v (toPy d)
  | _, _, _, _, _, .non, _, _ => .non
  | _, _, _, _, _, .bl b, _, _ => .bl b
  | _, _, _, _, _, .int i, _, _ => .int i
  | _, _, _, _, _, .str x, _, _ => .str x
  | _, _, _, _, _, .ty x, m, h => by cases m <;> simp [shD] at h
  | _, _, _, _, _, .fn a, m, h => by cases m <;> simp [shD] at h
  | _, _, _, _, _, .lst0 hh r, m, h => by
    cases m with
    | zero => simp [shD] at h
    | succ m => unfold shD at h; unfold toPy; exact .lst (SqL.of hh) (Reps.dp r h)
  | _, _, _, _, _, .scr o hh, m, h => by cases m <;> simp [shD] at h
  | _, _, _, _, _, .scrK hh, m, h => by cases m <;> simp [shD] at h
  | _, _, _, _, _, .lstS hh r, m, h => by
    cases m with
    | zero => simp [shD] at h
    | succ m => unfold shD at h; unfold toPy; exact .lst (SqL.of hh) (Reps.dp r h)
  | _, _, _, _, _, .tup hh r, m, h => by
    cases m with
    | zero => simp [shD] at h
    | succ m => unfold shD at h; unfold toPy; exact .tup (SqT.of hh) (Reps.dp r h)
  | _, _, _, _, _, .dct0 hh e1 e2 e3 r, m, h => by cases m <;> simp [shD] at h
  | _, _, _, _, _, .dctS hh e1 e2 e3 r, m, h => by cases m <;> simp [shD] at h
theorem Reps.dp : ∀ {n : Nat} {ds : List D} {vs : List V} {c s : Cnt}, Reps K H n ds vs c s → ∀ {m : Nat}, shDL m ds = true → DpAll K H vs (toPyL ds)
  | _, _, _, _, _, .nil, _, _ => by unfold toPyL; exact .nil
  | _, _, _, _, _, .cons a b, m, h => by
    unfold shDL at h
    rw [Bool.and_eq_true] at h
    unfold toPyL
    exact .cons (Rep.dp a h.1) (Reps.dp b h.2)
end
end
def pEq (a b : D) : Option D := if shD 64 a = true ∧ shD 64 b = true then some (.bl (eqD a b)) else none
def pNe (a b : D) : Option D := if shD 64 a = true ∧ shD 64 b = true then some (.bl (!eqD a b)) else none
section
variable {X : Cx} {k : Nat}
theorem p_eq : P2 X (rEqD X.K) k pEq := by
  intro da db d hd x y H sa sb Q ra rb hq
  unfold pEq at hd
  split at hd
  · rename_i h
    cases hd
    have e := eqD_eqv 64 64 da db h.1 h.2
    refine ⟨_, _, ra.dp h.1, rb.dp h.2, shD_shaped h.1, shD_shaped h.2, ?_⟩
    rw [e]
    exact hq _ H z0 z0 (.bl _) .flat
  · cases hd
theorem p_ne : P2 X (rNeD X.K) k pNe := by
  intro da db d hd x y H sa sb Q ra rb hq
  unfold pNe at hd
  split at hd
  · rename_i h
    cases hd
    have e := eqD_eqv 64 64 da db h.1 h.2
    refine ⟨_, _, ra.dp h.1, rb.dp h.2, shD_shaped h.1, shD_shaped h.2, ?_⟩
    rw [e]
    exact hq _ H z0 z0 (.bl _) .flat
  · cases hd
/-! ### is None -/
def isN : D → Bool
  | .non => true
  | _ => false
def pIs (a b : D) : Option D := if isN b = true then some (.bl (isN a)) else none
def pIsNot (a b : D) : Option D := if isN b = true then some (.bl (!isN a)) else none
theorem rep_isN {K : PySem.W.Frag} {H : Hp} {n : Nat} {d : D} {v : V} {c s : Cnt} (r : Rep K H n d v c s) : decide (v = .non) = isN d := by
  cases r <;> simp [isN]
theorem isN_of {d : D} (h : isN d = true) : d = .non := by cases d <;> first | rfl | cases h
theorem p_is : P2 X (fun x y H Q => y = .non ∧ Q (.bl (decide (x = .non))) H) k pIs := by
  intro da db d hd x y H sa sb Q ra rb hq
  unfold pIs at hd
  split at hd
  · rename_i h
    cases hd
    have e := isN_of h
    subst e
    cases rb
    rw [rep_isN ra]
    exact ⟨rfl, hq _ H z0 z0 (.bl _) .flat⟩
  · cases hd
theorem p_isNot : P2 X (fun x y H Q => y = .non ∧ Q (.bl (!decide (x = .non))) H) k pIsNot := by
  intro da db d hd x y H sa sb Q ra rb hq
  unfold pIsNot at hd
  split at hd
  · rename_i h
    cases hd
    have e := isN_of h
    subst e
    cases rb
    rw [rep_isN ra]
    exact ⟨rfl, hq _ H z0 z0 (.bl _) .flat⟩
  · cases hd
/-! ### len -/
def lenD : D → Option Nat
  | .lst ds => some ds.length
  | .scr ns => some ns.length
  | .tup ds => some ds.length
  | .str x => if x.length ≤ 100000 then some x.length else none
  | _ => none
def pLen : List D → Option D
  | [d] => (lenD d).map fun n => .int n
  | _ => none
theorem rep_len {K : PySem.W.Frag} {H : Hp} {n m : Nat} {d : D} {v : V} {c s : Cnt} (r : Rep K H n d v c s) (h : lenD d = some m) : LenV K v H m := by
  cases d with
  | lst ds => cases h; obtain ⟨a, vs, rfl, hh, _, _, _, rs, _, _⟩ := rep_lst r; exact .inl ⟨vs, SqL.of hh, rs.length⟩
  | scr ns => cases h; obtain ⟨a, rfl, hh⟩ := rep_scr r; exact .inl ⟨_, hh, by rw [List.length_map]⟩
  | tup ds => cases h; obtain ⟨a, vs, rfl, hh, rs⟩ := rep_tup r; exact .inr ⟨vs, SqT.of hh, rs.length⟩
  | str x =>
    cases r
    simp only [lenD] at h
    split at h
    · rename_i hl
      cases h
      exact ⟨line5 hl, rfl⟩
    · cases h
  | _ => cases h
theorem n_len : PN X (fun xs H Q => ∃ x n, xs = [x] ∧ LenV X.K x H n ∧ Q (.int n) H) k pLen := by
  intro ds d hd xs H sa Q ra hq
  unfold pLen at hd
  split at hd
  · rename_i d0
    cases e : lenD d0 with
    | none => rw [e] at hd; cases hd
    | some m =>
      rw [e] at hd
      cases hd
      obtain ⟨v, _, _, _, _, _, rfl, rx, rn, _, _⟩ := ra.inv1
      obtain ⟨rfl, _, _⟩ := rn.inv0
      exact ⟨v, m, rfl, rep_len rx e, hq _ H z0 z0 (.int _) .flat⟩
  · cases hd
/-! ### subscripts -/
def pIx (a b : D) : Option D := match a, b with
  | .lst ds, .int i => (ixN ds.length i).bind fun j => ds[j]?
  | .tup ds, .int i => (ixN ds.length i).bind fun j => ds[j]?
  | .scr ns, .int i => (ixN ns.length i).bind fun j => (ns[j]?).map D.int
  | .str z, .int i => if z.length ≤ 100000 then (ixN z.cps.toList.length i).bind fun j => (z.cps.toList[j]?).map fun c => .str ⟨#[c]⟩ else none
  | _, _ => none
theorem New.part {S : Cnt} {H : Hp} {sr : Cnt} (h : ∀ a, 0 < sr a → 0 < S a) : New S H z0 sr H := ⟨fun a h => absurd h (Nat.lt_irrefl 0), fun a ha => .inl (h a ha), fun _ _ h => h, fun a => ⟨Nat.zero_le _, .inl rfl⟩⟩
theorem reps_at {K : PySem.W.Frag} {H : Hp} {ds : List D} {vs : List V} {s : Cnt} (rs : Reps K H 0 ds vs z0 s) {i : Int} {d : D} (h : ((ixN ds.length i).bind fun j => ds[j]?) = some d) : ∃ v si, atI vs i = some v ∧ Rep K H 0 d v z0 si ∧ ∀ a, si a ≤ s a := by
  cases e : ixN ds.length i with
  | none => rw [e] at h; cases h
  | some j =>
    rw [e] at h
    have h : ds[j]? = some d := h
    obtain ⟨v, ci, si, ev, rv, hc, hs⟩ := rs.get h
    have z := rv.zero
    subst z
    refine ⟨v, si, ?_, rv, hs⟩
    unfold atI
    rw [← rs.length, e]
    exact ev
theorem p_ix : P2 X (rIx X.K) 0 pIx := by
  intro da db d hd x y H sa sb Q ra rb hq
  unfold pIx at hd
  split at hd
  · obtain ⟨a, vs, s', rfl, ha, rs, es, _⟩ := rep_lst0 ra
    cases rb
    obtain ⟨v, si, ev, rv, hs⟩ := reps_at rs hd
    exact .inl ⟨a, vs, _, v, rfl, rfl, SqL.of ha, ev, hq v H z0 si rv (.part fun z hz => by have := hs z; subst es; simp only [add_at]; omega)⟩
  · obtain ⟨a, vs, rfl, ha, rs⟩ := rep_tup ra
    cases rb
    obtain ⟨v, si, ev, rv, hs⟩ := reps_at rs hd
    exact .inr (.inl ⟨a, vs, _, v, rfl, rfl, SqT.of ha, ev, hq v H z0 si rv (.part fun z hz => by have := hs z; simp only [add_at]; omega)⟩)
  · rename_i ns i
    obtain ⟨a, rfl, hh⟩ := rep_scr ra
    cases rb
    cases e : ixN ns.length i with
    | none => rw [e] at hd; cases hd
    | some j =>
      rw [e] at hd
      simp only [Option.bind_some] at hd
      cases e2 : ns[j]? with
      | none => rw [e2] at hd; cases hd
      | some m =>
        rw [e2] at hd
        cases hd
        refine .inl ⟨a, _, _, .int m, rfl, rfl, hh, ?_, hq _ H z0 z0 (.int _) .flat⟩
        unfold atI
        rw [List.length_map, e]
        show (ns.map V.int)[j]? = _
        rw [List.getElem?_map, e2]
        rfl
  · rename_i z i
    split at hd
    · rename_i hl
      cases ra
      cases rb
      cases e : ixN z.cps.toList.length i with
      | none => rw [e] at hd; cases hd
      | some j =>
        rw [e] at hd
        simp only [Option.bind_some] at hd
        cases e2 : z.cps.toList[j]? with
        | none => rw [e2] at hd; cases hd
        | some m =>
          rw [e2] at hd
          cases hd
          refine .inr (.inr ⟨z, _, m, rfl, rfl, line5 hl, ?_, hq _ H z0 z0 (.str _) .flat⟩)
          unfold atI
          rw [e]
          exact e2
    · cases hd
  · cases hd
/-! ### isinstance with one built-in class -/
def tyD : D → Option String
  | .non => some "NoneType"
  | .bl _ => some "bool"
  | .int _ => some "int"
  | .str _ => some "str"
  | .lst _ => some "list"
  | .tup _ => some "tuple"
  | .dct _ => some "dict"
  | _ => none
def pIsi : List D → Option D
  | [d, .ty T] => match tyD d with
    | some t => (kitB t T).map D.bl
    | none => none
  | _ => none
theorem rep_tyX {K : PySem.W.Frag} {H : Hp} {n : Nat} {d : D} {v : V} {c s : Cnt} (r : Rep K H n d v c s) {t : String} (h : tyD d = some t) : TyX K H v (.type t) := by
  cases r with
  | non => cases h; exact .base .non
  | bl b => cases h; exact .base (.bl b)
  | int i => cases h; exact .base (.int i)
  | str x => cases h; exact .base (.str x)
  | ty x => cases h
  | fn a => cases h
  | lst0 hh r => cases h; exact .base (.lst hh)
  | scr o hh => cases h
  | scrK hh => cases h
  | lstS hh r => cases h; exact .base (.lst hh)
  | tup hh r => cases h; exact .base (.tup hh)
  | dct0 hh e1 e2 e3 r => cases h; exact .base (.dK hh)
  | dctS hh e1 e2 e3 r => cases h; exact .base (.dK hh)
theorem n_isi : PN X (rIsi X.K) k pIsi := by
  intro ds d hd xs H sa Q ra hq
  unfold pIsi at hd
  split at hd
  · rename_i d0 T
    split at hd
    · rename_i t et
      cases e : kitB t T with
      | none => rw [e] at hd; cases hd
      | some b =>
        rw [e] at hd
        cases hd
        obtain ⟨v, _, _, _, _, _, rfl, rx, rn, _, _⟩ := ra.inv1
        obtain ⟨v2, _, _, _, _, _, rfl, r2, rn2, _, _⟩ := rn.inv1
        obtain ⟨rfl, _, _⟩ := rn2.inv0
        cases r2
        exact ⟨v, .ty T, _, _, b, rfl, .ty T, rep_tyX rx et, kit_ty e, hq _ H z0 z0 (.bl _) .flat⟩
    · cases hd
  · cases hd
/-! ### min, max, abs, int, sum, all, any -/
def pMax2 : List D → Option D
  | [.int i, .int j] => some (.int (if j > i then j else i))
  | _ => none
def pMin2 : List D → Option D
  | [.int i, .int j] => some (.int (if j < i then j else i))
  | _ => none
def pAbs : List D → Option D
  | [.int i] => some (.int (if i < 0 then -i else i))
  | _ => none
def pInt : List D → Option D
  | [.int i] => some (.int i)
  | [.bl b] => some (.int (if b then 1 else 0))
  | _ => none
theorem inv_1 {K : PySem.W.Frag} {H : Hp} {n : Nat} {d : D} {xs : List V} {c s : Cnt} (r : Reps K H n [d] xs c s) : ∃ v s1 c1, xs = [v] ∧ Rep K H n d v c1 s1 ∧ c1 = c ∧ s1 = s := by
  obtain ⟨v, _, c1, s1, c2, s2, rfl, rx, rn, ec, es⟩ := r.inv1
  obtain ⟨rfl, rfl, rfl⟩ := rn.inv0
  exact ⟨v, s1, c1, rfl, rx, by rw [ec, add_z], by rw [es, add_z]⟩
theorem inv_2 {K : PySem.W.Frag} {H : Hp} {n : Nat} {d e : D} {xs : List V} {c s : Cnt} (r : Reps K H n [d, e] xs c s) : ∃ v u c1 s1 c2 s2, xs = [v, u] ∧ Rep K H n d v c1 s1 ∧ Rep K H n e u c2 s2 ∧ c = add c1 c2 ∧ s = add s1 s2 := by
  obtain ⟨v, _, c1, s1, c2, s2, rfl, rx, rn, ec, es⟩ := r.inv1
  obtain ⟨u, s3, c3, rfl, ry, rfl, rfl⟩ := inv_1 rn
  exact ⟨v, u, c1, s1, _, _, rfl, rx, ry, ec, es⟩
theorem n_max2 : PN X (fun xs H Q => ∃ i j, xs = [.int i, .int j] ∧ Q (.int (if j > i then j else i)) H) k pMax2 := by
  intro ds d hd xs H sa Q ra hq
  unfold pMax2 at hd
  split at hd
  · cases hd
    obtain ⟨v, u, _, _, _, _, rfl, r1, r2, _, _⟩ := inv_2 ra
    cases r1; cases r2
    exact ⟨_, _, rfl, hq _ H z0 z0 (.int _) .flat⟩
  · cases hd
theorem n_min2 : PN X (fun xs H Q => ∃ i j, xs = [.int i, .int j] ∧ Q (.int (if j < i then j else i)) H) k pMin2 := by
  intro ds d hd xs H sa Q ra hq
  unfold pMin2 at hd
  split at hd
  · cases hd
    obtain ⟨v, u, _, _, _, _, rfl, r1, r2, _, _⟩ := inv_2 ra
    cases r1; cases r2
    exact ⟨_, _, rfl, hq _ H z0 z0 (.int _) .flat⟩
  · cases hd
theorem n_abs : PN X (fun xs H Q => ∃ i, xs = [.int i] ∧ Q (.int (if i < 0 then -i else i)) H) k pAbs := by
  intro ds d hd xs H sa Q ra hq
  unfold pAbs at hd
  split at hd
  · cases hd
    obtain ⟨v, _, _, rfl, r1, _, _⟩ := inv_1 ra
    cases r1
    exact ⟨_, rfl, hq _ H z0 z0 (.int _) .flat⟩
  · cases hd
theorem n_int : PN X (fun xs H Q => (∃ i, xs = [.int i] ∧ Q (.int i) H) ∨ ∃ k, xs = [.bl k] ∧ Q (.int (if k then 1 else 0)) H) k pInt := by
  intro ds d hd xs H sa Q ra hq
  unfold pInt at hd
  split at hd
  · cases hd
    obtain ⟨v, _, _, rfl, r1, _, _⟩ := inv_1 ra
    cases r1
    exact .inl ⟨_, rfl, hq _ H z0 z0 (.int _) .flat⟩
  · cases hd
    obtain ⟨v, _, _, rfl, r1, _, _⟩ := inv_1 ra
    cases r1
    exact .inr ⟨_, rfl, hq _ H z0 z0 (.int _) .flat⟩
  · cases hd
def intsD : List D → Option (List Int)
  | [] => some []
  | .int i :: ds => (intsD ds).map (i :: ·)
  | _ => none
def blsD : List D → Option (List Bool)
  | [] => some []
  | .bl b :: ds => (blsD ds).map (b :: ·)
  | _ => none
theorem reps_ints {K : PySem.W.Frag} {H : Hp} {n : Nat} : ∀ {ds : List D} {vs : List V} {c s : Cnt}, Reps K H n ds vs c s → ∀ {ns : List Int}, intsD ds = some ns → vs = ns.map V.int
  | [], _, _, _, r, ns, h => by cases h; exact r.inv0.1
  | d :: ds, _, _, _, r, ns, h => by
    obtain ⟨v, vs, _, _, _, _, rfl, rv, rs, _, _⟩ := r.inv1
    cases d with
    | int i =>
      simp only [intsD] at h
      cases e : intsD ds with
      | none => rw [e] at h; cases h
      | some ms =>
        rw [e] at h
        cases h
        cases rv
        rw [reps_ints rs e]
        rfl
    | _ => cases h
theorem reps_bls {K : PySem.W.Frag} {H : Hp} {n : Nat} : ∀ {ds : List D} {vs : List V} {c s : Cnt}, Reps K H n ds vs c s → ∀ {ns : List Bool}, blsD ds = some ns → vs = ns.map V.bl
  | [], _, _, _, r, ns, h => by cases h; exact r.inv0.1
  | d :: ds, _, _, _, r, ns, h => by
    obtain ⟨v, vs, _, _, _, _, rfl, rv, rs, _, _⟩ := r.inv1
    cases d with
    | bl i =>
      simp only [blsD] at h
      cases e : blsD ds with
      | none => rw [e] at h; cases h
      | some ms =>
        rw [e] at h
        cases h
        cases rv
        rw [reps_bls rs e]
        rfl
    | _ => cases h
def pSum : List D → Option D
  | [.lst ds] => (intsD ds).map fun ns => .int ns.sum
  | _ => none
def pAll : List D → Option D
  | [.lst ds] => (blsD ds).map fun ns => .bl (ns.all id)
  | _ => none
def pAny : List D → Option D
  | [.lst ds] => (blsD ds).map fun ns => .bl (ns.any id)
  | _ => none
theorem n_sum : PN X (rSum X.K) k pSum := by
  intro ds d hd xs H sa Q ra hq
  unfold pSum at hd
  split at hd
  · rename_i es
    cases e : intsD es with
    | none => rw [e] at hd; cases hd
    | some ns =>
      rw [e] at hd
      cases hd
      obtain ⟨v, _, _, rfl, r1, _, _⟩ := inv_1 ra
      obtain ⟨a, vs, rfl, ha, _, _, _, rs, _, _⟩ := rep_lst r1
      have q := reps_ints rs e
      subst q
      exact ⟨a, ns, rfl, SqL.of ha, hq _ H z0 z0 (.int _) .flat⟩
  · cases hd
theorem n_all : PN X (rAll X.K) k pAll := by
  intro ds d hd xs H sa Q ra hq
  unfold pAll at hd
  split at hd
  · rename_i es
    cases e : blsD es with
    | none => rw [e] at hd; cases hd
    | some ns =>
      rw [e] at hd
      cases hd
      obtain ⟨v, _, _, rfl, r1, _, _⟩ := inv_1 ra
      obtain ⟨a, vs, rfl, ha, _, _, _, rs, _, _⟩ := rep_lst r1
      have q := reps_bls rs e
      subst q
      exact ⟨a, ns, rfl, SqL.of ha, hq _ H z0 z0 (.bl _) .flat⟩
  · cases hd
theorem n_any : PN X (rAny X.K) k pAny := by
  intro ds d hd xs H sa Q ra hq
  unfold pAny at hd
  split at hd
  · rename_i es
    cases e : blsD es with
    | none => rw [e] at hd; cases hd
    | some ns =>
      rw [e] at hd
      cases hd
      obtain ⟨v, _, _, rfl, r1, _, _⟩ := inv_1 ra
      obtain ⟨a, vs, rfl, ha, _, _, _, rs, _, _⟩ := rep_lst r1
      have q := reps_bls rs e
      subst q
      exact ⟨a, ns, rfl, SqL.of ha, hq _ H z0 z0 (.bl _) .flat⟩
  · cases hd
end
end VL

namespace VL
open PySem PySem.Spec L2

/-! ### new lists, new tuples -/
theorem New.lst {K : PySem.W.Frag} {S s' : Cnt} {H : Hp} {p : Addr} {ds : List D} {vs : List V} (hp : H p = none) (rs : Reps K H 0 ds vs z0 s') (hs : ∀ a, 0 < s' a → 0 < S a) :
    Rep K (L2.upd H p (.lst vs)) 1 (.lst ds) (.ref p) (one p) s' ∧ New S H (one p) s' (L2.upd H p (.lst vs)) := by
  have ke := ex_upd (o := .lst vs) hp
  refine ⟨?_, fun a ha => ?_, fun a ha => .inl (hs a ha), ke, fun a => ?_⟩
  · have q : Rep K (L2.upd H p (.lst vs)) 1 (.lst ds) (.ref p) (add (one p) z0) s' := .lstS upd_same (rs.keep (ex_kp ke))
    rw [add_z] at q
    exact q
  · by_cases e : a = p
    · subst e; exact hp
    · rw [one_ne e] at ha; exact absurd ha (Nat.lt_irrefl 0)
  · by_cases e : a = p
    · subst e
      refine ⟨by rw [one_same]; exact Nat.le_refl _, .inr ?_⟩
      by_cases q : 0 < s' a
      · obtain ⟨o, eo, _⟩ := (rs.dom a).2 q
        rw [hp] at eo; cases eo
      · omega
    · rw [one_ne e]; exact ⟨Nat.zero_le _, .inl rfl⟩
theorem New.tup {K : PySem.W.Frag} {S s' : Cnt} {H : Hp} {p : Addr} {ds : List D} {vs : List V} (hp : H p = none) (rs : Reps K H 0 ds vs z0 s') (hs : ∀ a, 0 < s' a → 0 < S a) :
    Rep K (L2.upd H p (.tup vs)) 0 (.tup ds) (.ref p) z0 s' ∧ New S H z0 s' (L2.upd H p (.tup vs)) := by
  have ke := ex_upd (o := .tup vs) hp
  exact ⟨.tup upd_same (rs.keep (ex_kp ke)), fun a ha => absurd ha (Nat.lt_irrefl 0), fun a ha => .inl (hs a ha), ke, fun a => ⟨Nat.zero_le _, .inl rfl⟩⟩
theorem reps_scr {K : PySem.W.Frag} {H : Hp} {n : Nat} : ∀ ns : List Int, Reps K H n (ns.map D.int) (ns.map V.int) z0 z0
  | [] => .nil
  | i :: ns => by
    have q : Reps K H n (D.int i :: ns.map D.int) (V.int i :: ns.map V.int) (add z0 z0) (add z0 z0) := .cons (.int i) (reps_scr ns)
    rw [add_z] at q
    exact q
section
variable {X : Cx} {F : Fx} {G G1 G2 G3 G4 G' Gt Gs Gn : List Nat} {k k1 k2 k3 kr lv n : Nat} {e a b c tg iter elt : Expr} {es ifs : List Expr} {pos p tpos : Pos} {st : Stmt} {sts : List Stmt}
/-- list(x) -/
def pList : List D → Option D
  | [.lst ds] => some (.lst ds)
  | [.tup ds] => some (.lst ds)
  | [.scr ns] => some (.lst (ns.map D.int))
  | _ => none
theorem n_list : PN X (fun xs H Q => ∃ p ys, xs = [.ref p] ∧ (SqL X.K H p ys ∨ SqT X.K H p ys) ∧ ∀ l, H l = none → Q (.ref l) (L2.upd H l (.lst ys))) 1 pList := by
  intro ds d hd xs H sa Q ra hq
  unfold pList at hd
  split at hd
  · cases hd
    obtain ⟨v, s1, c1, rfl, r1, rfl, rfl⟩ := inv_1 ra
    obtain ⟨a, vs, s', rfl, ha, rs, es, _⟩ := rep_lst0 r1
    refine ⟨a, vs, rfl, .inl (SqL.of ha), fun l hl => ?_⟩
    obtain ⟨q1, q2⟩ := New.lst (S := s1) hl rs (fun z hz => by subst es; simp only [add_at]; omega)
    exact hq _ _ _ _ q1 q2
  · cases hd
    obtain ⟨v, s1, c1, rfl, r1, rfl, rfl⟩ := inv_1 ra
    obtain ⟨a, vs, rfl, ha, rs⟩ := rep_tup r1
    refine ⟨a, vs, rfl, .inr (SqT.of ha), fun l hl => ?_⟩
    obtain ⟨q1, q2⟩ := New.lst (S := s1) hl rs (fun z hz => hz)
    exact hq _ _ _ _ q1 q2
  · cases hd
    obtain ⟨v, s1, c1, rfl, r1, rfl, rfl⟩ := inv_1 ra
    obtain ⟨a, rfl, ha⟩ := rep_scr r1
    refine ⟨a, _, rfl, .inl ha, fun l hl => ?_⟩
    obtain ⟨q1, q2⟩ := New.lst (S := s1) hl (reps_scr (K := X.K) (n := 0) _) (fun z hz => absurd hz (Nat.lt_irrefl 0))
    exact hq _ _ _ _ q1 q2
  · cases hd
/-- list + list, list * int -/
def pCat (a b : D) : Option D := match a, b with
  | .lst xs, .lst ys => if xs.length + ys.length ≤ 100000 then some (.lst (xs ++ ys)) else none
  | _, _ => none
theorem p_cat : P2 X rCat 1 pCat := by
  intro da db d hd x y H sa sb Q ra rb hq
  unfold pCat at hd
  split at hd
  · split at hd
    · rename_i hl
      cases hd
      obtain ⟨a, vs, s', rfl, ha, rs, es, _⟩ := rep_lst0 ra
      obtain ⟨b, us, t', rfl, hb, rt, et, _⟩ := rep_lst0 rb
      refine ⟨a, b, vs, us, rfl, rfl, ha, hb, by rw [← rs.length, ← rt.length]; exact line5 hl, fun l hl => ?_⟩
      have q0 := rt.app rs
      rw [z_add] at q0
      obtain ⟨q1, q2⟩ := New.lst (S := add sa sb) hl q0 (fun z hz => by subst es; subst et; simp only [add_at] at hz ⊢; omega)
      exact hq _ _ _ _ q1 q2
    · cases hd
  · cases hd
def pRep (a b : D) : Option D := match a, b with
  | .lst xs, .int k => if k < 4611686018427387904 ∧ -4611686018427387904 < k ∧ xs.length * k.toNat ≤ 100000 then some (.lst (List.replicate k.toNat xs).flatten) else none
  | _, _ => none
theorem reps_rep {K : PySem.W.Frag} {H : Hp} {ds : List D} {vs : List V} {s : Cnt} (r : Reps K H 0 ds vs z0 s) : ∀ m : Nat, ∃ s', Reps K H 0 (List.replicate m ds).flatten (List.replicate m vs).flatten z0 s' ∧ ∀ a, 0 < s' a → 0 < s a
  | 0 => ⟨z0, .nil, fun a h => absurd h (Nat.lt_irrefl 0)⟩
  | m + 1 => by
    obtain ⟨s', r', h⟩ := reps_rep r m
    have q := r'.app r
    rw [z_add] at q
    refine ⟨add s s', ?_, fun a ha => ?_⟩
    · rw [List.replicate_succ, List.replicate_succ, List.flatten_cons, List.flatten_cons]; exact q
    · have := h a; simp only [add_at] at ha; omega
theorem p_rep : P2 X rRep 1 pRep := by
  intro da db d hd x y H sa sb Q ra rb hq
  unfold pRep at hd
  split at hd
  · split at hd
    · rename_i h
      cases hd
      obtain ⟨a, vs, s', rfl, ha, rs, es, _⟩ := rep_lst0 ra
      cases rb
      refine ⟨a, _, vs, rfl, rfl, ha, by omega, by omega, by rw [← rs.length]; exact line5 h.2.2, fun l hl => ?_⟩
      obtain ⟨s2, r2, h2⟩ := reps_rep rs _
      obtain ⟨q1, q2⟩ := New.lst (S := add sa z0) hl r2 (fun z hz => by have := h2 z hz; subst es; simp only [add_at]; omega)
      exact hq _ _ _ _ q1 q2
    · cases hd
  · cases hd
/-! ### slices -/
def cutX {α : Type} (xs : List α) (lo hi : Option Int) : List α := (xs.drop (HT.sIx xs.length 0 lo)).take (HT.sIx xs.length xs.length hi - HT.sIx xs.length 0 lo)
def pSl (d : D) (lo hi : Option Int) : Option D := match d with
  | .lst ds => some (.lst (cutX ds lo hi))
  | .scr ns => some (.lst ((cutX ns lo hi).map D.int))
  | .str z => if z.length ≤ 100000 then some (.str (cutS z lo hi)) else none
  | _ => none
structure PO1 (X : Cx) (F : Fx) (G G' : List Nat) (o : Option Expr) (f : Rho → R (Option Int)) : Prop where
  go : ∃ t, PO X o t ∧ ∀ σ H r c s (Q : Option Int → Hp → Prop), SR X.K H G r σ c s → Ok c s → OutX X F c s H σ (fun i r1 => ∀ H' c1 s1, SR X.K H' G' r1 σ c1 s1 → Step c s H c1 s1 H' → Q i H') (f r) → t σ H Q
theorem o_none : PO1 X F G G none (fun r => .ok none r) := ⟨_, po_none, fun σ H r c s Q sr ok h => h H c s sr (.refl ok)⟩
def asI : D → Option (Option Int)
  | .int i => some (some i)
  | _ => none
theorem o_some {f : Rho → R D} (A : PV X F G G1 k e f) : PO1 X F G G1 (some e) (fun r => (f r).bind fun d r1 => lift (asI d) r1) := by
  obtain ⟨t, ht, q⟩ := A.go
  refine ⟨_, po_some ht, fun σ H r c s Q sr ok h => q σ H r c s _ sr ok (h.bind1.mono fun d r1 ⟨i, hi, h2⟩ => ?_)⟩
  intro v H' c1 s1 cr sr' x rp st
  cases d with
  | int i' =>
    cases hi
    cases rp
    simp only [add_z] at st
    exact ⟨_, rfl, h2 H' c1 s1 x st⟩
  | _ => cases hi
theorem cutX_map {α β : Type} (f : α → β) (xs : List α) (lo hi : Option Int) : cutX (xs.map f) lo hi = (cutX xs lo hi).map f := by
  unfold cutX
  rw [List.length_map, List.map_take, List.map_drop]
def dSl (fe : Rho → R D) (fl fh : Rho → R (Option Int)) : Rho → R D := fun r => (fe r).bind fun d r1 => (fl r1).bind fun lo r2 => (fh r2).bind fun hi r3 => lift (pSl d lo hi) r3
theorem v_slice {lo hi : Option Expr} {fe : Rho → R D} {fl fh : Rho → R (Option Int)} {p2 : Pos} (A0 : PV X F G G1 k e fe) (L : PO1 X F G1 G2 lo fl) (U : PO1 X F G2 G3 hi fh) :
    PV X F G G3 1 (.Subscript e (.Slice lo hi none p2) pos) (dSl fe fl fh) := by
  have A := A0.weak (Nat.zero_le k)
  obtain ⟨t, ht, q⟩ := A.go
  obtain ⟨tl, hl, ql⟩ := L.go
  obtain ⟨tu, hu, qu⟩ := U.go
  refine ⟨_, pe_slice (sl_list.or sl_str) ht hl hu, fun σ H r c s Q sr ok h => q σ H r c s _ sr ok (h.bind.mono fun d r1 h1 => ?_)⟩
  intro v H1 c1 s1 cr sa x1 rp st
  have z := rp.zero
  subst z
  simp only [add_z] at st
  have ok1 : Ok c1 s1 := fun z => by have := st.ok z; simp only [add_at] at this; omega
  have st1 : Step c s H c1 s1 H1 := st.less (fun z => by omega) (fun z hz => by simp only [add_at]; omega)
  refine ql σ H1 r1 c1 s1 _ x1 ok1 (h1.bind.imp st1 fun lo r2 h2 => ?_)
  intro H2 c2 s2 x2 st2
  refine qu σ H2 r2 c2 s2 _ x2 st2.ok (h2.bind.imp (st1.trans st2) fun hi r3 h3 => ?_)
  intro H3 c3 s3 x3 st3
  have st23 := st2.trans st3
  have okf : Ok (add c1 z0) (add s1 sa) := by rw [add_z]; exact st.ok
  have rp3 := rp.keep (st23.aside okf)
  have stf := st.trans (by have q := st23.frame (cf := z0) (sf := sa) okf rp.dom; rw [add_z, add_z] at q; exact q)
  have dm : Dom c3 (add s3 sa) H3 := by have q := x3.dom.add rp3.dom; rw [add_z] at q; exact q
  cases d with
  | lst ds =>
    obtain ⟨a, vs, s', rfl, ha, rs, es, _⟩ := rep_lst0 rp3
    refine .inl ⟨a, vs, rfl, SqL.of ha, fun l hl => ?_⟩
    obtain ⟨ca, sa', cb, sb, _, r5, e1, e2⟩ := rs.take (HT.sIx ds.length 0 lo)
    obtain ⟨ca2, sa2, cb2, sb2, r6, _, e3, e4⟩ := r5.take (HT.sIx ds.length ds.length hi - HT.sIx ds.length 0 lo)
    have hz := r6.zero
    subst hz
    have hcut : cutV vs lo hi = ((vs.drop (HT.sIx ds.length 0 lo)).take (HT.sIx ds.length ds.length hi - HT.sIx ds.length 0 lo)) := by unfold cutV; rw [rs.length]
    rw [hcut]
    obtain ⟨q1, q2⟩ := New.lst (S := sa) hl r6 (fun z hz => by subst es; subst e2; subst e4; simp only [add_at]; omega)
    exact h3 _ _ c3 s3 _ _ (x3.keep (ex_kp q2.keep)) q1 (stf.new dm (fun z hz => by simp only [add_at]; omega) (fun z hz => by simp only [add_at]; omega) q2)
  | scr ns =>
    obtain ⟨a, rfl, ha⟩ := rep_scr rp3
    refine .inl ⟨a, _, rfl, ha, fun l hl => ?_⟩
    have e : cutV (ns.map V.int) lo hi = (cutX ns lo hi).map V.int := cutX_map _ _ _ _
    rw [e]
    obtain ⟨q1, q2⟩ := New.lst (S := sa) hl (reps_scr (K := X.K) (n := 0) (cutX ns lo hi)) (fun z hz => absurd hz (Nat.lt_irrefl 0))
    exact h3 _ _ c3 s3 _ _ (x3.keep (ex_kp q2.keep)) q1 (stf.new dm (fun z hz => by simp only [add_at]; omega) (fun z hz => by simp only [add_at]; omega) q2)
  | str z =>
    by_cases hl : z.length ≤ 100000
    · simp only [pSl, if_pos hl, lift_some] at h3
      cases rp3
      exact .inr ⟨z, rfl, line5 hl, h3 _ H3 c3 s3 z0 z0 x3 (.str _) (by simp only [add_z]; exact stf.less (fun _ => Nat.le_refl _) (fun a ha => by simp only [add_at]; omega))⟩
    · simp only [pSl, if_neg hl, lift_none] at h3
      exact False.elim h3
  | _ => exact False.elim h3
/-- x[::-1] -/
def pRevL : D → Option D
  | .lst ds => some (.lst ds.reverse)
  | .scr ns => some (.lst (ns.reverse.map D.int))
  | _ => none
theorem v_revL {fe : Rho → R D} {kk : Nat} {p1 p2 p3 : Pos} (A0 : PV X F G G1 k e fe) : PV X F G G1 1 (.Subscript e (.Slice none none (some (.UnaryOp .USub (.Constant (.int 1) kk p1) p2)) p3) pos) (d1 pRevL fe) := by
  have A := A0.weak (Nat.zero_le k)
  obtain ⟨t, ht, q⟩ := A.go
  refine ⟨_, pe_revL ht, fun σ H r c s Q sr ok h => q σ H r c s _ sr ok (h.bind1.mono fun d r1 h1 => ?_)⟩
  obtain ⟨dd, hd, h1⟩ := h1
  intro v H1 c1 s1 cr sa x1 rp st
  have z := rp.zero
  subst z
  simp only [add_z] at st
  have dm : Dom c1 (add s1 sa) H1 := by have q := x1.dom.add rp.dom; rw [add_z] at q; exact q
  cases d with
  | lst ds =>
    cases hd
    obtain ⟨a, vs, s', rfl, ha, rs, es, _⟩ := rep_lst0 rp
    refine ⟨a, vs, rfl, SqL.of ha, fun l hl => ?_⟩
    obtain ⟨q1, q2⟩ := New.lst (S := sa) hl rs.rev (fun z hz => by subst es; simp only [add_at]; omega)
    exact h1 _ _ c1 s1 _ _ (x1.keep (ex_kp q2.keep)) q1 (st.new dm (fun z hz => by simp only [add_at]; omega) (fun z hz => by simp only [add_at]; omega) q2)
  | scr ns =>
    cases hd
    obtain ⟨a, rfl, ha⟩ := rep_scr rp
    refine ⟨a, _, rfl, ha, fun l hl => ?_⟩
    rw [← List.map_reverse]
    obtain ⟨q1, q2⟩ := New.lst (S := sa) hl (reps_scr (K := X.K) (n := 0) ns.reverse) (fun z hz => absurd hz (Nat.lt_irrefl 0))
    exact h1 _ _ c1 s1 _ _ (x1.keep (ex_kp q2.keep)) q1 (st.new dm (fun z hz => by simp only [add_at]; omega) (fun z hz => by simp only [add_at]; omega) q2)
  | _ => cases hd
/-- divmod -/
def pDivmod : List D → Option D
  | [.int i, .int j] => if divOk j = true then some (.tup [.int (i / j), .int (i % j)]) else none
  | _ => none
theorem n_divmod : PN X (fun xs H Q => ∃ i j, xs = [.int i, .int j] ∧ CDivP i j ∧ ∀ p, H p = none → Q (.ref p) (L2.upd H p (.tup [.int (i / j), .int (i % j)]))) 0 pDivmod := by
  intro ds d hd xs H sa Q ra hq
  unfold pDivmod at hd
  split at hd
  · split at hd
    · rename_i i j hc
      cases hd
      obtain ⟨v, u, _, _, _, _, rfl, r1, r2, _, _⟩ := inv_2 ra
      cases r1; cases r2
      unfold divOk at hc
      simp only [Bool.and_eq_true, Bool.or_eq_true, decide_eq_true_eq] at hc
      refine ⟨_, _, rfl, ⟨hc.1, ?_⟩, fun p hp => ?_⟩
      · rcases hc.2 with h | h
        · exact PyProof.noPylong_small (by have := hc.1; omega)
        · exact PyProof.noPylong_of_log2 h
      · have rr : Reps X.K H 0 [.int (i / j), .int (i % j)] [.int (i / j), .int (i % j)] (add z0 (add z0 z0)) (add z0 (add z0 z0)) := .cons (.int _) (.cons (.int _) .nil)
        simp only [add_z] at rr
        obtain ⟨q1, q2⟩ := New.tup (S := sa) hp rr (fun z hz => absurd hz (Nat.lt_irrefl 0))
        exact hq _ _ _ _ q1 q2
    · cases hd
  · cases hd
/-! ### a op b op c -/
def chD (g1 g2 : D → D → Option D) (fa fb fc : Rho → R D) : Rho → R D := fun r => (fa r).bind fun da r1 => (fb r1).bind fun db r2 =>
  if flat db = true then (match g1 da db with
    | some (.bl true) => (fc r2).bind fun dc r3 => lift (g2 db dc) r3
    | some (.bl false) => .ok (.bl false) r2
    | _ => .no) else .no
theorem ch_run {op op' : CmpOp} {r1 r2 : R2} {g1 g2 : D → D → Option D} {fa fb fc : Rho → R D} (A0 : PV X F G G1 k1 a fa) (B0 : PV X F G1 G2 k2 b fb) (C0 : PV X F G2 G3 k3 c fc) (pr1 : P2 X r1 0 g1) (pr2 : P2 X r2 0 g2) (hg : LeG G3 G2) :
    ∃ ta tb tc, PE X a ta ∧ PE X b tb ∧ PE X c tc ∧ ∀ σ H r c s (Q : VK), SR X.K H G r σ c s → Ok c s → OutX X F c s H σ (OkE X G3 0 c s H σ Q) (chD g1 g2 fa fb fc r) → tChain r1 r2 ta tb tc σ H Q := by
  have A := A0.weak (Nat.zero_le k1)
  have B := B0.weak (Nat.zero_le k2)
  have C := C0.weak (Nat.zero_le k3)
  obtain ⟨ta, tb, ha, hb, q⟩ := two A B
  obtain ⟨tc, hc, qc⟩ := C.go
  refine ⟨ta, tb, tc, ha, hb, hc, fun σ H r c s Q sr ok h => q σ H r c s (fun x y H2 => r1 x y H2 fun z H3 => ∃ k, z = .bl k ∧ (if k = true then tc σ H3 fun w' H4 => r2 y w' H4 Q else Q (.bl false) H3)) sr ok ?_⟩
  have h' : OutX X F c s H σ (fun (p : D × D) r2 => OutX X F c s H σ (OkE X G3 0 c s H σ Q) (if flat p.2 = true then (match g1 p.1 p.2 with
      | some (.bl true) => (fc r2).bind fun dc r3 => lift (g2 p.2 dc) r3
      | some (.bl false) => .ok (.bl false) r2
      | _ => .no) else .no)) ((fa r).bind fun da r1 => (fb r1).bind fun db r2 => .ok (da, db) r2) := by
    unfold chD at h
    cases e1 : fa r with
    | no => rw [e1] at h; exact h
    | ex n d r1 => rw [e1] at h; exact h
    | ok da r1 =>
      rw [e1] at h
      show OutX X F c s H σ _ ((fb r1).bind fun db r2 => .ok (da, db) r2)
      have h : OutX X F c s H σ _ ((fb r1).bind fun db r2 => _) := h
      cases e2 : fb r1 with
      | no => rw [e2] at h; exact h
      | ex n d r2 => rw [e2] at h; exact h
      | ok db r2 => rw [e2] at h; exact h
  refine h'.mono fun ⟨da, db⟩ r2' h2 => ?_
  intro x y H2 c2 s2 ca sa cb sb srx rpa rpb st
  have ea := rpa.zero; have eb := rpb.zero
  subst ea; subst eb
  simp only [add_z] at st
  by_cases hf : flat db = true
  · simp only [if_pos hf] at h2
    have st0 : Step c s H c2 s2 H2 := st.less (fun _ => Nat.le_refl _) (fun z hz => by simp only [add_at]; omega)
    cases e : g1 da db with
    | none => simp only [e] at h2; exact False.elim h2
    | some dz =>
      refine pr1 da db dz e x y H2 sa sb _ rpa rpb fun v H3 cr sr' rp n => ?_
      cases dz with
      | bl bb =>
        cases rp
        have dm : Dom (add (add c2 z0) z0) (add (add s2 sb) sa) H2 := (srx.dom.add rpb.dom).add rpa.dom
        simp only [add_z] at dm
        have st3 := st.new (s2 := s2) (S := add sa sb) dm (fun z hz => by simp only [add_at]; omega) (fun z hz => by simp only [add_at] at hz ⊢; omega) n
        simp only [add_z] at st3
        have srx3 := srx.keep (ex_kp n.keep)
        refine ⟨bb, rfl, ?_⟩
        cases bb with
        | false =>
          simp only [e] at h2
          rw [if_neg Bool.false_ne_true]
          obtain ⟨c', s', x', w⟩ := srx3.wk hg
          exact h2 (.bl false) H3 c' s' z0 z0 x' (.bl false) (by simp only [add_z]; exact st3.wk w)
        | true =>
          simp only [e] at h2
          rw [if_pos rfl]
          refine qc σ H3 r2' c2 s2 _ srx3 st3.ok (h2.bind1.imp st3 fun dc r3 ⟨z, hz, h3⟩ => ?_)
          intro w' H4 c4 s4 cw sw x4 rpw st4
          have ez := rpw.zero
          subst ez
          simp only [add_z] at st4
          have rpb4 : Rep X.K H4 0 db y z0 z0 := rpb.flatZ hf
          refine pr2 db dc z hz y w' H4 z0 sw Q rpb4 rpw fun v H5 cr sr' rp5 n5 => ?_
          have dm4 : Dom (add c4 z0) (add s4 sw) H4 := x4.dom.add rpw.dom
          simp only [add_z] at dm4
          exact h3 v H5 c4 s4 cr sr' (x4.keep (ex_kp n5.keep)) rp5 ((st3.trans st4).new dm4 (fun z hz => by simp only [add_at]; omega) (fun z hz => by simp only [add_at, z_at] at hz ⊢; omega) n5)
      | _ => simp only [e] at h2; exact False.elim h2
  · simp only [if_neg hf] at h2
    exact False.elim h2
theorem v_ch {op op' : CmpOp} {r1 r2 : R2} {g1 g2 : D → D → Option D} {fa fb fc : Rho → R D} (A : PV X F G G1 k1 a fa) (B : PV X F G1 G2 k2 b fb) (C : PV X F G2 G3 k3 c fc) (ho : OpR X (compareOp op) r1) (pr1 : P2 X r1 0 g1) (ho' : OpR X (compareOp op') r2) (pr2 : P2 X r2 0 g2) (hg : leG G3 G2 = true := by rfl)
    (hm : lastMarks [op, op'] [b, c] = false := by with_unfolding_all rfl) : PV X F G G3 0 (.Compare a [op, op'] [b, c] pos) (chD g1 g2 fa fb fc) := by
  obtain ⟨ta, tb, tc, ha, hb, hc, q⟩ := ch_run (op := op) (op' := op') A B C pr1 pr2 (LeG.of hg)
  exact ⟨_, pe_chain ho ho' ha hb hc hm, q⟩
theorem b_ch {op op' : CmpOp} {r1 r2 : R2} {g1 g2 : D → D → Option D} {fa fb fc : Rho → R D} (A : PV X F G G1 k1 a fa) (B : PV X F G1 G2 k2 b fb) (C : PV X F G2 G3 k3 c fc) (ho : OpR X (compareOp op) r1) (pr1 : P2 X r1 0 g1) (ho' : OpR X (compareOp op') r2) (pr2 : P2 X r2 0 g2) (hg : leG G3 G2 = true := by rfl)
    (hm : lastMarks [op, op'] [b, c] = false := by with_unfolding_all rfl) : PB X F G G3 (.Compare a [op, op'] [b, c] pos) (dB (chD g1 g2 fa fb fc)) := by
  obtain ⟨ta, tb, tc, ha, hb, hc, q⟩ := ch_run (op := op) (op' := op') A B C pr1 pr2 (LeG.of hg)
  exact ⟨_, pt_chain ho ho' ha hb hc hm, fun σ H r c s Q sr ok h => q σ H r c s _ sr ok (okE_b h)⟩
/-! ### enumerate, zip -/
def enumL : Nat → List D → List D
  | _, [] => []
  | i, d :: ds => .tup [.int (i : Nat), d] :: enumL (i + 1) ds
theorem enumL_len : ∀ (i : Nat) (ds : List D), (enumL i ds).length = ds.length
  | _, [] => rfl
  | i, _ :: ds => congrArg (· + 1) (enumL_len (i + 1) ds)
theorem enumL_get : ∀ (i : Nat) (ds : List D) (j : Nat) (x : D), (enumL i ds)[j]? = some x → ∃ d, ds[j]? = some d ∧ x = .tup [.int ((i + j : Nat) : Int), d]
  | _, [], _, _, h => by simp [enumL] at h
  | i, d :: ds, 0, x, h => by
    simp only [enumL, List.getElem?_cons_zero, Option.some.injEq] at h
    exact ⟨d, rfl, h.symm⟩
  | i, d :: ds, j + 1, x, h => by
    obtain ⟨d', h1, h2⟩ := enumL_get (i + 1) ds j x (by simpa [enumL] using h)
    refine ⟨d', by simpa using h1, ?_⟩
    rw [h2, show i + 1 + j = i + (j + 1) by omega]
def enumD : List D → Option (List D)
  | [.lst ds] => some (enumL 0 ds)
  | _ => none
def zipD : List D → Option (List D)
  | [.lst xs, .lst ys] => some (List.zipWith (fun x y => .tup [x, y]) xs ys)
  | _ => none
theorem tup2_new {K : PySem.W.Frag} {H : Hp} {T : Addr} {d e : D} {x y : V} {s1 s2 : Cnt} (hT : H T = none) (r1 : Rep K H 0 d x z0 s1) (r2 : Rep K H 0 e y z0 s2) : Rep K (L2.upd H T (.tup [x, y])) 0 (.tup [d, e]) (.ref T) z0 (add s1 s2) := by
  have ke := ex_upd (o := .tup [x, y]) hT
  have rr : Reps K H 0 [d, e] [x, y] (add z0 (add z0 z0)) (add s1 (add s2 z0)) := .cons r1 (.cons r2 .nil)
  simp only [add_z] at rr
  exact .tup upd_same (rr.keep (ex_kp ke))
theorem it_enum {elts : List Expr} {kk : Nat} {f : Rho → R (List D)} (A0 : PL X F G G1 k [a] f) (hg : Gl X "enumerate") (hm : X.mg "enumerate" = none) (hs : starEach [a] X.env = [(false, eval a X.env)] := by rfl) :
    PIt X F G G1 (.Tuple elts kk tpos) (.Call (.Name "enumerate" p) [a] [] pos) (fun r => (f r).bind fun ds r1 => lift (enumD ds) r1) := by
  obtain ⟨t, ht, q⟩ := (l_weak A0).go
  refine ⟨_, pi_enum hg hm ht hs, fun σ H r c s Rr sr ok h => q σ H r c s _ sr ok (h.bind1.mono fun ds r1 h2 => ?_)⟩
  obtain ⟨is, hd, h2⟩ := h2
  intro vs H1 c1 s1 cr sI x rp st
  unfold enumD at hd
  split at hd
  · rename_i ds
    cases hd
    obtain ⟨v, s2, c2, rfl, r2, rfl, rfl⟩ := inv_1 rp
    have z := r2.zero
    subst z
    simp only [add_z] at st
    obtain ⟨a, vs, s', rfl, ha, rs, _, _⟩ := rep_lst0 r2
    refine ⟨a, vs, rfl, SqL.of ha, h2 _ H1 c1 s1 s2 (fun H => Rep X.K H 0 (.lst ds) (.ref a) z0 s2) x ⟨fun H H' w k => w.keep k, fun H w => w.dom, fun H i w hi => ?_, fun H i y H' d w hd hy => ?_, fun H w => ?_⟩ r2 st⟩
    · obtain ⟨a', vs', s2, e, ha', rs', _, _⟩ := rep_lst0 w
      cases e
      rw [enumL_len] at hi
      have hl := rs'.length
      exact ⟨vs', vs'[i], SqL.of ha', by simp [← hl, hi]⟩
    · obtain ⟨a', vs', s2, e, ha', rs', es, _⟩ := rep_lst0 w
      cases e
      obtain ⟨d', hd', rfl⟩ := enumL_get 0 ds i d hd
      obtain ⟨u, ci, si, eu, ru, h1, h3⟩ := rs'.get hd'
      obtain ⟨T, y', rfl, hT, rfl, hy⟩ := hy
      have e2 := hy vs' (SqL.of ha')
      rw [eu] at e2
      cases e2
      have zz := ru.zero
      subst zz
      rw [show ((0 + i : Nat) : Int) = (i : Nat) by rw [Nat.zero_add]]
      refine ⟨add z0 si, tup2_new hT (.int _) ru, fun z hz => ?_, ex_upd hT⟩
      rw [es]
      have := h3 z
      simp only [add_at, z_at] at hz ⊢
      omega
    · obtain ⟨a', vs', s2, e, ha', rs', _, _⟩ := rep_lst0 w
      cases e
      exact ⟨vs', SqL.of ha', by rw [enumL_len, rs'.length]; exact Nat.le_refl _⟩
  · cases hd
theorem zip_get {xs ys : List D} {i : Nat} {d : D} (h : (List.zipWith (fun x y => D.tup [x, y]) xs ys)[i]? = some d) : ∃ x y, xs[i]? = some x ∧ ys[i]? = some y ∧ d = .tup [x, y] := by
  rw [List.getElem?_zipWith] at h
  cases e1 : xs[i]? with
  | none => rw [e1] at h; cases h
  | some x =>
    cases e2 : ys[i]? with
    | none => rw [e1, e2] at h; cases h
    | some y =>
      rw [e1, e2] at h
      exact ⟨x, y, rfl, rfl, (Option.some.inj h).symm⟩
theorem it_zip {elts : List Expr} {kk : Nat} {f : Rho → R (List D)} (A0 : PL X F G G1 k [a, b] f) (hg : Gl X "zip") (hm : X.mg "zip" = none) (hs : starEach [a, b] X.env = (false, eval a X.env) :: starEach [b] X.env := by rfl) (hpl : (backTo pos (starEach [b] X.env)).any (·.1) = false := by rfl) :
    PIt X F G G1 (.Tuple elts kk tpos) (.Call (.Name "zip" p) [a, b] [] pos) (fun r => (f r).bind fun ds r1 => lift (zipD ds) r1) := by
  obtain ⟨t, ht, q⟩ := (l_weak A0).go
  refine ⟨_, pi_zip hg hm ht hs hpl, fun σ H r c s Rr sr ok h => q σ H r c s _ sr ok (h.bind1.mono fun ds r1 h2 => ?_)⟩
  obtain ⟨is, hd, h2⟩ := h2
  intro vs H1 c1 s1 cr sI x rp st
  unfold zipD at hd
  split at hd
  · rename_i xs ys
    cases hd
    obtain ⟨v, u, ca, sa, cb, sb, rfl, ra, rb, rfl, rfl⟩ := inv_2 rp
    have z := ra.zero
    have z2 := rb.zero
    subst z; subst z2
    simp only [add_z] at st
    obtain ⟨a, vs, s', rfl, ha, rs, _, _⟩ := rep_lst0 ra
    obtain ⟨b, us, t', rfl, hb, rt, _, _⟩ := rep_lst0 rb
    refine ⟨a, b, vs, us, rfl, SqL.of ha, SqL.of hb, h2 _ H1 c1 s1 (add sa sb) (fun H => Rep X.K H 0 (.lst xs) (.ref a) z0 sa ∧ Rep X.K H 0 (.lst ys) (.ref b) z0 sb) x
      ⟨fun H H' w k => ⟨w.1.keep (Kp.left (c1 := z0) (c2 := z0) (by rw [add_z]; exact k)), w.2.keep (Kp.right (c1 := z0) (c2 := z0) (by rw [add_z]; exact k))⟩, fun H w => by have q := w.1.dom.add w.2.dom; rw [add_z] at q; exact q, fun H i w hi => ?_, fun H i y H' d w hd hy => ?_, fun H w => ?_⟩ ⟨ra, rb⟩ st⟩
    · obtain ⟨a', vs', s2, e, ha', rs', _, _⟩ := rep_lst0 w.1
      obtain ⟨b', us', t2, e', hb', rt', _, _⟩ := rep_lst0 w.2
      cases e; cases e'
      rw [List.length_zipWith] at hi
      have hl := rs'.length
      have hl2 := rt'.length
      have h1 : i < vs'.length := by omega
      have h2 : i < us'.length := by omega
      exact ⟨vs', us', vs'[i], us'[i], SqL.of ha', SqL.of hb', List.getElem?_eq_getElem h1, List.getElem?_eq_getElem h2⟩
    · obtain ⟨a', vs', s2, e, ha', rs', es, _⟩ := rep_lst0 w.1
      obtain ⟨b', us', t2, e', hb', rt', et, _⟩ := rep_lst0 w.2
      cases e; cases e'
      obtain ⟨d1, d2, hd1, hd2, rfl⟩ := zip_get hd
      obtain ⟨u1, c1', si, eu, ru, h1, h3⟩ := rs'.get hd1
      obtain ⟨u2, c2', sj, eu2, ru2, h4, h5⟩ := rt'.get hd2
      obtain ⟨T, x', y', rfl, hT, rfl, hx, hy⟩ := hy
      have e2 := hx vs' (SqL.of ha')
      rw [eu] at e2
      cases e2
      have e3 := hy us' (SqL.of hb')
      rw [eu2] at e3
      cases e3
      have zz := ru.zero
      subst zz
      have zz2 := ru2.zero
      subst zz2
      refine ⟨add si sj, tup2_new hT ru ru2, fun z hz => ?_, ex_upd hT⟩
      have := h3 z
      have := h5 z
      rw [es, et]
      simp only [add_at] at hz ⊢
      omega
    · obtain ⟨a', vs', s2, e, ha', rs', _, _⟩ := rep_lst0 w.1
      obtain ⟨b', us', t2, e', hb', rt', _, _⟩ := rep_lst0 w.2
      cases e; cases e'
      refine ⟨vs', us', SqL.of ha', SqL.of hb', ?_⟩
      rw [List.length_zipWith, rs'.length, rt'.length]
      omega
  · cases hd
/-- a, b, .. = a list -/
theorem g_lst {kk : Nat} {gs : List D → Rho → Option Rho} {n : Nat} (hc : X.calm = true) (A : PTgs X F G G1 es gs) (hn : (assignEach es X.env).length = n := by rfl) (hst : (assignEach es X.env).findIdx? (·.1) = none := by rfl) :
    PTg X F G G1 (.Tuple es kk pos) (fun d r => match d with | .lst ds => if ds.length = n then gs ds r else none | _ => none) := by
  obtain ⟨t, ht, q⟩ := A.go
  refine ⟨_, pg_lst hc ht hn hst, fun v0 σ H r c s d x sx Q r1 sr ok rp pr hg h => ?_⟩
  cases d with
  | lst ds =>
    obtain ⟨a, vs, s', rfl, ha, rs, es, _⟩ := rep_lst0 rp
    have hg : (if ds.length = n then gs ds r else none) = some r1 := hg
    by_cases hl : ds.length = n
    · rw [if_pos hl] at hg
      refine ⟨a, vs, rfl, SqL.of ha, by rw [← rs.length]; exact hl, q v0 σ H r c s ds vs s' Q r1 sr (fun z => by have := ok z; subst es; simp only [add_at] at this ⊢; omega) rs pr hg fun σ' c' s4 x' p' st => h σ' c' s4 x' p' ?_⟩
      have st0 : Step c (add s sx) H c (add s s') H := (Step.refl ok).less (fun _ => Nat.le_refl _) (fun z hz => by subst es; simp only [add_at] at hz ⊢; omega)
      exact st0.trans st
    · rw [if_neg hl] at hg
      cases hg
  | _ => cases hg
end
end VL

namespace VL
open PySem PySem.Spec L2
section
variable {X : Cx} {F : Fx} {G G1 G2 G3 G4 G' Gt Gs Gn : List Nat} {k k1 k2 k3 kr lv n : Nat} {e a b c tg iter elt : Expr} {es ifs : List Expr} {pos p tpos apos cpos : Pos} {st : Stmt} {sts : List Stmt}
def atD (o : Option D) (j : Int) : Option (List D × Nat × List D) := match o with
  | some (.lst ds) => (match ixN ds.length j with
    | some m => (match ds[m]? with
      | some (.lst es) => some (ds, m, es)
      | _ => none)
    | none => none)
  | _ => none
theorem atD_of {o : Option D} {j : Int} {ds es : List D} {m : Nat} (h : atD o j = some (ds, m, es)) : o = some (.lst ds) ∧ ixN ds.length j = some m ∧ ds[m]? = some (.lst es) := by
  unfold atD at h
  split at h
  · split at h
    · rename_i hk
      split at h
      · rename_i he
        cases h
        exact ⟨rfl, hk, he⟩
      · cases h
    · cases h
  · cases h
def muIx (i : Nat) (ds : List D) (m : Nat) (o : Option (D × List D)) (r1 : Rho) : R D := match o with
  | some (d, es') => if i < r1.length ∧ rget r1 i = none then .ok d (r1.set i (some (.lst (ds.set m (.lst es'))))) else .no
  | none => .no
/-- x[j].m(args), the lists at x and at x[j] owned; the arguments do not reach x -/
def dMutIx (i : Nat) (j : Int) (h : List D → List D → Option (D × List D)) (fa : Rho → R (List D)) : Rho → R D := fun r => match atD (rget r i) j with
  | some (ds, m, es) => (match fa (r.set i none) with
    | .ok as r1 => muIx i ds m (h es as) r1
    | _ => .no)
  | none => .no
theorem mtix_run {i : Nat} {j : Int} {r0 : V → List V → Hp → VK → Prop} {h : List D → List D → Option (D × List D)} {fa : Rho → R (List D)} {t : TA} {to : TE} (mu : MuOk X r0 n kr h) (hmm : gget G1 i = n + 2) (hmG : gget G i = n + 2)
    (hto : ∀ σ H (Q : VK) v y, σ[i]? = some (some v) → rIx X.K v (.int j) H (fun z H' => z = y ∧ H' = H) → Q y H → to σ H Q)
    (q : ∀ σ H r c s Q, SR X.K H G r σ c s → Ok c s → OutX X F c s H σ (OkL X G1 n c s H σ Q) (fa r) → t σ H Q) :
    ∀ σ H r c s (Q : VK), SR X.K H G r σ c s → Ok c s → OutX X F c s H σ (OkE X G1 kr c s H σ Q) (dMutIx i j h fa r) → to σ H fun x H1 => tyV X.K "list" x H1 ∧ t σ H1 fun us H2 => r0 x us H2 Q := by
  intro σ H r c s Q sr ok h0
  unfold dMutIx at h0
  cases ea : atD (rget r i) j with
  | none => simp only [ea] at h0; exact False.elim h0
  | some tr =>
    obtain ⟨ds, m, es⟩ := tr
    simp only [ea] at h0
    obtain ⟨e0, hk, hes⟩ := atD_of ea
    obtain ⟨v, c1, s1, c2, s2, ev, rp, x', ec, es2⟩ := sr.out e0
    rw [hmG] at rp
    obtain ⟨h1, h2, h3, h4⟩ := ixN_seq hk
    cases rp with
    | @lstS _ l0 vs _ cc ss hl0 rs =>
      subst ec; subst es2
      obtain ⟨w, cw, sw, cr, sr', ew, rw', e1, e2, dmR, put⟩ := rs.focus hes
      subst e1; subst e2
      cases rw' with
      | @lstS _ l ws _ cl sl hl rl =>
        refine hto σ H _ (.ref l0) (.ref l) ev (.inl ⟨l0, vs, j, .ref l, rfl, rfl, SqL.of hl0, ?_, rfl, rfl⟩) ?_
        · unfold atI
          rw [← rs.length, hk]
          exact ew
        refine ⟨.inl ⟨rfl, ws, SqL.of hl⟩, ?_⟩
        have ok2 : Ok c2 s2 := fun z => by have := ok z; simp only [add_at] at this; omega
        refine q σ H (r.set i none) c2 s2 _ x' ok2 ?_
        cases ef : fa (r.set i none) with
        | no => simp only [ef] at h0; exact False.elim h0
        | ex nn d r1 => simp only [ef] at h0; exact False.elim h0
        | ok as r1 =>
          simp only [ef] at h0
          intro us H1 c3 s3 ca sa x3 ra st
          cases eh : h es as with
          | none => rw [eh] at h0; exact False.elim h0
          | some pr =>
            obtain ⟨d, es'⟩ := pr
            rw [eh] at h0
            unfold muIx at h0
            by_cases hr1 : i < r1.length ∧ rget r1 i = none
            case neg => simp only [if_neg hr1] at h0; exact False.elim h0
            simp only [if_pos hr1] at h0
            have okF : Ok (add c2 (add (one l0) (add (add (one l) cl) cr))) (add s2 (add sw sr')) := fun z => by
              have := ok z; simp only [add_at] at this ⊢; omega
            have domF : Dom (add (one l0) (add (add (one l) cl) cr)) (add sw sr') H := Dom.addC hl0 trivial rs.dom
            have asd := st.aside okF
            have stf := st.frame okF domF
            have okf := stf.ok
            have hl1 : H1 l = some (.lst ws) := asd l _ hl (.inl (by simp only [add_at, one_same]; omega))
            have hl01 : H1 l0 = some (.lst vs) := asd l0 _ hl0 (.inl (by simp only [add_at, one_same]; omega))
            have rl1 : Reps X.K H1 n es ws cl sw := rl.keep fun a o e z => asd a o e (by simp only [add_at]; rcases z with z | z | z; exact .inl (by omega); exact .inr (.inl (by omega)); exact .inr (.inr z))
            refine mu es as d es' eh l ws us H1 cl sw ca sa Q hl1 rl1 ra fun vs' v' c' s' cv sv rs' rv hc hs => ?_
            have okl := okf l
            have okl0 := okf l0
            simp only [add_at, one_same] at okl okl0
            have hcl := hc l
            have hsl : s' l = 0 ∧ sv l = 0 := by have := hs l; omega
            have ne : l0 ≠ l := fun z => by
              subst z
              simp only [one_same] at okl
              omega
            have kp : ∀ {c s : Cnt}, c l = 0 → s l = 0 → Kp c s H1 (L2.upd H1 l (.lst vs')) := fun {c s} e1 e2 => Kp.upd hl1 (fun z => z) e1 e2
            have kpR : Kp cr sr' H (L2.upd H1 l (.lst vs')) := fun a o e z => by
              have q1 := asd a o e (by simp only [add_at]; rcases z with z | z | z; exact .inl (by omega); exact .inr (.inl (by omega)); exact .inr (.inr z))
              exact kp (c := cr) (s := sr') (by omega) (by omega) a o q1 z
            have r2 := put (L2.upd H1 l (.lst vs')) (.lst es') (add (one l) c') s' kpR (.lstS upd_same (rs'.keep (kp (by omega) hsl.1)))
            have hl02 : (L2.upd H1 l (.lst vs')) l0 = some (.lst vs) := by rw [upd_ne ne]; exact hl01
            have x4 := x3.keep (kp (by omega) (by omega))
            have rfin : Rep X.K (L2.upd H1 l (.lst vs')) (n + 2) (.lst (ds.set m (.lst es'))) (.ref l0) (add (one l0) (add (add (one l) c') cr)) (add s' sr') := .lstS hl02 r2
            have xu := x4.upd hr1.1 hr1.2 ev rfin
            rw [← hmm, gset_same] at xu
            refine h0 v' _ _ _ cv sv xu (rv.keep (kp (by omega) hsl.2)) ?_
            rw [add_comm' (add (one l0) (add (add (one l) cl) cr)) c2, add_comm' (add sw sr') s2]
            refine stf.mut (l := l) (by simp only [add_at, one_same]; omega) hl1 (fun z => z) (fun a => ?_) (fun a ha => ?_)
            · have := hc a
              simp only [add_at]; omega
            · have := hs a
              simp only [add_at] at ha ⊢; omega
theorem v_mtIx (i n : Nat) {y name : Str} {py jp sp : Pos} {j : Int} {jj : Nat} {id : String} {r0 : V → List V → Hp → VK → Prop} {h : List D → List D → Option (D × List D)} {fa : Rho → R (List D)} (slot : Slot "list" name id) (hty : typeOf (.builtin id) = pure (.type "method_descriptor")) (hmt : MtR X id r0) (mu : MuOk X r0 n kr h)
    (A : PL X F G G1 n (e :: es) fa) (hmG : gget G i = n + 2 := by rfl) (hmm : gget G1 i = n + 2 := by rfl) (hN : X.N[i]? = some y := by rfl) (hv : Vis X.env.scope y := by first | exact Or.inl rfl | exact Or.inr (Or.inl rfl) | exact Or.inr (Or.inr rfl))
    (hd : (y == ("__debug__" : Str)) = false := by decide) (hcd : (y == ("__classdict__" : Str)) = false := by decide)
    (hbase : attributeBase (.Subscript (.Name y py) (.Constant (.int j) jj jp) sp) name X.env (eval (.Subscript (.Name y py) (.Constant (.int j) jj jp) sp) X.env) = eval (.Subscript (.Name y py) (.Constant (.int j) jj jp) sp) X.env := by rfl)
    (hfew : ((backTo cpos (starEach (e :: es) X.env)).all (fun x => !x.1) && (backToKw cpos (keywordEach [] X.env)).all (fun x => x.1.isSome)
      && decide ((e :: es).length + ([] : List Keyword).length + (if ([] : List Keyword).isEmpty then 0 else 1) < 30)) = true := by rfl)
    (hline : (apos.endLine == cpos.line) = true := by rfl) (hs : starEach (e :: es) X.env = (false, eval e X.env) :: starEach es X.env := by rfl) (hplain : (backTo cpos (starEach es X.env)).any (·.1) = false := by rfl) :
    PV X F G G1 kr (.Call (.Attribute (.Subscript (.Name y py) (.Constant (.int j) jj jp) sp) name apos) (e :: es) [] cpos) (dMutIx i j h fa) := by
  obtain ⟨t, ht, q⟩ := A.go
  exact ⟨_, pe_bm PySem.F.plainAttrs_list slot hty hmt (pe_ix ix_seq (pv i hN hv hd hcd) pe_int (fun _ _ => rfl)) ht hbase hfew hline hs hplain, fun σ H r c s Q sr ok h0 =>
    mtix_run (to := tOp (rIx X.K) (tVar i) (tC (.int j))) mu hmm hmG (fun σ H Q v y ev hr hq => ⟨v, ev, by
      rcases hr with ⟨p, xs, i', z, e1, e2, e3, e4, e5, _⟩ | ⟨p, xs, i', z, e1, e2, e3, e4, e5, _⟩ | ⟨z, i', c', e1, e2, e3, e4, e5, _⟩
      · subst e5; exact .inl ⟨p, xs, i', z, e1, e2, e3, e4, hq⟩
      · subst e5; exact .inr (.inl ⟨p, xs, i', z, e1, e2, e3, e4, hq⟩)
      · subst e5; exact .inr (.inr ⟨z, i', c', e1, e2, e3, e4, hq⟩)⟩) q σ H r c s Q sr ok h0⟩
theorem v_mtIx0 (i n : Nat) {y name : Str} {py jp sp : Pos} {j : Int} {jj : Nat} {id : String} {r0 : V → List V → Hp → VK → Prop} {h : List D → List D → Option (D × List D)} (slot : Slot "list" name id) (hty : typeOf (.builtin id) = pure (.type "method_descriptor")) (hmt : MtR X id r0) (mu : MuOk X r0 n kr h)
    (hmG : gget G i = n + 2 := by rfl) (hN : X.N[i]? = some y := by rfl) (hv : Vis X.env.scope y := by first | exact Or.inl rfl | exact Or.inr (Or.inl rfl) | exact Or.inr (Or.inr rfl))
    (hd : (y == ("__debug__" : Str)) = false := by decide) (hcd : (y == ("__classdict__" : Str)) = false := by decide)
    (hbase : attributeBase (.Subscript (.Name y py) (.Constant (.int j) jj jp) sp) name X.env (eval (.Subscript (.Name y py) (.Constant (.int j) jj jp) sp) X.env) = eval (.Subscript (.Name y py) (.Constant (.int j) jj jp) sp) X.env := by rfl)
    (hline : (apos.endLine == cpos.line) = true := by rfl) :
    PV X F G G kr (.Call (.Attribute (.Subscript (.Name y py) (.Constant (.int j) jj jp) sp) name apos) [] [] cpos) (dMutIx i j h (fun r => .ok [] r)) := by
  refine ⟨_, pe_bm0 PySem.F.plainAttrs_list slot hty hmt (pe_ix ix_seq (pv i hN hv hd hcd) pe_int (fun _ _ => rfl)) hbase hline, fun σ H r c s Q sr ok h0 => ?_⟩
  have q := mtix_run (F := F) (G := G) (G1 := G) (t := fun _ H Q => Q [] H) (to := tOp (rIx X.K) (tVar i) (tC (.int j))) mu hmG hmG (fun σ H Q v y ev hr hq => ⟨v, ev, by
      rcases hr with ⟨p, xs, i', z, e1, e2, e3, e4, e5, _⟩ | ⟨p, xs, i', z, e1, e2, e3, e4, e5, _⟩ | ⟨z, i', c', e1, e2, e3, e4, e5, _⟩
      · subst e5; exact .inl ⟨p, xs, i', z, e1, e2, e3, e4, hq⟩
      · subst e5; exact .inr (.inl ⟨p, xs, i', z, e1, e2, e3, e4, hq⟩)
      · subst e5; exact .inr (.inr ⟨z, i', c', e1, e2, e3, e4, hq⟩)⟩) (fun σ H r c s Q sr ok (h : OkL X G n c s H σ Q [] r) => h [] H c s z0 z0 sr .nil (by simp only [add_z]; exact .refl ok)) (fa := fun r => .ok [] r) σ H r c s Q sr ok h0
  exact q
/-- x.insert(i, y) -/
def hInsert : List D → List D → Option (D × List D) := fun ds as => match as with
  | [.int i, y] => if 0 ≤ i ∧ i < 100000 ∧ ds.length < 100000 then some (.non, ds.take i.toNat ++ [y] ++ ds.drop i.toNat) else none
  | _ => none
theorem mu_insert : MuOk X (fun x vs H Q => ∃ (l : Addr) (xs : List V) (i : Int) (y : V), x = .ref l ∧ vs = [.int i, y] ∧ H l = some (.lst xs) ∧ xs.length < sizeLine ∧ 0 ≤ i ∧ i < 2 ^ 63 ∧
    Q .non (L2.upd H l (.lst (xs.take i.toNat ++ [y] ++ xs.drop i.toNat)))) n kr hInsert := by
  intro ds as d ds' hh l vs us H c s ca sa Q hl rs ra hq
  unfold hInsert at hh
  split at hh
  · rename_i i y
    split at hh
    · rename_i hb
      cases hh
      obtain ⟨v, u, c1, s1, c2, s2, rfl, r1, r2, rfl, rfl⟩ := inv_2 ra
      cases r1
      obtain ⟨c3, s3, c4, s4, r3, r4, rfl, rfl⟩ := rs.take i.toNat
      have q := r4.app (Reps.snoc r2 r3)
      refine ⟨l, vs, i, u, rfl, rfl, hl, by rw [← rs.length]; exact line6 hb.2.2, hb.1, by omega, hq _ .non _ _ z0 z0 q .non (fun a => by simp only [add_at, z_at]; omega) (fun a ha => by simp only [add_at, z_at] at ha ⊢; omega)⟩
    · cases hh
  · cases hh
end
end VL

namespace VL
open PySem PySem.Spec L2
/-! ### repr -/
def rReprD (K : PySem.W.Frag) : List V → Hp → VK → Prop := fun xs H Q => ∃ a d, xs = [V.ref a] ∧ Dp K H (.ref a) d ∧ SeqAt.shaped d = true ∧ d.showable = true ∧ d.shown.length ≤ sizeLine ∧ Q (.str d.shown) H
theorem call_reprD {X : Cx} (hg : X.A.guards = some []) (hu : X.A.units + 66 < cLine) : CallR X (.builtin "repr") (rReprD X.K) := by
  intro pins s σ H xs us Q I r h
  obtain ⟨a, d, rfl, hd, hs, hw, hz, q⟩ := h
  obtain ⟨u, rfl, rx⟩ := vals1 r
  have rx' := rx
  cases rx
  obtain ⟨as, rd⟩ := Dp.reads I d _ _ hd rx'
  have hc := SeqAt.canLay_of_shaped hs
  have hdp := SeqAt.depth_of_shaped hs
  refine repr_of_reads' rd hw (PyData.noDict_hsm (PyData.hasDict_of_canLay d hc)) hg (by omega) (fun _ _ e => e) (fun h' u tk hk => ⟨.str d.shown, H, I.kept hk, ⟨_, rfl⟩, q⟩) hz
def isSq : D → Bool
  | .lst _ => true
  | .tup _ => true
  | _ => false
def reprD (d : D) : Str := (toPy d).shown
def reprOk (d : D) : Bool := isSq d && shD 64 d && (toPy d).showable && decide ((toPy d).shown.length ≤ 16000000)
def pRepr : List D → Option D
  | [.int i] => if i.natAbs.log2 < 1920 then some (.str (toString i)) else none
  | [d] => if reprOk d = true then some (.str (reprD d)) else none
  | _ => none
section
variable {X : Cx} {k : Nat}
theorem n_repr : PN X (fun xs H Q => rReprD X.K xs H Q ∨ ∃ i, xs = [.int i] ∧ i.natAbs.log2 < 1920 ∧ Q (.str (toString i)) H) k pRepr := by
  intro ds d hd xs H sa Q ra hq
  unfold pRepr at hd
  split at hd
  · split at hd
    · rename_i hl
      cases hd
      obtain ⟨v, s1, c1, rfl, r1, _, _⟩ := inv_1 ra
      cases r1
      exact .inr ⟨_, rfl, hl, hq _ H z0 z0 (.str _) .flat⟩
    · cases hd
  · rename_i d0 _
    split at hd
    · rename_i ho
      cases hd
      obtain ⟨v, s1, c1, rfl, r1, _, _⟩ := inv_1 ra
      unfold reprOk at ho
      simp only [Bool.and_eq_true, decide_eq_true_eq] at ho
      obtain ⟨⟨⟨h1, h2⟩, h3⟩, h4⟩ := ho
      have hv : ∃ a, v = .ref a := by
        cases d0 with
        | lst ds => obtain ⟨a, vs, e, _⟩ := rep_lst r1; exact ⟨a, e⟩
        | tup ds => obtain ⟨a, vs, e, _⟩ := rep_tup r1; exact ⟨a, e⟩
        | _ => cases h1
      obtain ⟨a, rfl⟩ := hv
      exact .inl ⟨a, toPy d0, rfl, r1.dp h2, shD_shaped h2, h3, Nat.le_trans h4 (by decide), hq _ H z0 z0 (.str _) .flat⟩
    · cases hd
  · cases hd
theorem call_repr (hg : X.A.guards = some []) (hu : X.A.units + 66 < cLine) : CallR X (.builtin "repr") (fun xs H Q => rReprD X.K xs H Q ∨ ∃ i, xs = [.int i] ∧ i.natAbs.log2 < 1920 ∧ Q (.str (toString i)) H) := callR_or (call_reprD hg hu) SkE.call_repr_int
/-! ### texts compared -/
def pEqS (a b : D) : Option D := match a, b with
  | .str x, .str y => some (.bl (decide (x = y)))
  | _, _ => none
def pNeS (a b : D) : Option D := match a, b with
  | .str x, .str y => some (.bl (!decide (x = y)))
  | _, _ => none
theorem dec_V {x y : Str} : decide (V.str x = V.str y) = decide (x = y) := by
  by_cases h : x = y
  · rw [decide_eq_true h, decide_eq_true (by rw [h])]
  · rw [decide_eq_false h, decide_eq_false (fun z => h (V.str.inj z))]
theorem p_eqS : P2 X rEq k pEqS := by
  intro da db d hd x y H sa sb Q ra rb hq
  unfold pEqS at hd
  split at hd
  · cases hd
    cases ra; cases rb
    refine ⟨rfl, ?_⟩
    rw [dec_V]
    exact hq _ H z0 z0 (.bl _) .flat
  · cases hd
theorem p_neS : P2 X rNe k pNeS := by
  intro da db d hd x y H sa sb Q ra rb hq
  unfold pNeS at hd
  split at hd
  · cases hd
    cases ra; cases rb
    refine ⟨rfl, ?_⟩
    rw [dec_V]
    exact hq _ H z0 z0 (.bl _) .flat
  · cases hd
/-- == and != -/
def qEq (a b : D) : Option D := orD (pEqS a b) (pEq a b)
def qNe (a b : D) : Option D := orD (pNeS a b) (pNe a b)
def rQEq (K : PySem.W.Frag) : R2 := fun x y H Q => rEq x y H Q ∨ rEqD K x y H Q
def rQNe (K : PySem.W.Frag) : R2 := fun x y H Q => rNe x y H Q ∨ rNeD K x y H Q
theorem o_eq {lv : Nat} (hr : Room lv X.A) : OpR X (compareOp .Eq) (rQEq X.K) := op_eq.or (op_eqD (by have := hr.un; omega))
theorem o_ne {lv : Nat} (hr : Room lv X.A) : OpR X (compareOp .NotEq) (rQNe X.K) := op_ne.or (op_neD (by have := hr.un; omega))
theorem q_eq : P2 X (rQEq X.K) k qEq := P2.or p_eqS p_eq
theorem q_ne : P2 X (rQNe X.K) k qNe := P2.or p_neS p_ne
/-- +, * of ints and of lists -/
def qAdd (a b : D) : Option D := orD (iAdd a b) (pCat a b)
def qMul (a b : D) : Option D := orD (iMul a b) (pRep a b)
end
end VL

namespace VL
open PySem PySem.Spec L2
section
variable {X : Cx} {F : Fx} {G G1 G2 G3 G4 G' Gt Gs Gn : List Nat} {k k1 k2 k3 kr lv n : Nat} {e a b c tg iter elt : Expr} {es ifs : List Expr} {pos p tpos apos cpos : Pos} {st : Stmt} {sts : List Stmt}
def par2 (i j : Nat) (ds : List D) (r : Rho) : SO := match ds with
  | [d, e] => .nx ((r.set i (some d)).set j (some e))
  | _ => .no
/-- a, b = x, y -/
theorem s_par (i j : Nat) {x y : Str} {px py pt : Pos} {kt k2 pt2} {fa : Rho → R (List D)} (hc : X.calm = true) (nd : X.N.Nodup) (A : PL X F G G1 k [a, b] fa) (hij : i ≠ j := by decide) (hi : X.N[i]? = some x := by rfl) (hj : X.N[j]? = some y := by rfl)
    (hx : X.env.scope.names.lookup x = some .local := by rfl) (hy : X.env.scope.names.lookup y = some .local := by rfl) (hp : F.io = none ∨ i ≠ 0 := by first | exact Or.inl rfl | exact Or.inr (by decide)) (hp2 : F.io = none ∨ j ≠ 0 := by first | exact Or.inl rfl | exact Or.inr (by decide))
    (hli : i < G.length := by decide) (hlj : j < G.length := by decide)
    (hw : swappedStores [.Tuple [.Name x px, .Name y py] kt pt] (.Tuple [a, b] k2 pt2) X.env = pure (some [x, y]) := by rfl)
    (hs : swapsWithSole [.Tuple [.Name x px, .Name y py] kt pt] (.Tuple [a, b] k2 pt2) pos.line X.env = pure false := by rfl) :
    PSt X F G ((G1.set i k).set j k) (.Assign [.Tuple [.Name x px, .Name y py] kt pt] (.Tuple [a, b] k2 pt2) pos) (fun r => (fa r).then fun ds r1 => par2 i j ds r1) := by
  obtain ⟨t, ht, q⟩ := A.go
  refine ⟨_, ps_par hc nd hi hj hij hx hy ht hw hs, fun v0 σ H r c s Dn sr ok pr h => q σ H r c s _ sr ok (OutS.useX pr h fun ds r1 h2 => ?_)⟩
  intro vs H' c1 s1 cr sr' x rp y
  unfold par2 at h2
  split at h2
  · rename_i d e
    obtain ⟨v, u, ca, sa, cb, sb, rfl, ra, rb, rfl, rfl⟩ := inv_2 rp
    have hlen : r1.length = G.length := by
      have e1 := x.lenS
      have e2 := sr.lenS
      have e3 := sr.lenG
      omega
    obtain ⟨c2, s2, x2, hc2, hs2⟩ := x.fill (i := i) (by omega) ra
    obtain ⟨c3, s3, x3, hc3, hs3⟩ := x2.fill (i := j) (by rw [List.length_set]; omega) rb
    refine ⟨v, u, rfl, h2 _ H' _ _ x3 ((pr.set hp).set hp2) (y.less (fun z => ?_) (fun z hz => ?_))⟩
    · have h4 := hc2 z; have h5 := hc3 z; simp only [add_at] at h5 ⊢; omega
    · have h4 := hs2 z; have h5 := hs3 z; simp only [add_at] at hz h5 ⊢; omega
  · exact False.elim h2
/-- [a] * n for a list display, shared below -/
theorem fits_int (i : Int) (k : Nat) : fits k (.int i) = true := by cases k <;> rfl
theorem fits_bl (i : Bool) (k : Nat) : fits k (.bl i) = true := by cases k <;> rfl
theorem fits_str (i : Str) (k : Nat) : fits k (.str i) = true := by cases k <;> rfl
theorem fits_non (k : Nat) : fits k .non = true := by cases k <;> rfl
end
/-! ### the denotations' names -/
def dI (i : Int) : Rho → R D := fun r => .ok (.int i) r
def dBl (b : Bool) : Rho → R D := fun r => .ok (.bl b) r
def dNon : Rho → R D := fun r => .ok .non r
def dStr (x : Str) : Rho → R D := fun r => .ok (.str x) r
def dTy (x : String) : Rho → R D := fun r => .ok (.ty x) r
def dK (d : D) : Rho → R D := fun r => .ok d r
def dUp (f : Rho → R D) : Rho → R D := fun r => (f r).bind fun d r1 => if flat d = true then .ok d r1 else .no
def dNotB (f : Rho → R Bool) : Rho → R Bool := fun r => (f r).bind fun b r1 => .ok (!b) r1
def dAndB (fa fb : Rho → R Bool) : Rho → R Bool := fun r => (fa r).bind fun v r1 => if v = true then fb r1 else .ok false r1
def dOrB (fa fb : Rho → R Bool) : Rho → R Bool := fun r => (fa r).bind fun v r1 => if v = true then .ok true r1 else fb r1
def dIfE (fc : Rho → R Bool) (fa fb : Rho → R D) : Rho → R D := fun r => (fc r).bind fun v r1 => if v = true then fa r1 else fb r1
def dAnd (fa fb : Rho → R D) : Rho → R D := fun r => (dB fa r).bind fun v r1 => if v = true then fb r1 else .ok (.bl false) r1
def dOr (fa fb : Rho → R D) : Rho → R D := fun r => (dB fa r).bind fun v r1 => if v = true then .ok (.bl true) r1 else fb r1
def dNot (f : Rho → R D) : Rho → R D := fun r => (dB f r).bind fun v r1 => .ok (.bl (!v)) r1
def dNil : Rho → R (List D) := fun r => .ok [] r
def dCons (f : Rho → R D) (g : Rho → R (List D)) : Rho → R (List D) := fun r => (f r).bind fun d r1 => (g r1).bind fun ds r2 => .ok (d :: ds) r2
def dLst (f : Rho → R (List D)) : Rho → R D := fun r => (f r).bind fun ds r1 => lift (lstD ds) r1
def dTup (f : Rho → R (List D)) : Rho → R D := fun r => (f r).bind fun ds r1 => lift (tupD ds) r1
def dFn (np : Nat) (g : List D → DR) (fa : Rho → R (List D)) : Rho → R D := fun r => (fa r).bind fun ds r1 => if ds.length = np then ofDR (g ds) r1 else .no
def dFnK (np : Nat) (sw : Bool) (g : List D → DR) (fa : Rho → R (List D)) : Rho → R D := fun r => (fa r).bind fun ds r1 => if ds.length = np then ofDR (g (turned sw ds)) r1 else .no
def dItL (f : Rho → R D) : Rho → R (List D) := fun r => (f r).bind fun d r1 => lift (itemsL d) r1
def dItT (f : Rho → R D) : Rho → R (List D) := fun r => (f r).bind fun d r1 => lift (itemsT d) r1
def dIt (g : List D → Option (List D)) (f : Rho → R (List D)) : Rho → R (List D) := fun r => (f r).bind fun ds r1 => lift (g ds) r1
def dONone : Rho → R (Option Int) := fun r => .ok none r
def dOSome (f : Rho → R D) : Rho → R (Option Int) := fun r => (f r).bind fun d r1 => lift (asI d) r1
def dTrue : Rho → R Bool := fun r => .ok true r
def dEnd : Rho → SO := fun r => .nx r
def dNo : Rho → SO := fun _ => .no
def dExpr (f : Rho → R D) : Rho → SO := fun r => (f r).then fun _ r1 => .nx r1
def dRet (f : Rho → R D) : Rho → SO := fun r => (f r).then fun d r1 => .rt d r1
def dRetN : Rho → SO := fun r => .rt .non r
def dBk : Rho → SO := fun r => .bk r
def dCt : Rho → SO := fun r => .ct r
def dAsg (g : D → Rho → Option Rho) (f : Rho → R D) : Rho → SO := fun r => (f r).then fun d r1 => match g d r1 with | some r2 => .nx r2 | none => .no
def dPar (i j : Nat) (f : Rho → R (List D)) : Rho → SO := fun r => (f r).then fun ds r1 => par2 i j ds r1
def dFor (fi : Rho → R (List D)) (g : D → Rho → Option Rho) (b : Rho → SO) : Rho → SO := fun r => (fi r).then fun ds r1 => loopD g b ds r1
def dSetIx (i : Nat) (fe fj : Rho → R D) : Rho → SO := fun r => (fe r).then fun d r1 => if isLst (rget r1 i) = true then (fj r1).then fun dj r2 => setGo i d dj r2 else .no
def gTup (n : Nat) (gs : List D → Rho → Option Rho) : D → Rho → Option Rho := fun d r => match d with | .tup ds => if ds.length = n then gs ds r else none | _ => none
def gLst (n : Nat) (gs : List D → Rho → Option Rho) : D → Rho → Option Rho := fun d r => match d with | .lst ds => if ds.length = n then gs ds r else none | _ => none
end VL
namespace VL
open PySem PySem.Spec L2
section
variable {X : Cx}
theorem iop_mulV : OpR X (inplaceOp .Mult) (rI CMulV fun i j => .int (i * j)) := opI fun i j _ _ _ _ _ hc q => PyProof.Rows.imul_int q (by
  have hc : mulOk i j = true := hc
  unfold mulOk at hc
  simp only [Bool.or_eq_true, decide_eq_true_eq] at hc
  rcases hc with (h | h) | h
  · exact .of_left (intBits_le_64 (by omega) (by omega))
  · exact .of_right (intBits_le_64 (by omega) (by omega))
  · exact CMulW.ok h)
theorem iop_divV : OpR X (inplaceOp .FloorDiv) (rI CDivV fun i j => .int (i / j)) := opI fun i j _ _ _ _ _ hc q => by
  have hc : divOk j = true := hc
  unfold divOk at hc
  simp only [Bool.and_eq_true, Bool.or_eq_true, decide_eq_true_eq] at hc
  obtain ⟨h1, h2⟩ := hc
  refine PyProof.Rows.ifloordiv_int (by omega) (by rw [Int.fdiv_eq_ediv_of_nonneg i (by omega)]; exact q) (.inl ?_)
  rcases h2 with h2 | h2
  · exact PyProof.noPylong_small (by omega)
  · exact PyProof.noPylong_of_log2 h2
end
end VL
namespace VL
open PySem PySem.Spec L2
section
variable {P : Program} {w : World} {K : PySem.W.Frag} {mg : Str → Option Value} {base : Heap}
theorem fnv_mk {x qual : Str} {st : Stmt} {f : Addr} {fd : FuncData} {N ps : List Str} {k : Nat} {io : Option Nat} {kr : Nat} {body : Rho → SO} (nN np : Nat) (G0 G' : List Nat) (F : Fun K x qual st f fd) (S : FnScope N ps (defScope st)) (hN : N.length = nN) (hP : ps.length = np)
    (hG0 : gam io np ++ List.replicate (nN - np) 0 = G0) (hio : io = none ∨ 0 < np) (hps : np ≤ nN)
    (B : ∀ (X : Cx) (EX : XK), (∃ (cdv : Value) (A : Around) (outer : List Env) (s : Shared) (H : Hp), X = cxOf (L2.CX P w) P w K mg base N qual (defScope st) f cdv A outer s H EX) → X.A.guards = some [] → Room k X.A → Pf X (fxOf EX io kr) → PassesOwn (model X.prog X.w) X.A X.env X.xe → PBk X (fxOf EX io kr) G0 G' (defBody st) body)
    (hG : ∀ m, io = some m → gget G' 0 = m) :
    FnV P w K mg base (k + 1) f fd ps io kr (runF io nN np body) := by
  subst hN; subst hP; subst hG0
  exact fnv_of F S hio hps (fun cdv A outer s H E gd hr => B _ E ⟨cdv, A, outer, s, H, rfl⟩ gd hr (passAt (takes_of rfl rfl rfl rfl)) (passes_of rfl)) hG
end
end VL

namespace VL
open PySem PySem.Spec L2
section
variable {X : Cx} {F : Fx} {G G1 G2 G3 G4 G' Gt Gs Gn : List Nat} {k k1 k2 k3 kr lv n : Nat} {e a b c tg iter elt : Expr} {es ifs : List Expr} {pos p tpos apos cpos : Pos} {st : Stmt} {sts : List Stmt}
theorem w_v_int {i j} : PV X F G G k (.Constant (.int i) j pos) (dI i) := v_int 
theorem w_v_bl {b j} : PV X F G G k (.Constant (.bool b) j pos) (dBl b) := v_bl 
theorem w_v_non {j} : PV X F G G k (.Constant .none j pos) (dNon) := v_non 
theorem w_v_str {x j} : PV X F G G k (.Constant (.str x) j pos) (dStr x) := v_str 
theorem w_v_glob {x : Str} {d : D} {v : V} {u : Value} (hg : Gl X x) (hm : X.mg x = some u) (r : RelV v u) (rp : ∀ H, Rep X.K H k d v z0 z0) (hd : (x == ("__debug__" : Str)) = false := by decide) : PV X F G G k (.Name x pos) (dK d) := v_glob hg hm r rp hd
theorem w_v_bltn {x : Str} {n : String} (hg : Gl X x) (hm : X.mg x = none) (hv : bootBuiltins x = some (.type n)) (hn : x ≠ "__name__" := by decide) (hd : (x == ("__debug__" : Str)) = false := by decide) : PV X F G G k (.Name x pos) (dTy n) := v_bltn hg hm hv hn hd
theorem w_v_up {f : Rho → R D} (A : PV X F G G1 k1 e f) : PV X F G G1 k e (dUp f) := v_up A
theorem w_v_not {f : Rho → R D} (A : PV X F G G1 k1 a f) : PV X F G G1 k (.UnaryOp .Not a pos) (dNot f) := v_not A
theorem w_v_and {rest : List Expr} {fa fb : Rho → R D} (A : PV X F G G1 k1 a fa) (B : PV X F G1 G2 k (.BoolOp .And (b :: rest) pos) fb) (hg : leG G2 G1 = true := by rfl) : PV X F G G2 k (.BoolOp .And (a :: b :: rest) pos) (dAnd fa fb) := v_and A B hg
theorem w_v_or {rest : List Expr} {fa fb : Rho → R D} (A : PV X F G G1 k1 a fa) (B : PV X F G1 G2 k (.BoolOp .Or (b :: rest) pos) fb) (hg : leG G2 G1 = true := by rfl) : PV X F G G2 k (.BoolOp .Or (a :: b :: rest) pos) (dOr fa fb) := v_or A B hg
theorem w_b_not {f : Rho → R Bool} (A : PB X F G G1 e f) : PB X F G G1 (.UnaryOp .Not e pos) (dNotB f) := b_not A
theorem w_bw_and {rest : List Expr} {fa fb : Rho → R Bool} (A : PB X F G G1 a fa) (B : PBw X F G1 G2 (.BoolOp .And (b :: rest) pos) fb) (hg : leG G2 G1 = true := by rfl) : PBw X F G G2 (.BoolOp .And (a :: b :: rest) pos) (dAndB fa fb) := bw_and A B hg
theorem w_bw_or {rest : List Expr} {fa fb : Rho → R Bool} (A : PB X F G G1 a fa) (B : PBw X F G1 G2 (.BoolOp .Or (b :: rest) pos) fb) (hg : leG G2 G1 = true := by rfl) : PBw X F G G2 (.BoolOp .Or (a :: b :: rest) pos) (dOrB fa fb) := bw_or A B hg
theorem w_v_if {c : Expr} {fc : Rho → R Bool} {fa fb : Rho → R D} (C : PB X F G G1 c fc) (A : PV X F G1 G2 k a fa) (B : PV X F G1 G2 k b fb) : PV X F G G2 k (.IfExp c a b pos) (dIfE fc fa fb) := v_if C A B
theorem w_l_nil  : PL X F G G k [] (dNil) := l_nil 
theorem w_l_cons {f : Rho → R D} {g : Rho → R (List D)} (A : PV X F G G1 k e f) (B : PL X F G1 G2 k es g) (hs : starEach (e :: es) X.env = (false, eval e X.env) :: starEach es X.env := by rfl) : PL X F G G2 k (e :: es) (dCons f g) := l_cons A B hs
theorem w_v_lst {f : Rho → R (List D)} (A : PL X F G G1 k es f) : PV X F G G1 (k + 1) (.List es pos) (dLst f) := v_lst A
theorem w_v_tup {f : Rho → R (List D)} {x1} (A : PL X F G G1 k es f) : PV X F G G1 k (.Tuple es x1 pos) (dTup f) := v_tup A
theorem w_it_list {f : Rho → R D} (A0 : PV X F G G1 k iter f) : PIt X F G G1 tg iter (dItL f) := it_list A0
theorem w_it_tup {f : Rho → R D} (A0 : PV X F G G1 k iter f) : PIt X F G G1 tg iter (dItT f) := it_tup A0
theorem w_it_range1 {f : Rho → R (List D)} (A0 : PL X F G G1 k [a] f) (hg : Gl X "range") (hm : X.mg "range" = none) (hs : starEach [a] X.env = [(false, eval a X.env)] := by rfl) : PIt X F G G1 tg (.Call (.Name "range" p) [a] [] pos) (dIt rng1 f) := it_range1 A0 hg hm hs
theorem w_it_range2 {f : Rho → R (List D)} (A0 : PL X F G G1 k [a, b] f) (hg : Gl X "range") (hm : X.mg "range" = none) (hs : starEach [a, b] X.env = [(false, eval a X.env), (false, eval b X.env)] := by rfl) (hs2 : starEach [b] X.env = [(false, eval b X.env)] := by rfl) : PIt X F G G1 tg (.Call (.Name "range" p) [a, b] [] pos) (dIt rng2 f) := it_range2 A0 hg hm hs hs2
theorem w_it_enum {elts : List Expr} {kk : Nat} {f : Rho → R (List D)} (A0 : PL X F G G1 k [a] f) (hg : Gl X "enumerate") (hm : X.mg "enumerate" = none) (hs : starEach [a] X.env = [(false, eval a X.env)] := by rfl) : PIt X F G G1 (.Tuple elts kk tpos) (.Call (.Name "enumerate" p) [a] [] pos) (dIt enumD f) := it_enum A0 hg hm hs
theorem w_it_zip {elts : List Expr} {kk : Nat} {f : Rho → R (List D)} (A0 : PL X F G G1 k [a, b] f) (hg : Gl X "zip") (hm : X.mg "zip" = none) (hs : starEach [a, b] X.env = (false, eval a X.env) :: starEach [b] X.env := by rfl) (hpl : (backTo pos (starEach [b] X.env)).any (·.1) = false := by rfl) : PIt X F G G1 (.Tuple elts kk tpos) (.Call (.Name "zip" p) [a, b] [] pos) (dIt zipD f) := it_zip A0 hg hm hs hpl
theorem w_o_none  : PO1 X F G G none (dONone) := o_none 
theorem w_o_some {f : Rho → R D} (A : PV X F G G1 k e f) : PO1 X F G G1 (some e) (dOSome f) := o_some A
theorem w_t_nil  : PTst X F G G [] (dTrue) := t_nil 
theorem w_k_nil  : PBk X F G G [] (dEnd) := k_nil 
theorem w_s_never  : PSt X F G G' st (dNo) := s_never 
theorem w_s_expr {f : Rho → R D} (A : PV X F G G1 k e f) (hs : swapsWith e none pos.line X.env = pure false := by rfl) : PSt X F G G1 (.Expr e pos) (dExpr f) := s_expr A hs
theorem w_s_ret {f : Rho → R D} (A : PV X F G G1 F.kr e f) (hio : IoG F G1 := by first | exact io_none rfl | exact io_some rfl rfl) : PSt X F G G' (.Return (some e) pos) (dRet f) := s_ret A hio
theorem w_s_retN (hio : IoG F G := by first | exact io_none rfl | exact io_some rfl rfl) : PSt X F G G' (.Return none pos) (dRetN) := s_retN hio
theorem w_s_break (g : leG F.Gb G = true := by rfl) : PSt X F G G' (.Break pos) (dBk) := s_break g
theorem w_s_continue (g : leG F.Gc G = true := by rfl) : PSt X F G G' (.Continue pos) (dCt) := s_continue g
theorem w_s_pass  : PSt X F G G (.Pass pos) (dEnd) := s_pass 
theorem w_s_doc {x j pos'} : PSt X F G G (.Expr (.Constant (.str x) j pos) pos') (dEnd) := s_doc 
theorem w_s_asg {f : Rho → R D} {g : D → Rho → Option Rho} (A0 : PV X F G G1 k e f) (T : PTg X F G1 G2 tg g) (hs : swapsWithSole [tg] e pos.line X.env = pure false := by rfl) (hw : swappedStores [tg] e X.env = pure none := by rfl)
    (h1 : (assignEach [tg] X.env).map (·.2) = [assign tg X.env] := by rfl) : PSt X F G G2 (.Assign [tg] e pos) (dAsg g f) := s_asg A0 T hs hw h1
theorem w_s_par (i j : Nat) {x y : Str} {px py pt : Pos} {kt k2 pt2} {fa : Rho → R (List D)} (hc : X.calm = true) (nd : X.N.Nodup) (A : PL X F G G1 k [a, b] fa) (hij : i ≠ j := by decide) (hi : X.N[i]? = some x := by rfl) (hj : X.N[j]? = some y := by rfl)
    (hx : X.env.scope.names.lookup x = some .local := by rfl) (hy : X.env.scope.names.lookup y = some .local := by rfl) (hp : F.io = none ∨ i ≠ 0 := by first | exact Or.inl rfl | exact Or.inr (by decide)) (hp2 : F.io = none ∨ j ≠ 0 := by first | exact Or.inl rfl | exact Or.inr (by decide))
    (hli : i < G.length := by decide) (hlj : j < G.length := by decide)
    (hw : swappedStores [.Tuple [.Name x px, .Name y py] kt pt] (.Tuple [a, b] k2 pt2) X.env = pure (some [x, y]) := by rfl)
    (hs : swapsWithSole [.Tuple [.Name x px, .Name y py] kt pt] (.Tuple [a, b] k2 pt2) pos.line X.env = pure false := by rfl) : PSt X F G ((G1.set i k).set j k) (.Assign [.Tuple [.Name x px, .Name y py] kt pt] (.Tuple [a, b] k2 pt2) pos) (dPar i j fa) := s_par i j hc nd A hij hi hj hx hy hp hp2 hli hlj hw hs
theorem w_s_for (G2 : List Nat) {body : List Stmt} {fi : Rho → R (List D)} {g : D → Rho → Option Rho} {b : Rho → SO} (hp : PassesOwn (model X.prog X.w) X.A X.env X.xe) (hc : X.calm = true) (I : PIt X F G G1 tg iter fi) (T : PTg X F G2 Gt tg g) (B : PBk X (F.at G2 G2) Gt Gn body b)
    (h1 : leG G2 G1 = true := by rfl) (h2 : leG G2 Gn = true := by rfl) (hs : ∀ x, foldedSetIterable iter X.env x = pure x := by intro _; rfl) : PSt X F G G2 (.For tg iter body [] pos) (dFor fi g b) := s_for G2 hp hc I T B h1 h2 hs
theorem w_s_setIx (i n : Nat) {y : Str} {py ps : Pos} {fe fj : Rho → R D} (A : PV X F G G1 n e fe) (B0 : PV X F G1 G2 k2 b fj) (hmm : gget G2 i = n + 1 := by rfl) (hN : X.N[i]? = some y := by rfl) (hv : Vis X.env.scope y := by first | exact Or.inl rfl | exact Or.inr (Or.inl rfl) | exact Or.inr (Or.inr rfl))
    (hd : (y == ("__debug__" : Str)) = false := by decide) (hcd : (y == ("__classdict__" : Str)) = false := by decide)
    (ha : ∀ v, assign (.Subscript (.Name y py) b ps) X.env v = (do
      let ov ← holding [v] (eval (.Name y py) X.env)
      let iv ← holding [v, ov] (eval b X.env)
      standAt ps
      holding [v, ov, iv] (setItem ov iv v)
      release [v, ov, iv] []) := by intro _; rfl)
    (hs : swapsWithSole [.Subscript (.Name y py) b ps] e pos.line X.env = pure false := by rfl) (hw : swappedStores [.Subscript (.Name y py) b ps] e X.env = pure none := by rfl)
    (h1 : (assignEach [.Subscript (.Name y py) b ps] X.env).map (·.2) = [assign (.Subscript (.Name y py) b ps) X.env] := by rfl) : PSt X F G G2 (.Assign [.Subscript (.Name y py) b ps] e pos) (dSetIx i fe fj) := s_setIx i n A B0 hmm hN hv hd hcd ha hs hw h1
theorem w_g_tup {kk : Nat} {gs : List D → Rho → Option Rho} {n : Nat} (hc : X.calm = true) (A : PTgs X F G G1 es gs) (hn : (assignEach es X.env).length = n := by rfl) (hst : (assignEach es X.env).findIdx? (·.1) = none := by rfl) : PTg X F G G1 (.Tuple es kk pos) (gTup n gs) := g_tup hc A hn hst
theorem w_g_lst {kk : Nat} {gs : List D → Rho → Option Rho} {n : Nat} (hc : X.calm = true) (A : PTgs X F G G1 es gs) (hn : (assignEach es X.env).length = n := by rfl) (hst : (assignEach es X.env).findIdx? (·.1) = none := by rfl) : PTg X F G G1 (.Tuple es kk pos) (gLst n gs) := g_lst hc A hn hst
theorem w_kw_nil  : PKw X F G G k [] (dNil) := kw_nil 
theorem w_kw_cons {nm : Option Str} {kpos : Pos} {kws : List Keyword} {f : Rho → R D} {g : Rho → R (List D)} (A : PV X F G G1 k e f) (B : PKw X F G1 G2 k kws g) : PKw X F G G2 k (⟨nm, e, kpos⟩ :: kws) (dCons f g) := kw_cons A B
theorem w_v_call {np : Nat} {x : Str} {f : Addr} {fd : FuncData} {ps : List Str} {g : List D → DR} {fa : Rho → R (List D)} (Fv : FnV X.prog X.w X.K X.mg X.base lv f fd ps none kr g) (gd : X.A.guards = some []) (hr : Room lv X.A) (hm : X.mg x = some (.ref f)) (hk : PySem.W.keepIn X.K (.ref f) = true) (hb : Binds X.K fd ps []) (pf : Pf X F)
    (A0 : PL X F G G1 k (e :: es) fa) (hps : (e :: es).length = ps.length := by rfl) (hg : Gl X x := by rfl) (hio : IoG F G1 := by first | exact io_none rfl | exact io_some rfl rfl)
    (hdb : (x == ("__debug__" : Str)) = false := by decide) (he : starEach (e :: es) X.env = (false, eval e X.env) :: starEach es X.env := by rfl) (hpl : (backTo pos (starEach es X.env)).any (·.1) = false := by rfl) (hnp : ps.length = np := by rfl) : PV X F G G1 kr (.Call (.Name x p) (e :: es) [] pos) (dFn np g fa) := by
  subst hnp
  exact v_call Fv gd hr hm hk hb pf A0 hps hg hio hdb he hpl
theorem w_v_callK {np : Nat} {x : Str} {f : Addr} {fd : FuncData} {ps ks : List Str} {sw : Bool} {kws : List Keyword} {g : List D → DR} {fa : Rho → R (List D)} (Fv : FnV X.prog X.w X.K X.mg X.base lv f fd ps none kr g) (gd : X.A.guards = some []) (hr : Room lv X.A) (hm : X.mg x = some (.ref f)) (hk : PySem.W.keepIn X.K (.ref f) = true) (hb : KwBinds X.K fd ps ks sw) (pf : Pf X F)
    (A0 : PKw X F G G1 0 kws fa) (hg : Gl X x := by rfl) (hio : IoG F G1 := by first | exact io_none rfl | exact io_some rfl rfl)
    (hall : (backToKw pos (keywordEach kws X.env)).all (·.1.isSome) = true := by rfl) (hks : (backToKw pos (keywordEach kws X.env)).filterMap (·.1) = ks := by rfl) (hdb : (x == ("__debug__" : Str)) = false := by decide)
    (hpl : ((backTo pos (starEach [] X.env)).any (·.1) || (backToKw pos (keywordEach kws X.env)).any (·.1.isNone)) = false := by rfl) (hnp : ps.length = np := by rfl) : PV X F G G1 kr (.Call (.Name x p) [] kws pos) (dFnK np sw g fa) := by
  subst hnp
  exact v_callK Fv gd hr hm hk hb pf A0 hg hio hall hks hdb hpl
theorem w_v_callIo {np : Nat} (i m : Nat) {x y : Str} {py : Pos} {f : Addr} {fd : FuncData} {ps : List Str} {g : List D → DR} {fa : Rho → R (List D)} (Fv : FnV X.prog X.w X.K X.mg X.base lv f fd ps (some m) kr g) (gd : X.A.guards = some []) (hr : Room lv X.A) (hm : X.mg x = some (.ref f)) (hk : PySem.W.keepIn X.K (.ref f) = true) (hb : Binds X.K fd ps []) (pf : Pf X F)
    (A0 : PL X F G G1 k es fa) (hN : X.N[i]? = some y := by rfl) (hv : Vis X.env.scope y := by first | exact Or.inl rfl | exact Or.inr (Or.inl rfl) | exact Or.inr (Or.inr rfl)) (hmm : gget G1 i = m := by rfl) (hio : IoG F G1 := by first | exact io_none rfl | exact io_some rfl rfl) (hg : Gl X x := by rfl)
    (hd : (y == ("__debug__" : Str)) = false := by decide) (hcd : (y == ("__classdict__" : Str)) = false := by decide)
    (hdb : (x == ("__debug__" : Str)) = false := by decide) (he : starEach (.Name y py :: es) X.env = (false, eval (.Name y py) X.env) :: starEach es X.env := by rfl) (hpl : (backTo pos (starEach es X.env)).any (·.1) = false := by rfl) (hnp : ps.length = np := by rfl) : PV X F G G1 kr (.Call (.Name x p) (.Name y py :: es) [] pos) (dCallIo i np g fa) := by
  subst hnp
  exact v_callIo i m Fv gd hr hm hk hb pf A0 hN hv hmm hio hg hd hcd hdb he hpl
theorem w_v_mt0 (i n : Nat) {y name : Str} {py : Pos} {id : String} {r0 : V → List V → Hp → VK → Prop} {h : List D → List D → Option (D × List D)} (slot : Slot "list" name id) (hty : typeOf (.builtin id) = pure (.type "method_descriptor")) (hmt : MtR X id r0) (mu : MuOk X r0 n kr h)
    (hmm : gget G i = n + 1 := by rfl) (hN : X.N[i]? = some y := by rfl) (hv : Vis X.env.scope y := by first | exact Or.inl rfl | exact Or.inr (Or.inl rfl) | exact Or.inr (Or.inr rfl))
    (hd : (y == ("__debug__" : Str)) = false := by decide) (hcd : (y == ("__classdict__" : Str)) = false := by decide)
    (hbase : attributeBase (.Name y py) name X.env (eval (.Name y py) X.env) = eval (.Name y py) X.env := by rfl) (hline : (apos.endLine == cpos.line) = true := by rfl) : PV X F G G kr (.Call (.Attribute (.Name y py) name apos) [] [] cpos) (dMut i h dNil) := v_mt0 i n slot hty hmt mu hmm hN hv hd hcd hbase hline
theorem w_v_mtIx0 (i n : Nat) {y name : Str} {py jp sp : Pos} {j : Int} {jj : Nat} {id : String} {r0 : V → List V → Hp → VK → Prop} {h : List D → List D → Option (D × List D)} (slot : Slot "list" name id) (hty : typeOf (.builtin id) = pure (.type "method_descriptor")) (hmt : MtR X id r0) (mu : MuOk X r0 n kr h)
    (hmG : gget G i = n + 2 := by rfl) (hN : X.N[i]? = some y := by rfl) (hv : Vis X.env.scope y := by first | exact Or.inl rfl | exact Or.inr (Or.inl rfl) | exact Or.inr (Or.inr rfl))
    (hd : (y == ("__debug__" : Str)) = false := by decide) (hcd : (y == ("__classdict__" : Str)) = false := by decide)
    (hbase : attributeBase (.Subscript (.Name y py) (.Constant (.int j) jj jp) sp) name X.env (eval (.Subscript (.Name y py) (.Constant (.int j) jj jp) sp) X.env) = eval (.Subscript (.Name y py) (.Constant (.int j) jj jp) sp) X.env := by rfl)
    (hline : (apos.endLine == cpos.line) = true := by rfl) : PV X F G G kr (.Call (.Attribute (.Subscript (.Name y py) (.Constant (.int j) jj jp) sp) name apos) [] [] cpos) (dMutIx i j h dNil) := v_mtIx0 i n slot hty hmt mu hmG hN hv hd hcd hbase hline
end
end VL

namespace VL
open PySem PySem.Spec L2
/-- the promise that the end asks for, from the plain law -/
theorem hsp_of {K : PySem.W.Frag} {mg : Str → Option Value} {g : List D → DR} {H : Hp} {a : Addr} {ns : List Int} (only : Only H) (hS : SqL K H a (ns.map V.int)) (hg : g [.scr ns] = .ok (.bl true) none) :
    SpD K mg none 1 0 g [.ref a] H (fun v _ => v = .bl true) fun _ _ _ => False := by
  have rep : ∃ s, Rep K H 0 (.scr ns) (.ref a) z0 s := by
    rcases hS with (h | ⟨o, h⟩) | h
    · rcases only a with z | ⟨o, xs, z⟩
      · rw [z] at h; cases h
      · rw [z] at h; cases h
    · exact ⟨_, .scr o h⟩
    · exact ⟨_, .scrK fun H' => .inr h⟩
  obtain ⟨s, rp⟩ := rep
  have sr : SR K H [0] [some (.scr ns)] [some (.ref a)] (add z0 z0) (add s z0) := .yes rp .nil
  simp only [add_z] at sr
  refine ⟨[.scr ns], z0, s, rfl, sr, fun z => ⟨Nat.zero_le _, .inl rfl⟩, ?_⟩
  rw [hg]
  intro v H' cr sr' c0 s0 r i st
  cases r
  rfl
end VL

/-! VLP: the denotations in plain use -/
namespace VL
open PySem PySem.Spec
open L2 (kitB)
section
variable {α β : Type} {r : Rho} {i j : Int} {f fa fb fc fe fj : Rho → R D} {fl fl' : Rho → R (List D)} {b : Bool} {x : Str}
@[simp] theorem ap_dI : dI i r = .ok (.int i) r := rfl
@[simp] theorem ap_dBl : dBl b r = .ok (.bl b) r := rfl
@[simp] theorem ap_dNon : dNon r = .ok .non r := rfl
@[simp] theorem ap_dStr : dStr x r = .ok (.str x) r := rfl
@[simp] theorem ap_dTy {t : String} : dTy t r = .ok (.ty t) r := rfl
@[simp] theorem ap_dK {d : D} : dK d r = .ok d r := rfl
@[simp] theorem ap_dVar {n : Nat} : dVar n r = lift (rget r n) r := rfl
@[simp] theorem ap_dMv {n : Nat} : dMv n r = lift (rget r n) (r.set n none) := rfl
@[simp] theorem ap_d2 {g : D → D → Option D} : d2 g fa fb r = (fa r).bind fun da r1 => (fb r1).bind fun db r2 => lift (g da db) r2 := rfl
@[simp] theorem ap_d1 {g : D → Option D} : d1 g fa r = (fa r).bind fun da r1 => lift (g da) r1 := rfl
@[simp] theorem ap_dN {g : List D → Option D} : dN g fl r = (fl r).bind fun da r1 => lift (g da) r1 := rfl
@[simp] theorem ap_dUp : dUp f r = (f r).bind fun d r1 => if flat d = true then .ok d r1 else .no := rfl
@[simp] theorem ap_dBor {k : Nat} : dBor k f r = match f r with | .ok d _ => if fits k d = true then .ok d r else .no | _ => .no := rfl
@[simp] theorem ap_dBorB {f : Rho → R Bool} : dBorB f r = match f r with | .ok d _ => .ok d r | _ => .no := rfl
@[simp] theorem ap_dB : dB f r = (f r).bind fun d r1 => lift (asB d) r1 := rfl
@[simp] theorem ap_dNotB {f : Rho → R Bool} : dNotB f r = (f r).bind fun b r1 => .ok (!b) r1 := rfl
@[simp] theorem ap_dAndB {fa fb : Rho → R Bool} : dAndB fa fb r = (fa r).bind fun v r1 => if v = true then fb r1 else .ok false r1 := rfl
@[simp] theorem ap_dOrB {fa fb : Rho → R Bool} : dOrB fa fb r = (fa r).bind fun v r1 => if v = true then .ok true r1 else fb r1 := rfl
@[simp] theorem ap_dIfE {fc : Rho → R Bool} : dIfE fc fa fb r = (fc r).bind fun v r1 => if v = true then fa r1 else fb r1 := rfl
@[simp] theorem ap_dAnd : dAnd fa fb r = (dB fa r).bind fun v r1 => if v = true then fb r1 else .ok (.bl false) r1 := rfl
@[simp] theorem ap_dOr : dOr fa fb r = (dB fa r).bind fun v r1 => if v = true then .ok (.bl true) r1 else fb r1 := rfl
@[simp] theorem ap_dNot : dNot f r = (dB f r).bind fun v r1 => .ok (.bl (!v)) r1 := rfl
@[simp] theorem ap_dNil : dNil r = .ok [] r := rfl
@[simp] theorem ap_dCons : dCons f fl r = (f r).bind fun d r1 => (fl r1).bind fun ds r2 => .ok (d :: ds) r2 := rfl
@[simp] theorem ap_dLst : dLst fl r = (fl r).bind fun ds r1 => lift (lstD ds) r1 := rfl
@[simp] theorem ap_dTup : dTup fl r = (fl r).bind fun ds r1 => lift (tupD ds) r1 := rfl
@[simp] theorem ap_dFn {np : Nat} {g : List D → DR} : dFn np g fl r = (fl r).bind fun ds r1 => if ds.length = np then ofDR (g ds) r1 else .no := rfl
@[simp] theorem ap_dFnK {np : Nat} {sw : Bool} {g : List D → DR} : dFnK np sw g fl r = (fl r).bind fun ds r1 => if ds.length = np then ofDR (g (turned sw ds)) r1 else .no := rfl
@[simp] theorem ap_dCallIo {i np : Nat} {g : List D → DR} : dCallIo i np g fl r = match rget r i with | some _ => (fl r).bind fun ds r1 => ioGo i np g ds r1 | none => .no := rfl
@[simp] theorem ap_dItL : dItL f r = (f r).bind fun d r1 => lift (itemsL d) r1 := rfl
@[simp] theorem ap_dItT : dItT f r = (f r).bind fun d r1 => lift (itemsT d) r1 := rfl
@[simp] theorem ap_dIt {g : List D → Option (List D)} : dIt g fl r = (fl r).bind fun ds r1 => lift (g ds) r1 := rfl
@[simp] theorem ap_dONone : dONone r = .ok none r := rfl
@[simp] theorem ap_dOSome : dOSome f r = (f r).bind fun d r1 => lift (asI d) r1 := rfl
@[simp] theorem ap_dTrue : dTrue r = .ok true r := rfl
@[simp] theorem ap_dSl {fx fy : Rho → R (Option Int)} : dSl fe fx fy r = (fe r).bind fun d r1 => (fx r1).bind fun lo r2 => (fy r2).bind fun hi r3 => lift (pSl d lo hi) r3 := rfl
@[simp] theorem ap_lcD {vs : List Nat} {fi : Rho → R (List D)} {g : D → Rho → Option Rho} {ts : Rho → R Bool} : lcD vs fi g ts fe r = (fi r).bind fun ds r1 => if ds.length ≤ 100000 then (compD vs g ts fe ds [] (wipeR r1 vs)).bind fun out r2 => .ok (.lst out) r2 else .no := rfl
@[simp] theorem ap_dMut {i : Nat} {h : List D → List D → Option (D × List D)} : dMut i h fl r = if isLst (rget r i) = true then (fl r).bind fun as r1 => muGo i h as r1 else .no := rfl
-- statements
@[simp] theorem ap_dEnd : dEnd r = .nx r := rfl
@[simp] theorem ap_dNo : dNo r = .no := rfl
@[simp] theorem ap_dBk : dBk r = .bk r := rfl
@[simp] theorem ap_dCt : dCt r = .ct r := rfl
@[simp] theorem ap_dExpr : dExpr f r = (f r).then fun _ r1 => .nx r1 := rfl
@[simp] theorem ap_dRet : dRet f r = (f r).then fun d r1 => .rt d r1 := rfl
@[simp] theorem ap_dRetN : dRetN r = .rt .non r := rfl
@[simp] theorem ap_dSet {n : Nat} : dSet n f r = (f r).then fun d r1 => .nx (r1.set n (some d)) := rfl
@[simp] theorem ap_dSeq {f g : Rho → SO} : dSeq f g r = match f r with | .nx r1 => g r1 | o => o := rfl
@[simp] theorem ap_dIf {c : Rho → R Bool} {f g : Rho → SO} : dIf c f g r = (c r).then fun b r1 => if b = true then f r1 else g r1 := rfl
@[simp] theorem ap_dAug {n : Nat} {g : D → D → Option D} : dAug n g f r = match rget r n with | some x => if flat x = true then (f r).then fun d r1 => augN n (g x d) r1 else .no | none => .no := rfl
@[simp] theorem ap_dAsg {g : D → Rho → Option Rho} : dAsg g f r = (f r).then fun d r1 => match g d r1 with | some r2 => .nx r2 | none => .no := rfl
@[simp] theorem ap_dPar {n m : Nat} : dPar n m fl r = (fl r).then fun ds r1 => par2 n m ds r1 := rfl
@[simp] theorem ap_dFor {fi : Rho → R (List D)} {g : D → Rho → Option Rho} {b : Rho → SO} : dFor fi g b r = (fi r).then fun ds r1 => loopD g b ds r1 := rfl
@[simp] theorem ap_dSetIx {n : Nat} : dSetIx n fe fj r = (fe r).then fun d r1 => if isLst (rget r1 n) = true then (fj r1).then fun dj r2 => setGo n d dj r2 else .no := rfl
@[simp] theorem ap_gSet {n : Nat} {d : D} : gSet n d r = some (r.set n (some d)) := rfl
@[simp] theorem ap_gNil' : gNil' [] r = some r := rfl
@[simp] theorem ap_gCons' {g : D → Rho → Option Rho} {gs : List D → Rho → Option Rho} {d : D} {ds : List D} : gCons' g gs (d :: ds) r = (g d r).bind fun r1 => gs ds r1 := rfl
@[simp] theorem ap_gTup {n : Nat} {gs : List D → Rho → Option Rho} {ds : List D} : gTup n gs (.tup ds) r = if ds.length = n then gs ds r else none := rfl
@[simp] theorem ap_gLst {n : Nat} {gs : List D → Rho → Option Rho} {ds : List D} : gLst n gs (.lst ds) r = if ds.length = n then gs ds r else none := rfl
@[simp] theorem rget0 {o : Option D} : rget (o :: r) 0 = o := rfl
@[simp] theorem rgetS {o : Option D} {n : Nat} : rget (o :: r) (n + 1) = rget r n := rfl
@[simp] theorem wipe0 : wipeR r [] = r := rfl
@[simp] theorem wipeS {v : Nat} {vs : List Nat} : wipeR r (v :: vs) = (wipeR r vs).set v none := rfl
@[simp] theorem seq_nx {r1 : Rho} {g : Rho → SO} : (match SO.nx r1 with | .nx r1 => g r1 | o => o) = g r1 := rfl
end
/-- a result bound -/
theorem bind_eq {α β : Type} {x : R α} {f : α → Rho → R β} {a : α} {r : Rho} (h : x = .ok a r) : x.bind f = f a r := by rw [h]; rfl
theorem then_eq {α : Type} {x : R α} {f : α → Rho → SO} {a : α} {r : Rho} (h : x = .ok a r) : x.then f = f a r := by rw [h]; rfl
/-- a loop with an invariant: P i r ahead of item i -/
theorem loop_inv {g : D → Rho → Option Rho} {b : Rho → SO} (P : Nat → Rho → Prop) : ∀ (ds : List D) (k : Nat) (r : Rho), P k r →
    (∀ i d r, ds[i]? = some d → P (k + i) r → ∃ r1 r2, g d r = some r1 ∧ (b r1 = .nx r2 ∨ b r1 = .ct r2) ∧ P (k + i + 1) r2) → ∃ r', loopD g b ds r = .nx r' ∧ P (k + ds.length) r'
  | [], k, r, h, _ => ⟨r, rfl, h⟩
  | d :: ds, k, r, h, step => by
    obtain ⟨r1, r2, e1, e2, h2⟩ := step 0 d r rfl h
    obtain ⟨r', e3, h3⟩ := loop_inv P ds (k + 1) r2 h2 (fun i d r hd hp => by
      have q := step (i + 1) d r hd (by rw [show k + (i + 1) = k + 1 + i by omega]; exact hp)
      rw [show k + (i + 1) + 1 = k + 1 + i + 1 by omega] at q
      exact q)
    refine ⟨r', ?_, by rw [show k + (d :: ds).length = k + 1 + ds.length by simp only [List.length_cons]; omega]; exact h3⟩
    unfold loopD
    rw [e1]
    rcases e2 with e2 | e2
    · simp only [e2]; exact e3
    · simp only [e2]; exact e3
/-- a comprehension with an invariant -/
theorem comp_inv {vs : List Nat} {g : D → Rho → Option Rho} {ts : Rho → R Bool} {fe : Rho → R D} (P : Nat → List D → Rho → Prop) : ∀ (ds : List D) (k : Nat) (acc : List D) (r : Rho), P k acc r →
    (∀ i d acc r, ds[i]? = some d → P (k + i) acc r → ∃ r1, g d r = some r1 ∧ ((∃ r2, ts r1 = .ok false r2 ∧ P (k + i + 1) acc (wipeR r2 vs)) ∨ ∃ r2 e r3, ts r1 = .ok true r2 ∧ fe r2 = .ok e r3 ∧ P (k + i + 1) (acc ++ [e]) (wipeR r3 vs))) →
    ∃ out r', compD vs g ts fe ds acc r = .ok out r' ∧ P (k + ds.length) out r'
  | [], k, acc, r, h, _ => ⟨acc, r, rfl, h⟩
  | d :: ds, k, acc, r, h, step => by
    obtain ⟨r1, e1, e2⟩ := step 0 d acc r rfl h
    have next : ∀ acc' r', P (k + 1) acc' r' → ∃ out r'', compD vs g ts fe ds acc' r' = .ok out r'' ∧ P (k + (d :: ds).length) out r'' := fun acc' r' h' => by
      obtain ⟨out, r'', e3, h3⟩ := comp_inv P ds (k + 1) acc' r' h' (fun i d acc r hd hp => by
        have q := step (i + 1) d acc r hd (by rw [show k + (i + 1) = k + 1 + i by omega]; exact hp)
        rw [show k + (i + 1) + 1 = k + 1 + i + 1 by omega] at q
        exact q)
      exact ⟨out, r'', e3, by rw [show k + (d :: ds).length = k + 1 + ds.length by simp only [List.length_cons]; omega]; exact h3⟩
    rcases e2 with ⟨r2, e2, h2⟩ | ⟨r2, e, r3, e2, e3, h2⟩
    · obtain ⟨out, r'', q1, q2⟩ := next acc _ h2
      refine ⟨out, r'', ?_, q2⟩
      unfold compD
      simp only [e1, e2]
      exact q1
    · obtain ⟨out, r'', q1, q2⟩ := next (acc ++ [e]) _ h2
      refine ⟨out, r'', ?_, q2⟩
      unfold compD
      simp only [e1, e2, e3]
      exact q1
/-- a list of iL, of layers -/
abbrev iL (ns : List Int) : D := .lst (ns.map D.int)
theorem intsD_map : ∀ ns : List Int, intsD (ns.map D.int) = some ns
  | [] => rfl
  | n :: ns => by simp only [List.map_cons, intsD, intsD_map ns, Option.map_some]
theorem blsD_map : ∀ ns : List Bool, blsD (ns.map D.bl) = some ns
  | [] => rfl
  | n :: ns => by simp only [List.map_cons, blsD, blsD_map ns, Option.map_some]
theorem shDL_ints (k : Nat) : ∀ ns : List Int, shDL k (ns.map D.int) = true
  | [] => by simp [shDL]
  | n :: ns => by cases k <;> simp [shDL, shD, shDL_ints _ ns]
theorem shD_ints (k : Nat) (ns : List Int) : shD (k + 1) (iL ns) = true := by
  show shD (k + 1) (.lst _) = true
  unfold shD
  exact shDL_ints k ns
theorem eqDL_ints : ∀ ns ms : List Int, eqDL (ns.map D.int) (ms.map D.int) = decide (ns = ms)
  | [], [] => by simp [eqDL]
  | [], _ :: _ => by simp [eqDL]
  | _ :: _, [] => by simp [eqDL]
  | n :: ns, m :: ms => by
    simp only [List.map_cons, eqDL, eqD, eqDL_ints ns ms, List.cons.injEq, Bool.decide_and]
    congr 1
theorem eqD_ints (ns ms : List Int) : eqD (iL ns) (iL ms) = decide (ns = ms) := by
  show eqD (.lst _) (.lst _) = _
  unfold eqD
  exact eqDL_ints ns ms
theorem qEq_ints (ns ms : List Int) : qEq (iL ns) (iL ms) = some (.bl (decide (ns = ms))) := by
  show orD none (pEq (iL ns) (iL ms)) = _
  rw [orD_none]
  unfold pEq
  rw [if_pos ⟨shD_ints 63 ns, shD_ints 63 ms⟩, eqD_ints]
theorem qNe_ints (ns ms : List Int) : qNe (iL ns) (iL ms) = some (.bl (!decide (ns = ms))) := by
  show orD none (pNe (iL ns) (iL ms)) = _
  rw [orD_none]
  unfold pNe
  rw [if_pos ⟨shD_ints 63 ns, shD_ints 63 ms⟩, eqD_ints]
theorem qEq_int (i j : Int) : qEq (.int i) (.int j) = some (.bl (decide (i = j))) := by
  show orD none (pEq (.int i) (.int j)) = _
  rw [orD_none]
  unfold pEq
  rw [if_pos ⟨rfl, rfl⟩]
  simp [eqD]
  rfl
theorem qNe_int (i j : Int) : qNe (.int i) (.int j) = some (.bl (!decide (i = j))) := by
  show orD none (pNe (.int i) (.int j)) = _
  rw [orD_none]
  unfold pNe
  rw [if_pos ⟨rfl, rfl⟩]
  simp [eqD]
  rfl
theorem mulOk_l {i j : Int} (h : i.natAbs < 2 ^ 64) : mulOk i j = true := by unfold mulOk; rw [decide_eq_true h]; rfl
theorem mulOk_r {i j : Int} (h : j.natAbs < 2 ^ 64) : mulOk i j = true := by unfold mulOk; rw [decide_eq_true h]; simp
theorem divOk_s {j : Int} (h0 : 0 < j) (h : j < 1073741824) : divOk j = true := by unfold divOk; rw [decide_eq_true h0, decide_eq_true h]; rfl
theorem iMul_l {i j : Int} (h : i.natAbs < 2 ^ 64) : iMul (.int i) (.int j) = some (.int (i * j)) := by unfold iMul; exact if_pos (mulOk_l h)
theorem iMul_r {i j : Int} (h : j.natAbs < 2 ^ 64) : iMul (.int i) (.int j) = some (.int (i * j)) := by unfold iMul; exact if_pos (mulOk_r h)
theorem iDiv_ok {i j : Int} (h : divOk j = true) : iDiv (.int i) (.int j) = some (.int (i / j)) := by unfold iDiv; exact if_pos h
theorem iMod_ok {i j : Int} (h : 0 < j) : iMod (.int i) (.int j) = some (.int (i % j)) := by unfold iMod; exact if_pos h
theorem log2_lt {i : Int} {n : Nat} (h : i.natAbs < 2 ^ n) (hn : 0 < n) : i.natAbs.log2 + 1 ≤ n := by
  by_cases z : i.natAbs = 0
  · rw [z]; have : Nat.log2 0 = 0 := by decide
    omega
  · have := (Nat.log2_lt z).2 h
    omega
theorem iPow_ok {i j : Int} {n : Nat} (h0 : 0 ≤ j) (h : i.natAbs < 2 ^ n) (hn : 0 < n) (hj : (n : Int) * j ≤ 134217728) : iPow (.int i) (.int j) = some (.int (i ^ j.toNat)) := by
  show powGo i j = _
  unfold powGo
  refine if_pos ⟨h0, Int.le_trans (Int.mul_le_mul_of_nonneg_right ?_ h0) hj⟩
  have := log2_lt h hn
  omega
@[simp] theorem ofDR_ok {d : D} {o : Option D} {r : Rho} : ofDR (.ok d o) r = .ok d r := rfl
@[simp] theorem ioGo_some {i np : Nat} {g : List D → DR} {ds : List D} {r : Rho} : ioGo i np g ds r = match rget r i with | some d0 => if ds.length + 1 = np then ioDR i (g (d0 :: ds)) r else .no | none => .no := rfl
@[simp] theorem ioDR_ok {i : Nat} {d d1 : D} {r : Rho} : ioDR i (.ok d (some d1)) r = .ok d (r.set i (some d1)) := rfl
@[simp] theorem fin_none {r : Rho} {f : Option D → DR} : fin none r f = f none := rfl
@[simp] theorem fin_some {m : Nat} {r : Rho} {f : Option D → DR} : fin (some m) r f = match rget r 0 with | some d => f (some d) | none => .no := rfl
@[simp] theorem iAdd_ii {i j : Int} : iAdd (.int i) (.int j) = some (.int (i + j)) := rfl
@[simp] theorem iSub_ii {i j : Int} : iSub (.int i) (.int j) = some (.int (i - j)) := rfl
@[simp] theorem iLt_ii {i j : Int} : iLt (.int i) (.int j) = some (.bl (decide (i < j))) := rfl
@[simp] theorem iLe_ii {i j : Int} : iLe (.int i) (.int j) = some (.bl (decide (i ≤ j))) := rfl
@[simp] theorem iGt_ii {i j : Int} : iGt (.int i) (.int j) = some (.bl (decide (j < i))) := rfl
@[simp] theorem iGe_ii {i j : Int} : iGe (.int i) (.int j) = some (.bl (decide (j ≤ i))) := rfl
@[simp] theorem iNeg_i {i : Int} : iNeg (.int i) = some (.int (-i)) := rfl
@[simp] theorem asB_bl {b : Bool} : asB (.bl b) = some b := rfl
@[simp] theorem asI_int {i : Int} : asI (.int i) = some (some i) := rfl
@[simp] theorem flat_int {i : Int} : flat (.int i) = true := rfl
@[simp] theorem flat_bl {i : Bool} : flat (.bl i) = true := rfl
@[simp] theorem flat_str {i : Str} : flat (.str i) = true := rfl
@[simp] theorem flat_non : flat .non = true := rfl
@[simp] theorem fits_int' {i : Int} {k : Nat} : fits k (.int i) = true := fits_int i k
@[simp] theorem fits_bl' {i : Bool} {k : Nat} : fits k (.bl i) = true := fits_bl i k
@[simp] theorem fits_str' {i : Str} {k : Nat} : fits k (.str i) = true := fits_str i k
@[simp] theorem fits_non' {k : Nat} : fits k .non = true := fits_non k
@[simp] theorem pLen_lst {ds : List D} : pLen [.lst ds] = some (.int ds.length) := rfl
@[simp] theorem pLen_tup {ds : List D} : pLen [.tup ds] = some (.int ds.length) := rfl
@[simp] theorem pLen_scr {ds : List Int} : pLen [.scr ds] = some (.int ds.length) := rfl
@[simp] theorem itemsL_lst {ds : List D} : itemsL (.lst ds) = some ds := rfl
@[simp] theorem itemsL_scr {ds : List Int} : itemsL (.scr ds) = some (ds.map D.int) := rfl
@[simp] theorem itemsT_tup {ds : List D} : itemsT (.tup ds) = some ds := rfl
@[simp] theorem enumD_lst {ds : List D} : enumD [.lst ds] = some (enumL 0 ds) := rfl
@[simp] theorem zipD_lst {xs ys : List D} : zipD [.lst xs, .lst ys] = some (List.zipWith (fun x y => .tup [x, y]) xs ys) := rfl
@[simp] theorem pMax2_ii {i j : Int} : pMax2 [.int i, .int j] = some (.int (if j > i then j else i)) := rfl
@[simp] theorem pMin2_ii {i j : Int} : pMin2 [.int i, .int j] = some (.int (if j < i then j else i)) := rfl
@[simp] theorem pAbs_i {i : Int} : pAbs [.int i] = some (.int (if i < 0 then -i else i)) := rfl
@[simp] theorem pList_lst {ds : List D} : pList [.lst ds] = some (.lst ds) := rfl
@[simp] theorem pList_tup {ds : List D} : pList [.tup ds] = some (.lst ds) := rfl
@[simp] theorem pAll_bl {bs : List Bool} : pAll [.lst (bs.map D.bl)] = some (.bl (bs.all id)) := by show (blsD (bs.map D.bl)).map _ = _; rw [blsD_map]; rfl
@[simp] theorem pSum_int {bs : List Int} : pSum [.lst (bs.map D.int)] = some (.int bs.sum) := by show (intsD (bs.map D.int)).map _ = _; rw [intsD_map]; rfl
@[simp] theorem isLst_lst {ds : List D} : isLst (some (.lst ds)) = true := rfl
@[simp] theorem muGo_lst {i : Nat} {h : List D → List D → Option (D × List D)} {as : List D} {r : Rho} : muGo i h as r = match rget r i with | some (.lst ds) => (match h ds as with | some (d, ds') => .ok d (r.set i (some (.lst ds'))) | none => .no) | _ => .no := rfl
@[simp] theorem augN_some {i : Nat} {d : D} {r : Rho} : augN i (some d) r = .nx (r.set i (some d)) := rfl
@[simp] theorem par2_two {i j : Nat} {d e : D} {r : Rho} : par2 i j [d, e] r = .nx ((r.set i (some d)).set j (some e)) := rfl
theorem hAppend_ok {ds : List D} {x : D} (h : ds.length < 100000) : hAppend ds [x] = some (.non, ds ++ [x]) := if_pos h
theorem hExtend_ok {ds es : List D} (h : ds.length + es.length ≤ 100000) : hExtend ds [.lst es] = some (.non, ds ++ es) := if_pos h
theorem lstD_ok {ds : List D} (h : ds.length ≤ 100000) : lstD ds = some (.lst ds) := if_pos h
theorem tupD_ok {ds : List D} (h : ds.length ≤ 100000) : tupD ds = some (.tup ds) := if_pos h
@[simp] theorem lstD_0 : lstD [] = some (.lst []) := rfl
@[simp] theorem ki_lt : kitB "list" "tuple" = some false := by decide +kernel
@[simp] theorem ki_tt : kitB "tuple" "tuple" = some true := by decide +kernel
@[simp] theorem ki_ll : kitB "list" "list" = some true := by decide +kernel
@[simp] theorem ki_tl : kitB "tuple" "list" = some false := by decide +kernel
@[simp] theorem pIsi_lst {ds : List D} {T : String} : pIsi [.lst ds, .ty T] = (kitB "list" T).map D.bl := rfl
@[simp] theorem pIsi_tup {ds : List D} {T : String} : pIsi [.tup ds, .ty T] = (kitB "tuple" T).map D.bl := rfl
@[simp] theorem pIsi_int {i : Int} {T : String} : pIsi [.int i, .ty T] = (kitB "int" T).map D.bl := rfl
@[simp] theorem pIsi_bl {i : Bool} {T : String} : pIsi [.bl i, .ty T] = (kitB "bool" T).map D.bl := rfl
@[simp] theorem pIsi_non {T : String} : pIsi [.non, .ty T] = (kitB "NoneType" T).map D.bl := rfl
@[simp] theorem pIs_non {d : D} : pIs d .non = some (.bl (isN d)) := rfl
@[simp] theorem pIsNot_non {d : D} : pIsNot d .non = some (.bl (!isN d)) := rfl
@[simp] theorem isN_non : isN .non = true := rfl
@[simp] theorem isN_int {i : Int} : isN (.int i) = false := rfl
theorem pIx_nat {ds : List D} {n : Nat} {d : D} (h : ds[n]? = some d) : pIx (.lst ds) (.int (n : Int)) = some d := by
  have hn : n < ds.length := (List.getElem?_eq_some_iff.mp h).1
  show ((L2.ixN ds.length (n : Int)).bind fun j => ds[j]?) = _
  unfold L2.ixN
  rw [if_pos (by omega), if_pos (by omega)]
  simpa using h
theorem pIxT_nat {ds : List D} {n : Nat} {d : D} (h : ds[n]? = some d) : pIx (.tup ds) (.int (n : Int)) = some d := by
  have hn : n < ds.length := (List.getElem?_eq_some_iff.mp h).1
  show ((L2.ixN ds.length (n : Int)).bind fun j => ds[j]?) = _
  unfold L2.ixN
  rw [if_pos (by omega), if_pos (by omega)]
  simpa using h
theorem pIx_int {ds : List D} {i : Int} {d : D} (h0 : 0 ≤ i) (h : ds[i.toNat]? = some d) : pIx (.lst ds) (.int i) = some d := by
  have q := pIx_nat h
  rwa [Int.toNat_of_nonneg h0] at q
@[simp] theorem pIx_0 {d : D} {ds : List D} : pIx (.lst (d :: ds)) (.int 0) = some d := pIx_nat (n := 0) rfl
@[simp] theorem pIx_1 {d e : D} {ds : List D} : pIx (.lst (d :: e :: ds)) (.int 1) = some e := pIx_nat (n := 1) rfl
@[simp] theorem pIx_2 {d e f : D} {ds : List D} : pIx (.lst (d :: e :: f :: ds)) (.int 2) = some f := pIx_nat (n := 2) rfl
@[simp] theorem pIx_3 {d e f g : D} {ds : List D} : pIx (.lst (d :: e :: f :: g :: ds)) (.int 3) = some g := pIx_nat (n := 3) rfl
@[simp] theorem pIxT_0 {d : D} {ds : List D} : pIx (.tup (d :: ds)) (.int 0) = some d := pIxT_nat (n := 0) rfl
@[simp] theorem pIxT_1 {d e : D} {ds : List D} : pIx (.tup (d :: e :: ds)) (.int 1) = some e := pIxT_nat (n := 1) rfl
@[simp] theorem setGo_int {i : Nat} {j : Int} {d : D} {r : Rho} : setGo i d (.int j) r = match rget r i with | some (.lst ds) => (match L2.ixN ds.length j with | some k => .nx (r.set i (some (.lst (ds.set k d)))) | none => .no) | _ => .no := by
  unfold setGo
  cases rget r i with
  | none => rfl
  | some x => cases x <;> rfl
@[simp] theorem iPow_2_61 : iPow (.int 2) (.int 61) = some (.int 2305843009213693952) := (iPow_ok (n := 4) (by decide) (by decide) (by decide) (by decide)).trans (congrArg (fun z => some (D.int z)) (by decide))
@[simp] theorem iPow_10_5 : iPow (.int 10) (.int 5) = some (.int 100000) := (iPow_ok (n := 4) (by decide) (by decide) (by decide) (by decide)).trans (congrArg (fun z => some (D.int z)) (by decide))
@[simp] theorem iPow_10_6 : iPow (.int 10) (.int 6) = some (.int 1000000) := (iPow_ok (n := 4) (by decide) (by decide) (by decide) (by decide)).trans (congrArg (fun z => some (D.int z)) (by decide))
@[simp] theorem iPow_10_9 : iPow (.int 10) (.int 9) = some (.int 1000000000) := (iPow_ok (n := 4) (by decide) (by decide) (by decide) (by decide)).trans (congrArg (fun z => some (D.int z)) (by decide))
@[simp] theorem iPow_10_12 : iPow (.int 10) (.int 12) = some (.int 1000000000000) := (iPow_ok (n := 4) (by decide) (by decide) (by decide) (by decide)).trans (congrArg (fun z => some (D.int z)) (by decide))
@[simp] theorem iPow_10_18 : iPow (.int 10) (.int 18) = some (.int 1000000000000000000) := (iPow_ok (n := 4) (by decide) (by decide) (by decide) (by decide)).trans (congrArg (fun z => some (D.int z)) (by decide))
@[simp] theorem iPow_10_19 : iPow (.int 10) (.int 19) = some (.int 10000000000000000000) := (iPow_ok (n := 4) (by decide) (by decide) (by decide) (by decide)).trans (congrArg (fun z => some (D.int z)) (by decide))
@[simp] theorem iPow_10_20 : iPow (.int 10) (.int 20) = some (.int 100000000000000000000) := (iPow_ok (n := 4) (by decide) (by decide) (by decide) (by decide)).trans (congrArg (fun z => some (D.int z)) (by decide))
@[simp] theorem iPow_10_21 : iPow (.int 10) (.int 21) = some (.int 1000000000000000000000) := (iPow_ok (n := 4) (by decide) (by decide) (by decide) (by decide)).trans (congrArg (fun z => some (D.int z)) (by decide))
@[simp] theorem iPow_10_29 : iPow (.int 10) (.int 29) = some (.int 100000000000000000000000000000) := (iPow_ok (n := 4) (by decide) (by decide) (by decide) (by decide)).trans (congrArg (fun z => some (D.int z)) (by decide))
@[simp] theorem iPow_10_30 : iPow (.int 10) (.int 30) = some (.int 1000000000000000000000000000000) := (iPow_ok (n := 4) (by decide) (by decide) (by decide) (by decide)).trans (congrArg (fun z => some (D.int z)) (by decide))
@[simp] theorem iPow_10_40 : iPow (.int 10) (.int 40) = some (.int 10000000000000000000000000000000000000000) := (iPow_ok (n := 4) (by decide) (by decide) (by decide) (by decide)).trans (congrArg (fun z => some (D.int z)) (by decide))
@[simp] theorem iPow_10_60 : iPow (.int 10) (.int 60) = some (.int 1000000000000000000000000000000000000000000000000000000000000) := (iPow_ok (n := 4) (by decide) (by decide) (by decide) (by decide)).trans (congrArg (fun z => some (D.int z)) (by decide))
theorem iMod_M (x : Int) : iMod (.int x) (.int 2305843009213693951) = some (.int (x % 2305843009213693951)) := iMod_ok (by decide)
theorem iMod_9 (x : Int) : iMod (.int x) (.int 1000000000000000009) = some (.int (x % 1000000000000000009)) := iMod_ok (by decide)
theorem iDiv_128 (x : Int) : iDiv (.int x) (.int 128) = some (.int (x / 128)) := iDiv_ok (by decide)
theorem iMul_1000081 (x : Int) : iMul (.int 1000081) (.int x) = some (.int (1000081 * x)) := iMul_l (by decide)
theorem loop_nx {g : D → Rho → Option Rho} {b : Rho → SO} {d : D} {ds : List D} {r r1 r2 : Rho} (h1 : g d r = some r1) (h2 : b r1 = .nx r2) : loopD g b (d :: ds) r = loopD g b ds r2 := by
  rw [loopD, h1]
  simp only [h2]
theorem loop_rt {g : D → Rho → Option Rho} {b : Rho → SO} {d v : D} {ds : List D} {r r1 r2 : Rho} (h1 : g d r = some r1) (h2 : b r1 = .rt v r2) : loopD g b (d :: ds) r = .rt v r2 := by
  rw [loopD, h1]
  simp only [h2]
theorem runF_rt {nN np : Nat} {f : Rho → SO} {ds : List D} {d : D} {r : Rho} (h : ds.length = np) (e : f (ds.map some ++ List.replicate (nN - np) none) = .rt d r) : runF none nN np f ds = .ok d none := by
  unfold runF
  rw [if_pos h, e]
  rfl
theorem runF_nx {nN np : Nat} {f : Rho → SO} {ds : List D} {r : Rho} (h : ds.length = np) (e : f (ds.map some ++ List.replicate (nN - np) none) = .nx r) : runF none nN np f ds = .ok .non none := by
  unfold runF
  rw [if_pos h, e]
  rfl
theorem runF_io {m nN np : Nat} {f : Rho → SO} {ds : List D} {d d0 : D} {r : Rho} (h : ds.length = np) (e : f (ds.map some ++ List.replicate (nN - np) none) = .rt d r) (h0 : rget r 0 = some d0) : runF (some m) nN np f ds = .ok d (some d0) := by
  unfold runF
  rw [if_pos h, e]
  simp only [fin_some, h0]
end VL

/-! PG: the program's own functions on layers -/
namespace PG
open PySem PySem.Spec VL
noncomputable def d_size_of : Rho → SO := dRet (dIfE (dB (dN pIsi (dCons (dVar 0) (dCons (dTy "tuple") dNil)))) (d2 pIx (dVar 0) (dI 1)) (d2 iAdd (dN pLen (dCons (dVar 0) dNil)) (dI 1)))
noncomputable def r_size_of : List D → DR := runF none 1 1 d_size_of
noncomputable def d_is_layer : Rho → SO := dSeq (dIf (dB (dN pIsi (dCons (dVar 0) (dCons (dTy "tuple") dNil)))) (dRet (dAnd (d2 iGe (d2 pIx (dVar 0) (dI 0)) (dI 0)) (d2 iGe (d2 pIx (dVar 0) (dI 1)) (dI 1)))) dEnd)
  (dRet (dN pAll (dCons (lcD [1] (dItL (dVar 0)) (gSet 1) dTrue (d2 iGe (dVar 1) (dI 0))) dNil)))
noncomputable def r_is_layer : List D → DR := runF none 2 1 d_is_layer
noncomputable def d_check_nesting : Rho → SO := dFor (dIt enumD (dCons (dVar 0) dNil)) (gTup 2 (gCons' (gSet 1) (gCons' (gSet 2) gNil'))) (dIf (dNotB (dB (dFn 1 r_is_layer (dCons (dVar 2) dNil)))) dNo dEnd)
noncomputable def r_check_nesting : List D → DR := runF none 3 1 d_check_nesting
noncomputable def d_total_of : Rho → SO := dSeq (dSet 1 (dI 1))
  (dSeq (dFor (dItL (dVar 0)) (gSet 2) (dAug 1 iMul (dFn 1 r_size_of (dCons (dVar 2) dNil))))
  (dRet (dVar 1)))
noncomputable def r_total_of : List D → DR := runF none 3 1 d_total_of
noncomputable def d_wait_in : Rho → SO := dRet (dIfE (dB (dN pIsi (dCons (dVar 0) (dCons (dTy "tuple") dNil)))) (d2 pIx (dVar 0) (dI 0)) (d2 pIx (dVar 0) (d2 iSub (dVar 1) (dI 1))))
noncomputable def r_wait_in : List D → DR := runF none 2 2 d_wait_in
noncomputable def d_wait_before : Rho → SO := dSeq (dSet 2 (dVar 1))
  (dSeq (dFor (dItL (dVar 0)) (gSet 3) (dSeq (dAsg (gTup 2 (gCons' (gSet 2) (gCons' (gSet 4) gNil'))) (dN pDivmod (dCons (dVar 2) (dCons (dFn 1 r_size_of (dCons (dVar 3) dNil)) dNil))))
  (dIf (dB (d2 iGt (dVar 4) (dI 0))) (dRet (dFn 2 r_wait_in (dCons (dVar 3) (dCons (dVar 4) dNil)))) dEnd)))
  (dRet dNon))
noncomputable def r_wait_before : List D → DR := runF none 5 2 d_wait_before
noncomputable def d_wait_at : Rho → SO := dSeq (dExpr (dFn 1 r_check_nesting (dCons (dVar 0) dNil)))
  (dSeq (dIf (dNotB (dB (chD iLe iLt (dI 1) (dVar 1) (dFn 1 r_total_of (dCons (dVar 0) dNil))))) dNo dEnd)
  (dRet (dFn 2 r_wait_before (dCons (dVar 0) (dCons (dVar 1) dNil)))))
noncomputable def r_wait_at : List D → DR := runF none 2 2 d_wait_at
/-- a layer: a list of waits, or one wait and the number of attempts -/
inductive Ly where
  | lst (ws : List Int) | con (w s : Int)
def Ly.d : Ly → D
  | .lst ws => iL ws
  | .con w s => .tup [.int w, .int s]
def Ly.size : Ly → Int
  | .lst ws => ws.length + 1
  | .con _ s => s
def Ly.Ok : Ly → Prop
  | .lst ws => (∀ w ∈ ws, 0 ≤ w) ∧ ws.length ≤ 100000
  | .con w s => 0 ≤ w ∧ 1 ≤ s ∧ s < 2 ^ 70
def Ly.wait : Ly → Int → Int
  | .lst ws, j => ws.getD (j - 1).toNat 0
  | .con w _, _ => w
theorem Ly.Ok.pos {l : Ly} (h : l.Ok) : 1 ≤ l.size := by
  cases l with
  | lst ws => show (1 : Int) ≤ ws.length + 1; omega
  | con w s => exact h.2.1
theorem Ly.Ok.lt {l : Ly} (h : l.Ok) : l.size < 2 ^ 70 := by
  cases l with
  | lst ws => have h2 : ws.length ≤ 100000 := h.2; show (ws.length : Int) + 1 < _; omega
  | con w s => exact h.2.2
theorem Ly.Ok.div {l : Ly} (h : l.Ok) : divOk l.size = true := by
  have h1 := h.pos
  have h2 := h.lt
  unfold divOk
  rw [decide_eq_true (by omega)]
  have h3 := log2_lt (i := l.size) (n := 70) (by omega) (by omega)
  rw [decide_eq_true (p := l.size.natAbs.log2 < 9000) (by omega)]
  simp
theorem mulOk_log {i j : Int} {n m : Nat} (hi : i.natAbs < 2 ^ n) (hj : j.natAbs < 2 ^ m) (hn : 0 < n) (hm : 0 < m) (h : n + m ≤ 1000000) : mulOk i j = true := by
  have h1 := log2_lt hi hn
  have h2 := log2_lt hj hm
  unfold mulOk
  rw [decide_eq_true (p := i.natAbs.log2 + j.natAbs.log2 < 1000000) (by omega)]
  simp
theorem size_ok (l : Ly) : r_size_of [l.d] = .ok (.int l.size) none := by
  cases l with
  | lst ws => simp [r_size_of, runF, d_size_of, Ly.d, Ly.size]
  | con w s => simp [r_size_of, runF, d_size_of, Ly.d, Ly.size]
theorem layer_ok (l : Ly) (h : l.Ok) : r_is_layer [l.d] = .ok (.bl true) none := by
  cases l with
  | con w s =>
    have h1 : 0 ≤ w := h.1
    have h2 : 1 ≤ s := h.2.1
    simp [r_is_layer, runF, d_is_layer, Ly.d, h1, h2]
  | lst ws =>
    have h1 : ∀ w ∈ ws, 0 ≤ w := h.1
    have hl : ws.length ≤ 100000 := h.2
    obtain ⟨out, r', e, bs, z, rfl, rfl, hb⟩ := comp_inv (vs := [1]) (g := gSet 1) (ts := dTrue) (fe := d2 iGe (dVar 1) (dI 0))
      (fun i acc r => ∃ (bs : List Bool) (z : Option D), acc = bs.map D.bl ∧ r = [some (iL ws), z] ∧ bs.all id = true) (ws.map D.int) 0 [] [some (iL ws), none] ⟨[], none, rfl, rfl, rfl⟩ (by
        rintro i d acc r hd ⟨bs, z, rfl, rfl, hb⟩
        rw [List.getElem?_map] at hd
        cases ew : ws[i]? with
        | none => rw [ew] at hd; cases hd
        | some w =>
          rw [ew] at hd
          cases hd
          have hw : 0 ≤ w := h1 w (List.mem_of_getElem? ew)
          refine ⟨_, rfl, .inr ⟨_, .bl true, [some (iL ws), some (.int w)], rfl, ?_, bs ++ [true], none, by simp, by simp, by simp [hb]⟩⟩
          simp [hw])
    have e2 : pAll [.lst (bs.map D.bl)] = some (.bl true) := by rw [pAll_bl, hb]
    simp only [Ly.d, r_is_layer, runF, d_is_layer, List.length_cons, List.length_nil, List.map_cons, List.map_nil]
    simp [hl, e, e2]
abbrev Ns (ls : List Ly) : D := .lst (ls.map Ly.d)
theorem check_ok (ls : List Ly) (h : ∀ l ∈ ls, l.Ok) : r_check_nesting [Ns ls] = .ok .non none := by
  obtain ⟨r', e, a, b, rfl⟩ := loop_inv (g := gTup 2 (gCons' (gSet 1) (gCons' (gSet 2) gNil'))) (b := dIf (dNotB (dB (dFn 1 r_is_layer (dCons (dVar 2) dNil)))) dNo dEnd)
    (fun i r => ∃ a b : Option D, r = [some (Ns ls), a, b]) (enumL 0 (ls.map Ly.d)) 0 [some (Ns ls), none, none] ⟨_, _, rfl⟩ (by
      rintro i d r hd ⟨a, b, rfl⟩
      obtain ⟨x, hx, rfl⟩ := enumL_get _ _ _ _ hd
      rw [List.getElem?_map] at hx
      cases ew : ls[i]? with
      | none => rw [ew] at hx; cases hx
      | some l =>
        rw [ew] at hx
        cases hx
        have e := layer_ok l (h l (List.mem_of_getElem? ew))
        refine ⟨[some (Ns ls), some (.int ((0 + i : Nat) : Int)), some l.d], [some (Ns ls), some (.int ((0 + i : Nat) : Int)), some l.d], by simp, .inl ?_, _, _, rfl⟩
        simp [e])
  simp only [r_check_nesting, runF, d_check_nesting, List.length_cons, List.length_nil, List.map_cons, List.map_nil]
  simp [e]
def tot : List Ly → Int
  | [] => 1
  | l :: ls => l.size * tot ls
theorem tot_pos : ∀ {ls : List Ly}, (∀ l ∈ ls, l.Ok) → 1 ≤ tot ls
  | [], _ => Int.le_refl _
  | l :: ls, h => by
    have h1 := (h l List.mem_cons_self).pos
    have h2 := tot_pos (ls := ls) fun x hx => h x (List.mem_cons_of_mem _ hx)
    show 1 ≤ l.size * tot ls
    have h3 := Int.mul_le_mul h1 h2 (by omega) (by omega)
    omega
theorem tot_snoc (l : Ly) : ∀ ls : List Ly, tot (ls ++ [l]) = tot ls * l.size
  | [] => by show l.size * 1 = 1 * l.size; rw [Int.mul_one, Int.one_mul]
  | x :: ls => by
    show x.size * tot (ls ++ [l]) = x.size * tot ls * l.size
    rw [tot_snoc l ls, Int.mul_assoc]
theorem tot_app (as bs : List Ly) : tot (as ++ bs) = tot as * tot bs := by
  induction as with
  | nil => show tot bs = 1 * tot bs; rw [Int.one_mul]
  | cons x as ih =>
    show x.size * tot (as ++ bs) = x.size * tot as * tot bs
    rw [ih, Int.mul_assoc]
theorem tot_lt : ∀ {ls : List Ly}, (∀ l ∈ ls, l.Ok) → tot ls < 2 ^ (70 * ls.length + 1)
  | [], _ => by show (1 : Int) < _; decide
  | l :: ls, h => by
    have h0 := h l List.mem_cons_self
    have h1 := h0.pos
    have h2 := h0.lt
    have h3 := tot_lt (ls := ls) fun x hx => h x (List.mem_cons_of_mem _ hx)
    have h4 := tot_pos (ls := ls) fun x hx => h x (List.mem_cons_of_mem _ hx)
    show l.size * tot ls < 2 ^ (70 * (ls.length + 1) + 1)
    rw [show 70 * (ls.length + 1) + 1 = 70 + (70 * ls.length + 1) by omega, Int.pow_add]
    calc l.size * tot ls ≤ 2 ^ 70 * tot ls := Int.mul_le_mul_of_nonneg_right (by omega) (by omega)
      _ < 2 ^ 70 * 2 ^ (70 * ls.length + 1) := Int.mul_lt_mul_of_pos_left h3 (by decide)
theorem tot_abs {ls : List Ly} (h : ∀ l ∈ ls, l.Ok) : (tot ls).natAbs < 2 ^ (70 * ls.length + 1) := by
  have h1 := tot_pos h
  have h2 := tot_lt h
  have e : ((tot ls).natAbs : Int) = tot ls := by omega
  have h3 : ((tot ls).natAbs : Int) < ((2 ^ (70 * ls.length + 1) : Nat) : Int) := by
    rw [e, Int.natCast_pow]
    exact h2
  exact_mod_cast h3
theorem Ly.Ok.abs {l : Ly} (h : l.Ok) : l.size.natAbs < 2 ^ 70 := by
  have h1 := h.pos
  have h2 := h.lt
  omega
theorem total_ok (ls : List Ly) (h : ∀ l ∈ ls, l.Ok) (hl : ls.length ≤ 10000) : r_total_of [Ns ls] = .ok (.int (tot ls)) none := by
  obtain ⟨r', e, a, rfl⟩ := loop_inv (g := gSet 2) (b := dAug 1 iMul (dFn 1 r_size_of (dCons (dVar 2) dNil)))
    (fun i r => ∃ a : Option D, r = [some (Ns ls), some (.int (tot (ls.take i))), a]) (ls.map Ly.d) 0 [some (Ns ls), some (.int 1), none] ⟨_, rfl⟩ (by
      rintro i d r hd ⟨a, rfl⟩
      rw [List.getElem?_map] at hd
      cases ew : ls[i]? with
      | none => rw [ew] at hd; cases hd
      | some l =>
        rw [ew] at hd
        cases hd
        have hi : i < ls.length := (List.getElem?_eq_some_iff.mp ew).1
        have hk := h l (List.mem_of_getElem? ew)
        have e := size_ok l
        have e2 : tot (ls.take (0 + i + 1)) = tot (ls.take i) * l.size := by
          rw [Nat.zero_add, List.take_add_one, ew]
          exact tot_snoc _ _
        have e3 : iMul (.int (tot (ls.take i))) (.int l.size) = some (.int (tot (ls.take i) * l.size)) := by
          have ha := tot_abs (ls := ls.take i) fun x hx => h x (List.mem_of_mem_take hx)
          unfold iMul
          refine if_pos (mulOk_log ha hk.abs (by omega) (by omega) ?_)
          rw [List.length_take, Nat.min_eq_left (by omega)]
          omega
        rw [e2, Nat.zero_add]
        refine ⟨[some (Ns ls), some (.int (tot (ls.take i))), some l.d], _, rfl, .inl ?_, some l.d, rfl⟩
        simp [e, e3])
  rw [List.length_map, Nat.zero_add, List.take_length] at e
  simp only [r_total_of, runF, d_total_of, List.length_cons, List.length_nil, List.map_cons, List.map_nil]
  simp [e]
/-- the wait behind the attempt of that number -/
def wb : List Ly → Int → Option Int
  | [], _ => none
  | l :: ls, n => if 0 < n % l.size then some (l.wait (n % l.size)) else wb ls (n / l.size)
theorem waitin_ok (l : Ly) (h : l.Ok) (j : Int) (h1 : 0 < j) (h2 : j < l.size) : r_wait_in [l.d, .int j] = .ok (.int (l.wait j)) none := by
  cases l with
  | con w s => simp [r_wait_in, runF, d_wait_in, Ly.d, Ly.wait]
  | lst ws =>
    have h3 : j < ws.length + 1 := h2
    have hj : (j - 1).toNat < ws.length := by omega
    have e : pIx (iL ws) (.int (j - 1)) = some (.int (ws.getD (j - 1).toNat 0)) := pIx_int (by omega) (by rw [List.getElem?_map, List.getElem?_eq_getElem hj, List.getD_eq_getElem?_getD, List.getElem?_eq_getElem hj]; rfl)
    simp [r_wait_in, runF, d_wait_in, Ly.d, Ly.wait, e]
noncomputable abbrev wbBody : Rho → SO := dSeq (dAsg (gTup 2 (gCons' (gSet 2) (gCons' (gSet 4) gNil'))) (dN pDivmod (dCons (dVar 2) (dCons (dFn 1 r_size_of (dCons (dVar 3) dNil)) dNil))))
  (dIf (dB (d2 iGt (dVar 4) (dI 0))) (dRet (dFn 2 r_wait_in (dCons (dVar 3) (dCons (dVar 4) dNil)))) dEnd)
theorem wb_loop : ∀ (ls : List Ly) (n : Int) (a b : D) (x y : Option D), (∀ l ∈ ls, l.Ok) → ∃ r', loopD (gSet 3) wbBody (ls.map Ly.d) [some a, some b, some (.int n), x, y] = match wb ls n with | some w => .rt (.int w) r' | none => .nx r'
  | [], n, a, b, x, y, _ => ⟨_, rfl⟩
  | l :: ls, n, a, b, x, y, h => by
    have hk := h l List.mem_cons_self
    have hp := hk.pos
    have e1 := size_ok l
    have e2 : pDivmod [.int n, .int l.size] = some (.tup [.int (n / l.size), .int (n % l.size)]) := if_pos hk.div
    have m1 := Int.emod_nonneg n (b := l.size) (by omega)
    have m2 := Int.emod_lt_of_pos n (b := l.size) (by omega)
    by_cases hm : 0 < n % l.size
    · have e3 := waitin_ok l hk _ hm m2
      have ew : wb (l :: ls) n = some (l.wait (n % l.size)) := if_pos hm
      refine ⟨[some a, some b, some (.int (n / l.size)), some l.d, some (.int (n % l.size))], ?_⟩
      rw [ew]
      have eb : wbBody [some a, some b, some (.int n), some l.d, y] = .rt (.int (l.wait (n % l.size))) [some a, some b, some (.int (n / l.size)), some l.d, some (.int (n % l.size))] := by
        simp [e1, e2, hm, e3]
      exact loop_rt rfl eb
    · have ew : wb (l :: ls) n = wb ls (n / l.size) := if_neg hm
      obtain ⟨r', e⟩ := wb_loop ls (n / l.size) a b (some l.d) (some (.int (n % l.size))) fun x hx => h x (List.mem_cons_of_mem _ hx)
      refine ⟨r', ?_⟩
      rw [ew, ← e]
      have eb : wbBody [some a, some b, some (.int n), some l.d, y] = .nx [some a, some b, some (.int (n / l.size)), some l.d, some (.int (n % l.size))] := by
        simp [e1, e2, hm]
      exact loop_nx rfl eb
theorem waitat_ok (ls : List Ly) (h : ∀ l ∈ ls, l.Ok) (hl : ls.length ≤ 10000) (n w : Int) (h1 : 1 ≤ n) (h2 : n < tot ls) (hw : wb ls n = some w) : r_wait_at [Ns ls, .int n] = .ok (.int w) none := by
  have e1 := check_ok ls h
  have e2 := total_ok ls h hl
  have e3 : r_wait_before [Ns ls, .int n] = .ok (.int w) none := by
    obtain ⟨r', e⟩ := wb_loop ls n (Ns ls) (.int n) none none h
    rw [hw] at e
    refine runF_rt rfl (r := r') ?_
    show d_wait_before [some (Ns ls), some (.int n), none, none, none] = _
    rw [show d_wait_before = dSeq (dSet 2 (dVar 1)) (dSeq (dFor (dItL (dVar 0)) (gSet 3) wbBody) (dRet dNon)) from rfl]
    simp only [ap_dSeq, ap_dSet, ap_dVar, rget0, rgetS, lift_some, R.then_ok, List.set_cons_succ, List.set_cons_zero, ap_dFor, ap_dItL, itemsL_lst, R.bind_ok, e]
  simp [r_wait_at, runF, d_wait_at, e1, e2, e3, chD, h1, h2]
end PG

/-! FC: the draws of the pool family -/
namespace FC
open PySem PySem.Spec VL PG
noncomputable def d__law_pool : Rho → SO := dSeq (dSet 2 (dI 0))
  (dSeq (dIf (dB (d2 iLt (dVar 1) (dN pLen (dCons (dVar 0) dNil)))) (dSet 2 (d2 pIx (dVar 0) (dVar 1))) dEnd)
  (dRet (dLst (dCons (dN pMax2 (dCons (dI 0) (dCons (d2 iSub (dN pAbs (dCons (dVar 2) dNil)) (d2 iPow (dI 10) (dI 18))) dNil))) (dCons (d2 iAdd (d2 iMod (dVar 2) (dI 2305843009213693951)) (d2 iMul (dI 5800079) (d2 iAdd (dVar 1) (dI 1)))) (dCons (dI 0) dNil))))))
noncomputable def r__law_pool : List D → DR := runF none 3 2 d__law_pool
noncomputable def d__law_draw : Rho → SO := dSeq (dIf (dBorB (dB (d2 iGt (d2 pIx (dVar 0) (dI 0)) (dI 0)))) (dSeq (dSet 3 (dBor 0 (d2 iMod (d2 pIx (dVar 0) (dI 0)) (dVar 1))))
  (dSeq (dSetIx 0 (dBor 0 (d2 iDiv (d2 pIx (dVar 0) (dI 0)) (dVar 1))) (dI 0))
  (dRet (dVar 3)))) dEnd)
  (dSeq (dSetIx 0 (dBor 0 (d2 iAdd (d2 pIx (dVar 0) (dI 2)) (dI 1))) (dI 2))
  (dSeq (dSet 2 (dBor 0 (d2 iMod (d2 iPow (d2 iAdd (d2 pIx (dVar 0) (dI 1)) (d2 iMul (dI 67867979) (d2 pIx (dVar 0) (dI 2)))) (dI 3)) (dI 162259276829213363391578010288127))))
  (dSeq (dSet 2 (dBor 0 (d2 iMod (d2 iPow (d2 iAdd (dVar 2) (d2 iMul (dI 141650939) (d2 pIx (dVar 0) (dI 2)))) (dI 5)) (dI 170141183460469231731687303715884105727))))
  (dRet (d2 iMod (d2 iDiv (dVar 2) (dI 1048576)) (dVar 1))))))
noncomputable def r__law_draw : List D → DR := runF (some 1) 4 2 d__law_draw
noncomputable def d__law_size : Rho → SO := dRet (dIfE (dB (dN pIsi (dCons (dVar 0) (dCons (dTy "tuple") dNil)))) (d2 pIx (dVar 0) (dI 1)) (d2 iAdd (dN pLen (dCons (dVar 0) dNil)) (dI 1)))
noncomputable def r__law_size : List D → DR := runF none 1 1 d__law_size
noncomputable def d__law_wait : Rho → SO := dRet (d2 pIx (dLst (dCons (dI 0) (dCons (dI 1) (dCons (dI 2) (dCons (dI 5) (dCons (dCallIo 0 2 r__law_draw (dCons (dI 10) dNil)) (dCons (dCallIo 0 2 r__law_draw (dCons (dI 1000) dNil)) (dCons (dCallIo 0 2 r__law_draw (dCons (d2 iPow (dI 10) (dI 12)) dNil)) dNil)))))))) (dCallIo 0 2 r__law_draw (dCons (dI 7) dNil)))
noncomputable def r__law_wait : List D → DR := runF (some 1) 1 1 d__law_wait
noncomputable def d__law_tier : Rho → SO := dSeq (dIf (dB (d2 qEq (dCallIo 0 2 r__law_draw (dCons (dI 2) dNil)) (dI 0))) (dRet (dTup (dCons (dCallIo 0 1 r__law_wait dNil) (dCons (d2 iAdd (dI 1) (dCallIo 0 2 r__law_draw (dCons (dVar 1) dNil))) dNil)))) dEnd)
  (dSeq (dSet 2 (lcD [3] (dIt rng1 (dCons (d2 iAdd (dI 1) (dCallIo 0 2 r__law_draw (dCons (dI 4) dNil))) dNil)) (gSet 3) dTrue (dCallIo 0 1 r__law_wait dNil)))
  (dRet (lcD [3] (dIt rng1 (dCons (dCallIo 0 2 r__law_draw (dCons (dN pMin2 (dCons (dI 60) (dCons (dVar 1) dNil))) dNil)) dNil)) (gSet 3) dTrue (d2 pIx (dVar 2) (dCallIo 0 2 r__law_draw (dCons (dN pLen (dCons (dVar 2) dNil)) dNil))))))
noncomputable def r__law_tier : List D → DR := runF (some 1) 4 2 d__law_tier
noncomputable def d__law_large : Rho → SO := dSeq (dSet 1 (dLst dNil))
  (dSeq (dFor (dIt rng1 (dCons (d2 iAdd (dI 1) (dCallIo 0 2 r__law_draw (dCons (dI 8) dNil))) dNil)) (gSet 2) (dExpr (dMut 1 hAppend (dCons (dCallIo 0 2 r__law_tier (dCons (d2 pIx (dLst (dCons (dI 3) (dCons (dI 61) (dCons (d2 iSub (d2 iPow (dI 10) (dI 20)) (dI 1)) dNil)))) (dCallIo 0 2 r__law_draw (dCons (dI 3) dNil))) dNil)) dNil))))
  (dRet (dVar 1)))
noncomputable def r__law_large : List D → DR := runF (some 1) 3 1 d__law_large
noncomputable def d__law_small : Rho → SO := dSeq (dPar 3 4 (dCons (dLst dNil) (dCons (dI 1) dNil)))
  (dSeq (dFor (dIt rng1 (dCons (dCallIo 0 2 r__law_draw (dCons (dI 6) dNil)) dNil)) (gSet 2) (dSeq (dSet 5 (dCallIo 0 2 r__law_tier (dCons (d2 pIx (dLst (dCons (dI 3) (dCons (dI 6) (dCons (dI 20) dNil)))) (dCallIo 0 2 r__law_draw (dCons (dI 3) dNil))) dNil)))
  (dIf (dB (d2 iLe (d2 iMul (dVar 4) (dFn 1 r__law_size (dCons (dVar 5) dNil))) (dVar 1))) (dSeq (dExpr (dMut 3 hAppend (dCons (dVar 5) dNil)))
  (dSet 4 (d2 iMul (dVar 4) (dFn 1 r__law_size (dCons (dVar 5) dNil))))) dEnd)))
  (dRet (dVar 3)))
noncomputable def r__law_small : List D → DR := runF (some 1) 6 2 d__law_small
/-- the pool: at most n draws have been counted -/
def Pool (n : Nat) (s : D) : Prop := ∃ (a b : Int) (c : Nat), s = .lst [.int a, .int b, .int c] ∧ 0 ≤ b ∧ b < 2 ^ 62 ∧ c ≤ n
theorem Pool.mono {n m : Nat} {s : D} (h : Pool n s) (hm : n ≤ m) : Pool m s := by
  obtain ⟨a, b, c, e, h1, h2, h3⟩ := h
  exact ⟨a, b, c, e, h1, h2, by omega⟩
theorem mulA (x : Int) : iMul (.int 67867979) (.int x) = some (.int (67867979 * x)) := iMul_l (by decide)
theorem mulB (x : Int) : iMul (.int 141650939) (.int x) = some (.int (141650939 * x)) := iMul_l (by decide)
theorem modA (x : Int) : iMod (.int x) (.int 162259276829213363391578010288127) = some (.int (x % 162259276829213363391578010288127)) := iMod_ok (by decide)
theorem modB (x : Int) : iMod (.int x) (.int 170141183460469231731687303715884105727) = some (.int (x % 170141183460469231731687303715884105727)) := iMod_ok (by decide)
theorem divA (x : Int) : iDiv (.int x) (.int 1048576) = some (.int (x / 1048576)) := iDiv_ok (by decide)
theorem powA (x : Int) (h0 : 0 ≤ x) (h : x < 2 ^ 64) : iPow (.int x) (.int 3) = some (.int (x ^ 3)) := iPow_ok (n := 64) (by omega) (by omega) (by omega) (by omega)
theorem powB (x : Int) (h0 : 0 ≤ x) (h : x < 2 ^ 110) : iPow (.int x) (.int 5) = some (.int (x ^ 5)) := iPow_ok (n := 110) (by omega) (by omega) (by omega) (by omega)
theorem draw_ok {n : Nat} {s : D} (hs : Pool n s) {many : Int} (h0 : 0 < many) (hd : divOk many = true) (hn : n ≤ 1000000000) : ∃ v s', r__law_draw [s, .int many] = .ok (.int v) (some s') ∧ 0 ≤ v ∧ v < many ∧ Pool (n + 1) s' := by
  obtain ⟨a, b, c, rfl, hb0, hb1, hc⟩ := hs
  have e0 : L2.ixN 3 0 = some 0 := by decide
  have e2 : L2.ixN 3 2 = some 2 := by decide
  by_cases ha : 0 < a
  · refine ⟨a % many, .lst [.int (a / many), .int b, .int c], ?_, Int.emod_nonneg _ (by omega), Int.emod_lt_of_pos _ h0, _, b, c, rfl, hb0, hb1, by omega⟩
    have q : d__law_draw [some (.lst [.int a, .int b, .int c]), some (.int many), none, none] = .rt (.int (a % many)) [some (.lst [.int (a / many), .int b, .int c]), some (.int many), none, some (.int (a % many))] := by
      simp [d__law_draw, ha, iMod_ok h0, iDiv_ok hd, e0]
    exact runF_io rfl q rfl
  · have m1 := Int.emod_nonneg ((b + 67867979 * ((c : Int) + 1)) ^ 3) (b := 162259276829213363391578010288127) (by decide)
    have m2 := Int.emod_lt_of_pos ((b + 67867979 * ((c : Int) + 1)) ^ 3) (b := 162259276829213363391578010288127) (by decide)
    have p1 := powA (b + 67867979 * ((c : Int) + 1)) (by omega) (by omega)
    have p2 := powB ((b + 67867979 * ((c : Int) + 1)) ^ 3 % 162259276829213363391578010288127 + 141650939 * ((c : Int) + 1)) (by omega) (by omega)
    refine ⟨((b + 67867979 * ((c : Int) + 1)) ^ 3 % 162259276829213363391578010288127 + 141650939 * ((c : Int) + 1)) ^ 5 % 170141183460469231731687303715884105727 / 1048576 % many, .lst [.int a, .int b, .int ((c + 1 : Nat) : Int)], ?_, Int.emod_nonneg _ (by omega), Int.emod_lt_of_pos _ h0, _, b, c + 1, rfl, hb0, hb1, by omega⟩
    have q : ∃ r, d__law_draw [some (.lst [.int a, .int b, .int c]), some (.int many), none, none] = .rt (.int (((b + 67867979 * ((c : Int) + 1)) ^ 3 % 162259276829213363391578010288127 + 141650939 * ((c : Int) + 1)) ^ 5 % 170141183460469231731687303715884105727 / 1048576 % many)) (some (.lst [.int a, .int b, .int ((c : Int) + 1)]) :: r) := by
      refine ⟨[some (.int many), some (.int (((b + 67867979 * ((c : Int) + 1)) ^ 3 % 162259276829213363391578010288127 + 141650939 * ((c : Int) + 1)) ^ 5 % 170141183460469231731687303715884105727)), none], ?_⟩
      simp [d__law_draw, ha, e2, mulA, mulB, modA, modB, divA, p1, p2, iMod_ok h0]
    obtain ⟨r, q⟩ := q
    rw [Int.natCast_add]
    exact runF_io rfl q rfl
theorem pool_ok (ns : List Int) (at' : Nat) (ha : at' ≤ 1000) : ∃ s, r__law_pool [.scr ns, .int at'] = .ok s none ∧ Pool 0 s := by
  have key : ∀ cell : Int, ∃ s, (dLst (dCons (dN pMax2 (dCons (dI 0) (dCons (d2 iSub (dN pAbs (dCons (dVar 2) dNil)) (d2 iPow (dI 10) (dI 18))) dNil))) (dCons (d2 iAdd (d2 iMod (dVar 2) (dI 2305843009213693951)) (d2 iMul (dI 5800079) (d2 iAdd (dVar 1) (dI 1)))) (dCons (dI 0) dNil)))) [some (.scr ns), some (.int at'), some (.int cell)] = .ok s [some (.scr ns), some (.int at'), some (.int cell)] ∧ Pool 0 s := fun cell => by
    have m1 := Int.emod_nonneg cell (b := 2305843009213693951) (by decide)
    have m2 := Int.emod_lt_of_pos cell (b := 2305843009213693951) (by decide)
    have p1 : iMul (.int 5800079) (.int ((at' : Int) + 1)) = some (.int (5800079 * ((at' : Int) + 1))) := iMul_l (by decide)
    refine ⟨.lst [.int (if (if cell < 0 then -cell else cell) - 1000000000000000000 > 0 then (if cell < 0 then -cell else cell) - 1000000000000000000 else 0), .int (cell % 2305843009213693951 + 5800079 * ((at' : Int) + 1)), .int 0], ?_, _, _, 0, rfl, by omega, by omega, Nat.le_refl _⟩
    simp only [ap_dLst, ap_dCons, ap_dN, ap_dI, ap_d2, ap_dVar, ap_dNil, rget0, rgetS, lift_some, R.bind_ok, pAbs_i, iPow_10_18, iSub_ii, pMax2_ii, iMod_M, iAdd_ii, p1]
    rfl
  by_cases h : (at' : Int) < ns.length
  · have hi : at' < ns.length := by omega
    obtain ⟨s, e, hp⟩ := key ns[at']
    refine ⟨s, ?_, hp⟩
    have ex : pIx (.scr ns) (.int at') = some (.int ns[at']) := by
      show ((L2.ixN ns.length (at' : Int)).bind fun j => (ns[j]?).map D.int) = _
      unfold L2.ixN
      rw [if_pos (by omega), if_pos (by omega)]
      simp [hi]
    refine runF_rt rfl (r := [some (.scr ns), some (.int at'), some (.int ns[at'])]) ?_
    show d__law_pool [some (.scr ns), some (.int at'), none] = _
    simp only [d__law_pool, ap_dSeq, ap_dSet, ap_dI, R.then_ok, List.set_cons_succ, List.set_cons_zero, ap_dIf, ap_dB, ap_d2, ap_dVar, rget0, rgetS, lift_some, R.bind_ok, ap_dN, ap_dCons, ap_dNil, pLen_scr, iLt_ii, asB_bl, decide_eq_true h, if_true, ex]
    rw [ap_dRet]
    rw [e]
    rfl
  · obtain ⟨s, e, hp⟩ := key 0
    refine ⟨s, ?_, hp⟩
    refine runF_rt rfl (r := [some (.scr ns), some (.int at'), some (.int 0)]) ?_
    show d__law_pool [some (.scr ns), some (.int at'), none] = _
    simp only [d__law_pool, ap_dSeq, ap_dSet, ap_dI, R.then_ok, List.set_cons_succ, List.set_cons_zero, ap_dIf, ap_dB, ap_d2, ap_dVar, rget0, rgetS, lift_some, R.bind_ok, ap_dN, ap_dCons, ap_dNil, pLen_scr, iLt_ii, asB_bl, decide_eq_false h, Bool.false_eq_true, if_false, ap_dEnd]
    rw [ap_dRet]
    rw [e]
    rfl
theorem lsize_ok (l : Ly) : r__law_size [l.d] = .ok (.int l.size) none := size_ok l
theorem wait_ok {n : Nat} {s : D} (hs : Pool n s) (hn : n ≤ 900000000) : ∃ v s', r__law_wait [s] = .ok (.int v) (some s') ∧ 0 ≤ v ∧ v < 2 ^ 40 ∧ Pool (n + 4) s' := by
  obtain ⟨v1, s1, e1, a1, b1, hs1⟩ := draw_ok hs (many := 10) (by decide) (by decide) (by omega)
  obtain ⟨v2, s2, e2, a2, b2, hs2⟩ := draw_ok hs1 (many := 1000) (by decide) (by decide) (by omega)
  obtain ⟨v3, s3, e3, a3, b3, hs3⟩ := draw_ok hs2 (many := 1000000000000) (by decide) (by decide) (by omega)
  obtain ⟨v4, s4, e4, a4, b4, hs4⟩ := draw_ok hs3 (many := 7) (by decide) (by decide) (by omega)
  have hx : ∃ w, pIx (.lst [.int 0, .int 1, .int 2, .int 5, .int v1, .int v2, .int v3]) (.int v4) = some (.int w) ∧ 0 ≤ w ∧ w < 2 ^ 40 := by
    have : v4 = 0 ∨ v4 = 1 ∨ v4 = 2 ∨ v4 = 3 ∨ v4 = 4 ∨ v4 = 5 ∨ v4 = 6 := by omega
    rcases this with h | h | h | h | h | h | h <;> subst h
    · exact ⟨0, rfl, by decide, by decide⟩
    · exact ⟨1, rfl, by decide, by decide⟩
    · exact ⟨2, rfl, by decide, by decide⟩
    · exact ⟨5, rfl, by decide, by decide⟩
    · exact ⟨v1, rfl, a1, by omega⟩
    · exact ⟨v2, rfl, a2, by omega⟩
    · exact ⟨v3, rfl, a3, by omega⟩
  obtain ⟨w, hw, h0, h1⟩ := hx
  refine ⟨w, s4, ?_, h0, h1, hs4⟩
  simp only [r__law_wait, runF, d__law_wait, List.length_cons, List.length_nil, List.map_cons, List.map_nil]
  simp [e1, e2, e3, e4, hw, lstD]
def W : Ly → Prop
  | .lst ws => (∀ w ∈ ws, w < 2 ^ 40) ∧ ws.length < 60
  | .con w _ => w < 2 ^ 40
theorem rng1_ok {j : Int} (h0 : 0 ≤ j) (h : j < 1000000) : rng1 [.int j] = some (rngD 0 j.toNat) := by
  unfold rng1
  exact if_pos (by omega)
theorem rngD_at {lo : Int} {n i : Nat} {d : D} (h : (rngD lo n)[i]? = some d) : d = .int (lo + (i : Nat)) ∧ i < n := by
  refine ⟨rngD_get h, ?_⟩
  have := (List.getElem?_eq_some_iff.mp h).1
  rwa [rngD_len] at this
theorem all_snoc {p : Int → Prop} {ws : List Int} {w : Int} (h : ∀ x ∈ ws, p x) (hw : p w) : ∀ x ∈ ws ++ [w], p x := fun x hx => by
  rcases List.mem_append.mp hx with h1 | h1
  · exact h x h1
  · rw [List.mem_singleton.mp h1]; exact hw
theorem tier_ok {n : Nat} {s : D} (hs : Pool n s) {most : Int} (hm1 : 1 ≤ most) (hm2 : most < 2 ^ 69) (hmd : divOk most = true) (hn : n ≤ 800000000) :
    ∃ l s', r__law_tier [s, .int most] = .ok l.d (some s') ∧ l.Ok ∧ l.size ≤ most ∧ W l ∧ Pool (n + 100) s' := by
  obtain ⟨v0, s0, e0, a0, b0, hs0⟩ := draw_ok hs (many := 2) (by decide) (by decide) (by omega)
  by_cases hv : v0 = 0
  · subst hv
    obtain ⟨w, s1, e1, a1, b1, hs1⟩ := wait_ok hs0 (by omega)
    obtain ⟨v2, s2, e2, a2, b2, hs2⟩ := draw_ok hs1 (many := most) (by omega) hmd (by omega)
    refine ⟨.con w (1 + v2), s2, ?_, ⟨a1, by omega, by omega⟩, by show 1 + v2 ≤ most; omega, b1, hs2.mono (by omega)⟩
    have q : d__law_tier [some s, some (.int most), none, none] = .rt (.tup [.int w, .int (1 + v2)]) [some s2, some (.int most), none, none] := by
      simp [d__law_tier, e0, qEq_int, e1, e2, tupD]
    exact runF_io rfl q rfl
  · obtain ⟨v1, s1, e1, a1, b1, hs1⟩ := draw_ok hs0 (many := 4) (by decide) (by decide) (by omega)
    obtain ⟨out, r', ec, ks, s2, rfl, rfl, hk, hkw, hkl, hs2⟩ := comp_inv (vs := [3]) (g := gSet 3) (ts := dTrue) (fe := dCallIo 0 1 r__law_wait dNil)
      (fun i acc r => ∃ (ks : List Int) (s2 : D), acc = ks.map D.int ∧ r = [some s2, some (.int most), none, none] ∧ (∀ w ∈ ks, 0 ≤ w) ∧ (∀ w ∈ ks, w < 2 ^ 40) ∧ ks.length = i ∧ Pool (n + 2 + 4 * i) s2) (rngD 0 (1 + v1).toNat) 0 [] [some s1, some (.int most), none, none]
      ⟨[], s1, rfl, rfl, fun w h => (nomatch h), fun w h => (nomatch h), rfl, hs1⟩ (by
        rintro i d acc r hd ⟨ks, s2, rfl, rfl, hk, hkw, hkl, hs2⟩
        obtain ⟨rfl, hi⟩ := rngD_at hd
        obtain ⟨v, s3, e, h0, h1, hs3⟩ := wait_ok hs2 (by omega)
        refine ⟨_, rfl, .inr ⟨_, .int v, [some s3, some (.int most), none, some (.int (0 + (i : Nat)))], rfl, ?_, ks ++ [v], s3, by simp, by simp, all_snoc hk h0, all_snoc hkw h1, by simp; omega, hs3.mono (by omega)⟩⟩
        simp [e])
    rw [rngD_len] at hkl hs2
    have hk1 : 0 < ks.length := by omega
    have hmm : (0 : Int) < (if most < 60 then most else 60) ∧ (if most < 60 then most else 60) ≤ 60 ∧ (if most < 60 then most else 60) ≤ most := by
      by_cases h : most < 60
      · rw [if_pos h]; omega
      · rw [if_neg h]; omega
    obtain ⟨v2, s3, e3, a3, b3, hs3⟩ := draw_ok hs2 (many := (if most < 60 then most else 60)) hmm.1 (divOk_s hmm.1 (by have := hmm.2.1; omega)) (by omega)
    obtain ⟨out2, r2, ec2, ws, s4, rfl, rfl, hw, hww, hwl, hs4⟩ := comp_inv (vs := [3]) (g := gSet 3) (ts := dTrue) (fe := d2 pIx (dVar 2) (dCallIo 0 2 r__law_draw (dCons (dN pLen (dCons (dVar 2) dNil)) dNil)))
      (fun i acc r => ∃ (ws : List Int) (s2 : D), acc = ws.map D.int ∧ r = [some s2, some (.int most), some (iL ks), none] ∧ (∀ w ∈ ws, 0 ≤ w) ∧ (∀ w ∈ ws, w < 2 ^ 40) ∧ ws.length = i ∧ Pool (n + 20 + i) s2) (rngD 0 v2.toNat) 0 [] [some s3, some (.int most), some (iL ks), none]
      ⟨[], s3, rfl, rfl, fun w h => (nomatch h), fun w h => (nomatch h), rfl, hs3.mono (by omega)⟩ (by
        rintro i d acc r hd ⟨ws, s4, rfl, rfl, hw, hww, hwl, hs4⟩
        obtain ⟨rfl, hi⟩ := rngD_at hd
        obtain ⟨v6, s6, e6, a6, b6, hs6⟩ := draw_ok hs4 (many := (ks.length : Int)) (by omega) (divOk_s (by omega) (by omega)) (by omega)
        have hx : v6.toNat < ks.length := by omega
        have ex : pIx (iL ks) (.int v6) = some (.int ks[v6.toNat]) := pIx_int a6 (by rw [List.getElem?_map, List.getElem?_eq_getElem hx]; rfl)
        refine ⟨_, rfl, .inr ⟨_, .int ks[v6.toNat], [some s6, some (.int most), some (iL ks), some (.int (0 + (i : Nat)))], rfl, ?_, ws ++ [ks[v6.toNat]], s6, by simp, by simp, all_snoc hw (hk _ (List.getElem_mem hx)), all_snoc hww (hkw _ (List.getElem_mem hx)), by simp; omega, hs6.mono (by omega)⟩⟩
        simp [e6, ex])
    rw [rngD_len] at hwl hs4
    have hm3 := hmm.2.1
    have hm4 := hmm.2.2
    refine ⟨.lst ws, s4, ?_, ⟨hw, by omega⟩, by show (ws.length : Int) + 1 ≤ most; omega, ⟨hww, by omega⟩, hs4.mono (by omega)⟩
    have r1 : rng1 [.int (1 + v1)] = some (rngD 0 (1 + v1).toNat) := rng1_ok (by omega) (by omega)
    have r2 : rng1 [.int v2] = some (rngD 0 v2.toNat) := rng1_ok (by omega) (by omega)
    have l1 : (rngD 0 (1 + v1).toNat).length ≤ 100000 := by rw [rngD_len]; omega
    have l2 : (rngD 0 v2.toNat).length ≤ 100000 := by rw [rngD_len]; omega
    have q : d__law_tier [some s, some (.int most), none, none] = .rt (iL ws) [some s4, some (.int most), some (iL ks), none] := by
      simp [d__law_tier, e0, qEq_int, hv, e1, r1, l1, ec, e3, r2, l2, ec2]
    exact runF_io rfl q rfl
theorem large_ok {n : Nat} {s : D} (hs : Pool n s) (hn : n ≤ 700000000) : ∃ (ls : List Ly) (s' : D), r__law_large [s] = .ok (Ns ls) (some s') ∧ (∀ l ∈ ls, l.Ok) ∧ (∀ l ∈ ls, W l) ∧ 1 ≤ ls.length ∧ ls.length ≤ 8 ∧ Pool (n + 1000) s' := by
  obtain ⟨v0, s0, e0, a0, b0, hs0⟩ := draw_ok hs (many := 8) (by decide) (by decide) (by omega)
  obtain ⟨r', e, ls, s1, z, rfl, ho, hw, hl, hs1⟩ := loop_inv (g := gSet 2) (b := dExpr (dMut 1 hAppend (dCons (dCallIo 0 2 r__law_tier (dCons (d2 pIx (dLst (dCons (dI 3) (dCons (dI 61) (dCons (d2 iSub (d2 iPow (dI 10) (dI 20)) (dI 1)) dNil)))) (dCallIo 0 2 r__law_draw (dCons (dI 3) dNil))) dNil)) dNil)))
    (fun i r => ∃ (ls : List Ly) (s1 : D) (z : Option D), r = [some s1, some (Ns ls), z] ∧ (∀ l ∈ ls, l.Ok) ∧ (∀ l ∈ ls, W l) ∧ ls.length = i ∧ Pool (n + 1 + 101 * i) s1) (rngD 0 (1 + v0).toNat) 0 [some s0, some (.lst []), none]
    ⟨[], s0, none, rfl, fun l h => (nomatch h), fun l h => (nomatch h), rfl, hs0⟩ (by
      rintro i d r hd ⟨ls, s1, z, rfl, ho, hw, hl, hs1⟩
      obtain ⟨rfl, hi⟩ := rngD_at hd
      obtain ⟨v1, s2, e1, a1, b1, hs2⟩ := draw_ok hs1 (many := 3) (by decide) (by decide) (by omega)
      have hx : ∃ m, pIx (.lst [.int 3, .int 61, .int 99999999999999999999]) (.int v1) = some (.int m) ∧ 1 ≤ m ∧ m < 2 ^ 69 ∧ divOk m = true := by
        have : v1 = 0 ∨ v1 = 1 ∨ v1 = 2 := by omega
        rcases this with h | h | h <;> subst h
        · exact ⟨3, rfl, by decide, by decide, by decide⟩
        · exact ⟨61, rfl, by decide, by decide, by decide⟩
        · exact ⟨99999999999999999999, rfl, by decide, by decide, by decide +kernel⟩
      obtain ⟨m, hm, m1, m2, m3⟩ := hx
      obtain ⟨l, s3, e3, ok, _, hwl, hs3⟩ := tier_ok hs2 m1 m2 m3 (by omega)
      have happ : hAppend (ls.map Ly.d) [l.d] = some (.non, (ls ++ [l]).map Ly.d) := by
        rw [hAppend_ok (by rw [List.length_map]; omega), List.map_append]; rfl
      refine ⟨_, [some s3, some (Ns (ls ++ [l])), some (.int (0 + (i : Nat)))], rfl, .inl ?_, ls ++ [l], s3, _, rfl, ?_, ?_, by simp; omega, hs3.mono (by omega)⟩
      · simp [e1, lstD, hm, e3, happ]
      · intro x hx
        rcases List.mem_append.mp hx with h1 | h1
        · exact ho x h1
        · rw [List.mem_singleton.mp h1]; exact ok
      · intro x hx
        rcases List.mem_append.mp hx with h1 | h1
        · exact hw x h1
        · rw [List.mem_singleton.mp h1]; exact hwl)
  rw [rngD_len] at hl hs1
  refine ⟨ls, s1, ?_, ho, hw, by omega, by omega, hs1.mono (by omega)⟩
  have r1 : rng1 [.int (1 + v0)] = some (rngD 0 (1 + v0).toNat) := rng1_ok (by omega) (by omega)
  have q : d__law_large [some s, none, none] = .rt (Ns ls) [some s1, some (Ns ls), z] := by
    simp [d__law_large, e0, r1, e]
  exact runF_io rfl q rfl
end FC

/-! FT: times -/
namespace FT
open PySem PySem.Spec VL PG
open FC (r__law_size r__law_draw)
noncomputable def d_time_in : Rho → SO := dRet (dIfE (dB (dN pIsi (dCons (dVar 0) (dCons (dTy "tuple") dNil)))) (d2 iMul (d2 pIx (dVar 0) (dI 0)) (dVar 1)) (dN pSum (dCons (dSl (dVar 0) dONone (dOSome (dVar 1))) dNil)))
noncomputable def r_time_in : List D → DR := runF none 2 2 d_time_in
noncomputable def d_time_at : Rho → SO := dSeq (dSet 2 (dI 0))
  (dSeq (dSet 3 (dVar 1))
  (dSeq (dFor (dItL (dVar 0)) (gSet 4) (dSeq (dSet 5 (dFn 1 r_size_of (dCons (dVar 4) dNil)))
  (dSeq (dAsg (gTup 2 (gCons' (gSet 3) (gCons' (gSet 6) gNil'))) (dN pDivmod (dCons (dVar 3) (dCons (dVar 5) dNil))))
  (dAug 2 iAdd (d2 iAdd (d2 iMul (dVar 3) (dFn 2 r_time_in (dCons (dVar 4) (dCons (d2 iSub (dVar 5) (dI 1)) dNil)))) (dFn 2 r_time_in (dCons (dVar 4) (dCons (dVar 6) dNil))))))))
  (dRet (dVar 2))))
noncomputable def r_time_at : List D → DR := runF none 7 2 d_time_at
noncomputable def d_time_of : Rho → SO := dSeq (dExpr (dFn 1 r_check_nesting (dCons (dVar 0) dNil)))
  (dSeq (dIf (dNotB (dB (chD iLe iLt (dI 0) (dVar 1) (dFn 1 r_total_of (dCons (dVar 0) dNil))))) dNo dEnd)
  (dRet (dFn 2 r_time_at (dCons (dVar 0) (dCons (dVar 1) dNil)))))
noncomputable def r_time_of : List D → DR := runF none 2 2 d_time_of
noncomputable def d__law_sum_in : Rho → SO := dRet (dIfE (dB (dN pIsi (dCons (dVar 0) (dCons (dTy "tuple") dNil)))) (d2 iMul (d2 pIx (dVar 0) (dI 0)) (dVar 1)) (dN pSum (dCons (dSl (dVar 0) dONone (dOSome (dVar 1))) dNil)))
noncomputable def r__law_sum_in : List D → DR := runF none 2 2 d__law_sum_in
noncomputable def d__law_number : Rho → SO := dSeq (dAsg (gTup 2 (gCons' (gSet 2) (gCons' (gSet 3) gNil'))) (dTup (dCons (dI 0) (dCons (dI 1) dNil))))
  (dSeq (dFor (dIt zipD (dCons (dVar 0) (dCons (dVar 1) dNil))) (gTup 2 (gCons' (gSet 4) (gCons' (gSet 5) gNil'))) (dSeq (dSet 2 (d2 iAdd (dVar 2) (d2 iMul (dVar 5) (dVar 3))))
  (dSet 3 (d2 iMul (dVar 3) (dFn 1 r__law_size (dCons (dVar 4) dNil))))))
  (dRet (dVar 2)))
noncomputable def r__law_number : List D → DR := runF none 6 2 d__law_number
noncomputable def d__law_time : Rho → SO := dSeq (dAsg (gTup 2 (gCons' (gSet 2) (gCons' (gSet 3) gNil'))) (dTup (dCons (dI 0) (dCons (dI 0) dNil))))
  (dSeq (dFor (dIt zipD (dCons (dVar 0) (dCons (dVar 1) dNil))) (gTup 2 (gCons' (gSet 4) (gCons' (gSet 5) gNil'))) (dSeq (dSet 2 (d2 iAdd (d2 iAdd (dVar 2) (d2 iMul (dVar 5) (dVar 3))) (dFn 2 r__law_sum_in (dCons (dVar 4) (dCons (dVar 5) dNil)))))
  (dSet 3 (d2 iAdd (d2 iMul (dFn 1 r__law_size (dCons (dVar 4) dNil)) (dVar 3)) (dFn 2 r__law_sum_in (dCons (dVar 4) (dCons (d2 iSub (dFn 1 r__law_size (dCons (dVar 4) dNil)) (dI 1)) dNil)))))))
  (dRet (dVar 2)))
noncomputable def r__law_time : List D → DR := runF none 6 2 d__law_time
noncomputable def d__law_parts : Rho → SO := dSeq (dSet 2 (dLst dNil))
  (dSeq (dFor (dItL (dVar 1)) (gSet 3) (dSeq (dSet 4 (dFn 1 r__law_size (dCons (dVar 3) dNil)))
  (dExpr (dMut 2 hAppend (dCons (d2 pIx (dLst (dCons (dI 0) (dCons (d2 iSub (dVar 4) (dI 1)) (dCons (dCallIo 0 2 r__law_draw (dCons (dVar 4) dNil)) (dCons (dCallIo 0 2 r__law_draw (dCons (dVar 4) dNil)) dNil))))) (dCallIo 0 2 r__law_draw (dCons (dI 4) dNil))) dNil)))))
  (dRet (dVar 2)))
noncomputable def r__law_parts : List D → DR := runF (some 1) 5 2 d__law_parts
/-- the waits of one run of a layer, up to an attempt -/
def _root_.PG.Ly.sum : Ly → Int → Int
  | .lst ws, j => (ws.take j.toNat).sum
  | .con w _, j => w * j
theorem cut_take {α : Type} (xs : List α) (j : Int) (h0 : 0 ≤ j) (h1 : j ≤ xs.length) : cutX xs none (some j) = xs.take j.toNat := by
  obtain ⟨n, rfl⟩ : ∃ n : Nat, j = n := ⟨j.toNat, by omega⟩
  unfold cutX
  rw [show HT.sIx xs.length xs.length (some (n : Int)) = min n xs.length from HT.sIx_nat xs.length xs.length n, HT.sIx_none, List.drop_zero, Nat.sub_zero, Nat.min_eq_left (by omega)]
  rfl
theorem timein_ok (l : Ly) (hw : FC.W l) (j : Int) (h0 : 0 ≤ j) (h1 : j < l.size) (ok : l.Ok) : r_time_in [l.d, .int j] = .ok (.int (l.sum j)) none := by
  cases l with
  | con w s =>
    have hw' : w < 2 ^ 40 := hw
    have h2 : 0 ≤ w := ok.1
    have e : iMul (.int w) (.int j) = some (.int (w * j)) := iMul_l (by omega)
    simp [r_time_in, runF, d_time_in, Ly.d, Ly.sum, e]
  | lst ws =>
    have h3 : j < ws.length + 1 := h1
    have e : pSl (iL ws) none (some j) = some (.lst ((ws.take j.toNat).map D.int)) := by
      show some (D.lst (cutX (ws.map D.int) none (some j))) = _
      rw [cut_take _ _ h0 (by rw [List.length_map]; omega), List.map_take]
    have e2 : pSum [.lst ((ws.take j.toNat).map D.int)] = some (.int (ws.take j.toNat).sum) := pSum_int
    rw [List.map_take] at e e2
    simp [r_time_in, runF, d_time_in, Ly.d, Ly.sum, e, e2]
theorem sum0 (l : Ly) : l.sum 0 = 0 := by
  cases l with
  | con w s => exact Int.mul_zero w
  | lst ws => rfl
theorem sum_step (l : Ly) (j : Int) (h0 : 0 ≤ j) (h1 : j + 1 < l.size) : l.sum (j + 1) = l.sum j + l.wait (j + 1) := by
  cases l with
  | con w s => show w * (j + 1) = w * j + w; rw [Int.mul_add, Int.mul_one]
  | lst ws =>
    have h3 : j + 1 < ws.length + 1 := h1
    have e : (j + 1).toNat = j.toNat + 1 := by omega
    have hj : j.toNat < ws.length := by omega
    show (ws.take (j + 1).toNat).sum = (ws.take j.toNat).sum + ws.getD (j + 1 - 1).toNat 0
    rw [e, List.take_add_one, List.getElem?_eq_getElem hj, List.sum_append, show j + 1 - 1 = j by omega, List.getD_eq_getElem?_getD, List.getElem?_eq_getElem hj]
    simp
/-- the time at the attempt of that number -/
def ta : List Ly → Int → Int
  | [], _ => 0
  | l :: ls, n => (n / l.size) * l.sum (l.size - 1) + l.sum (n % l.size) + ta ls (n / l.size)
theorem wb_some : ∀ (ls : List Ly) (n : Int), (∀ l ∈ ls, l.Ok) → 0 < n → n < tot ls → ∃ w, wb ls n = some w
  | [], n, _, h0, h1 => by have : n < 1 := h1; omega
  | l :: ls, n, ok, h0, h1 => by
    have hp := (ok l List.mem_cons_self).pos
    by_cases h : 0 < n % l.size
    · exact ⟨_, if_pos h⟩
    · have m1 := Int.emod_nonneg n (b := l.size) (by omega)
      have e : n = l.size * (n / l.size) := by have := Int.mul_ediv_add_emod n l.size; omega
      have h1' : n < l.size * tot ls := h1
      have q0 : 0 < n / l.size := by
        by_cases z : 0 < n / l.size
        · exact z
        · have : l.size * (n / l.size) ≤ l.size * 0 := Int.mul_le_mul_of_nonneg_left (by omega) (by omega)
          omega
      have q1 : n / l.size < tot ls := Int.ediv_lt_of_lt_mul (by omega) (by rw [Int.mul_comm]; exact h1')
      obtain ⟨w, hw⟩ := wb_some ls _ (fun x hx => ok x (List.mem_cons_of_mem _ hx)) q0 q1
      exact ⟨w, by rw [← hw]; exact if_neg h⟩
theorem ta_step : ∀ (ls : List Ly) (n w : Int), (∀ l ∈ ls, l.Ok) → 0 ≤ n → wb ls (n + 1) = some w → ta ls (n + 1) = ta ls n + w
  | [], n, w, _, _, h => by cases h
  | l :: ls, n, w, ok, h0, h => by
    have hp := (ok l List.mem_cons_self).pos
    have m1 := Int.emod_nonneg n (b := l.size) (by omega)
    have m2 := Int.emod_lt_of_pos n (b := l.size) (by omega)
    have en := Int.mul_ediv_add_emod n l.size
    by_cases hr : n % l.size + 1 < l.size
    · have e1 : (n + 1) % l.size = n % l.size + 1 := by
        rw [show n + 1 = (n % l.size + 1) + l.size * (n / l.size) by omega, Int.add_mul_emod_self_left, Int.emod_eq_of_lt (by omega) hr]
      have e2 : (n + 1) / l.size = n / l.size := by
        rw [show n + 1 = (n % l.size + 1) + l.size * (n / l.size) by omega, Int.add_mul_ediv_left _ _ (by omega), Int.ediv_eq_zero_of_lt (by omega) hr, Int.zero_add]
      have hw : wb (l :: ls) (n + 1) = some (l.wait (n % l.size + 1)) := by
        show (if 0 < (n + 1) % l.size then some (l.wait ((n + 1) % l.size)) else _) = _
        rw [e1, if_pos (by omega)]
      rw [hw] at h
      cases h
      show (n + 1) / l.size * _ + l.sum ((n + 1) % l.size) + ta ls ((n + 1) / l.size) = n / l.size * _ + l.sum (n % l.size) + ta ls (n / l.size) + _
      rw [e1, e2, sum_step l _ m1 hr]
      omega
    · have er : n % l.size = l.size - 1 := by omega
      have ee : n + 1 = l.size * (n / l.size + 1) := by rw [Int.mul_add, Int.mul_one]; omega
      have e1 : (n + 1) % l.size = 0 := by rw [ee]; exact Int.mul_emod_right _ _
      have e2 : (n + 1) / l.size = n / l.size + 1 := by rw [ee]; exact Int.mul_ediv_cancel_left _ (by omega)
      have hw : wb (l :: ls) (n + 1) = wb ls (n / l.size + 1) := by
        show (if 0 < (n + 1) % l.size then _ else wb ls ((n + 1) / l.size)) = _
        rw [e1, e2, if_neg (by omega)]
      rw [hw] at h
      have ih := ta_step ls (n / l.size) w (fun x hx => ok x (List.mem_cons_of_mem _ hx)) (Int.ediv_nonneg h0 (by omega)) h
      show (n + 1) / l.size * _ + l.sum ((n + 1) % l.size) + ta ls ((n + 1) / l.size) = n / l.size * _ + l.sum (n % l.size) + ta ls (n / l.size) + _
      rw [e1, e2, sum0, er, ih, Int.add_mul, Int.one_mul]
      omega
theorem sum_bd (l : Ly) (ok : l.Ok) (hw : FC.W l) (j : Int) (h0 : 0 ≤ j) (h1 : j < l.size) : 0 ≤ l.sum j ∧ l.sum j < 2 ^ 110 := by
  cases l with
  | con w s =>
    have a : w < 2 ^ 40 := hw
    have b : 0 ≤ w := ok.1
    have c : s < 2 ^ 70 := ok.2.2
    have d : j < s := h1
    have e : w * j ≤ 2 ^ 40 * j := Int.mul_le_mul_of_nonneg_right (by omega) h0
    have f : 0 ≤ w * j := Int.mul_nonneg b h0
    show 0 ≤ w * j ∧ w * j < 2 ^ 110
    omega
  | lst ws =>
    have a : ∀ w ∈ ws, w < 2 ^ 40 := hw.1
    have b : ∀ w ∈ ws, 0 ≤ w := ok.1
    have c : ws.length < 60 := hw.2
    have gen : ∀ xs : List Int, (∀ w ∈ xs, w < 2 ^ 40) → (∀ w ∈ xs, 0 ≤ w) → 0 ≤ xs.sum ∧ xs.sum ≤ 2 ^ 40 * xs.length := by
      intro xs
      induction xs with
      | nil => intro _ _; exact ⟨Int.le_refl _, Int.le_refl _⟩
      | cons x xs ih =>
        intro h1 h2
        have q := ih (fun w hw => h1 w (List.mem_cons_of_mem _ hw)) (fun w hw => h2 w (List.mem_cons_of_mem _ hw))
        have q1 := h1 x List.mem_cons_self
        have q2 := h2 x List.mem_cons_self
        rw [List.sum_cons, List.length_cons]
        omega
    have q := gen (ws.take j.toNat) (fun w h => a w (List.mem_of_mem_take h)) (fun w h => b w (List.mem_of_mem_take h))
    have hl : (ws.take j.toNat).length ≤ ws.length := by rw [List.length_take]; omega
    show 0 ≤ (ws.take j.toNat).sum ∧ (ws.take j.toNat).sum < 2 ^ 110
    omega
theorem abs_lt {x : Int} {m : Nat} (h0 : 0 ≤ x) (h1 : x < 2 ^ m) : x.natAbs < 2 ^ m := by
  have e : (x.natAbs : Int) = x := by omega
  have h3 : (x.natAbs : Int) < ((2 ^ m : Nat) : Int) := by
    rw [e, Int.natCast_pow]
    exact h1
  exact_mod_cast h3
theorem mul_log {i j : Int} {n m : Nat} (hi0 : 0 ≤ i) (hi : i < 2 ^ n) (hj0 : 0 ≤ j) (hj : j < 2 ^ m) (hn : 0 < n) (hm : 0 < m) (h : n + m ≤ 1000000) : iMul (.int i) (.int j) = some (.int (i * j)) := by
  unfold iMul
  exact if_pos (mulOk_log (abs_lt hi0 hi) (abs_lt hj0 hj) hn hm h)
noncomputable abbrev taBody : Rho → SO := dSeq (dSet 5 (dFn 1 r_size_of (dCons (dVar 4) dNil)))
  (dSeq (dAsg (gTup 2 (gCons' (gSet 3) (gCons' (gSet 6) gNil'))) (dN pDivmod (dCons (dVar 3) (dCons (dVar 5) dNil))))
  (dAug 2 iAdd (d2 iAdd (d2 iMul (dVar 3) (dFn 2 r_time_in (dCons (dVar 4) (dCons (d2 iSub (dVar 5) (dI 1)) dNil)))) (dFn 2 r_time_in (dCons (dVar 4) (dCons (dVar 6) dNil))))))
theorem ta_loop : ∀ (ls : List Ly) (n t : Int) (a b x y z : Option D) (m : Nat), (∀ l ∈ ls, l.Ok) → (∀ l ∈ ls, FC.W l) → 0 ≤ n → n < 2 ^ m → 0 < m → m ≤ 100000 → ∃ r1 r2 r3 r4, loopD (gSet 4) taBody (ls.map Ly.d) [a, b, some (.int t), some (.int n), x, y, z] = .nx [a, b, some (.int (t + ta ls n)), r1, r2, r3, r4]
  | [], n, t, a, b, x, y, z, m, _, _, _, _, _, _ => ⟨_, _, _, _, by show SO.nx _ = SO.nx _; rw [show t + ta [] n = t from Int.add_zero t]⟩
  | l :: ls, n, t, a, b, x, y, z, m, ok, hw, h0, h1, m0, m1 => by
    have okl := ok l List.mem_cons_self
    have hwl := hw l List.mem_cons_self
    have hp := okl.pos
    have q1 := Int.emod_nonneg n (b := l.size) (by omega)
    have q2 := Int.emod_lt_of_pos n (b := l.size) (by omega)
    have q3 : 0 ≤ n / l.size := Int.ediv_nonneg h0 (by omega)
    have q4 : n / l.size ≤ n := Int.ediv_le_self _ h0
    obtain ⟨r1, r2, r3, r4, e⟩ := ta_loop ls (n / l.size) (t + (n / l.size * l.sum (l.size - 1) + l.sum (n % l.size))) a b (some l.d) (some (.int l.size)) (some (.int (n % l.size))) m (fun x hx => ok x (List.mem_cons_of_mem _ hx)) (fun x hx => hw x (List.mem_cons_of_mem _ hx)) q3 (by omega) m0 m1
    refine ⟨r1, r2, r3, r4, ?_⟩
    have e1 := size_ok l
    have e2 : pDivmod [.int n, .int l.size] = some (.tup [.int (n / l.size), .int (n % l.size)]) := if_pos okl.div
    have e3 := timein_ok l hwl (l.size - 1) (by omega) (by omega) okl
    have e4 := timein_ok l hwl (n % l.size) q1 q2 okl
    have b1 := sum_bd l okl hwl (l.size - 1) (by omega) (by omega)
    have e5 : iMul (.int (n / l.size)) (.int (l.sum (l.size - 1))) = some (.int (n / l.size * l.sum (l.size - 1))) := mul_log q3 (Int.lt_of_le_of_lt q4 h1) b1.1 b1.2 m0 (by omega) (by omega)
    have eb : taBody [a, b, some (.int t), some (.int n), some l.d, y, z] = .nx [a, b, some (.int (t + (n / l.size * l.sum (l.size - 1) + l.sum (n % l.size)))), some (.int (n / l.size)), some l.d, some (.int l.size), some (.int (n % l.size))] := by
      simp [e1, e2, e3, e4, e5]
    rw [List.map_cons, loop_nx (r1 := [a, b, some (.int t), some (.int n), some l.d, y, z]) rfl eb, e]
    show SO.nx [a, b, some (.int (t + (n / l.size * l.sum (l.size - 1) + l.sum (n % l.size)) + ta ls (n / l.size))), r1, r2, r3, r4] = SO.nx [a, b, some (.int (t + (n / l.size * l.sum (l.size - 1) + l.sum (n % l.size) + ta ls (n / l.size)))), r1, r2, r3, r4]
    rw [Int.add_assoc t]
theorem timeat_ok (ls : List Ly) (n : Int) (ok : ∀ l ∈ ls, l.Ok) (hw : ∀ l ∈ ls, FC.W l) (hl : ls.length ≤ 1000) (h0 : 0 ≤ n) (h1 : n < tot ls) : r_time_at [Ns ls, .int n] = .ok (.int (ta ls n)) none := by
  obtain ⟨r1, r2, r3, r4, e⟩ := ta_loop ls n 0 (some (Ns ls)) (some (.int n)) none none none (70 * ls.length + 1) ok hw h0 (Int.lt_trans h1 (tot_lt ok)) (by omega) (by omega)
  rw [Int.zero_add] at e
  refine runF_rt rfl (r := [some (Ns ls), some (.int n), some (.int (ta ls n)), r1, r2, r3, r4]) ?_
  show d_time_at [some (Ns ls), some (.int n), none, none, none, none, none] = _
  rw [show d_time_at = dSeq (dSet 2 (dI 0)) (dSeq (dSet 3 (dVar 1)) (dSeq (dFor (dItL (dVar 0)) (gSet 4) taBody) (dRet (dVar 2)))) from rfl]
  simp only [ap_dSeq, ap_dSet, ap_dI, ap_dVar, rget0, rgetS, lift_some, R.then_ok, List.set_cons_succ, List.set_cons_zero, ap_dFor, ap_dItL, itemsL_lst, R.bind_ok, e, ap_dRet]
theorem timeof_ok (ls : List Ly) (n : Int) (ok : ∀ l ∈ ls, l.Ok) (hw : ∀ l ∈ ls, FC.W l) (hl : ls.length ≤ 1000) (h0 : 0 ≤ n) (h1 : n < tot ls) : r_time_of [Ns ls, .int n] = .ok (.int (ta ls n)) none := by
  have e1 := check_ok ls ok
  have e2 := total_ok ls ok (by omega)
  have e3 := timeat_ok ls n ok hw hl h0 h1
  simp [r_time_of, runF, d_time_of, e1, e2, e3, chD, h0, h1]
/-! ### an attempt in every layer -/
def Dig : List Ly → List Int → Prop
  | [], [] => True
  | l :: ls, p :: ps => (0 ≤ p ∧ p < l.size) ∧ Dig ls ps
  | _, _ => False
def num : List Ly → List Int → Int
  | l :: ls, p :: ps => p + l.size * num ls ps
  | _, _ => 0
theorem dig_snoc : ∀ {ls : List Ly} {ps : List Int} {l : Ly} {p : Int}, Dig ls ps → 0 ≤ p → p < l.size → Dig (ls ++ [l]) (ps ++ [p])
  | [], [], _, _, _, h0, h1 => ⟨⟨h0, h1⟩, trivial⟩
  | _ :: _, _ :: _, _, _, h, h0, h1 => ⟨h.1, dig_snoc h.2 h0 h1⟩
  | [], _ :: _, _, _, h, _, _ => h.elim
  | _ :: _, [], _, _, h, _, _ => h.elim
theorem dig_len : ∀ {ls : List Ly} {ps : List Int}, Dig ls ps → ps.length = ls.length
  | [], [], _ => rfl
  | _ :: _, _ :: _, h => congrArg (· + 1) (dig_len h.2)
  | [], _ :: _, h => h.elim
  | _ :: _, [], h => h.elim
theorem num_bd : ∀ {ls : List Ly} {ps : List Int}, (∀ l ∈ ls, l.Ok) → Dig ls ps → 0 ≤ num ls ps ∧ num ls ps < tot ls
  | [], [], _, _ => ⟨Int.le_refl _, by show (0 : Int) < 1; decide⟩
  | l :: ls, p :: ps, ok, h => by
    have hp := (ok l List.mem_cons_self).pos
    have ih := num_bd (ls := ls) (ps := ps) (fun x hx => ok x (List.mem_cons_of_mem _ hx)) h.2
    have a : 0 ≤ l.size * num ls ps := Int.mul_nonneg (by omega) ih.1
    have b : l.size * num ls ps ≤ l.size * (tot ls - 1) := Int.mul_le_mul_of_nonneg_left (by omega) (by omega)
    rw [Int.mul_sub, Int.mul_one] at b
    have c := h.1
    show 0 ≤ p + l.size * num ls ps ∧ p + l.size * num ls ps < l.size * tot ls
    omega
  | [], _ :: _, _, h => h.elim
  | _ :: _, [], _, h => h.elim
/-- only the last attempt has the last number -/
theorem num_last : ∀ {ls : List Ly} {ps : List Int}, (∀ l ∈ ls, l.Ok) → Dig ls ps → num ls ps = tot ls - 1 → ps = ls.map fun l => l.size - 1
  | [], [], _, _, _ => rfl
  | l :: ls, p :: ps, ok, h, e => by
    have hp := (ok l List.mem_cons_self).pos
    have okt : ∀ x ∈ ls, x.Ok := fun x hx => ok x (List.mem_cons_of_mem _ hx)
    have bd := num_bd okt h.2
    have c := h.1
    have e' : p + l.size * num ls ps = l.size * tot ls - 1 := e
    have en : num ls ps = tot ls - 1 := by
      by_cases z : num ls ps = tot ls - 1
      · exact z
      · have b : l.size * num ls ps ≤ l.size * (tot ls - 2) := Int.mul_le_mul_of_nonneg_left (by omega) (by omega)
        rw [Int.mul_sub] at b
        omega
    rw [en, Int.mul_sub, Int.mul_one] at e'
    rw [num_last okt h.2 en, show p = l.size - 1 by omega]
    rfl
  | [], _ :: _, _, h, _ => h.elim
  | _ :: _, [], _, h, _ => h.elim
theorem dig_last : ∀ {ls : List Ly}, (∀ l ∈ ls, l.Ok) → Dig ls (ls.map fun l => l.size - 1)
  | [], _ => trivial
  | l :: ls, ok => ⟨by have := (ok l List.mem_cons_self).pos; show 0 ≤ l.size - 1 ∧ l.size - 1 < l.size; omega, dig_last fun x hx => ok x (List.mem_cons_of_mem _ hx)⟩
theorem sumin_ok (l : Ly) (hw : FC.W l) (j : Int) (h0 : 0 ≤ j) (h1 : j < l.size) (ok : l.Ok) : r__law_sum_in [l.d, .int j] = .ok (.int (l.sum j)) none := timein_ok l hw j h0 h1 ok
theorem lsize_ok (l : Ly) : r__law_size [l.d] = .ok (.int l.size) none := size_ok l
def zipLP (ls : List Ly) (ps : List Int) : List D := List.zipWith (fun x y => .tup [x, y]) (ls.map Ly.d) (ps.map D.int)
noncomputable abbrev nBody : Rho → SO := dSeq (dSet 2 (d2 iAdd (dVar 2) (d2 iMul (dVar 5) (dVar 3)))) (dSet 3 (d2 iMul (dVar 3) (dFn 1 r__law_size (dCons (dVar 4) dNil))))
noncomputable abbrev gPair : D → Rho → Option Rho := gTup 2 (gCons' (gSet 4) (gCons' (gSet 5) gNil'))
theorem num_loop : ∀ (ls : List Ly) (ps : List Int) (N I : Int) (a b x y : Option D) (m : Nat), (∀ l ∈ ls, l.Ok) → Dig ls ps → 0 ≤ I → I < 2 ^ m → 0 < m → m + 70 * ls.length ≤ 100000 → ∃ r1 r2 r3, loopD gPair nBody (zipLP ls ps) [a, b, some (.int N), some (.int I), x, y] = .nx [a, b, some (.int (N + I * num ls ps)), r1, r2, r3]
  | [], [], N, I, a, b, x, y, m, _, _, _, _, _, _ => ⟨_, _, _, by show SO.nx _ = SO.nx _; rw [show N + I * num [] [] = N by show N + I * 0 = N; rw [Int.mul_zero, Int.add_zero]]⟩
  | l :: ls, p :: ps, N, I, a, b, x, y, m, ok, hd, h0, h1, m0, m1 => by
    have okl := ok l List.mem_cons_self
    have hp := okl.pos
    have hlt := okl.lt
    have hd1 := hd.1
    rw [List.length_cons] at m1
    have hI0 : 0 ≤ I * l.size := Int.mul_nonneg h0 (by omega)
    have hI1 : I * l.size < 2 ^ (m + 70) := by
      rw [Int.pow_add]
      calc I * l.size ≤ I * 2 ^ 70 := Int.mul_le_mul_of_nonneg_left (by omega) h0
        _ < 2 ^ m * 2 ^ 70 := Int.mul_lt_mul_of_pos_right h1 (by decide)
    obtain ⟨r1, r2, r3, e⟩ := num_loop ls ps (N + p * I) (I * l.size) a b (some l.d) (some (.int p)) (m + 70) (fun x hx => ok x (List.mem_cons_of_mem _ hx)) hd.2 hI0 hI1 (by omega) (by omega)
    refine ⟨r1, r2, r3, ?_⟩
    have e1 := lsize_ok l
    have e2 : iMul (.int p) (.int I) = some (.int (p * I)) := mul_log (n := 70) hd1.1 (by omega) h0 h1 (by omega) m0 (by omega)
    have e3 : iMul (.int I) (.int l.size) = some (.int (I * l.size)) := mul_log (m := 70) h0 h1 (by omega) hlt m0 (by omega) (by omega)
    have eg : gPair (.tup [l.d, .int p]) [a, b, some (.int N), some (.int I), x, y] = some [a, b, some (.int N), some (.int I), some l.d, some (.int p)] := rfl
    have eb : nBody [a, b, some (.int N), some (.int I), some l.d, some (.int p)] = .nx [a, b, some (.int (N + p * I)), some (.int (I * l.size)), some l.d, some (.int p)] := by
      simp [e1, e2, e3]
    show loopD gPair nBody (.tup [l.d, .int p] :: zipLP ls ps) _ = _
    rw [loop_nx eg eb, e]
    rw [show N + p * I + I * l.size * num ls ps = N + I * num (l :: ls) (p :: ps) by
      show _ = N + I * (p + l.size * num ls ps)
      rw [Int.mul_add, Int.mul_comm p I, Int.mul_assoc]; omega]
  | [], _ :: _, _, _, _, _, _, _, _, _, h, _, _, _, _ => h.elim
  | _ :: _, [], _, _, _, _, _, _, _, _, h, _, _, _, _ => h.elim
theorem number_ok (ls : List Ly) (ps : List Int) (ok : ∀ l ∈ ls, l.Ok) (hd : Dig ls ps) (hl : ls.length ≤ 1000) : r__law_number [Ns ls, iL ps] = .ok (.int (num ls ps)) none := by
  obtain ⟨r1, r2, r3, e⟩ := num_loop ls ps 0 1 (some (Ns ls)) (some (iL ps)) none none 1 ok hd (by decide) (by decide) (by omega) (by omega)
  rw [Int.zero_add, Int.one_mul] at e
  refine runF_rt rfl (r := [some (Ns ls), some (iL ps), some (.int (num ls ps)), r1, r2, r3]) ?_
  show d__law_number [some (Ns ls), some (iL ps), none, none, none, none] = _
  rw [show d__law_number = dSeq (dAsg (gTup 2 (gCons' (gSet 2) (gCons' (gSet 3) gNil'))) (dTup (dCons (dI 0) (dCons (dI 1) dNil)))) (dSeq (dFor (dIt zipD (dCons (dVar 0) (dCons (dVar 1) dNil))) gPair nBody) (dRet (dVar 2))) from rfl]
  have st : dAsg (gTup 2 (gCons' (gSet 2) (gCons' (gSet 3) gNil'))) (dTup (dCons (dI 0) (dCons (dI 1) dNil))) [some (Ns ls), some (iL ps), none, none, none, none] = .nx [some (Ns ls), some (iL ps), some (.int 0), some (.int 1), none, none] := rfl
  rw [ap_dSeq, st]
  have st2 : dFor (dIt zipD (dCons (dVar 0) (dCons (dVar 1) dNil))) gPair nBody [some (Ns ls), some (iL ps), some (.int 0), some (.int 1), none, none] = .nx [some (Ns ls), some (iL ps), some (.int (num ls ps)), r1, r2, r3] := by
    rw [ap_dFor]
    exact e
  show dSeq _ _ [some (Ns ls), some (iL ps), some (.int 0), some (.int 1), none, none] = _
  rw [ap_dSeq, st2]
  rfl
noncomputable abbrev tBody : Rho → SO := dSeq (dSet 2 (d2 iAdd (d2 iAdd (dVar 2) (d2 iMul (dVar 5) (dVar 3))) (dFn 2 r__law_sum_in (dCons (dVar 4) (dCons (dVar 5) dNil)))))
  (dSet 3 (d2 iAdd (d2 iMul (dFn 1 r__law_size (dCons (dVar 4) dNil)) (dVar 3)) (dFn 2 r__law_sum_in (dCons (dVar 4) (dCons (d2 iSub (dFn 1 r__law_size (dCons (dVar 4) dNil)) (dI 1)) dNil)))))
theorem ta_cons (l : Ly) (ls : List Ly) (p k : Int) (h0 : 0 ≤ p) (h1 : p < l.size) : ta (l :: ls) (p + l.size * k) = k * l.sum (l.size - 1) + l.sum p + ta ls k := by
  have e1 : (p + l.size * k) % l.size = p := by rw [Int.add_mul_emod_self_left, Int.emod_eq_of_lt h0 h1]
  have e2 : (p + l.size * k) / l.size = k := by rw [Int.add_mul_ediv_left _ _ (by omega), Int.ediv_eq_zero_of_lt h0 h1, Int.zero_add]
  show (p + l.size * k) / l.size * _ + l.sum ((p + l.size * k) % l.size) + ta ls ((p + l.size * k) / l.size) = _
  rw [e1, e2]
theorem time_loop : ∀ (ls : List Ly) (ps : List Int) (T Wh : Int) (a b x y : Option D) (m : Nat), (∀ l ∈ ls, l.Ok) → (∀ l ∈ ls, FC.W l) → Dig ls ps → 0 ≤ Wh → Wh < 2 ^ m → 110 ≤ m → m + 71 * ls.length ≤ 100000 → ∃ r1 r2 r3, loopD gPair tBody (zipLP ls ps) [a, b, some (.int T), some (.int Wh), x, y] = .nx [a, b, some (.int (T + Wh * num ls ps + ta ls (num ls ps))), r1, r2, r3]
  | [], [], T, Wh, a, b, x, y, m, _, _, _, _, _, _, _ => ⟨_, _, _, by show SO.nx _ = SO.nx _; rw [show T + Wh * num [] [] + ta [] (num [] []) = T by show T + Wh * 0 + 0 = T; rw [Int.mul_zero]; omega]⟩
  | l :: ls, p :: ps, T, Wh, a, b, x, y, m, ok, hw, hd, h0, h1, m0, m1 => by
    have okl := ok l List.mem_cons_self
    have hwl := hw l List.mem_cons_self
    have hp := okl.pos
    have hlt := okl.lt
    have hd1 := hd.1
    rw [List.length_cons] at m1
    have b1 := sum_bd l okl hwl (l.size - 1) (by omega) (by omega)
    have hI0 : 0 ≤ l.size * Wh := Int.mul_nonneg (by omega) h0
    have hI1 : l.size * Wh ≤ 2 ^ (m + 70) := by
      rw [Int.pow_add, Int.mul_comm (2 ^ m)]
      calc l.size * Wh ≤ 2 ^ 70 * Wh := Int.mul_le_mul_of_nonneg_right (by omega) h0
        _ ≤ 2 ^ 70 * 2 ^ m := Int.mul_le_mul_of_nonneg_left (by omega) (by decide)
    have hI2 : (2 : Int) ^ 110 ≤ 2 ^ (m + 70) := by
      have := Nat.pow_le_pow_right (n := 2) (by omega) (show 110 ≤ m + 70 by omega)
      exact_mod_cast this
    have hI3 : l.size * Wh + l.sum (l.size - 1) < 2 ^ (m + 71) := by
      rw [show m + 71 = (m + 70) + 1 by omega, Int.pow_succ]
      omega
    obtain ⟨r1, r2, r3, e⟩ := time_loop ls ps (T + p * Wh + l.sum p) (l.size * Wh + l.sum (l.size - 1)) a b (some l.d) (some (.int p)) (m + 71) (fun x hx => ok x (List.mem_cons_of_mem _ hx)) (fun x hx => hw x (List.mem_cons_of_mem _ hx)) hd.2 (by omega) hI3 (by omega) (by omega)
    refine ⟨r1, r2, r3, ?_⟩
    have e1 := lsize_ok l
    have e2 : iMul (.int p) (.int Wh) = some (.int (p * Wh)) := mul_log (n := 70) hd1.1 (by omega) h0 h1 (by omega) (by omega) (by omega)
    have e3 : iMul (.int l.size) (.int Wh) = some (.int (l.size * Wh)) := mul_log (n := 70) (by omega) hlt h0 h1 (by omega) (by omega) (by omega)
    have e4 := sumin_ok l hwl p hd1.1 hd1.2 okl
    have e5 := sumin_ok l hwl (l.size - 1) (by omega) (by omega) okl
    have eg : gPair (.tup [l.d, .int p]) [a, b, some (.int T), some (.int Wh), x, y] = some [a, b, some (.int T), some (.int Wh), some l.d, some (.int p)] := rfl
    have eb : tBody [a, b, some (.int T), some (.int Wh), some l.d, some (.int p)] = .nx [a, b, some (.int (T + p * Wh + l.sum p)), some (.int (l.size * Wh + l.sum (l.size - 1))), some l.d, some (.int p)] := by
      simp [e1, e2, e3, e4, e5]
    show loopD gPair tBody (.tup [l.d, .int p] :: zipLP ls ps) _ = _
    rw [loop_nx eg eb, e]
    have ec := ta_cons l ls p (num ls ps) hd1.1 hd1.2
    rw [show T + p * Wh + l.sum p + (l.size * Wh + l.sum (l.size - 1)) * num ls ps + ta ls (num ls ps) = T + Wh * num (l :: ls) (p :: ps) + ta (l :: ls) (num (l :: ls) (p :: ps)) by
      show _ = T + Wh * (p + l.size * num ls ps) + ta (l :: ls) (p + l.size * num ls ps)
      rw [ec, Int.mul_add, Int.add_mul, Int.mul_comm p Wh, Int.mul_comm (l.sum (l.size - 1)), Int.mul_comm l.size Wh, Int.mul_assoc]
      omega]
  | [], _ :: _, _, _, _, _, _, _, _, _, _, h, _, _, _, _ => h.elim
  | _ :: _, [], _, _, _, _, _, _, _, _, _, h, _, _, _, _ => h.elim
theorem lawtime_ok (ls : List Ly) (ps : List Int) (ok : ∀ l ∈ ls, l.Ok) (hw : ∀ l ∈ ls, FC.W l) (hd : Dig ls ps) (hl : ls.length ≤ 1000) : r__law_time [Ns ls, iL ps] = .ok (.int (ta ls (num ls ps))) none := by
  obtain ⟨r1, r2, r3, e⟩ := time_loop ls ps 0 0 (some (Ns ls)) (some (iL ps)) none none 110 ok hw hd (by decide) (by decide) (by omega) (by omega)
  rw [Int.zero_add, Int.zero_mul, Int.zero_add] at e
  refine runF_rt rfl (r := [some (Ns ls), some (iL ps), some (.int (ta ls (num ls ps))), r1, r2, r3]) ?_
  show d__law_time [some (Ns ls), some (iL ps), none, none, none, none] = _
  rw [show d__law_time = dSeq (dAsg (gTup 2 (gCons' (gSet 2) (gCons' (gSet 3) gNil'))) (dTup (dCons (dI 0) (dCons (dI 0) dNil)))) (dSeq (dFor (dIt zipD (dCons (dVar 0) (dCons (dVar 1) dNil))) gPair tBody) (dRet (dVar 2))) from rfl]
  have st : dAsg (gTup 2 (gCons' (gSet 2) (gCons' (gSet 3) gNil'))) (dTup (dCons (dI 0) (dCons (dI 0) dNil))) [some (Ns ls), some (iL ps), none, none, none, none] = .nx [some (Ns ls), some (iL ps), some (.int 0), some (.int 0), none, none] := rfl
  rw [ap_dSeq, st]
  have st2 : dFor (dIt zipD (dCons (dVar 0) (dCons (dVar 1) dNil))) gPair tBody [some (Ns ls), some (iL ps), some (.int 0), some (.int 0), none, none] = .nx [some (Ns ls), some (iL ps), some (.int (ta ls (num ls ps))), r1, r2, r3] := by
    rw [ap_dFor]
    exact e
  show dSeq _ _ [some (Ns ls), some (iL ps), some (.int 0), some (.int 0), none, none] = _
  rw [ap_dSeq, st2]
  rfl
end FT

/-! FS: the search for the first attempt -/
namespace FS
open PySem PySem.Spec VL PG FT
open FC (r__law_size r__law_draw)
open FT (r__law_time)
noncomputable def d_first_attempt_from : Rho → SO := dSeq (dExpr (dFn 1 r_check_nesting (dCons (dVar 0) dNil)))
  (dSeq (dIf (dB (d2 iLt (dVar 1) (dI 0))) dNo dEnd)
  (dSeq (dPar 2 3 (dCons (dI 0) (dCons (d2 iSub (dFn 1 r_total_of (dCons (dVar 0) dNil)) (dI 1)) dNil)))
  (dSeq (dIf (dB (d2 iLt (dFn 2 r_time_at (dCons (dVar 0) (dCons (dVar 3) dNil))) (dVar 1))) (dRet dNon) dEnd)
  (dSeq (whileD (dB (d2 iLt (dVar 2) (dVar 3))) (dSeq (dSet 4 (d2 iDiv (d2 iAdd (dVar 2) (dVar 3)) (dI 2)))
  (dIf (dB (d2 iLt (dFn 2 r_time_at (dCons (dVar 0) (dCons (dVar 4) dNil))) (dVar 1))) (dSet 2 (d2 iAdd (dVar 4) (dI 1))) (dSet 3 (dVar 4)))) 1100)
  (dRet (dVar 2))))))
noncomputable def r_first_attempt_from : List D → DR := runF none 5 2 d_first_attempt_from
noncomputable def d__law_split : Rho → SO := dSeq (dSet 2 (dLst dNil))
  (dSeq (dFor (dItL (dVar 0)) (gSet 3) (dSeq (dAsg (gTup 2 (gCons' (gSet 1) (gCons' (gSet 4) gNil'))) (dN pDivmod (dCons (dVar 1) (dCons (dFn 1 r__law_size (dCons (dVar 3) dNil)) dNil))))
  (dExpr (dMut 2 hAppend (dCons (dVar 4) dNil)))))
  (dRet (dVar 2)))
noncomputable def r__law_split : List D → DR := runF none 5 2 d__law_split
noncomputable def d__law_first_right : Rho → SO := dSeq (dSet 3 (dFn 2 r_first_attempt_from (dCons (dVar 0) (dCons (dVar 1) dNil))))
  (dSeq (dIf (dB (d2 iGt (dVar 1) (dVar 2))) (dRet (d2 pIs (dVar 3) dNon)) dEnd)
  (dSeq (dIf (dOrB (dB (d2 pIs (dVar 3) dNon)) (dOrB (dB (d2 iLt (dVar 3) (dI 0))) (dB (d2 iLt (dFn 2 r__law_time (dCons (dVar 0) (dCons (dFn 2 r__law_split (dCons (dVar 0) (dCons (dVar 3) dNil))) dNil))) (dVar 1))))) (dRet (dBl false)) dEnd)
  (dRet (dOr (d2 qEq (dVar 3) (dI 0)) (d2 iLt (dFn 2 r__law_time (dCons (dVar 0) (dCons (dFn 2 r__law_split (dCons (dVar 0) (dCons (d2 iSub (dVar 3) (dI 1)) dNil))) dNil))) (dVar 1))))))
noncomputable def r__law_first_right : List D → DR := runF none 4 3 d__law_first_right
theorem seq_eq {f g : Rho → SO} {r r1 : Rho} (h : f r = .nx r1) : dSeq f g r = g r1 := by rw [ap_dSeq, h]
theorem wait_bd : ∀ (ls : List Ly) (n w : Int), (∀ l ∈ ls, l.Ok) → (∀ l ∈ ls, FC.W l) → wb ls n = some w → 0 ≤ w ∧ w < 2 ^ 40
  | [], n, w, _, _, h => by cases h
  | l :: ls, n, w, ok, hw, h => by
    by_cases hm : 0 < n % l.size
    · have e : wb (l :: ls) n = some (l.wait (n % l.size)) := if_pos hm
      rw [e] at h
      cases h
      have okl := ok l List.mem_cons_self
      have hwl := hw l List.mem_cons_self
      cases l with
      | con a s => exact ⟨okl.1, hwl⟩
      | lst ws =>
        show 0 ≤ ws.getD _ 0 ∧ ws.getD _ 0 < 2 ^ 40
        rw [List.getD_eq_getElem?_getD]
        cases e2 : ws[(n % (Ly.lst ws).size - 1).toNat]? with
        | none => exact ⟨by decide, by decide⟩
        | some x => exact ⟨okl.1 x (List.mem_of_getElem? e2), hwl.1 x (List.mem_of_getElem? e2)⟩
    · have e : wb (l :: ls) n = wb ls (n / l.size) := if_neg hm
      rw [e] at h
      exact wait_bd ls _ w (fun x hx => ok x (List.mem_cons_of_mem _ hx)) (fun x hx => hw x (List.mem_cons_of_mem _ hx)) h
theorem ta_zero : ∀ ls : List Ly, ta ls 0 = 0
  | [] => rfl
  | l :: ls => by
    show 0 / l.size * _ + l.sum (0 % l.size) + ta ls (0 / l.size) = 0
    rw [Int.zero_ediv, Int.zero_emod, sum0, ta_zero ls, Int.zero_mul]
    rfl
theorem ta_mono {ls : List Ly} (ok : ∀ l ∈ ls, l.Ok) (hw : ∀ l ∈ ls, FC.W l) (k : Nat) : ∀ n : Int, 0 ≤ n → n + k < tot ls → ta ls n ≤ ta ls (n + k) := by
  induction k with
  | zero => intro n _ _; rw [show n + ((0 : Nat) : Int) = n by omega]; exact Int.le_refl _
  | succ k ih =>
    intro n h0 h1
    have h2 := ih n h0 (by omega)
    obtain ⟨w, e⟩ := wb_some ls (n + k + 1) ok (by omega) (by omega)
    have h3 := ta_step ls (n + k) w ok (by omega) e
    have h4 := wait_bd ls _ w ok hw e
    rw [show n + ((k + 1 : Nat) : Int) = n + k + 1 by omega, h3]
    omega
theorem ta_le {ls : List Ly} (ok : ∀ l ∈ ls, l.Ok) (hw : ∀ l ∈ ls, FC.W l) {n m : Int} (h0 : 0 ≤ n) (h1 : n ≤ m) (h2 : m < tot ls) : ta ls n ≤ ta ls m := by
  have q := ta_mono ok hw (m - n).toNat n h0 (by omega)
  rw [show n + ((m - n).toNat : Int) = m by omega] at q
  exact q
theorem ta_bd {ls : List Ly} (ok : ∀ l ∈ ls, l.Ok) (hw : ∀ l ∈ ls, FC.W l) (k : Nat) : (k : Int) < tot ls → 0 ≤ ta ls k ∧ ta ls k ≤ 2 ^ 40 * k := by
  induction k with
  | zero => intro _; rw [show ((0 : Nat) : Int) = 0 from rfl, ta_zero]; exact ⟨by decide, by decide⟩
  | succ k ih =>
    intro h
    have h2 := ih (by omega)
    obtain ⟨w, e⟩ := wb_some ls ((k : Int) + 1) ok (by omega) (by omega)
    have h3 := ta_step ls k w ok (by omega) e
    have h4 := wait_bd ls _ w ok hw e
    rw [show ((k + 1 : Nat) : Int) = (k : Int) + 1 by omega, h3]
    omega
noncomputable abbrev cS : Rho → R Bool := dB (d2 iLt (dVar 2) (dVar 3))
noncomputable abbrev bS : Rho → SO := dSeq (dSet 4 (d2 iDiv (d2 iAdd (dVar 2) (dVar 3)) (dI 2)))
  (dIf (dB (d2 iLt (dFn 2 r_time_at (dCons (dVar 0) (dCons (dVar 4) dNil))) (dVar 1))) (dSet 2 (d2 iAdd (dVar 4) (dI 1))) (dSet 3 (dVar 4)))
/-- the first attempt at or behind that time -/
def First (ls : List Ly) (t n : Int) : Prop := 0 ≤ n ∧ n < tot ls ∧ t ≤ ta ls n ∧ ∀ m, 0 ≤ m → m < n → ta ls m < t
theorem search (ls : List Ly) (ok : ∀ l ∈ ls, l.Ok) (hw : ∀ l ∈ ls, FC.W l) (hl : ls.length ≤ 1000) (t : Int) : ∀ (fuel : Nat) (lo hi : Int) (x : Option D), 0 ≤ lo → lo ≤ hi → hi < tot ls → t ≤ ta ls hi → (∀ m, 0 ≤ m → m < lo → ta ls m < t) → hi - lo < 2 ^ fuel →
    ∃ n x', whileD cS bS (fuel + 1) [some (Ns ls), some (.int t), some (.int lo), some (.int hi), x] = .nx [some (Ns ls), some (.int t), some (.int n), some (.int n), x'] ∧ First ls t n := by
  intro fuel
  induction fuel with
  | zero =>
    intro lo hi x h0 h1 h2 h3 h4 h5
    have e : lo = hi := by have : (2 : Int) ^ 0 = 1 := rfl; omega
    subst e
    refine ⟨lo, x, ?_, h0, h2, h3, h4⟩
    unfold whileD
    simp
  | succ fuel ih =>
    intro lo hi x h0 h1 h2 h3 h4 h5
    by_cases hlt : lo < hi
    · have em : iDiv (.int (lo + hi)) (.int 2) = some (.int ((lo + hi) / 2)) := iDiv_ok (by decide)
      have m0 : lo ≤ (lo + hi) / 2 := by omega
      have m1 : (lo + hi) / 2 < hi := by omega
      have e1 := timeat_ok ls ((lo + hi) / 2) ok hw hl (by omega) (by omega)
      rw [Int.pow_succ] at h5
      by_cases hc : ta ls ((lo + hi) / 2) < t
      · obtain ⟨n, x', e, hf⟩ := ih ((lo + hi) / 2 + 1) hi (some (.int ((lo + hi) / 2))) (by omega) (by omega) h2 h3 (fun m hm0 hm1 => by
          have := ta_le ok hw hm0 (show m ≤ (lo + hi) / 2 by omega) (by omega)
          omega) (by omega)
        refine ⟨n, x', ?_, hf⟩
        rw [whileD]
        simp only [cS, ap_dB, ap_d2, ap_dVar, rget0, rgetS, lift_some, R.bind_ok, iLt_ii, asB_bl, decide_eq_true hlt, R.then_ok, if_true]
        have eb : bS [some (Ns ls), some (.int t), some (.int lo), some (.int hi), x] = .nx [some (Ns ls), some (.int t), some (.int ((lo + hi) / 2 + 1)), some (.int hi), some (.int ((lo + hi) / 2))] := by
          simp only [bS, ap_dSeq, ap_dSet, ap_d2, ap_dVar, rget0, rgetS, lift_some, R.bind_ok, iAdd_ii, ap_dI, em, R.then_ok, List.set_cons_succ, List.set_cons_zero, ap_dIf, ap_dB, ap_dFn, ap_dCons, ap_dNil, List.length_cons, List.length_nil, Nat.zero_add, Nat.reduceAdd, if_true, e1, ofDR_ok, iLt_ii, asB_bl, decide_eq_true hc]
        rw [eb]
        exact e
      · obtain ⟨n, x', e, hf⟩ := ih lo ((lo + hi) / 2) (some (.int ((lo + hi) / 2))) h0 m0 (by omega) (by omega) h4 (by omega)
        refine ⟨n, x', ?_, hf⟩
        rw [whileD]
        simp only [cS, ap_dB, ap_d2, ap_dVar, rget0, rgetS, lift_some, R.bind_ok, iLt_ii, asB_bl, decide_eq_true hlt, R.then_ok, if_true]
        have eb : bS [some (Ns ls), some (.int t), some (.int lo), some (.int hi), x] = .nx [some (Ns ls), some (.int t), some (.int lo), some (.int ((lo + hi) / 2)), some (.int ((lo + hi) / 2))] := by
          simp only [bS, ap_dSeq, ap_dSet, ap_d2, ap_dVar, rget0, rgetS, lift_some, R.bind_ok, iAdd_ii, ap_dI, em, R.then_ok, List.set_cons_succ, List.set_cons_zero, ap_dIf, ap_dB, ap_dFn, ap_dCons, ap_dNil, List.length_cons, List.length_nil, Nat.zero_add, Nat.reduceAdd, if_true, e1, ofDR_ok, iLt_ii, asB_bl, decide_eq_false hc, Bool.false_eq_true, if_false]
        rw [eb]
        exact e
    · have e : lo = hi := by omega
      subst e
      refine ⟨lo, x, ?_, h0, h2, h3, h4⟩
      rw [whileD]
      simp
theorem first_none (ls : List Ly) (ok : ∀ l ∈ ls, l.Ok) (hw : ∀ l ∈ ls, FC.W l) (hl : ls.length ≤ 10) (t : Int) (h0 : 0 ≤ t) (h : ta ls (tot ls - 1) < t) : r_first_attempt_from [Ns ls, .int t] = .ok .non none := by
  have e1 := check_ok ls ok
  have e2 := total_ok ls ok (by omega)
  have tp := tot_pos ok
  have e3 := timeat_ok ls (tot ls - 1) ok hw (by omega) (by omega) (by omega)
  refine runF_rt rfl (r := [some (Ns ls), some (.int t), some (.int 0), some (.int (tot ls - 1)), none]) ?_
  show d_first_attempt_from [some (Ns ls), some (.int t), none, none, none] = _
  have hn : ¬ t < 0 := by omega
  simp only [d_first_attempt_from, ap_dSeq, ap_dExpr, ap_dFn, ap_dCons, ap_dVar, rget0, rgetS, lift_some, ap_dNil, R.bind_ok, List.length_cons, List.length_nil, Nat.zero_add, Nat.reduceAdd, if_true, e1, ofDR_ok, R.then_ok, ap_dIf, ap_dB, ap_d2, ap_dI, iLt_ii, asB_bl, decide_eq_false hn, Bool.false_eq_true, if_false, ap_dEnd, ap_dPar, e2, iSub_ii, par2_two, List.set_cons_succ, List.set_cons_zero, e3, decide_eq_true h, ap_dRet, ap_dNon]
theorem first_some (ls : List Ly) (ok : ∀ l ∈ ls, l.Ok) (hw : ∀ l ∈ ls, FC.W l) (hl : ls.length ≤ 10) (t : Int) (h0 : 0 ≤ t) (h : t ≤ ta ls (tot ls - 1)) : ∃ n, r_first_attempt_from [Ns ls, .int t] = .ok (.int n) none ∧ First ls t n := by
  have e1 := check_ok ls ok
  have e2 := total_ok ls ok (by omega)
  have tp := tot_pos ok
  have tl := tot_lt ok
  have e3 := timeat_ok ls (tot ls - 1) ok hw (by omega) (by omega) (by omega)
  have hp : (2 : Int) ^ (70 * ls.length + 1) ≤ 2 ^ 1099 := by
    have := Nat.pow_le_pow_right (n := 2) (by omega) (show 70 * ls.length + 1 ≤ 1099 by omega)
    exact_mod_cast this
  obtain ⟨n, x', e4, hf⟩ := search ls ok hw (by omega) t 1099 0 (tot ls - 1) none (by omega) (by omega) (by omega) h (fun m a b => by omega) (by omega)
  refine ⟨n, ?_, hf⟩
  refine runF_rt rfl (r := [some (Ns ls), some (.int t), some (.int n), some (.int n), x']) ?_
  show d_first_attempt_from [some (Ns ls), some (.int t), none, none, none] = _
  have hn : ¬ t < 0 := by omega
  have hm : ¬ ta ls (tot ls - 1) < t := by omega
  rw [show d_first_attempt_from = dSeq (dExpr (dFn 1 r_check_nesting (dCons (dVar 0) dNil))) (dSeq (dIf (dB (d2 iLt (dVar 1) (dI 0))) dNo dEnd) (dSeq (dPar 2 3 (dCons (dI 0) (dCons (d2 iSub (dFn 1 r_total_of (dCons (dVar 0) dNil)) (dI 1)) dNil)))
    (dSeq (dIf (dB (d2 iLt (dFn 2 r_time_at (dCons (dVar 0) (dCons (dVar 3) dNil))) (dVar 1))) (dRet dNon) dEnd) (dSeq (whileD cS bS (1099 + 1)) (dRet (dVar 2)))))) from rfl]
  have q : dSeq (dExpr (dFn 1 r_check_nesting (dCons (dVar 0) dNil))) (dSeq (dIf (dB (d2 iLt (dVar 1) (dI 0))) dNo dEnd) (dSeq (dPar 2 3 (dCons (dI 0) (dCons (d2 iSub (dFn 1 r_total_of (dCons (dVar 0) dNil)) (dI 1)) dNil)))
    (dIf (dB (d2 iLt (dFn 2 r_time_at (dCons (dVar 0) (dCons (dVar 3) dNil))) (dVar 1))) (dRet dNon) dEnd))) [some (Ns ls), some (.int t), none, none, none] = .nx [some (Ns ls), some (.int t), some (.int 0), some (.int (tot ls - 1)), none] := by
    simp only [ap_dSeq, ap_dExpr, ap_dFn, ap_dCons, ap_dVar, rget0, rgetS, lift_some, ap_dNil, R.bind_ok, List.length_cons, List.length_nil, Nat.zero_add, Nat.reduceAdd, if_true, e1, ofDR_ok, R.then_ok, ap_dIf, ap_dB, ap_d2, ap_dI, iLt_ii, asB_bl, decide_eq_false hn, Bool.false_eq_true, if_false, ap_dEnd, ap_dPar, e2, iSub_ii, par2_two, List.set_cons_succ, List.set_cons_zero, e3, decide_eq_false hm]
  have assoc : ∀ (f g h k m : Rho → SO) (r : Rho), dSeq f (dSeq g (dSeq h (dSeq k m))) r = dSeq (dSeq f (dSeq g (dSeq h k))) m r := fun f g h k m r => by
    simp only [ap_dSeq]
    cases f r with
    | nx r1 =>
      simp only
      cases g r1 with
      | nx r2 =>
        simp only
        cases h r2 <;> rfl
      | _ => rfl
    | _ => rfl
  rw [assoc, seq_eq q, seq_eq e4]
  rfl
theorem first_uniq {ls : List Ly} {t n m : Int} (h1 : First ls t n) (h2 : First ls t m) : n = m := by
  obtain ⟨a1, a2, a3, a4⟩ := h1
  obtain ⟨b1, b2, b3, b4⟩ := h2
  by_cases h : n < m
  · have := b4 n a1 h; omega
  · by_cases h' : m < n
    · have := a4 m b1 h'; omega
    · omega
/-- the attempt's place in every layer -/
def splt : List Ly → Int → List Int
  | [], _ => []
  | l :: ls, n => n % l.size :: splt ls (n / l.size)
theorem splt_len : ∀ (ls : List Ly) (n : Int), (splt ls n).length = ls.length
  | [], _ => rfl
  | _ :: ls, n => congrArg (· + 1) (splt_len ls _)
theorem splt_dig : ∀ (ls : List Ly) (n : Int), (∀ l ∈ ls, l.Ok) → Dig ls (splt ls n)
  | [], _, _ => trivial
  | l :: ls, n, ok => by
    have hp := (ok l List.mem_cons_self).pos
    exact ⟨⟨Int.emod_nonneg _ (by omega), Int.emod_lt_of_pos _ (by omega)⟩, splt_dig ls _ fun x hx => ok x (List.mem_cons_of_mem _ hx)⟩
theorem splt_num : ∀ (ls : List Ly) (n : Int), (∀ l ∈ ls, l.Ok) → 0 ≤ n → n < tot ls → num ls (splt ls n) = n
  | [], n, _, h0, h1 => by have : n < 1 := h1; show (0 : Int) = n; omega
  | l :: ls, n, ok, h0, h1 => by
    have hp := (ok l List.mem_cons_self).pos
    have h1' : n < l.size * tot ls := h1
    have ih := splt_num ls (n / l.size) (fun x hx => ok x (List.mem_cons_of_mem _ hx)) (Int.ediv_nonneg h0 (by omega)) (Int.ediv_lt_of_lt_mul (by omega) (by rw [Int.mul_comm]; exact h1'))
    show n % l.size + l.size * num ls (splt ls (n / l.size)) = n
    rw [ih]
    exact Int.emod_add_mul_ediv n l.size
noncomputable abbrev sBody : Rho → SO := dSeq (dAsg (gTup 2 (gCons' (gSet 1) (gCons' (gSet 4) gNil'))) (dN pDivmod (dCons (dVar 1) (dCons (dFn 1 r__law_size (dCons (dVar 3) dNil)) dNil)))) (dExpr (dMut 2 hAppend (dCons (dVar 4) dNil)))
theorem splt_loop : ∀ (ls : List Ly) (n : Int) (acc : List Int) (a x y : Option D), (∀ l ∈ ls, l.Ok) → acc.length + ls.length ≤ 1000 → ∃ r1 r2 r3, loopD (gSet 3) sBody (ls.map Ly.d) [a, some (.int n), some (iL acc), x, y] = .nx [a, r1, some (iL (acc ++ splt ls n)), r2, r3]
  | [], n, acc, a, x, y, _, _ => ⟨_, _, _, by show SO.nx _ = SO.nx _; rw [show acc ++ splt [] n = acc from List.append_nil acc]⟩
  | l :: ls, n, acc, a, x, y, ok, hl => by
    have okl := ok l List.mem_cons_self
    have hp := okl.pos
    rw [List.length_cons] at hl
    obtain ⟨r1, r2, r3, e⟩ := splt_loop ls (n / l.size) (acc ++ [n % l.size]) a (some l.d) (some (.int (n % l.size))) (fun z hz => ok z (List.mem_cons_of_mem _ hz)) (by rw [List.length_append]; simp only [List.length_cons, List.length_nil]; omega)
    refine ⟨r1, r2, r3, ?_⟩
    have e1 := lsize_ok l
    have e2 : pDivmod [.int n, .int l.size] = some (.tup [.int (n / l.size), .int (n % l.size)]) := if_pos okl.div
    have happ : hAppend (acc.map D.int) [.int (n % l.size)] = some (.non, (acc ++ [n % l.size]).map D.int) := by
      rw [hAppend_ok (by rw [List.length_map]; omega), List.map_append]; rfl
    have eb : sBody [a, some (.int n), some (iL acc), some l.d, y] = .nx [a, some (.int (n / l.size)), some (iL (acc ++ [n % l.size])), some l.d, some (.int (n % l.size))] := by
      simp [e1, e2, happ]
    rw [List.map_cons, loop_nx (r1 := [a, some (.int n), some (iL acc), some l.d, y]) rfl eb, e, List.append_assoc]
    rfl
theorem split_ok (ls : List Ly) (n : Int) (ok : ∀ l ∈ ls, l.Ok) (hl : ls.length ≤ 1000) : r__law_split [Ns ls, .int n] = .ok (iL (splt ls n)) none := by
  obtain ⟨r1, r2, r3, e⟩ := splt_loop ls n [] (some (Ns ls)) none none ok (by simp only [List.length_nil]; omega)
  rw [List.nil_append] at e
  refine runF_rt rfl (r := [some (Ns ls), r1, some (iL (splt ls n)), r2, r3]) ?_
  show d__law_split [some (Ns ls), some (.int n), none, none, none] = _
  rw [show d__law_split = dSeq (dSet 2 (dLst dNil)) (dSeq (dFor (dItL (dVar 0)) (gSet 3) sBody) (dRet (dVar 2))) from rfl]
  have st : dSet 2 (dLst dNil) [some (Ns ls), some (.int n), none, none, none] = .nx [some (Ns ls), some (.int n), some (iL []), none, none] := rfl
  have st2 : dFor (dItL (dVar 0)) (gSet 3) sBody [some (Ns ls), some (.int n), some (iL []), none, none] = .nx [some (Ns ls), r1, some (iL (splt ls n)), r2, r3] := by
    rw [ap_dFor]
    exact e
  rw [seq_eq st, seq_eq st2]
  rfl
/-- the time of an attempt that is split into places -/
theorem tsplit (ls : List Ly) (n : Int) (ok : ∀ l ∈ ls, l.Ok) (hw : ∀ l ∈ ls, FC.W l) (hl : ls.length ≤ 1000) (h0 : 0 ≤ n) (h1 : n < tot ls) : FT.r__law_time [Ns ls, iL (splt ls n)] = .ok (.int (ta ls n)) none := by
  have q := lawtime_ok ls (splt ls n) ok hw (splt_dig ls n ok) hl
  rw [splt_num ls n ok h0 h1] at q
  exact q
theorem fr_ok (ls : List Ly) (ok : ∀ l ∈ ls, l.Ok) (hw : ∀ l ∈ ls, FC.W l) (hl : ls.length ≤ 10) (t : Int) (h0 : 0 ≤ t) : r__law_first_right [Ns ls, .int t, .int (ta ls (tot ls - 1))] = .ok (.bl true) none := by
  by_cases h : ta ls (tot ls - 1) < t
  · have e1 := first_none ls ok hw hl t h0 h
    refine runF_rt rfl (r := [some (Ns ls), some (.int t), some (.int (ta ls (tot ls - 1))), some .non]) ?_
    show d__law_first_right [some (Ns ls), some (.int t), some (.int (ta ls (tot ls - 1))), none] = _
    simp only [d__law_first_right, ap_dSeq, ap_dSet, ap_dFn, ap_dCons, ap_dVar, rget0, rgetS, lift_some, ap_dNil, R.bind_ok, List.length_cons, List.length_nil, Nat.zero_add, Nat.reduceAdd, if_true, e1, ofDR_ok, R.then_ok, List.set_cons_succ, List.set_cons_zero, ap_dIf, ap_dB, ap_d2, iGt_ii, asB_bl, decide_eq_true h, ap_dRet, ap_dNon, pIs_non, isN_non]
  · obtain ⟨n, e1, n0, n1, n2, n3⟩ := first_some ls ok hw hl t h0 (by omega)
    have e2 := split_ok ls n ok (by omega)
    have e3 := tsplit ls n ok hw (by omega) n0 n1
    have hn : ¬ n < 0 := by omega
    have ht : ¬ ta ls n < t := by omega
    refine runF_rt rfl (r := [some (Ns ls), some (.int t), some (.int (ta ls (tot ls - 1))), some (.int n)]) ?_
    show d__law_first_right [some (Ns ls), some (.int t), some (.int (ta ls (tot ls - 1))), none] = _
    by_cases hz : n = 0
    · have e4 : qEq (.int n) (.int 0) = some (.bl true) := by rw [qEq_int, decide_eq_true hz]
      simp only [d__law_first_right, ap_dSeq, ap_dSet, ap_dFn, ap_dCons, ap_dVar, rget0, rgetS, lift_some, ap_dNil, R.bind_ok, List.length_cons, List.length_nil, Nat.zero_add, Nat.reduceAdd, if_true, e1, ofDR_ok, R.then_ok, List.set_cons_succ, List.set_cons_zero, ap_dIf, ap_dB, ap_d2, iGt_ii, asB_bl, decide_eq_false h, Bool.false_eq_true, if_false, ap_dEnd, ap_dOrB, ap_dNon, pIs_non, isN_int, ap_dI, iLt_ii, decide_eq_false hn, e2, e3, decide_eq_false ht, ap_dRet, ap_dOr, e4]
    · have e4 : qEq (.int n) (.int 0) = some (.bl false) := by rw [qEq_int, decide_eq_false hz]
      have e5 := split_ok ls (n - 1) ok (by omega)
      have e6 := tsplit ls (n - 1) ok hw (by omega) (by omega) (by omega)
      have h7 := n3 (n - 1) (by omega) (by omega)
      simp only [d__law_first_right, ap_dSeq, ap_dSet, ap_dFn, ap_dCons, ap_dVar, rget0, rgetS, lift_some, ap_dNil, R.bind_ok, List.length_cons, List.length_nil, Nat.zero_add, Nat.reduceAdd, if_true, e1, ofDR_ok, R.then_ok, List.set_cons_succ, List.set_cons_zero, ap_dIf, ap_dB, ap_d2, iGt_ii, asB_bl, decide_eq_false h, Bool.false_eq_true, if_false, ap_dEnd, ap_dOrB, ap_dNon, pIs_non, isN_int, ap_dI, iLt_ii, decide_eq_false hn, e2, e3, decide_eq_false ht, ap_dRet, ap_dOr, e4, iSub_ii, e5, e6, decide_eq_true h7]
end FS

namespace Lk21
open PySem PySem.Spec PyProof.Rows L2 VL
def topS (i : Nat) : Stmt := PySem.Challenge.pw_retrynest_k21_first_attempts_of_long_nes.main.body.getD i (.Pass ⟨0, 0, 0, 0⟩)
abbrev st__law_pool : Stmt := topS 14
theorem sc__law_pool : FnScope ["script", "at", "cell"] ["script", "at"] (defScope st__law_pool) := ⟨rfl, rfl, rfl, by decide +kernel, rfl, by decide +kernel, by decide +kernel⟩
abbrev st_is_layer : Stmt := topS 5
theorem sc_is_layer : FnScope ["layer", "wait"] ["layer"] (defScope st_is_layer) := ⟨rfl, rfl, rfl, by decide +kernel, rfl, by decide +kernel, by decide +kernel⟩
abbrev st_check_nesting : Stmt := topS 6
theorem sc_check_nesting : FnScope ["nesting", "index", "layer"] ["nesting"] (defScope st_check_nesting) := ⟨rfl, rfl, rfl, by decide +kernel, rfl, by decide +kernel, by decide +kernel⟩
abbrev st_size_of : Stmt := topS 7
theorem sc_size_of : FnScope ["layer"] ["layer"] (defScope st_size_of) := ⟨rfl, rfl, rfl, by decide +kernel, rfl, by decide +kernel, by decide +kernel⟩
abbrev st_time_in : Stmt := topS 10
theorem sc_time_in : FnScope ["layer", "attempt"] ["layer", "attempt"] (defScope st_time_in) := ⟨rfl, rfl, rfl, by decide +kernel, rfl, by decide +kernel, by decide +kernel⟩
abbrev st_time_at : Stmt := topS 11
theorem sc_time_at : FnScope ["nesting", "attempt", "total", "rest", "layer", "size", "inner"] ["nesting", "attempt"] (defScope st_time_at) := ⟨rfl, rfl, rfl, by decide +kernel, rfl, by decide +kernel, by decide +kernel⟩
abbrev st_total_of : Stmt := topS 8
theorem sc_total_of : FnScope ["nesting", "total", "layer"] ["nesting"] (defScope st_total_of) := ⟨rfl, rfl, rfl, by decide +kernel, rfl, by decide +kernel, by decide +kernel⟩
abbrev st_first_attempt_from : Stmt := topS 12
theorem sc_first_attempt_from : FnScope ["nesting", "time", "low", "high", "middle"] ["nesting", "time"] (defScope st_first_attempt_from) := ⟨rfl, rfl, rfl, by decide +kernel, rfl, by decide +kernel, by decide +kernel⟩
abbrev st__law_draw : Stmt := topS 15
theorem sc__law_draw : FnScope ["pool", "many", "mixed", "drawn"] ["pool", "many"] (defScope st__law_draw) := ⟨rfl, rfl, rfl, by decide +kernel, rfl, by decide +kernel, by decide +kernel⟩
abbrev st__law_wait : Stmt := topS 17
theorem sc__law_wait : FnScope ["pool"] ["pool"] (defScope st__law_wait) := ⟨rfl, rfl, rfl, by decide +kernel, rfl, by decide +kernel, by decide +kernel⟩
abbrev st__law_tier : Stmt := topS 18
theorem sc__law_tier : FnScope ["pool", "most", "kinds", "turn"] ["pool", "most"] (defScope st__law_tier) := ⟨rfl, rfl, rfl, by decide +kernel, rfl, by decide +kernel, by decide +kernel⟩
abbrev st__law_large : Stmt := topS 20
theorem sc__law_large : FnScope ["pool", "found", "turn"] ["pool"] (defScope st__law_large) := ⟨rfl, rfl, rfl, by decide +kernel, rfl, by decide +kernel, by decide +kernel⟩
abbrev st__law_sum_in : Stmt := topS 21
theorem sc__law_sum_in : FnScope ["tier", "part"] ["tier", "part"] (defScope st__law_sum_in) := ⟨rfl, rfl, rfl, by decide +kernel, rfl, by decide +kernel, by decide +kernel⟩
abbrev st__law_size : Stmt := topS 16
theorem sc__law_size : FnScope ["tier"] ["tier"] (defScope st__law_size) := ⟨rfl, rfl, rfl, by decide +kernel, rfl, by decide +kernel, by decide +kernel⟩
abbrev st__law_time : Stmt := topS 23
theorem sc__law_time : FnScope ["layers", "parts", "found", "whole", "tier", "part"] ["layers", "parts"] (defScope st__law_time) := ⟨rfl, rfl, rfl, by decide +kernel, rfl, by decide +kernel, by decide +kernel⟩
abbrev st__law_parts : Stmt := topS 24
theorem sc__law_parts : FnScope ["pool", "layers", "found", "tier", "size"] ["pool", "layers"] (defScope st__law_parts) := ⟨rfl, rfl, rfl, by decide +kernel, rfl, by decide +kernel, by decide +kernel⟩
abbrev st__law_split : Stmt := topS 25
theorem sc__law_split : FnScope ["layers", "number", "found", "tier", "part"] ["layers", "number"] (defScope st__law_split) := ⟨rfl, rfl, rfl, by decide +kernel, rfl, by decide +kernel, by decide +kernel⟩
abbrev st__law_first_right : Stmt := topS 26
theorem sc__law_first_right : FnScope ["layers", "moment", "end", "told"] ["layers", "moment", "end"] (defScope st__law_first_right) := ⟨rfl, rfl, rfl, by decide +kernel, rfl, by decide +kernel, by decide +kernel⟩
abbrev st__law_number : Stmt := topS 22
theorem sc__law_number : FnScope ["layers", "parts", "number", "inside", "tier", "part"] ["layers", "parts"] (defScope st__law_number) := ⟨rfl, rfl, rfl, by decide +kernel, rfl, by decide +kernel, by decide +kernel⟩
abbrev st__law_right : Stmt := topS 27
theorem sc__law_right : FnScope ["pool", "layers", "end", "far", "moment", "turn", "parts", "other", "tier"] ["pool"] (defScope st__law_right) := ⟨rfl, rfl, rfl, by decide +kernel, rfl, by decide +kernel, by decide +kernel⟩
abbrev st_law : Stmt := topS 28
theorem sc_law : FnScope ["script", "at", "pool", "turn"] ["script"] (defScope st_law) := ⟨rfl, rfl, rfl, by decide +kernel, rfl, by decide +kernel, by decide +kernel⟩
noncomputable def d__law_pool : Rho → SO := dSeq (dSet 2 (dI 0))
  (dSeq (dIf (dB (d2 iLt (dVar 1) (dN pLen (dCons (dVar 0) dNil)))) (dSet 2 (d2 pIx (dVar 0) (dVar 1))) dEnd)
  (dRet (dLst (dCons (dN pMax2 (dCons (dI 0) (dCons (d2 iSub (dN pAbs (dCons (dVar 2) dNil)) (d2 iPow (dI 10) (dI 18))) dNil))) (dCons (d2 iAdd (d2 iMod (dVar 2) (dI 2305843009213693951)) (d2 iMul (dI 5800079) (d2 iAdd (dVar 1) (dI 1)))) (dCons (dI 0) dNil))))))
noncomputable def r__law_pool : List D → DR := runF none 3 2 d__law_pool
noncomputable def d_is_layer : Rho → SO := dSeq (dIf (dB (dN pIsi (dCons (dVar 0) (dCons (dTy "tuple") dNil)))) (dRet (dAnd (d2 iGe (d2 pIx (dVar 0) (dI 0)) (dI 0)) (d2 iGe (d2 pIx (dVar 0) (dI 1)) (dI 1)))) dEnd)
  (dRet (dN pAll (dCons (lcD [1] (dItL (dVar 0)) (gSet 1) dTrue (d2 iGe (dVar 1) (dI 0))) dNil)))
noncomputable def r_is_layer : List D → DR := runF none 2 1 d_is_layer
noncomputable def d_check_nesting : Rho → SO := dFor (dIt enumD (dCons (dVar 0) dNil)) (gTup 2 (gCons' (gSet 1) (gCons' (gSet 2) gNil'))) (dIf (dNotB (dB (dFn 1 r_is_layer (dCons (dVar 2) dNil)))) dNo dEnd)
noncomputable def r_check_nesting : List D → DR := runF none 3 1 d_check_nesting
noncomputable def d_size_of : Rho → SO := dRet (dIfE (dB (dN pIsi (dCons (dVar 0) (dCons (dTy "tuple") dNil)))) (d2 pIx (dVar 0) (dI 1)) (d2 iAdd (dN pLen (dCons (dVar 0) dNil)) (dI 1)))
noncomputable def r_size_of : List D → DR := runF none 1 1 d_size_of
noncomputable def d_time_in : Rho → SO := dRet (dIfE (dB (dN pIsi (dCons (dVar 0) (dCons (dTy "tuple") dNil)))) (d2 iMul (d2 pIx (dVar 0) (dI 0)) (dVar 1)) (dN pSum (dCons (dSl (dVar 0) dONone (dOSome (dVar 1))) dNil)))
noncomputable def r_time_in : List D → DR := runF none 2 2 d_time_in
noncomputable def d_time_at : Rho → SO := dSeq (dSet 2 (dI 0))
  (dSeq (dSet 3 (dVar 1))
  (dSeq (dFor (dItL (dVar 0)) (gSet 4) (dSeq (dSet 5 (dFn 1 r_size_of (dCons (dVar 4) dNil)))
  (dSeq (dAsg (gTup 2 (gCons' (gSet 3) (gCons' (gSet 6) gNil'))) (dN pDivmod (dCons (dVar 3) (dCons (dVar 5) dNil))))
  (dAug 2 iAdd (d2 iAdd (d2 iMul (dVar 3) (dFn 2 r_time_in (dCons (dVar 4) (dCons (d2 iSub (dVar 5) (dI 1)) dNil)))) (dFn 2 r_time_in (dCons (dVar 4) (dCons (dVar 6) dNil))))))))
  (dRet (dVar 2))))
noncomputable def r_time_at : List D → DR := runF none 7 2 d_time_at
noncomputable def d_total_of : Rho → SO := dSeq (dSet 1 (dI 1))
  (dSeq (dFor (dItL (dVar 0)) (gSet 2) (dAug 1 iMul (dFn 1 r_size_of (dCons (dVar 2) dNil))))
  (dRet (dVar 1)))
noncomputable def r_total_of : List D → DR := runF none 3 1 d_total_of
noncomputable def d_first_attempt_from : Rho → SO := dSeq (dExpr (dFn 1 r_check_nesting (dCons (dVar 0) dNil)))
  (dSeq (dIf (dB (d2 iLt (dVar 1) (dI 0))) dNo dEnd)
  (dSeq (dPar 2 3 (dCons (dI 0) (dCons (d2 iSub (dFn 1 r_total_of (dCons (dVar 0) dNil)) (dI 1)) dNil)))
  (dSeq (dIf (dB (d2 iLt (dFn 2 r_time_at (dCons (dVar 0) (dCons (dVar 3) dNil))) (dVar 1))) (dRet dNon) dEnd)
  (dSeq (whileD (dB (d2 iLt (dVar 2) (dVar 3))) (dSeq (dSet 4 (d2 iDiv (d2 iAdd (dVar 2) (dVar 3)) (dI 2)))
  (dIf (dB (d2 iLt (dFn 2 r_time_at (dCons (dVar 0) (dCons (dVar 4) dNil))) (dVar 1))) (dSet 2 (d2 iAdd (dVar 4) (dI 1))) (dSet 3 (dVar 4)))) 1100)
  (dRet (dVar 2))))))
noncomputable def r_first_attempt_from : List D → DR := runF none 5 2 d_first_attempt_from
noncomputable def d__law_draw : Rho → SO := dSeq (dIf (dBorB (dB (d2 iGt (d2 pIx (dVar 0) (dI 0)) (dI 0)))) (dSeq (dSet 3 (dBor 0 (d2 iMod (d2 pIx (dVar 0) (dI 0)) (dVar 1))))
  (dSeq (dSetIx 0 (dBor 0 (d2 iDiv (d2 pIx (dVar 0) (dI 0)) (dVar 1))) (dI 0))
  (dRet (dVar 3)))) dEnd)
  (dSeq (dSetIx 0 (dBor 0 (d2 iAdd (d2 pIx (dVar 0) (dI 2)) (dI 1))) (dI 2))
  (dSeq (dSet 2 (dBor 0 (d2 iMod (d2 iPow (d2 iAdd (d2 pIx (dVar 0) (dI 1)) (d2 iMul (dI 67867979) (d2 pIx (dVar 0) (dI 2)))) (dI 3)) (dI 162259276829213363391578010288127))))
  (dSeq (dSet 2 (dBor 0 (d2 iMod (d2 iPow (d2 iAdd (dVar 2) (d2 iMul (dI 141650939) (d2 pIx (dVar 0) (dI 2)))) (dI 5)) (dI 170141183460469231731687303715884105727))))
  (dRet (d2 iMod (d2 iDiv (dVar 2) (dI 1048576)) (dVar 1))))))
noncomputable def r__law_draw : List D → DR := runF (some 1) 4 2 d__law_draw
noncomputable def d__law_wait : Rho → SO := dRet (d2 pIx (dLst (dCons (dI 0) (dCons (dI 1) (dCons (dI 2) (dCons (dI 5) (dCons (dCallIo 0 2 r__law_draw (dCons (dI 10) dNil)) (dCons (dCallIo 0 2 r__law_draw (dCons (dI 1000) dNil)) (dCons (dCallIo 0 2 r__law_draw (dCons (d2 iPow (dI 10) (dI 12)) dNil)) dNil)))))))) (dCallIo 0 2 r__law_draw (dCons (dI 7) dNil)))
noncomputable def r__law_wait : List D → DR := runF (some 1) 1 1 d__law_wait
noncomputable def d__law_tier : Rho → SO := dSeq (dIf (dB (d2 qEq (dCallIo 0 2 r__law_draw (dCons (dI 2) dNil)) (dI 0))) (dRet (dTup (dCons (dCallIo 0 1 r__law_wait dNil) (dCons (d2 iAdd (dI 1) (dCallIo 0 2 r__law_draw (dCons (dVar 1) dNil))) dNil)))) dEnd)
  (dSeq (dSet 2 (lcD [3] (dIt rng1 (dCons (d2 iAdd (dI 1) (dCallIo 0 2 r__law_draw (dCons (dI 4) dNil))) dNil)) (gSet 3) dTrue (dCallIo 0 1 r__law_wait dNil)))
  (dRet (lcD [3] (dIt rng1 (dCons (dCallIo 0 2 r__law_draw (dCons (dN pMin2 (dCons (dI 60) (dCons (dVar 1) dNil))) dNil)) dNil)) (gSet 3) dTrue (d2 pIx (dVar 2) (dCallIo 0 2 r__law_draw (dCons (dN pLen (dCons (dVar 2) dNil)) dNil))))))
noncomputable def r__law_tier : List D → DR := runF (some 1) 4 2 d__law_tier
noncomputable def d__law_large : Rho → SO := dSeq (dSet 1 (dLst dNil))
  (dSeq (dFor (dIt rng1 (dCons (d2 iAdd (dI 1) (dCallIo 0 2 r__law_draw (dCons (dI 8) dNil))) dNil)) (gSet 2) (dExpr (dMut 1 hAppend (dCons (dCallIo 0 2 r__law_tier (dCons (d2 pIx (dLst (dCons (dI 3) (dCons (dI 61) (dCons (d2 iSub (d2 iPow (dI 10) (dI 20)) (dI 1)) dNil)))) (dCallIo 0 2 r__law_draw (dCons (dI 3) dNil))) dNil)) dNil))))
  (dRet (dVar 1)))
noncomputable def r__law_large : List D → DR := runF (some 1) 3 1 d__law_large
noncomputable def d__law_sum_in : Rho → SO := dRet (dIfE (dB (dN pIsi (dCons (dVar 0) (dCons (dTy "tuple") dNil)))) (d2 iMul (d2 pIx (dVar 0) (dI 0)) (dVar 1)) (dN pSum (dCons (dSl (dVar 0) dONone (dOSome (dVar 1))) dNil)))
noncomputable def r__law_sum_in : List D → DR := runF none 2 2 d__law_sum_in
noncomputable def d__law_size : Rho → SO := dRet (dIfE (dB (dN pIsi (dCons (dVar 0) (dCons (dTy "tuple") dNil)))) (d2 pIx (dVar 0) (dI 1)) (d2 iAdd (dN pLen (dCons (dVar 0) dNil)) (dI 1)))
noncomputable def r__law_size : List D → DR := runF none 1 1 d__law_size
noncomputable def d__law_time : Rho → SO := dSeq (dAsg (gTup 2 (gCons' (gSet 2) (gCons' (gSet 3) gNil'))) (dTup (dCons (dI 0) (dCons (dI 0) dNil))))
  (dSeq (dFor (dIt zipD (dCons (dVar 0) (dCons (dVar 1) dNil))) (gTup 2 (gCons' (gSet 4) (gCons' (gSet 5) gNil'))) (dSeq (dSet 2 (d2 iAdd (d2 iAdd (dVar 2) (d2 iMul (dVar 5) (dVar 3))) (dFn 2 r__law_sum_in (dCons (dVar 4) (dCons (dVar 5) dNil)))))
  (dSet 3 (d2 iAdd (d2 iMul (dFn 1 r__law_size (dCons (dVar 4) dNil)) (dVar 3)) (dFn 2 r__law_sum_in (dCons (dVar 4) (dCons (d2 iSub (dFn 1 r__law_size (dCons (dVar 4) dNil)) (dI 1)) dNil)))))))
  (dRet (dVar 2)))
noncomputable def r__law_time : List D → DR := runF none 6 2 d__law_time
noncomputable def d__law_parts : Rho → SO := dSeq (dSet 2 (dLst dNil))
  (dSeq (dFor (dItL (dVar 1)) (gSet 3) (dSeq (dSet 4 (dFn 1 r__law_size (dCons (dVar 3) dNil)))
  (dExpr (dMut 2 hAppend (dCons (d2 pIx (dLst (dCons (dI 0) (dCons (d2 iSub (dVar 4) (dI 1)) (dCons (dCallIo 0 2 r__law_draw (dCons (dVar 4) dNil)) (dCons (dCallIo 0 2 r__law_draw (dCons (dVar 4) dNil)) dNil))))) (dCallIo 0 2 r__law_draw (dCons (dI 4) dNil))) dNil)))))
  (dRet (dVar 2)))
noncomputable def r__law_parts : List D → DR := runF (some 1) 5 2 d__law_parts
noncomputable def d__law_split : Rho → SO := dSeq (dSet 2 (dLst dNil))
  (dSeq (dFor (dItL (dVar 0)) (gSet 3) (dSeq (dAsg (gTup 2 (gCons' (gSet 1) (gCons' (gSet 4) gNil'))) (dN pDivmod (dCons (dVar 1) (dCons (dFn 1 r__law_size (dCons (dVar 3) dNil)) dNil))))
  (dExpr (dMut 2 hAppend (dCons (dVar 4) dNil)))))
  (dRet (dVar 2)))
noncomputable def r__law_split : List D → DR := runF none 5 2 d__law_split
noncomputable def d__law_first_right : Rho → SO := dSeq (dSet 3 (dFn 2 r_first_attempt_from (dCons (dVar 0) (dCons (dVar 1) dNil))))
  (dSeq (dIf (dB (d2 iGt (dVar 1) (dVar 2))) (dRet (d2 pIs (dVar 3) dNon)) dEnd)
  (dSeq (dIf (dOrB (dB (d2 pIs (dVar 3) dNon)) (dOrB (dB (d2 iLt (dVar 3) (dI 0))) (dB (d2 iLt (dFn 2 r__law_time (dCons (dVar 0) (dCons (dFn 2 r__law_split (dCons (dVar 0) (dCons (dVar 3) dNil))) dNil))) (dVar 1))))) (dRet (dBl false)) dEnd)
  (dRet (dOr (d2 qEq (dVar 3) (dI 0)) (d2 iLt (dFn 2 r__law_time (dCons (dVar 0) (dCons (dFn 2 r__law_split (dCons (dVar 0) (dCons (d2 iSub (dVar 3) (dI 1)) dNil))) dNil))) (dVar 1))))))
noncomputable def r__law_first_right : List D → DR := runF none 4 3 d__law_first_right
noncomputable def d__law_number : Rho → SO := dSeq (dAsg (gTup 2 (gCons' (gSet 2) (gCons' (gSet 3) gNil'))) (dTup (dCons (dI 0) (dCons (dI 1) dNil))))
  (dSeq (dFor (dIt zipD (dCons (dVar 0) (dCons (dVar 1) dNil))) (gTup 2 (gCons' (gSet 4) (gCons' (gSet 5) gNil'))) (dSeq (dSet 2 (d2 iAdd (dVar 2) (d2 iMul (dVar 5) (dVar 3))))
  (dSet 3 (d2 iMul (dVar 3) (dFn 1 r__law_size (dCons (dVar 4) dNil))))))
  (dRet (dVar 2)))
noncomputable def r__law_number : List D → DR := runF none 6 2 d__law_number
noncomputable def d__law_right : Rho → SO := dSeq (dSet 1 (dCallIo 0 1 r__law_large dNil))
  (dSeq (dSet 2 (dFn 2 r__law_time (dCons (dVar 1) (dCons (lcD [8] (dItL (dVar 1)) (gSet 8) dTrue (d2 iSub (dFn 1 r__law_size (dCons (dVar 8) dNil)) (dI 1))) dNil))))
  (dSeq (dSet 3 (d2 iAdd (dVar 2) (dCallIo 0 2 r__law_draw (dCons (d2 iMul (d2 iMul (d2 iMul (d2 iPow (dI 10) (dI 60)) (d2 iPow (dI 10) (dI 60))) (d2 iPow (dI 10) (dI 60))) (d2 iPow (dI 10) (dI 30))) dNil))))
  (dSeq (dFor (dItL (dLst (dCons (dI 0) (dCons (dI 1) (dCons (dVar 2) (dCons (d2 iAdd (dVar 2) (dI 1)) (dCons (dVar 3) (dCons (dCallIo 0 2 r__law_draw (dCons (d2 iAdd (dVar 2) (dI 1)) dNil)) dNil)))))))) (gSet 4) (dIf (dNotB (dB (dFn 3 r__law_first_right (dCons (dVar 1) (dCons (dVar 4) (dCons (dVar 2) dNil)))))) (dRet (dBl false)) dEnd))
  (dSeq (dFor (dIt rng1 (dCons (dI 2) dNil)) (gSet 5) (dSeq (dSet 6 (dCallIo 0 2 r__law_parts (dCons (dVar 1) dNil)))
  (dSeq (dSet 4 (dFn 2 r__law_time (dCons (dVar 1) (dCons (dVar 6) dNil))))
  (dSeq (dIf (dB (d2 iGt (dFn 2 r_first_attempt_from (dCons (dVar 1) (dCons (dVar 4) dNil))) (dFn 2 r__law_number (dCons (dVar 1) (dCons (dVar 6) dNil))))) (dRet (dBl false)) dEnd)
  (dFor (dItL (dLst (dCons (dVar 4) (dCons (d2 iAdd (dVar 4) (dI 1)) (dCons (dN pMax2 (dCons (dI 0) (dCons (d2 iSub (dVar 4) (dI 1)) dNil))) dNil))))) (gSet 7) (dIf (dNotB (dB (dFn 3 r__law_first_right (dCons (dVar 1) (dCons (dVar 7) (dCons (dVar 2) dNil)))))) (dRet (dBl false)) dEnd))))))
  (dRet (dBl true))))))
noncomputable def r__law_right : List D → DR := runF (some 1) 9 1 d__law_right
noncomputable def d_law : Rho → SO := dSeq (dFor (dIt rng1 (dCons (dN pMax2 (dCons (dI 1) (dCons (dN pMin2 (dCons (dI 5) (dCons (dN pLen (dCons (dVar 0) dNil)) dNil))) dNil))) dNil)) (gSet 1) (dSeq (dSet 2 (dFn 2 r__law_pool (dCons (dVar 0) (dCons (dVar 1) dNil))))
  (dFor (dIt rng1 (dCons (dI 2) dNil)) (gSet 3) (dIf (dNotB (dB (dCallIo 2 1 r__law_right dNil))) (dRet (dBl false)) dEnd))))
  (dRet (dAnd (d2 pIs (dFn 2 r_first_attempt_from (dCons (dLst dNil) (dCons (dI 1) dNil))) dNon) (d2 qEq (dFn 2 r_first_attempt_from (dCons (dLst dNil) (dCons (dI 0) dNil))) (dI 0))))
noncomputable def r_law : List D → DR := runF none 4 1 d_law
structure Fs (K : PySem.W.Frag) (mg : Str → Option Value) where
  f__law_pool : Addr
  fd__law_pool : FuncData
  F__law_pool : Fun K "_law_pool" "_law_pool" st__law_pool f__law_pool fd__law_pool
  g__law_pool : mg "_law_pool" = some (.ref f__law_pool)
  b__law_pool : Binds K fd__law_pool ["script", "at"] []
  f_is_layer : Addr
  fd_is_layer : FuncData
  F_is_layer : Fun K "is_layer" "is_layer" st_is_layer f_is_layer fd_is_layer
  g_is_layer : mg "is_layer" = some (.ref f_is_layer)
  b_is_layer : Binds K fd_is_layer ["layer"] []
  f_check_nesting : Addr
  fd_check_nesting : FuncData
  F_check_nesting : Fun K "check_nesting" "check_nesting" st_check_nesting f_check_nesting fd_check_nesting
  g_check_nesting : mg "check_nesting" = some (.ref f_check_nesting)
  b_check_nesting : Binds K fd_check_nesting ["nesting"] []
  f_size_of : Addr
  fd_size_of : FuncData
  F_size_of : Fun K "size_of" "size_of" st_size_of f_size_of fd_size_of
  g_size_of : mg "size_of" = some (.ref f_size_of)
  b_size_of : Binds K fd_size_of ["layer"] []
  f_time_in : Addr
  fd_time_in : FuncData
  F_time_in : Fun K "time_in" "time_in" st_time_in f_time_in fd_time_in
  g_time_in : mg "time_in" = some (.ref f_time_in)
  b_time_in : Binds K fd_time_in ["layer", "attempt"] []
  f_time_at : Addr
  fd_time_at : FuncData
  F_time_at : Fun K "time_at" "time_at" st_time_at f_time_at fd_time_at
  g_time_at : mg "time_at" = some (.ref f_time_at)
  b_time_at : Binds K fd_time_at ["nesting", "attempt"] []
  f_total_of : Addr
  fd_total_of : FuncData
  F_total_of : Fun K "total_of" "total_of" st_total_of f_total_of fd_total_of
  g_total_of : mg "total_of" = some (.ref f_total_of)
  b_total_of : Binds K fd_total_of ["nesting"] []
  f_first_attempt_from : Addr
  fd_first_attempt_from : FuncData
  F_first_attempt_from : Fun K "first_attempt_from" "first_attempt_from" st_first_attempt_from f_first_attempt_from fd_first_attempt_from
  g_first_attempt_from : mg "first_attempt_from" = some (.ref f_first_attempt_from)
  b_first_attempt_from : Binds K fd_first_attempt_from ["nesting", "time"] []
  f__law_draw : Addr
  fd__law_draw : FuncData
  F__law_draw : Fun K "_law_draw" "_law_draw" st__law_draw f__law_draw fd__law_draw
  g__law_draw : mg "_law_draw" = some (.ref f__law_draw)
  b__law_draw : Binds K fd__law_draw ["pool", "many"] []
  f__law_wait : Addr
  fd__law_wait : FuncData
  F__law_wait : Fun K "_law_wait" "_law_wait" st__law_wait f__law_wait fd__law_wait
  g__law_wait : mg "_law_wait" = some (.ref f__law_wait)
  b__law_wait : Binds K fd__law_wait ["pool"] []
  f__law_tier : Addr
  fd__law_tier : FuncData
  F__law_tier : Fun K "_law_tier" "_law_tier" st__law_tier f__law_tier fd__law_tier
  g__law_tier : mg "_law_tier" = some (.ref f__law_tier)
  b__law_tier : Binds K fd__law_tier ["pool", "most"] []
  f__law_large : Addr
  fd__law_large : FuncData
  F__law_large : Fun K "_law_large" "_law_large" st__law_large f__law_large fd__law_large
  g__law_large : mg "_law_large" = some (.ref f__law_large)
  b__law_large : Binds K fd__law_large ["pool"] []
  f__law_sum_in : Addr
  fd__law_sum_in : FuncData
  F__law_sum_in : Fun K "_law_sum_in" "_law_sum_in" st__law_sum_in f__law_sum_in fd__law_sum_in
  g__law_sum_in : mg "_law_sum_in" = some (.ref f__law_sum_in)
  b__law_sum_in : Binds K fd__law_sum_in ["tier", "part"] []
  f__law_size : Addr
  fd__law_size : FuncData
  F__law_size : Fun K "_law_size" "_law_size" st__law_size f__law_size fd__law_size
  g__law_size : mg "_law_size" = some (.ref f__law_size)
  b__law_size : Binds K fd__law_size ["tier"] []
  f__law_time : Addr
  fd__law_time : FuncData
  F__law_time : Fun K "_law_time" "_law_time" st__law_time f__law_time fd__law_time
  g__law_time : mg "_law_time" = some (.ref f__law_time)
  b__law_time : Binds K fd__law_time ["layers", "parts"] []
  f__law_parts : Addr
  fd__law_parts : FuncData
  F__law_parts : Fun K "_law_parts" "_law_parts" st__law_parts f__law_parts fd__law_parts
  g__law_parts : mg "_law_parts" = some (.ref f__law_parts)
  b__law_parts : Binds K fd__law_parts ["pool", "layers"] []
  f__law_split : Addr
  fd__law_split : FuncData
  F__law_split : Fun K "_law_split" "_law_split" st__law_split f__law_split fd__law_split
  g__law_split : mg "_law_split" = some (.ref f__law_split)
  b__law_split : Binds K fd__law_split ["layers", "number"] []
  f__law_first_right : Addr
  fd__law_first_right : FuncData
  F__law_first_right : Fun K "_law_first_right" "_law_first_right" st__law_first_right f__law_first_right fd__law_first_right
  g__law_first_right : mg "_law_first_right" = some (.ref f__law_first_right)
  b__law_first_right : Binds K fd__law_first_right ["layers", "moment", "end"] []
  f__law_number : Addr
  fd__law_number : FuncData
  F__law_number : Fun K "_law_number" "_law_number" st__law_number f__law_number fd__law_number
  g__law_number : mg "_law_number" = some (.ref f__law_number)
  b__law_number : Binds K fd__law_number ["layers", "parts"] []
  f__law_right : Addr
  fd__law_right : FuncData
  F__law_right : Fun K "_law_right" "_law_right" st__law_right f__law_right fd__law_right
  g__law_right : mg "_law_right" = some (.ref f__law_right)
  b__law_right : Binds K fd__law_right ["pool"] []
  f_law : Addr
  fd_law : FuncData
  F_law : Fun K "law" "law" st_law f_law fd_law
  g_law : mg "law" = some (.ref f_law)
  b_law : Binds K fd_law ["script"] []
  z_abs : mg "abs" = none
  z_all : mg "all" = none
  z_divmod : mg "divmod" = none
  z_enumerate : mg "enumerate" = none
  z_isinstance : mg "isinstance" = none
  z_len : mg "len" = none
  z_max : mg "max" = none
  z_min : mg "min" = none
  z_range : mg "range" = none
  z_sum : mg "sum" = none
  z_tuple : mg "tuple" = none
  z_zip : mg "zip" = none
section
variable {P : Program} {w : World} {K : PySem.W.Frag} {mg : Str → Option Value} {base : Heap}
theorem ok__law_pool (E : Fs K mg) : FnV P w K mg base 1 E.f__law_pool E.fd__law_pool ["script", "at"] none 1 r__law_pool :=
  by
  refine fnv_mk (P := P) (w := w) (base := base) (N := ["script", "at", "cell"]) (io := none) (kr := 1) (k := 0) (body := d__law_pool) 3 2 [0, 0, 0] [0, 0, 0] E.F__law_pool sc__law_pool rfl rfl rfl (.inl rfl) (by decide) (fun X EX hX gd hr pf hp => ?_) (fun _ h => nomatch h)
  obtain ⟨cdv, A, outer, s, H, rfl⟩ := hX
  exact k_cons (s_set (k := 0) 2 sc__law_pool.nd (w_v_int (k := 0)))
      (k_cons (s_if (b_cmp (v_var 1) (v_callB (k := 0) (w_l_cons (v_var 0) (w_l_nil (k := 0))) call_len n_len (by rfl) E.z_len PySem.boot_len) op_lt p_lt) (k_one (s_set (k := 0) 2 sc__law_pool.nd (v_ix (v_var 0) (v_var 1) ix_seq p_ix))) w_k_nil)
      (k_one (w_s_ret (w_v_lst (w_l_cons (v_callB (k := 0) (w_l_cons (w_v_int (k := 0)) (w_l_cons (v_op (k := 0) (v_callB (k := 0) (w_l_cons (v_var 2) (w_l_nil (k := 0))) call_abs n_abs (by rfl) E.z_abs PyProof.Rows.boot_abs) (v_op (k := 0) (w_v_int (k := 0)) (w_v_int (k := 0)) op_powV p_pow) op_sub p_sub) (w_l_nil (k := 0)))) (call_max2 (by rfl)) n_max2 (by rfl) E.z_max PyProof.Rows.boot_max) (w_l_cons (v_op (k := 0) (v_op (k := 0) (v_var 2) (w_v_int (k := 0)) op_mod p_mod) (v_op (k := 0) (w_v_int (k := 0)) (v_op (k := 0) (v_var 1) (w_v_int (k := 0)) op_add p_add) op_mulV p_mul) op_add p_add) (w_l_cons (w_v_int (k := 0)) (w_l_nil (k := 0)))))))))
theorem ok_is_layer (E : Fs K mg) : FnV P w K mg base 1 E.f_is_layer E.fd_is_layer ["layer"] none 0 r_is_layer :=
  by
  refine fnv_mk (P := P) (w := w) (base := base) (N := ["layer", "wait"]) (io := none) (kr := 0) (k := 0) (body := d_is_layer) 2 1 [0, 0] [0, 0] E.F_is_layer sc_is_layer rfl rfl rfl (.inl rfl) (by decide) (fun X EX hX gd hr pf hp => ?_) (fun _ h => nomatch h)
  obtain ⟨cdv, A, outer, s, H, rfl⟩ := hX
  exact k_cons (s_if (b_val (v_callB (k := 0) (w_l_cons (v_var 0) (w_l_cons (w_v_bltn (k := 0) (by rfl) E.z_tuple PyProof.Rows.boot_tuple) (w_l_nil (k := 0)))) call_isi n_isi (by rfl) E.z_isinstance PyProof.Rows.boot_isinstance)) (k_one (w_s_ret (w_v_and (v_cmp (k := 0) (v_ix (v_var 0) (w_v_int (k := 0)) ix_seq p_ix) (w_v_int (k := 0)) op_ge p_ge) (v_one (v_cmp (k := 0) (v_ix (v_var 0) (w_v_int (k := 0)) ix_seq p_ix) (w_v_int (k := 0)) op_ge p_ge))))) w_k_nil)
      (k_one (w_s_ret (v_callB (k := 0) (w_l_cons (PV.weak (k := 1) (k1 := 0) (v_lc (Gt := [0, 0]) (Gs := [0, 0]) (Gn := [0, 0]) (k := 0) [0, 0] [("wait", 1)] (by rfl) sc_is_layer.nd (w_it_list (v_var 0)) (blkOk_by (by rfl)) (fun s H C cl fp => by exact to_name 1 sc_is_layer.nd) (fun s H C cl fp => by exact w_t_nil) (fun s H C cl fp => by exact v_cmp (k := 0) (v_var 1) (w_v_int (k := 0)) op_ge p_ge)) (by decide)) (w_l_nil (k := 0))) (cr_all (by rfl)) n_all (by rfl) E.z_all PyProof.Rows.boot_all)))
theorem ok_check_nesting (E : Fs K mg) : FnV P w K mg base 2 E.f_check_nesting E.fd_check_nesting ["nesting"] none 0 r_check_nesting :=
  by
  refine fnv_mk (P := P) (w := w) (base := base) (N := ["nesting", "index", "layer"]) (io := none) (kr := 0) (k := 1) (body := d_check_nesting) 3 1 [0, 0, 0] [0, 0, 0] E.F_check_nesting sc_check_nesting rfl rfl rfl (.inl rfl) (by decide) (fun X EX hX gd hr pf hp => ?_) (fun _ h => nomatch h)
  obtain ⟨cdv, A, outer, s, H, rfl⟩ := hX
  exact k_one (w_s_for (Gn := [0, 0, 0]) [0, 0, 0] hp (by rfl) (w_it_enum (w_l_cons (v_var 0) (w_l_nil (k := 0))) (by rfl) E.z_enumerate) (w_g_tup (n := 2) (by rfl) (gs_cons (g_name 1 sc_check_nesting.nd) (gs_cons (g_name 2 sc_check_nesting.nd) gs_nil))) (k_one (s_if (w_b_not (b_val (w_v_call (ok_is_layer E) (by exact gd) (by exact hr.mono (j := 1) (by decide)) E.g_is_layer E.F_is_layer.kp E.b_is_layer (by exact pf) (w_l_cons (v_var 2) (w_l_nil (k := 0)))))) (k_one w_s_never) w_k_nil)))
theorem ok_size_of (E : Fs K mg) : FnV P w K mg base 1 E.f_size_of E.fd_size_of ["layer"] none 0 r_size_of :=
  by
  refine fnv_mk (P := P) (w := w) (base := base) (N := ["layer"]) (io := none) (kr := 0) (k := 0) (body := d_size_of) 1 1 [0] [0] E.F_size_of sc_size_of rfl rfl rfl (.inl rfl) (by decide) (fun X EX hX gd hr pf hp => ?_) (fun _ h => nomatch h)
  obtain ⟨cdv, A, outer, s, H, rfl⟩ := hX
  exact k_one (w_s_ret (w_v_if (b_val (v_callB (k := 0) (w_l_cons (v_var 0) (w_l_cons (w_v_bltn (k := 0) (by rfl) E.z_tuple PyProof.Rows.boot_tuple) (w_l_nil (k := 0)))) call_isi n_isi (by rfl) E.z_isinstance PyProof.Rows.boot_isinstance)) (v_ix (v_var 0) (w_v_int (k := 0)) ix_seq p_ix) (v_op (k := 0) (v_callB (k := 0) (w_l_cons (v_var 0) (w_l_nil (k := 0))) call_len n_len (by rfl) E.z_len PySem.boot_len) (w_v_int (k := 0)) op_add p_add)))
theorem ok_time_in (E : Fs K mg) : FnV P w K mg base 1 E.f_time_in E.fd_time_in ["layer", "attempt"] none 0 r_time_in :=
  by
  refine fnv_mk (P := P) (w := w) (base := base) (N := ["layer", "attempt"]) (io := none) (kr := 0) (k := 0) (body := d_time_in) 2 2 [0, 0] [0, 0] E.F_time_in sc_time_in rfl rfl rfl (.inl rfl) (by decide) (fun X EX hX gd hr pf hp => ?_) (fun _ h => nomatch h)
  obtain ⟨cdv, A, outer, s, H, rfl⟩ := hX
  exact k_one (w_s_ret (w_v_if (b_val (v_callB (k := 0) (w_l_cons (v_var 0) (w_l_cons (w_v_bltn (k := 0) (by rfl) E.z_tuple PyProof.Rows.boot_tuple) (w_l_nil (k := 0)))) call_isi n_isi (by rfl) E.z_isinstance PyProof.Rows.boot_isinstance)) (v_op (k := 0) (v_ix (v_var 0) (w_v_int (k := 0)) ix_seq p_ix) (v_var 1) op_mulV p_mul) (v_callB (k := 0) (w_l_cons (PV.weak (k := 1) (k1 := 0) (v_slice (v_var 0) w_o_none (w_o_some (v_var 1))) (by decide)) (w_l_nil (k := 0))) (cr_sum (by rfl)) n_sum (by rfl) E.z_sum PyProof.Rows.boot_sum)))
theorem ok_time_at (E : Fs K mg) : FnV P w K mg base 2 E.f_time_at E.fd_time_at ["nesting", "attempt"] none 0 r_time_at :=
  by
  refine fnv_mk (P := P) (w := w) (base := base) (N := ["nesting", "attempt", "total", "rest", "layer", "size", "inner"]) (io := none) (kr := 0) (k := 1) (body := d_time_at) 7 2 [0, 0, 0, 0, 0, 0, 0] [0, 0, 0, 0, 0, 0, 0] E.F_time_at sc_time_at rfl rfl rfl (.inl rfl) (by decide) (fun X EX hX gd hr pf hp => ?_) (fun _ h => nomatch h)
  obtain ⟨cdv, A, outer, s, H, rfl⟩ := hX
  exact k_cons (s_set (k := 0) 2 sc_time_at.nd (w_v_int (k := 0)))
      (k_cons (s_set (k := 0) 3 sc_time_at.nd (v_var 1))
      (k_cons (w_s_for (Gn := [0, 0, 0, 0, 0, 0, 0]) [0, 0, 0, 0, 0, 0, 0] hp (by rfl) (w_it_list (v_var 0)) (g_name 4 sc_time_at.nd) (k_cons (s_set (k := 0) 5 sc_time_at.nd (w_v_call (ok_size_of E) (by exact gd) (by exact hr.mono (j := 1) (by decide)) E.g_size_of E.F_size_of.kp E.b_size_of (by exact pf) (w_l_cons (v_var 4) (w_l_nil (k := 0)))))
      (k_cons (w_s_asg (v_callB (w_l_cons (v_var 3) (w_l_cons (v_var 5) (w_l_nil (k := 0)))) call_divmodW n_divmod (by rfl) E.z_divmod PyProof.Rows.boot_divmod) (w_g_tup (n := 2) (by rfl) (gs_cons (g_name 3 sc_time_at.nd) (gs_cons (g_name 6 sc_time_at.nd) gs_nil))))
      (k_one (s_aug 2 sc_time_at.nd (v_op (k := 0) (v_op (k := 0) (v_var 3) (w_v_call (ok_time_in E) (by exact gd) (by exact hr.mono (j := 1) (by decide)) E.g_time_in E.F_time_in.kp E.b_time_in (by exact pf) (w_l_cons (v_var 4) (w_l_cons (v_op (k := 0) (v_var 5) (w_v_int (k := 0)) op_sub p_sub) (w_l_nil (k := 0))))) op_mulV p_mul) (w_v_call (ok_time_in E) (by exact gd) (by exact hr.mono (j := 1) (by decide)) E.g_time_in E.F_time_in.kp E.b_time_in (by exact pf) (w_l_cons (v_var 4) (w_l_cons (v_var 6) (w_l_nil (k := 0))))) op_add p_add) iop_add p_add)))))
      (k_one (w_s_ret (v_var 2)))))
theorem ok_total_of (E : Fs K mg) : FnV P w K mg base 2 E.f_total_of E.fd_total_of ["nesting"] none 0 r_total_of :=
  by
  refine fnv_mk (P := P) (w := w) (base := base) (N := ["nesting", "total", "layer"]) (io := none) (kr := 0) (k := 1) (body := d_total_of) 3 1 [0, 0, 0] [0, 0, 0] E.F_total_of sc_total_of rfl rfl rfl (.inl rfl) (by decide) (fun X EX hX gd hr pf hp => ?_) (fun _ h => nomatch h)
  obtain ⟨cdv, A, outer, s, H, rfl⟩ := hX
  exact k_cons (s_set (k := 0) 1 sc_total_of.nd (w_v_int (k := 0)))
      (k_cons (w_s_for (Gn := [0, 0, 0]) [0, 0, 0] hp (by rfl) (w_it_list (v_var 0)) (g_name 2 sc_total_of.nd) (k_one (s_aug 1 sc_total_of.nd (w_v_call (ok_size_of E) (by exact gd) (by exact hr.mono (j := 1) (by decide)) E.g_size_of E.F_size_of.kp E.b_size_of (by exact pf) (w_l_cons (v_var 2) (w_l_nil (k := 0)))) iop_mulV p_mul)))
      (k_one (w_s_ret (v_var 1))))
theorem ok_first_attempt_from (E : Fs K mg) : FnV P w K mg base 3 E.f_first_attempt_from E.fd_first_attempt_from ["nesting", "time"] none 0 r_first_attempt_from :=
  by
  refine fnv_mk (P := P) (w := w) (base := base) (N := ["nesting", "time", "low", "high", "middle"]) (io := none) (kr := 0) (k := 2) (body := d_first_attempt_from) 5 2 [0, 0, 0, 0, 0] [0, 0, 0, 0, 0] E.F_first_attempt_from sc_first_attempt_from rfl rfl rfl (.inl rfl) (by decide) (fun X EX hX gd hr pf hp => ?_) (fun _ h => nomatch h)
  obtain ⟨cdv, A, outer, s, H, rfl⟩ := hX
  exact k_cons (w_s_expr (w_v_call (ok_check_nesting E) (by exact gd) (by exact hr.mono (j := 2) (by decide)) E.g_check_nesting E.F_check_nesting.kp E.b_check_nesting (by exact pf) (w_l_cons (v_var 0) (w_l_nil (k := 0)))))
      (k_cons (s_if (b_cmp (v_var 1) (w_v_int (k := 0)) op_lt p_lt) (k_one w_s_never) w_k_nil)
      (k_cons (w_s_par (k := 0) 2 3 (by rfl) sc_first_attempt_from.nd (w_l_cons (w_v_int (k := 0)) (w_l_cons (v_op (k := 0) (w_v_call (ok_total_of E) (by exact gd) (by exact hr.mono (j := 2) (by decide)) E.g_total_of E.F_total_of.kp E.b_total_of (by exact pf) (w_l_cons (v_var 0) (w_l_nil (k := 0)))) (w_v_int (k := 0)) op_sub p_sub) (w_l_nil (k := 0)))))
      (k_cons (s_if (b_cmp (w_v_call (ok_time_at E) (by exact gd) (by exact hr.mono (j := 2) (by decide)) E.g_time_at E.F_time_at.kp E.b_time_at (by exact pf) (w_l_cons (v_var 0) (w_l_cons (v_var 3) (w_l_nil (k := 0))))) (v_var 1) op_lt p_lt) (k_one (w_s_ret (w_v_non (k := 0)))) w_k_nil)
      (k_cons (s_while (Gn := [0, 0, 0, 0, 0]) 1100 hp (b_cmp (v_var 2) (v_var 3) op_lt p_lt) (k_cons (s_set (k := 0) 4 sc_first_attempt_from.nd (v_op (k := 0) (v_op (k := 0) (v_var 2) (v_var 3) op_add p_add) (w_v_int (k := 0)) op_divV p_div))
      (k_one (s_if (b_cmp (w_v_call (ok_time_at E) (by exact gd) (by exact hr.mono (j := 2) (by decide)) E.g_time_at E.F_time_at.kp E.b_time_at (by exact pf) (w_l_cons (v_var 0) (w_l_cons (v_var 4) (w_l_nil (k := 0))))) (v_var 1) op_lt p_lt) (k_one (s_set (k := 0) 2 sc_first_attempt_from.nd (v_op (k := 0) (v_var 4) (w_v_int (k := 0)) op_add p_add))) (k_one (s_set (k := 0) 3 sc_first_attempt_from.nd (v_var 4)))))))
      (k_one (w_s_ret (v_var 2)))))))
theorem ok__law_draw (E : Fs K mg) : FnV P w K mg base 1 E.f__law_draw E.fd__law_draw ["pool", "many"] (some 1) 0 r__law_draw :=
  by
  refine fnv_mk (P := P) (w := w) (base := base) (N := ["pool", "many", "mixed", "drawn"]) (io := (some 1)) (kr := 0) (k := 0) (body := d__law_draw) 4 2 [1, 0, 0, 0] [1, 0, 0, 0] E.F__law_draw sc__law_draw rfl rfl rfl (.inr (by decide)) (by decide) (fun X EX hX gd hr pf hp => ?_) (fun _ h => by cases h; rfl)
  obtain ⟨cdv, A, outer, s, H, rfl⟩ := hX
  exact k_cons (s_if (b_bor (b_cmp (v_ix (v_var 0) (w_v_int (k := 0)) ix_seq p_ix) (w_v_int (k := 0)) op_gt p_gt)) (k_cons (s_set (k := 0) 3 sc__law_draw.nd (v_bor (v_op (k := 0) (v_ix (v_var 0) (w_v_int (k := 0)) ix_seq p_ix) (v_var 1) op_mod p_mod)))
      (k_cons (w_s_setIx 0 0 (v_bor (v_op (k := 0) (v_ix (v_var 0) (w_v_int (k := 0)) ix_seq p_ix) (v_var 1) op_divV p_div)) (w_v_int (k := 0)))
      (k_one (w_s_ret (v_var 3))))) w_k_nil)
      (k_cons (w_s_setIx 0 0 (v_bor (v_op (k := 0) (v_ix (v_var 0) (w_v_int (k := 0)) ix_seq p_ix) (w_v_int (k := 0)) op_add p_add)) (w_v_int (k := 0)))
      (k_cons (s_set (k := 0) 2 sc__law_draw.nd (v_bor (v_op (k := 0) (v_op (k := 0) (v_op (k := 0) (v_ix (v_var 0) (w_v_int (k := 0)) ix_seq p_ix) (v_op (k := 0) (w_v_int (k := 0)) (v_ix (v_var 0) (w_v_int (k := 0)) ix_seq p_ix) op_mulV p_mul) op_add p_add) (w_v_int (k := 0)) op_powV p_pow) (w_v_int (k := 0)) op_mod p_mod)))
      (k_cons (s_set (k := 0) 2 sc__law_draw.nd (v_bor (v_op (k := 0) (v_op (k := 0) (v_op (k := 0) (v_var 2) (v_op (k := 0) (w_v_int (k := 0)) (v_ix (v_var 0) (w_v_int (k := 0)) ix_seq p_ix) op_mulV p_mul) op_add p_add) (w_v_int (k := 0)) op_powV p_pow) (w_v_int (k := 0)) op_mod p_mod)))
      (k_one (w_s_ret (v_op (k := 0) (v_op (k := 0) (v_var 2) (w_v_int (k := 0)) op_divV p_div) (v_var 1) op_mod p_mod))))))
theorem ok__law_wait (E : Fs K mg) : FnV P w K mg base 2 E.f__law_wait E.fd__law_wait ["pool"] (some 1) 0 r__law_wait :=
  by
  refine fnv_mk (P := P) (w := w) (base := base) (N := ["pool"]) (io := (some 1)) (kr := 0) (k := 1) (body := d__law_wait) 1 1 [1] [1] E.F__law_wait sc__law_wait rfl rfl rfl (.inr (by decide)) (by decide) (fun X EX hX gd hr pf hp => ?_) (fun _ h => by cases h; rfl)
  obtain ⟨cdv, A, outer, s, H, rfl⟩ := hX
  exact k_one (w_s_ret (v_ix (PV.weak (k := 1) (k1 := 0) (w_v_lst (w_l_cons (w_v_int (k := 0)) (w_l_cons (w_v_int (k := 0)) (w_l_cons (w_v_int (k := 0)) (w_l_cons (w_v_int (k := 0)) (w_l_cons (w_v_callIo 0 1 (ok__law_draw E) (by exact gd) (by exact hr.mono (j := 1) (by decide)) E.g__law_draw E.F__law_draw.kp E.b__law_draw (by exact pf) (w_l_cons (w_v_int (k := 0)) (w_l_nil (k := 0)))) (w_l_cons (w_v_callIo 0 1 (ok__law_draw E) (by exact gd) (by exact hr.mono (j := 1) (by decide)) E.g__law_draw E.F__law_draw.kp E.b__law_draw (by exact pf) (w_l_cons (w_v_int (k := 0)) (w_l_nil (k := 0)))) (w_l_cons (w_v_callIo 0 1 (ok__law_draw E) (by exact gd) (by exact hr.mono (j := 1) (by decide)) E.g__law_draw E.F__law_draw.kp E.b__law_draw (by exact pf) (w_l_cons (v_op (k := 0) (w_v_int (k := 0)) (w_v_int (k := 0)) op_powV p_pow) (w_l_nil (k := 0)))) (w_l_nil (k := 0)))))))))) (by decide)) (w_v_callIo 0 1 (ok__law_draw E) (by exact gd) (by exact hr.mono (j := 1) (by decide)) E.g__law_draw E.F__law_draw.kp E.b__law_draw (by exact pf) (w_l_cons (w_v_int (k := 0)) (w_l_nil (k := 0)))) ix_seq p_ix))
theorem ok__law_tier (E : Fs K mg) : FnV P w K mg base 3 E.f__law_tier E.fd__law_tier ["pool", "most"] (some 1) 0 r__law_tier :=
  by
  refine fnv_mk (P := P) (w := w) (base := base) (N := ["pool", "most", "kinds", "turn"]) (io := (some 1)) (kr := 0) (k := 2) (body := d__law_tier) 4 2 [1, 0, 0, 0] [1, 0, 0, 0] E.F__law_tier sc__law_tier rfl rfl rfl (.inr (by decide)) (by decide) (fun X EX hX gd hr pf hp => ?_) (fun _ h => by cases h; rfl)
  obtain ⟨cdv, A, outer, s, H, rfl⟩ := hX
  exact k_cons (s_if (b_cmp (w_v_callIo 0 1 (ok__law_draw E) (by exact gd) (by exact hr.mono (j := 1) (by decide)) E.g__law_draw E.F__law_draw.kp E.b__law_draw (by exact pf) (w_l_cons (w_v_int (k := 0)) (w_l_nil (k := 0)))) (w_v_int (k := 0)) (o_eq (by exact hr)) q_eq) (k_one (w_s_ret (w_v_tup (w_l_cons (w_v_callIo 0 1 (ok__law_wait E) (by exact gd) (by exact hr.mono (j := 2) (by decide)) E.g__law_wait E.F__law_wait.kp E.b__law_wait (by exact pf) (w_l_nil (k := 0))) (w_l_cons (v_op (k := 0) (w_v_int (k := 0)) (w_v_callIo 0 1 (ok__law_draw E) (by exact gd) (by exact hr.mono (j := 1) (by decide)) E.g__law_draw E.F__law_draw.kp E.b__law_draw (by exact pf) (w_l_cons (v_var 1) (w_l_nil (k := 0)))) op_add p_add) (w_l_nil (k := 0))))))) w_k_nil)
      (k_cons (s_set (k := 0) 2 sc__law_tier.nd (PV.weak (k := 1) (k1 := 0) (v_lc (Gt := [1, 0, 0, 0]) (Gs := [1, 0, 0, 0]) (Gn := [1, 0, 0, 0]) (k := 0) [1, 0, 0, 0] [("turn", 3)] (by rfl) sc__law_tier.nd (w_it_range1 (w_l_cons (v_op (k := 0) (w_v_int (k := 0)) (w_v_callIo 0 1 (ok__law_draw E) (by exact gd) (by exact hr.mono (j := 1) (by decide)) E.g__law_draw E.F__law_draw.kp E.b__law_draw (by exact pf) (w_l_cons (w_v_int (k := 0)) (w_l_nil (k := 0)))) op_add p_add) (w_l_nil (k := 0))) (by rfl) E.z_range) (blkOk_by (by rfl)) (fun s H C cl fp => by exact to_name 3 sc__law_tier.nd) (fun s H C cl fp => by exact w_t_nil) (fun s H C cl fp => by exact w_v_callIo 0 1 (ok__law_wait E) (by exact gd) (by exact hr.mono (j := 2) (by decide)) E.g__law_wait E.F__law_wait.kp E.b__law_wait (by exact passN) (w_l_nil (k := 0)))) (by decide)))
      (k_one (w_s_ret (PV.weak (k := 1) (k1 := 0) (v_lc (Gt := [1, 0, 0, 0]) (Gs := [1, 0, 0, 0]) (Gn := [1, 0, 0, 0]) (k := 0) [1, 0, 0, 0] [("turn", 3)] (by rfl) sc__law_tier.nd (w_it_range1 (w_l_cons (w_v_callIo 0 1 (ok__law_draw E) (by exact gd) (by exact hr.mono (j := 1) (by decide)) E.g__law_draw E.F__law_draw.kp E.b__law_draw (by exact pf) (w_l_cons (v_callB (k := 0) (w_l_cons (w_v_int (k := 0)) (w_l_cons (v_var 1) (w_l_nil (k := 0)))) (call_min2 (by rfl)) n_min2 (by rfl) E.z_min PyProof.Rows.boot_min) (w_l_nil (k := 0)))) (w_l_nil (k := 0))) (by rfl) E.z_range) (blkOk_by (by rfl)) (fun s H C cl fp => by exact to_name 3 sc__law_tier.nd) (fun s H C cl fp => by exact w_t_nil) (fun s H C cl fp => by exact v_ix (v_var 2) (w_v_callIo 0 1 (ok__law_draw E) (by exact gd) (by exact hr.mono (j := 1) (by decide)) E.g__law_draw E.F__law_draw.kp E.b__law_draw (by exact passN) (w_l_cons (v_callB (k := 0) (w_l_cons (v_var 2) (w_l_nil (k := 0))) call_len n_len (by rfl) E.z_len PySem.boot_len) (w_l_nil (k := 0)))) ix_seq p_ix)) (by decide)))))
theorem ok__law_large (E : Fs K mg) : FnV P w K mg base 4 E.f__law_large E.fd__law_large ["pool"] (some 1) 0 r__law_large :=
  by
  refine fnv_mk (P := P) (w := w) (base := base) (N := ["pool", "found", "turn"]) (io := (some 1)) (kr := 0) (k := 3) (body := d__law_large) 3 1 [1, 0, 0] [1, 0, 0] E.F__law_large sc__law_large rfl rfl rfl (.inr (by decide)) (by decide) (fun X EX hX gd hr pf hp => ?_) (fun _ h => by cases h; rfl)
  obtain ⟨cdv, A, outer, s, H, rfl⟩ := hX
  exact k_cons (s_set (k := 1) 1 sc__law_large.nd (w_v_lst (w_l_nil (k := 0))))
      (k_cons (w_s_for (Gn := [1, 1, 0]) [1, 1, 0] hp (by rfl) (w_it_range1 (w_l_cons (v_op (k := 0) (w_v_int (k := 0)) (w_v_callIo 0 1 (ok__law_draw E) (by exact gd) (by exact hr.mono (j := 1) (by decide)) E.g__law_draw E.F__law_draw.kp E.b__law_draw (by exact pf) (w_l_cons (w_v_int (k := 0)) (w_l_nil (k := 0)))) op_add p_add) (w_l_nil (k := 0))) (by rfl) E.z_range) (g_name 2 sc__law_large.nd) (k_one (w_s_expr (v_mt (kr := 0) 1 0 PySem.F.slot_list_append PySem.F.type_list_append mt_append mu_append (w_l_cons (w_v_callIo 0 1 (ok__law_tier E) (by exact gd) (by exact hr.mono (j := 3) (by decide)) E.g__law_tier E.F__law_tier.kp E.b__law_tier (by exact pf) (w_l_cons (v_ix (PV.weak (k := 1) (k1 := 0) (w_v_lst (w_l_cons (w_v_int (k := 0)) (w_l_cons (w_v_int (k := 0)) (w_l_cons (v_op (k := 0) (v_op (k := 0) (w_v_int (k := 0)) (w_v_int (k := 0)) op_powV p_pow) (w_v_int (k := 0)) op_sub p_sub) (w_l_nil (k := 0)))))) (by decide)) (w_v_callIo 0 1 (ok__law_draw E) (by exact gd) (by exact hr.mono (j := 1) (by decide)) E.g__law_draw E.F__law_draw.kp E.b__law_draw (by exact pf) (w_l_cons (w_v_int (k := 0)) (w_l_nil (k := 0)))) ix_seq p_ix) (w_l_nil (k := 0)))) (w_l_nil (k := 0)))))))
      (k_one (w_s_ret (v_var 1))))
theorem ok__law_sum_in (E : Fs K mg) : FnV P w K mg base 1 E.f__law_sum_in E.fd__law_sum_in ["tier", "part"] none 0 r__law_sum_in :=
  by
  refine fnv_mk (P := P) (w := w) (base := base) (N := ["tier", "part"]) (io := none) (kr := 0) (k := 0) (body := d__law_sum_in) 2 2 [0, 0] [0, 0] E.F__law_sum_in sc__law_sum_in rfl rfl rfl (.inl rfl) (by decide) (fun X EX hX gd hr pf hp => ?_) (fun _ h => nomatch h)
  obtain ⟨cdv, A, outer, s, H, rfl⟩ := hX
  exact k_one (w_s_ret (w_v_if (b_val (v_callB (k := 0) (w_l_cons (v_var 0) (w_l_cons (w_v_bltn (k := 0) (by rfl) E.z_tuple PyProof.Rows.boot_tuple) (w_l_nil (k := 0)))) call_isi n_isi (by rfl) E.z_isinstance PyProof.Rows.boot_isinstance)) (v_op (k := 0) (v_ix (v_var 0) (w_v_int (k := 0)) ix_seq p_ix) (v_var 1) op_mulV p_mul) (v_callB (k := 0) (w_l_cons (PV.weak (k := 1) (k1 := 0) (v_slice (v_var 0) w_o_none (w_o_some (v_var 1))) (by decide)) (w_l_nil (k := 0))) (cr_sum (by rfl)) n_sum (by rfl) E.z_sum PyProof.Rows.boot_sum)))
theorem ok__law_size (E : Fs K mg) : FnV P w K mg base 1 E.f__law_size E.fd__law_size ["tier"] none 0 r__law_size :=
  by
  refine fnv_mk (P := P) (w := w) (base := base) (N := ["tier"]) (io := none) (kr := 0) (k := 0) (body := d__law_size) 1 1 [0] [0] E.F__law_size sc__law_size rfl rfl rfl (.inl rfl) (by decide) (fun X EX hX gd hr pf hp => ?_) (fun _ h => nomatch h)
  obtain ⟨cdv, A, outer, s, H, rfl⟩ := hX
  exact k_one (w_s_ret (w_v_if (b_val (v_callB (k := 0) (w_l_cons (v_var 0) (w_l_cons (w_v_bltn (k := 0) (by rfl) E.z_tuple PyProof.Rows.boot_tuple) (w_l_nil (k := 0)))) call_isi n_isi (by rfl) E.z_isinstance PyProof.Rows.boot_isinstance)) (v_ix (v_var 0) (w_v_int (k := 0)) ix_seq p_ix) (v_op (k := 0) (v_callB (k := 0) (w_l_cons (v_var 0) (w_l_nil (k := 0))) call_len n_len (by rfl) E.z_len PySem.boot_len) (w_v_int (k := 0)) op_add p_add)))
theorem ok__law_time (E : Fs K mg) : FnV P w K mg base 2 E.f__law_time E.fd__law_time ["layers", "parts"] none 0 r__law_time :=
  by
  refine fnv_mk (P := P) (w := w) (base := base) (N := ["layers", "parts", "found", "whole", "tier", "part"]) (io := none) (kr := 0) (k := 1) (body := d__law_time) 6 2 [0, 0, 0, 0, 0, 0] [0, 0, 0, 0, 0, 0] E.F__law_time sc__law_time rfl rfl rfl (.inl rfl) (by decide) (fun X EX hX gd hr pf hp => ?_) (fun _ h => nomatch h)
  obtain ⟨cdv, A, outer, s, H, rfl⟩ := hX
  exact k_cons (w_s_asg (w_v_tup (w_l_cons (w_v_int (k := 0)) (w_l_cons (w_v_int (k := 0)) (w_l_nil (k := 0))))) (w_g_tup (n := 2) (by rfl) (gs_cons (g_name 2 sc__law_time.nd) (gs_cons (g_name 3 sc__law_time.nd) gs_nil))))
      (k_cons (w_s_for (Gn := [0, 0, 0, 0, 0, 0]) [0, 0, 0, 0, 0, 0] hp (by rfl) (w_it_zip (w_l_cons (v_var 0) (w_l_cons (v_var 1) (w_l_nil (k := 0)))) (by rfl) E.z_zip) (w_g_tup (n := 2) (by rfl) (gs_cons (g_name 4 sc__law_time.nd) (gs_cons (g_name 5 sc__law_time.nd) gs_nil))) (k_cons (s_set (k := 0) 2 sc__law_time.nd (v_op (k := 0) (v_op (k := 0) (v_var 2) (v_op (k := 0) (v_var 5) (v_var 3) op_mulV p_mul) op_add p_add) (w_v_call (ok__law_sum_in E) (by exact gd) (by exact hr.mono (j := 1) (by decide)) E.g__law_sum_in E.F__law_sum_in.kp E.b__law_sum_in (by exact pf) (w_l_cons (v_var 4) (w_l_cons (v_var 5) (w_l_nil (k := 0))))) op_add p_add))
      (k_one (s_set (k := 0) 3 sc__law_time.nd (v_op (k := 0) (v_op (k := 0) (w_v_call (ok__law_size E) (by exact gd) (by exact hr.mono (j := 1) (by decide)) E.g__law_size E.F__law_size.kp E.b__law_size (by exact pf) (w_l_cons (v_var 4) (w_l_nil (k := 0)))) (v_var 3) op_mulV p_mul) (w_v_call (ok__law_sum_in E) (by exact gd) (by exact hr.mono (j := 1) (by decide)) E.g__law_sum_in E.F__law_sum_in.kp E.b__law_sum_in (by exact pf) (w_l_cons (v_var 4) (w_l_cons (v_op (k := 0) (w_v_call (ok__law_size E) (by exact gd) (by exact hr.mono (j := 1) (by decide)) E.g__law_size E.F__law_size.kp E.b__law_size (by exact pf) (w_l_cons (v_var 4) (w_l_nil (k := 0)))) (w_v_int (k := 0)) op_sub p_sub) (w_l_nil (k := 0))))) op_add p_add)))))
      (k_one (w_s_ret (v_var 2))))
theorem ok__law_parts (E : Fs K mg) : FnV P w K mg base 2 E.f__law_parts E.fd__law_parts ["pool", "layers"] (some 1) 0 r__law_parts :=
  by
  refine fnv_mk (P := P) (w := w) (base := base) (N := ["pool", "layers", "found", "tier", "size"]) (io := (some 1)) (kr := 0) (k := 1) (body := d__law_parts) 5 2 [1, 0, 0, 0, 0] [1, 0, 0, 0, 0] E.F__law_parts sc__law_parts rfl rfl rfl (.inr (by decide)) (by decide) (fun X EX hX gd hr pf hp => ?_) (fun _ h => by cases h; rfl)
  obtain ⟨cdv, A, outer, s, H, rfl⟩ := hX
  exact k_cons (s_set (k := 1) 2 sc__law_parts.nd (w_v_lst (w_l_nil (k := 0))))
      (k_cons (w_s_for (Gn := [1, 0, 1, 0, 0]) [1, 0, 1, 0, 0] hp (by rfl) (w_it_list (v_var 1)) (g_name 3 sc__law_parts.nd) (k_cons (s_set (k := 0) 4 sc__law_parts.nd (w_v_call (ok__law_size E) (by exact gd) (by exact hr.mono (j := 1) (by decide)) E.g__law_size E.F__law_size.kp E.b__law_size (by exact pf) (w_l_cons (v_var 3) (w_l_nil (k := 0)))))
      (k_one (w_s_expr (v_mt (kr := 0) 2 0 PySem.F.slot_list_append PySem.F.type_list_append mt_append mu_append (w_l_cons (v_ix (PV.weak (k := 1) (k1 := 0) (w_v_lst (w_l_cons (w_v_int (k := 0)) (w_l_cons (v_op (k := 0) (v_var 4) (w_v_int (k := 0)) op_sub p_sub) (w_l_cons (w_v_callIo 0 1 (ok__law_draw E) (by exact gd) (by exact hr.mono (j := 1) (by decide)) E.g__law_draw E.F__law_draw.kp E.b__law_draw (by exact pf) (w_l_cons (v_var 4) (w_l_nil (k := 0)))) (w_l_cons (w_v_callIo 0 1 (ok__law_draw E) (by exact gd) (by exact hr.mono (j := 1) (by decide)) E.g__law_draw E.F__law_draw.kp E.b__law_draw (by exact pf) (w_l_cons (v_var 4) (w_l_nil (k := 0)))) (w_l_nil (k := 0))))))) (by decide)) (w_v_callIo 0 1 (ok__law_draw E) (by exact gd) (by exact hr.mono (j := 1) (by decide)) E.g__law_draw E.F__law_draw.kp E.b__law_draw (by exact pf) (w_l_cons (w_v_int (k := 0)) (w_l_nil (k := 0)))) ix_seq p_ix) (w_l_nil (k := 0))))))))
      (k_one (w_s_ret (v_var 2))))
theorem ok__law_split (E : Fs K mg) : FnV P w K mg base 2 E.f__law_split E.fd__law_split ["layers", "number"] none 0 r__law_split :=
  by
  refine fnv_mk (P := P) (w := w) (base := base) (N := ["layers", "number", "found", "tier", "part"]) (io := none) (kr := 0) (k := 1) (body := d__law_split) 5 2 [0, 0, 0, 0, 0] [0, 0, 0, 0, 0] E.F__law_split sc__law_split rfl rfl rfl (.inl rfl) (by decide) (fun X EX hX gd hr pf hp => ?_) (fun _ h => nomatch h)
  obtain ⟨cdv, A, outer, s, H, rfl⟩ := hX
  exact k_cons (s_set (k := 1) 2 sc__law_split.nd (w_v_lst (w_l_nil (k := 0))))
      (k_cons (w_s_for (Gn := [0, 0, 1, 0, 0]) [0, 0, 1, 0, 0] hp (by rfl) (w_it_list (v_var 0)) (g_name 3 sc__law_split.nd) (k_cons (w_s_asg (v_callB (w_l_cons (v_var 1) (w_l_cons (w_v_call (ok__law_size E) (by exact gd) (by exact hr.mono (j := 1) (by decide)) E.g__law_size E.F__law_size.kp E.b__law_size (by exact pf) (w_l_cons (v_var 3) (w_l_nil (k := 0)))) (w_l_nil (k := 0)))) call_divmodW n_divmod (by rfl) E.z_divmod PyProof.Rows.boot_divmod) (w_g_tup (n := 2) (by rfl) (gs_cons (g_name 1 sc__law_split.nd) (gs_cons (g_name 4 sc__law_split.nd) gs_nil))))
      (k_one (w_s_expr (v_mt (kr := 0) 2 0 PySem.F.slot_list_append PySem.F.type_list_append mt_append mu_append (w_l_cons (v_var 4) (w_l_nil (k := 0))))))))
      (k_one (w_s_ret (v_var 2))))
theorem ok__law_first_right (E : Fs K mg) : FnV P w K mg base 4 E.f__law_first_right E.fd__law_first_right ["layers", "moment", "end"] none 0 r__law_first_right :=
  by
  refine fnv_mk (P := P) (w := w) (base := base) (N := ["layers", "moment", "end", "told"]) (io := none) (kr := 0) (k := 3) (body := d__law_first_right) 4 3 [0, 0, 0, 0] [0, 0, 0, 0] E.F__law_first_right sc__law_first_right rfl rfl rfl (.inl rfl) (by decide) (fun X EX hX gd hr pf hp => ?_) (fun _ h => nomatch h)
  obtain ⟨cdv, A, outer, s, H, rfl⟩ := hX
  exact k_cons (s_set (k := 0) 3 sc__law_first_right.nd (w_v_call (ok_first_attempt_from E) (by exact gd) (by exact hr.mono (j := 3) (by decide)) E.g_first_attempt_from E.F_first_attempt_from.kp E.b_first_attempt_from (by exact pf) (w_l_cons (v_var 0) (w_l_cons (v_var 1) (w_l_nil (k := 0))))))
      (k_cons (s_if (b_cmp (v_var 1) (v_var 2) op_gt p_gt) (k_one (w_s_ret (v_cmp (k := 0) (v_var 3) (w_v_non (k := 0)) op_isN p_is))) w_k_nil)
      (k_cons (s_if (bw_pb (w_bw_or (b_cmp (v_var 3) (w_v_non (k := 0)) op_isN p_is) (w_bw_or (b_cmp (v_var 3) (w_v_int (k := 0)) op_lt p_lt) (bw_or1 (b_cmp (w_v_call (ok__law_time E) (by exact gd) (by exact hr.mono (j := 2) (by decide)) E.g__law_time E.F__law_time.kp E.b__law_time (by exact pf) (w_l_cons (v_var 0) (w_l_cons (w_v_call (ok__law_split E) (by exact gd) (by exact hr.mono (j := 2) (by decide)) E.g__law_split E.F__law_split.kp E.b__law_split (by exact pf) (w_l_cons (v_var 0) (w_l_cons (v_var 3) (w_l_nil (k := 0))))) (w_l_nil (k := 0))))) (v_var 1) op_lt p_lt))))) (k_one (w_s_ret (w_v_bl (k := 0)))) w_k_nil)
      (k_one (w_s_ret (w_v_or (v_cmp (k := 0) (v_var 3) (w_v_int (k := 0)) (o_eq (by exact hr)) q_eq) (v_one (v_cmp (k := 0) (w_v_call (ok__law_time E) (by exact gd) (by exact hr.mono (j := 2) (by decide)) E.g__law_time E.F__law_time.kp E.b__law_time (by exact pf) (w_l_cons (v_var 0) (w_l_cons (w_v_call (ok__law_split E) (by exact gd) (by exact hr.mono (j := 2) (by decide)) E.g__law_split E.F__law_split.kp E.b__law_split (by exact pf) (w_l_cons (v_var 0) (w_l_cons (v_op (k := 0) (v_var 3) (w_v_int (k := 0)) op_sub p_sub) (w_l_nil (k := 0))))) (w_l_nil (k := 0))))) (v_var 1) op_lt p_lt)))))))
theorem ok__law_number (E : Fs K mg) : FnV P w K mg base 2 E.f__law_number E.fd__law_number ["layers", "parts"] none 0 r__law_number :=
  by
  refine fnv_mk (P := P) (w := w) (base := base) (N := ["layers", "parts", "number", "inside", "tier", "part"]) (io := none) (kr := 0) (k := 1) (body := d__law_number) 6 2 [0, 0, 0, 0, 0, 0] [0, 0, 0, 0, 0, 0] E.F__law_number sc__law_number rfl rfl rfl (.inl rfl) (by decide) (fun X EX hX gd hr pf hp => ?_) (fun _ h => nomatch h)
  obtain ⟨cdv, A, outer, s, H, rfl⟩ := hX
  exact k_cons (w_s_asg (w_v_tup (w_l_cons (w_v_int (k := 0)) (w_l_cons (w_v_int (k := 0)) (w_l_nil (k := 0))))) (w_g_tup (n := 2) (by rfl) (gs_cons (g_name 2 sc__law_number.nd) (gs_cons (g_name 3 sc__law_number.nd) gs_nil))))
      (k_cons (w_s_for (Gn := [0, 0, 0, 0, 0, 0]) [0, 0, 0, 0, 0, 0] hp (by rfl) (w_it_zip (w_l_cons (v_var 0) (w_l_cons (v_var 1) (w_l_nil (k := 0)))) (by rfl) E.z_zip) (w_g_tup (n := 2) (by rfl) (gs_cons (g_name 4 sc__law_number.nd) (gs_cons (g_name 5 sc__law_number.nd) gs_nil))) (k_cons (s_set (k := 0) 2 sc__law_number.nd (v_op (k := 0) (v_var 2) (v_op (k := 0) (v_var 5) (v_var 3) op_mulV p_mul) op_add p_add))
      (k_one (s_set (k := 0) 3 sc__law_number.nd (v_op (k := 0) (v_var 3) (w_v_call (ok__law_size E) (by exact gd) (by exact hr.mono (j := 1) (by decide)) E.g__law_size E.F__law_size.kp E.b__law_size (by exact pf) (w_l_cons (v_var 4) (w_l_nil (k := 0)))) op_mulV p_mul)))))
      (k_one (w_s_ret (v_var 2))))
theorem ok__law_right (E : Fs K mg) : FnV P w K mg base 5 E.f__law_right E.fd__law_right ["pool"] (some 1) 0 r__law_right :=
  by
  refine fnv_mk (P := P) (w := w) (base := base) (N := ["pool", "layers", "end", "far", "moment", "turn", "parts", "other", "tier"]) (io := (some 1)) (kr := 0) (k := 4) (body := d__law_right) 9 1 [1, 0, 0, 0, 0, 0, 0, 0, 0] [1, 0, 0, 0, 0, 0, 0, 0, 0] E.F__law_right sc__law_right rfl rfl rfl (.inr (by decide)) (by decide) (fun X EX hX gd hr pf hp => ?_) (fun _ h => by cases h; rfl)
  obtain ⟨cdv, A, outer, s, H, rfl⟩ := hX
  exact k_cons (s_set (k := 0) 1 sc__law_right.nd (w_v_callIo 0 1 (ok__law_large E) (by exact gd) (by exact hr.mono (j := 4) (by decide)) E.g__law_large E.F__law_large.kp E.b__law_large (by exact pf) (w_l_nil (k := 0))))
      (k_cons (s_set (k := 0) 2 sc__law_right.nd (w_v_call (ok__law_time E) (by exact gd) (by exact hr.mono (j := 2) (by decide)) E.g__law_time E.F__law_time.kp E.b__law_time (by exact pf) (w_l_cons (v_var 1) (w_l_cons (PV.weak (k := 1) (k1 := 0) (v_lc (Gt := [1, 0, 0, 0, 0, 0, 0, 0, 0]) (Gs := [1, 0, 0, 0, 0, 0, 0, 0, 0]) (Gn := [1, 0, 0, 0, 0, 0, 0, 0, 0]) (k := 0) [1, 0, 0, 0, 0, 0, 0, 0, 0] [("tier", 8)] (by rfl) sc__law_right.nd (w_it_list (v_var 1)) (blkOk_by (by rfl)) (fun s H C cl fp => by exact to_name 8 sc__law_right.nd) (fun s H C cl fp => by exact w_t_nil) (fun s H C cl fp => by exact v_op (k := 0) (w_v_call (ok__law_size E) (by exact gd) (by exact hr.mono (j := 1) (by decide)) E.g__law_size E.F__law_size.kp E.b__law_size (by exact passN) (w_l_cons (v_var 8) (w_l_nil (k := 0)))) (w_v_int (k := 0)) op_sub p_sub)) (by decide)) (w_l_nil (k := 0))))))
      (k_cons (s_set (k := 0) 3 sc__law_right.nd (v_op (k := 0) (v_var 2) (w_v_callIo 0 1 (ok__law_draw E) (by exact gd) (by exact hr.mono (j := 1) (by decide)) E.g__law_draw E.F__law_draw.kp E.b__law_draw (by exact pf) (w_l_cons (v_op (k := 0) (v_op (k := 0) (v_op (k := 0) (v_op (k := 0) (w_v_int (k := 0)) (w_v_int (k := 0)) op_powV p_pow) (v_op (k := 0) (w_v_int (k := 0)) (w_v_int (k := 0)) op_powV p_pow) op_mulV p_mul) (v_op (k := 0) (w_v_int (k := 0)) (w_v_int (k := 0)) op_powV p_pow) op_mulV p_mul) (v_op (k := 0) (w_v_int (k := 0)) (w_v_int (k := 0)) op_powV p_pow) op_mulV p_mul) (w_l_nil (k := 0)))) op_add p_add))
      (k_cons (w_s_for (Gn := [1, 0, 0, 0, 0, 0, 0, 0, 0]) [1, 0, 0, 0, 0, 0, 0, 0, 0] hp (by rfl) (w_it_list (PV.weak (k := 1) (k1 := 0) (w_v_lst (w_l_cons (w_v_int (k := 0)) (w_l_cons (w_v_int (k := 0)) (w_l_cons (v_var 2) (w_l_cons (v_op (k := 0) (v_var 2) (w_v_int (k := 0)) op_add p_add) (w_l_cons (v_var 3) (w_l_cons (w_v_callIo 0 1 (ok__law_draw E) (by exact gd) (by exact hr.mono (j := 1) (by decide)) E.g__law_draw E.F__law_draw.kp E.b__law_draw (by exact pf) (w_l_cons (v_op (k := 0) (v_var 2) (w_v_int (k := 0)) op_add p_add) (w_l_nil (k := 0)))) (w_l_nil (k := 0))))))))) (by decide))) (g_name 4 sc__law_right.nd) (k_one (s_if (w_b_not (b_val (w_v_call (ok__law_first_right E) (by exact gd) (by exact hr.mono (j := 4) (by decide)) E.g__law_first_right E.F__law_first_right.kp E.b__law_first_right (by exact pf) (w_l_cons (v_var 1) (w_l_cons (v_var 4) (w_l_cons (v_var 2) (w_l_nil (k := 0)))))))) (k_one (w_s_ret (w_v_bl (k := 0)))) w_k_nil)))
      (k_cons (w_s_for (Gn := [1, 0, 0, 0, 0, 0, 0, 0, 0]) [1, 0, 0, 0, 0, 0, 0, 0, 0] hp (by rfl) (w_it_range1 (w_l_cons (w_v_int (k := 0)) (w_l_nil (k := 0))) (by rfl) E.z_range) (g_name 5 sc__law_right.nd) (k_cons (s_set (k := 0) 6 sc__law_right.nd (w_v_callIo 0 1 (ok__law_parts E) (by exact gd) (by exact hr.mono (j := 2) (by decide)) E.g__law_parts E.F__law_parts.kp E.b__law_parts (by exact pf) (w_l_cons (v_var 1) (w_l_nil (k := 0)))))
      (k_cons (s_set (k := 0) 4 sc__law_right.nd (w_v_call (ok__law_time E) (by exact gd) (by exact hr.mono (j := 2) (by decide)) E.g__law_time E.F__law_time.kp E.b__law_time (by exact pf) (w_l_cons (v_var 1) (w_l_cons (v_var 6) (w_l_nil (k := 0))))))
      (k_cons (s_if (b_cmp (w_v_call (ok_first_attempt_from E) (by exact gd) (by exact hr.mono (j := 3) (by decide)) E.g_first_attempt_from E.F_first_attempt_from.kp E.b_first_attempt_from (by exact pf) (w_l_cons (v_var 1) (w_l_cons (v_var 4) (w_l_nil (k := 0))))) (w_v_call (ok__law_number E) (by exact gd) (by exact hr.mono (j := 2) (by decide)) E.g__law_number E.F__law_number.kp E.b__law_number (by exact pf) (w_l_cons (v_var 1) (w_l_cons (v_var 6) (w_l_nil (k := 0))))) op_gt p_gt) (k_one (w_s_ret (w_v_bl (k := 0)))) w_k_nil)
      (k_one (w_s_for (Gn := [1, 0, 0, 0, 0, 0, 0, 0, 0]) [1, 0, 0, 0, 0, 0, 0, 0, 0] hp (by rfl) (w_it_list (PV.weak (k := 1) (k1 := 0) (w_v_lst (w_l_cons (v_var 4) (w_l_cons (v_op (k := 0) (v_var 4) (w_v_int (k := 0)) op_add p_add) (w_l_cons (v_callB (k := 0) (w_l_cons (w_v_int (k := 0)) (w_l_cons (v_op (k := 0) (v_var 4) (w_v_int (k := 0)) op_sub p_sub) (w_l_nil (k := 0)))) (call_max2 (by rfl)) n_max2 (by rfl) E.z_max PyProof.Rows.boot_max) (w_l_nil (k := 0)))))) (by decide))) (g_name 7 sc__law_right.nd) (k_one (s_if (w_b_not (b_val (w_v_call (ok__law_first_right E) (by exact gd) (by exact hr.mono (j := 4) (by decide)) E.g__law_first_right E.F__law_first_right.kp E.b__law_first_right (by exact pf) (w_l_cons (v_var 1) (w_l_cons (v_var 7) (w_l_cons (v_var 2) (w_l_nil (k := 0)))))))) (k_one (w_s_ret (w_v_bl (k := 0)))) w_k_nil))))))))
      (k_one (w_s_ret (w_v_bl (k := 0))))))))
theorem ok_law (E : Fs K mg) : FnV P w K mg base 6 E.f_law E.fd_law ["script"] none 0 r_law :=
  by
  refine fnv_mk (P := P) (w := w) (base := base) (N := ["script", "at", "pool", "turn"]) (io := none) (kr := 0) (k := 5) (body := d_law) 4 1 [0, 0, 0, 0] [0, 0, 0, 0] E.F_law sc_law rfl rfl rfl (.inl rfl) (by decide) (fun X EX hX gd hr pf hp => ?_) (fun _ h => nomatch h)
  obtain ⟨cdv, A, outer, s, H, rfl⟩ := hX
  exact k_cons (w_s_for (Gn := [0, 0, 0, 0]) [0, 0, 0, 0] hp (by rfl) (w_it_range1 (w_l_cons (v_callB (k := 0) (w_l_cons (w_v_int (k := 0)) (w_l_cons (v_callB (k := 0) (w_l_cons (w_v_int (k := 0)) (w_l_cons (v_callB (k := 0) (w_l_cons (v_var 0) (w_l_nil (k := 0))) call_len n_len (by rfl) E.z_len PySem.boot_len) (w_l_nil (k := 0)))) (call_min2 (by rfl)) n_min2 (by rfl) E.z_min PyProof.Rows.boot_min) (w_l_nil (k := 0)))) (call_max2 (by rfl)) n_max2 (by rfl) E.z_max PyProof.Rows.boot_max) (w_l_nil (k := 0))) (by rfl) E.z_range) (g_name 1 sc_law.nd) (k_cons (s_set (k := 1) 2 sc_law.nd (w_v_call (ok__law_pool E) (by exact gd) (by exact hr.mono (j := 1) (by decide)) E.g__law_pool E.F__law_pool.kp E.b__law_pool (by exact pf) (w_l_cons (v_var 0) (w_l_cons (v_var 1) (w_l_nil (k := 0))))))
      (k_one (PSt.weakG (G1 := [0, 0, 1, 0]) (G' := [0, 0, 0, 0]) (w_s_for (Gn := [0, 0, 1, 0]) [0, 0, 1, 0] hp (by rfl) (w_it_range1 (w_l_cons (w_v_int (k := 0)) (w_l_nil (k := 0))) (by rfl) E.z_range) (g_name 3 sc_law.nd) (k_one (s_if (w_b_not (b_val (w_v_callIo 2 1 (ok__law_right E) (by exact gd) (by exact hr.mono (j := 5) (by decide)) E.g__law_right E.F__law_right.kp E.b__law_right (by exact pf) (w_l_nil (k := 0))))) (k_one (w_s_ret (w_v_bl (k := 0)))) w_k_nil)))))))
      (k_one (w_s_ret (w_v_and (v_cmp (k := 0) (w_v_call (ok_first_attempt_from E) (by exact gd) (by exact hr.mono (j := 3) (by decide)) E.g_first_attempt_from E.F_first_attempt_from.kp E.b_first_attempt_from (by exact pf) (w_l_cons (PV.weak (k := 1) (k1 := 0) (w_v_lst (w_l_nil (k := 0))) (by decide)) (w_l_cons (w_v_int (k := 0)) (w_l_nil (k := 0))))) (w_v_non (k := 0)) op_isN p_is) (v_one (v_cmp (k := 0) (w_v_call (ok_first_attempt_from E) (by exact gd) (by exact hr.mono (j := 3) (by decide)) E.g_first_attempt_from E.F_first_attempt_from.kp E.b_first_attempt_from (by exact pf) (w_l_cons (PV.weak (k := 1) (k1 := 0) (w_v_lst (w_l_nil (k := 0))) (by decide)) (w_l_cons (w_v_int (k := 0)) (w_l_nil (k := 0))))) (w_v_int (k := 0)) (o_eq (by exact hr)) q_eq)))))
end
theorem facts_mk {K : PySem.W.Frag} {h : Heap} {mg : Str → Option Value} (X : K.In h) (G : h.Ns mainGlobals mg) {x0 x1 x2 x3 x4 x5 x6 x7 x8 x9 x10 x11 x12 x13 x14 x15 x16 x17 x18 x19 x20 : Addr} {od0 an0 od1 an1 od2 an2 od3 an3 od4 an4 od5 an5 od6 an6 od7 an7 od8 an8 od9 an9 od10 an10 od11 an11 od12 an12 od13 an13 od14 an14 od15 an15 od16 an16 od17 an17 od18 an18 od19 an19 od20 an20 : Option Addr} {sl0 sl1 sl2 sl3 sl4 sl5 sl6 sl7 sl8 sl9 sl10 sl11 sl12 sl13 sl14 sl15 sl16 sl17 sl18 sl19 sl20 : Array (Option Value)} {oc0 kV0 dc0 pm0 cd0 ct0 oc1 kV1 dc1 pm1 cd1 ct1 oc2 kV2 dc2 pm2 cd2 ct2 oc3 kV3 dc3 pm3 cd3 ct3 oc4 kV4 dc4 pm4 cd4 ct4 oc5 kV5 dc5 pm5 cd5 ct5 oc6 kV6 dc6 pm6 cd6 ct6 oc7 kV7 dc7 pm7 cd7 ct7 oc8 kV8 dc8 pm8 cd8 ct8 oc9 kV9 dc9 pm9 cd9 ct9 oc10 kV10 dc10 pm10 cd10 ct10 oc11 kV11 dc11 pm11 cd11 ct11 oc12 kV12 dc12 pm12 cd12 ct12 oc13 kV13 dc13 pm13 cd13 ct13 oc14 kV14 dc14 pm14 cd14 ct14 oc15 kV15 dc15 pm15 cd15 ct15 oc16 kV16 dc16 pm16 cd16 ct16 oc17 kV17 dc17 pm17 cd17 ct17 oc18 kV18 dc18 pm18 cd18 ct18 oc19 kV19 dc19 pm19 cd19 ct19 oc20 kV20 dc20 pm20 cd20 ct20 : Value}
    (a0 : PySem.W.nsIn K mainGlobals "_law_pool" = some (some (.ref x0)))
    (l0 : K.lookup x0 = some ⟨oc0, od0, .func (PySem.W.fnOf "_law_pool" "_law_pool" (defArgs st__law_pool) (defBody st__law_pool) (defScope st__law_pool) .none kV0 dc0 pm0 an0 cd0 ct0), sl0⟩)
    (c0 : PySem.W.codeIn K cd0 "_law_pool" = true)
    (k0 : PySem.W.keepIn K (.ref x0) = true)
    (a1 : PySem.W.nsIn K mainGlobals "is_layer" = some (some (.ref x1)))
    (l1 : K.lookup x1 = some ⟨oc1, od1, .func (PySem.W.fnOf "is_layer" "is_layer" (defArgs st_is_layer) (defBody st_is_layer) (defScope st_is_layer) .none kV1 dc1 pm1 an1 cd1 ct1), sl1⟩)
    (c1 : PySem.W.codeIn K cd1 "is_layer" = true)
    (k1 : PySem.W.keepIn K (.ref x1) = true)
    (a2 : PySem.W.nsIn K mainGlobals "check_nesting" = some (some (.ref x2)))
    (l2 : K.lookup x2 = some ⟨oc2, od2, .func (PySem.W.fnOf "check_nesting" "check_nesting" (defArgs st_check_nesting) (defBody st_check_nesting) (defScope st_check_nesting) .none kV2 dc2 pm2 an2 cd2 ct2), sl2⟩)
    (c2 : PySem.W.codeIn K cd2 "check_nesting" = true)
    (k2 : PySem.W.keepIn K (.ref x2) = true)
    (a3 : PySem.W.nsIn K mainGlobals "size_of" = some (some (.ref x3)))
    (l3 : K.lookup x3 = some ⟨oc3, od3, .func (PySem.W.fnOf "size_of" "size_of" (defArgs st_size_of) (defBody st_size_of) (defScope st_size_of) .none kV3 dc3 pm3 an3 cd3 ct3), sl3⟩)
    (c3 : PySem.W.codeIn K cd3 "size_of" = true)
    (k3 : PySem.W.keepIn K (.ref x3) = true)
    (a4 : PySem.W.nsIn K mainGlobals "time_in" = some (some (.ref x4)))
    (l4 : K.lookup x4 = some ⟨oc4, od4, .func (PySem.W.fnOf "time_in" "time_in" (defArgs st_time_in) (defBody st_time_in) (defScope st_time_in) .none kV4 dc4 pm4 an4 cd4 ct4), sl4⟩)
    (c4 : PySem.W.codeIn K cd4 "time_in" = true)
    (k4 : PySem.W.keepIn K (.ref x4) = true)
    (a5 : PySem.W.nsIn K mainGlobals "time_at" = some (some (.ref x5)))
    (l5 : K.lookup x5 = some ⟨oc5, od5, .func (PySem.W.fnOf "time_at" "time_at" (defArgs st_time_at) (defBody st_time_at) (defScope st_time_at) .none kV5 dc5 pm5 an5 cd5 ct5), sl5⟩)
    (c5 : PySem.W.codeIn K cd5 "time_at" = true)
    (k5 : PySem.W.keepIn K (.ref x5) = true)
    (a6 : PySem.W.nsIn K mainGlobals "total_of" = some (some (.ref x6)))
    (l6 : K.lookup x6 = some ⟨oc6, od6, .func (PySem.W.fnOf "total_of" "total_of" (defArgs st_total_of) (defBody st_total_of) (defScope st_total_of) .none kV6 dc6 pm6 an6 cd6 ct6), sl6⟩)
    (c6 : PySem.W.codeIn K cd6 "total_of" = true)
    (k6 : PySem.W.keepIn K (.ref x6) = true)
    (a7 : PySem.W.nsIn K mainGlobals "first_attempt_from" = some (some (.ref x7)))
    (l7 : K.lookup x7 = some ⟨oc7, od7, .func (PySem.W.fnOf "first_attempt_from" "first_attempt_from" (defArgs st_first_attempt_from) (defBody st_first_attempt_from) (defScope st_first_attempt_from) .none kV7 dc7 pm7 an7 cd7 ct7), sl7⟩)
    (c7 : PySem.W.codeIn K cd7 "first_attempt_from" = true)
    (k7 : PySem.W.keepIn K (.ref x7) = true)
    (a8 : PySem.W.nsIn K mainGlobals "_law_draw" = some (some (.ref x8)))
    (l8 : K.lookup x8 = some ⟨oc8, od8, .func (PySem.W.fnOf "_law_draw" "_law_draw" (defArgs st__law_draw) (defBody st__law_draw) (defScope st__law_draw) .none kV8 dc8 pm8 an8 cd8 ct8), sl8⟩)
    (c8 : PySem.W.codeIn K cd8 "_law_draw" = true)
    (k8 : PySem.W.keepIn K (.ref x8) = true)
    (a9 : PySem.W.nsIn K mainGlobals "_law_wait" = some (some (.ref x9)))
    (l9 : K.lookup x9 = some ⟨oc9, od9, .func (PySem.W.fnOf "_law_wait" "_law_wait" (defArgs st__law_wait) (defBody st__law_wait) (defScope st__law_wait) .none kV9 dc9 pm9 an9 cd9 ct9), sl9⟩)
    (c9 : PySem.W.codeIn K cd9 "_law_wait" = true)
    (k9 : PySem.W.keepIn K (.ref x9) = true)
    (a10 : PySem.W.nsIn K mainGlobals "_law_tier" = some (some (.ref x10)))
    (l10 : K.lookup x10 = some ⟨oc10, od10, .func (PySem.W.fnOf "_law_tier" "_law_tier" (defArgs st__law_tier) (defBody st__law_tier) (defScope st__law_tier) .none kV10 dc10 pm10 an10 cd10 ct10), sl10⟩)
    (c10 : PySem.W.codeIn K cd10 "_law_tier" = true)
    (k10 : PySem.W.keepIn K (.ref x10) = true)
    (a11 : PySem.W.nsIn K mainGlobals "_law_large" = some (some (.ref x11)))
    (l11 : K.lookup x11 = some ⟨oc11, od11, .func (PySem.W.fnOf "_law_large" "_law_large" (defArgs st__law_large) (defBody st__law_large) (defScope st__law_large) .none kV11 dc11 pm11 an11 cd11 ct11), sl11⟩)
    (c11 : PySem.W.codeIn K cd11 "_law_large" = true)
    (k11 : PySem.W.keepIn K (.ref x11) = true)
    (a12 : PySem.W.nsIn K mainGlobals "_law_sum_in" = some (some (.ref x12)))
    (l12 : K.lookup x12 = some ⟨oc12, od12, .func (PySem.W.fnOf "_law_sum_in" "_law_sum_in" (defArgs st__law_sum_in) (defBody st__law_sum_in) (defScope st__law_sum_in) .none kV12 dc12 pm12 an12 cd12 ct12), sl12⟩)
    (c12 : PySem.W.codeIn K cd12 "_law_sum_in" = true)
    (k12 : PySem.W.keepIn K (.ref x12) = true)
    (a13 : PySem.W.nsIn K mainGlobals "_law_size" = some (some (.ref x13)))
    (l13 : K.lookup x13 = some ⟨oc13, od13, .func (PySem.W.fnOf "_law_size" "_law_size" (defArgs st__law_size) (defBody st__law_size) (defScope st__law_size) .none kV13 dc13 pm13 an13 cd13 ct13), sl13⟩)
    (c13 : PySem.W.codeIn K cd13 "_law_size" = true)
    (k13 : PySem.W.keepIn K (.ref x13) = true)
    (a14 : PySem.W.nsIn K mainGlobals "_law_time" = some (some (.ref x14)))
    (l14 : K.lookup x14 = some ⟨oc14, od14, .func (PySem.W.fnOf "_law_time" "_law_time" (defArgs st__law_time) (defBody st__law_time) (defScope st__law_time) .none kV14 dc14 pm14 an14 cd14 ct14), sl14⟩)
    (c14 : PySem.W.codeIn K cd14 "_law_time" = true)
    (k14 : PySem.W.keepIn K (.ref x14) = true)
    (a15 : PySem.W.nsIn K mainGlobals "_law_parts" = some (some (.ref x15)))
    (l15 : K.lookup x15 = some ⟨oc15, od15, .func (PySem.W.fnOf "_law_parts" "_law_parts" (defArgs st__law_parts) (defBody st__law_parts) (defScope st__law_parts) .none kV15 dc15 pm15 an15 cd15 ct15), sl15⟩)
    (c15 : PySem.W.codeIn K cd15 "_law_parts" = true)
    (k15 : PySem.W.keepIn K (.ref x15) = true)
    (a16 : PySem.W.nsIn K mainGlobals "_law_split" = some (some (.ref x16)))
    (l16 : K.lookup x16 = some ⟨oc16, od16, .func (PySem.W.fnOf "_law_split" "_law_split" (defArgs st__law_split) (defBody st__law_split) (defScope st__law_split) .none kV16 dc16 pm16 an16 cd16 ct16), sl16⟩)
    (c16 : PySem.W.codeIn K cd16 "_law_split" = true)
    (k16 : PySem.W.keepIn K (.ref x16) = true)
    (a17 : PySem.W.nsIn K mainGlobals "_law_first_right" = some (some (.ref x17)))
    (l17 : K.lookup x17 = some ⟨oc17, od17, .func (PySem.W.fnOf "_law_first_right" "_law_first_right" (defArgs st__law_first_right) (defBody st__law_first_right) (defScope st__law_first_right) .none kV17 dc17 pm17 an17 cd17 ct17), sl17⟩)
    (c17 : PySem.W.codeIn K cd17 "_law_first_right" = true)
    (k17 : PySem.W.keepIn K (.ref x17) = true)
    (a18 : PySem.W.nsIn K mainGlobals "_law_number" = some (some (.ref x18)))
    (l18 : K.lookup x18 = some ⟨oc18, od18, .func (PySem.W.fnOf "_law_number" "_law_number" (defArgs st__law_number) (defBody st__law_number) (defScope st__law_number) .none kV18 dc18 pm18 an18 cd18 ct18), sl18⟩)
    (c18 : PySem.W.codeIn K cd18 "_law_number" = true)
    (k18 : PySem.W.keepIn K (.ref x18) = true)
    (a19 : PySem.W.nsIn K mainGlobals "_law_right" = some (some (.ref x19)))
    (l19 : K.lookup x19 = some ⟨oc19, od19, .func (PySem.W.fnOf "_law_right" "_law_right" (defArgs st__law_right) (defBody st__law_right) (defScope st__law_right) .none kV19 dc19 pm19 an19 cd19 ct19), sl19⟩)
    (c19 : PySem.W.codeIn K cd19 "_law_right" = true)
    (k19 : PySem.W.keepIn K (.ref x19) = true)
    (a20 : PySem.W.nsIn K mainGlobals "law" = some (some (.ref x20)))
    (l20 : K.lookup x20 = some ⟨oc20, od20, .func (PySem.W.fnOf "law" "law" (defArgs st_law) (defBody st_law) (defScope st_law) .none kV20 dc20 pm20 an20 cd20 ct20), sl20⟩)
    (c20 : PySem.W.codeIn K cd20 "law" = true)
    (k20 : PySem.W.keepIn K (.ref x20) = true)
    (z0 : PySem.W.nsIn K mainGlobals "abs" = some none)
    (z1 : PySem.W.nsIn K mainGlobals "all" = some none)
    (z2 : PySem.W.nsIn K mainGlobals "divmod" = some none)
    (z3 : PySem.W.nsIn K mainGlobals "enumerate" = some none)
    (z4 : PySem.W.nsIn K mainGlobals "isinstance" = some none)
    (z5 : PySem.W.nsIn K mainGlobals "len" = some none)
    (z6 : PySem.W.nsIn K mainGlobals "max" = some none)
    (z7 : PySem.W.nsIn K mainGlobals "min" = some none)
    (z8 : PySem.W.nsIn K mainGlobals "range" = some none)
    (z9 : PySem.W.nsIn K mainGlobals "sum" = some none)
    (z10 : PySem.W.nsIn K mainGlobals "tuple" = some none)
    (z11 : PySem.W.nsIn K mainGlobals "zip" = some none)
    : ∃ E : Fs K mg, E.f_law = x20 ∧ E.fd_law = PySem.W.fnOf "law" "law" (defArgs st_law) (defBody st_law) (defScope st_law) .none kV20 dc20 pm20 an20 cd20 ct20 := ⟨{
      f__law_pool := x0,
      fd__law_pool := _,
      F__law_pool := fun_mk (st := st__law_pool) l0 c0 k0,
      g__law_pool := PySem.W.mg_of X G a0,
      b__law_pool := (fun_mk (st := st__law_pool) l0 c0 k0).binds (ps := ["script", "at"]) fun _ _ _ _ _ _ us hl => match us, hl with | [_, _], _ => rfl,
      f_is_layer := x1,
      fd_is_layer := _,
      F_is_layer := fun_mk (st := st_is_layer) l1 c1 k1,
      g_is_layer := PySem.W.mg_of X G a1,
      b_is_layer := (fun_mk (st := st_is_layer) l1 c1 k1).binds (ps := ["layer"]) fun _ _ _ _ _ _ us hl => match us, hl with | [_], _ => rfl,
      f_check_nesting := x2,
      fd_check_nesting := _,
      F_check_nesting := fun_mk (st := st_check_nesting) l2 c2 k2,
      g_check_nesting := PySem.W.mg_of X G a2,
      b_check_nesting := (fun_mk (st := st_check_nesting) l2 c2 k2).binds (ps := ["nesting"]) fun _ _ _ _ _ _ us hl => match us, hl with | [_], _ => rfl,
      f_size_of := x3,
      fd_size_of := _,
      F_size_of := fun_mk (st := st_size_of) l3 c3 k3,
      g_size_of := PySem.W.mg_of X G a3,
      b_size_of := (fun_mk (st := st_size_of) l3 c3 k3).binds (ps := ["layer"]) fun _ _ _ _ _ _ us hl => match us, hl with | [_], _ => rfl,
      f_time_in := x4,
      fd_time_in := _,
      F_time_in := fun_mk (st := st_time_in) l4 c4 k4,
      g_time_in := PySem.W.mg_of X G a4,
      b_time_in := (fun_mk (st := st_time_in) l4 c4 k4).binds (ps := ["layer", "attempt"]) fun _ _ _ _ _ _ us hl => match us, hl with | [_, _], _ => rfl,
      f_time_at := x5,
      fd_time_at := _,
      F_time_at := fun_mk (st := st_time_at) l5 c5 k5,
      g_time_at := PySem.W.mg_of X G a5,
      b_time_at := (fun_mk (st := st_time_at) l5 c5 k5).binds (ps := ["nesting", "attempt"]) fun _ _ _ _ _ _ us hl => match us, hl with | [_, _], _ => rfl,
      f_total_of := x6,
      fd_total_of := _,
      F_total_of := fun_mk (st := st_total_of) l6 c6 k6,
      g_total_of := PySem.W.mg_of X G a6,
      b_total_of := (fun_mk (st := st_total_of) l6 c6 k6).binds (ps := ["nesting"]) fun _ _ _ _ _ _ us hl => match us, hl with | [_], _ => rfl,
      f_first_attempt_from := x7,
      fd_first_attempt_from := _,
      F_first_attempt_from := fun_mk (st := st_first_attempt_from) l7 c7 k7,
      g_first_attempt_from := PySem.W.mg_of X G a7,
      b_first_attempt_from := (fun_mk (st := st_first_attempt_from) l7 c7 k7).binds (ps := ["nesting", "time"]) fun _ _ _ _ _ _ us hl => match us, hl with | [_, _], _ => rfl,
      f__law_draw := x8,
      fd__law_draw := _,
      F__law_draw := fun_mk (st := st__law_draw) l8 c8 k8,
      g__law_draw := PySem.W.mg_of X G a8,
      b__law_draw := (fun_mk (st := st__law_draw) l8 c8 k8).binds (ps := ["pool", "many"]) fun _ _ _ _ _ _ us hl => match us, hl with | [_, _], _ => rfl,
      f__law_wait := x9,
      fd__law_wait := _,
      F__law_wait := fun_mk (st := st__law_wait) l9 c9 k9,
      g__law_wait := PySem.W.mg_of X G a9,
      b__law_wait := (fun_mk (st := st__law_wait) l9 c9 k9).binds (ps := ["pool"]) fun _ _ _ _ _ _ us hl => match us, hl with | [_], _ => rfl,
      f__law_tier := x10,
      fd__law_tier := _,
      F__law_tier := fun_mk (st := st__law_tier) l10 c10 k10,
      g__law_tier := PySem.W.mg_of X G a10,
      b__law_tier := (fun_mk (st := st__law_tier) l10 c10 k10).binds (ps := ["pool", "most"]) fun _ _ _ _ _ _ us hl => match us, hl with | [_, _], _ => rfl,
      f__law_large := x11,
      fd__law_large := _,
      F__law_large := fun_mk (st := st__law_large) l11 c11 k11,
      g__law_large := PySem.W.mg_of X G a11,
      b__law_large := (fun_mk (st := st__law_large) l11 c11 k11).binds (ps := ["pool"]) fun _ _ _ _ _ _ us hl => match us, hl with | [_], _ => rfl,
      f__law_sum_in := x12,
      fd__law_sum_in := _,
      F__law_sum_in := fun_mk (st := st__law_sum_in) l12 c12 k12,
      g__law_sum_in := PySem.W.mg_of X G a12,
      b__law_sum_in := (fun_mk (st := st__law_sum_in) l12 c12 k12).binds (ps := ["tier", "part"]) fun _ _ _ _ _ _ us hl => match us, hl with | [_, _], _ => rfl,
      f__law_size := x13,
      fd__law_size := _,
      F__law_size := fun_mk (st := st__law_size) l13 c13 k13,
      g__law_size := PySem.W.mg_of X G a13,
      b__law_size := (fun_mk (st := st__law_size) l13 c13 k13).binds (ps := ["tier"]) fun _ _ _ _ _ _ us hl => match us, hl with | [_], _ => rfl,
      f__law_time := x14,
      fd__law_time := _,
      F__law_time := fun_mk (st := st__law_time) l14 c14 k14,
      g__law_time := PySem.W.mg_of X G a14,
      b__law_time := (fun_mk (st := st__law_time) l14 c14 k14).binds (ps := ["layers", "parts"]) fun _ _ _ _ _ _ us hl => match us, hl with | [_, _], _ => rfl,
      f__law_parts := x15,
      fd__law_parts := _,
      F__law_parts := fun_mk (st := st__law_parts) l15 c15 k15,
      g__law_parts := PySem.W.mg_of X G a15,
      b__law_parts := (fun_mk (st := st__law_parts) l15 c15 k15).binds (ps := ["pool", "layers"]) fun _ _ _ _ _ _ us hl => match us, hl with | [_, _], _ => rfl,
      f__law_split := x16,
      fd__law_split := _,
      F__law_split := fun_mk (st := st__law_split) l16 c16 k16,
      g__law_split := PySem.W.mg_of X G a16,
      b__law_split := (fun_mk (st := st__law_split) l16 c16 k16).binds (ps := ["layers", "number"]) fun _ _ _ _ _ _ us hl => match us, hl with | [_, _], _ => rfl,
      f__law_first_right := x17,
      fd__law_first_right := _,
      F__law_first_right := fun_mk (st := st__law_first_right) l17 c17 k17,
      g__law_first_right := PySem.W.mg_of X G a17,
      b__law_first_right := (fun_mk (st := st__law_first_right) l17 c17 k17).binds (ps := ["layers", "moment", "end"]) fun _ _ _ _ _ _ us hl => match us, hl with | [_, _, _], _ => rfl,
      f__law_number := x18,
      fd__law_number := _,
      F__law_number := fun_mk (st := st__law_number) l18 c18 k18,
      g__law_number := PySem.W.mg_of X G a18,
      b__law_number := (fun_mk (st := st__law_number) l18 c18 k18).binds (ps := ["layers", "parts"]) fun _ _ _ _ _ _ us hl => match us, hl with | [_, _], _ => rfl,
      f__law_right := x19,
      fd__law_right := _,
      F__law_right := fun_mk (st := st__law_right) l19 c19 k19,
      g__law_right := PySem.W.mg_of X G a19,
      b__law_right := (fun_mk (st := st__law_right) l19 c19 k19).binds (ps := ["pool"]) fun _ _ _ _ _ _ us hl => match us, hl with | [_], _ => rfl,
      f_law := x20,
      fd_law := _,
      F_law := fun_mk (st := st_law) l20 c20 k20,
      g_law := PySem.W.mg_of X G a20,
      b_law := (fun_mk (st := st_law) l20 c20 k20).binds (ps := ["script"]) fun _ _ _ _ _ _ us hl => match us, hl with | [_], _ => rfl,
      z_abs := PySem.W.mg_none_of X G z0,
      z_all := PySem.W.mg_none_of X G z1,
      z_divmod := PySem.W.mg_none_of X G z2,
      z_enumerate := PySem.W.mg_none_of X G z3,
      z_isinstance := PySem.W.mg_none_of X G z4,
      z_len := PySem.W.mg_none_of X G z5,
      z_max := PySem.W.mg_none_of X G z6,
      z_min := PySem.W.mg_none_of X G z7,
      z_range := PySem.W.mg_none_of X G z8,
      z_sum := PySem.W.mg_none_of X G z9,
      z_tuple := PySem.W.mg_none_of X G z10,
      z_zip := PySem.W.mg_none_of X G z11 }, rfl, rfl⟩
theorem all_mk {l : PySem.W.OpenLaw} {w : World} {K : PySem.W.Frag} {h : Heap} {mg : Str → Option Value} {fa : Addr} (hfa : mg "law" = some (.ref fa)) {kV dc pm cd ct : Value} {x : Addr} {an : Option Addr} (A : ∃ E : Fs K mg, E.f_law = x ∧ E.fd_law = PySem.W.fnOf "law" "law" (defArgs st_law) (defBody st_law) (defScope st_law) .none kV dc pm an cd ct) :
    ∃ fd : FuncData, (∀ (s : Shared) (u : Value), BindsTo s fd ⟨[u], []⟩ [("script", u)]) ∧ ∀ base : Heap, K.In base → base.Ns mainGlobals mg → FnG l.prog w K mg base 6 fa fd ["script"] (SpD K mg none 1 0 r_law) := by
  obtain ⟨E, e1, e2⟩ := A
  have e3 := hfa.symm.trans E.g_law
  have e4 : fa = E.f_law := by cases e3; rfl
  subst e4
  refine ⟨E.fd_law, fun s u => ?_, fun base _ _ => ok_law E⟩
  rw [e2]
  exact .of_eq rfl
end Lk21

namespace Lk21
open PySem PySem.Spec VL PG FT FS
theorem eq_draw : r__law_draw = FC.r__law_draw := rfl
theorem eq_large : r__law_large = FC.r__law_large := rfl
theorem eq_pool : r__law_pool = FC.r__law_pool := rfl
theorem eq_number : r__law_number = FT.r__law_number := rfl
theorem eq_time : r__law_time = FT.r__law_time := rfl
theorem eq_first : r_first_attempt_from = FS.r_first_attempt_from := rfl
theorem eq_fr : r__law_first_right = FS.r__law_first_right := rfl
noncomputable abbrev bF : Rho → SO := dIf (dNotB (dB (dFn 3 r__law_first_right (dCons (dVar 1) (dCons (dVar 4) (dCons (dVar 2) dNil)))))) (dRet (dBl false)) dEnd
noncomputable abbrev bG : Rho → SO := dIf (dNotB (dB (dFn 3 r__law_first_right (dCons (dVar 1) (dCons (dVar 7) (dCons (dVar 2) dNil)))))) (dRet (dBl false)) dEnd
theorem momF (ls : List Ly) (ok : ∀ l ∈ ls, l.Ok) (hw : ∀ l ∈ ls, FC.W l) (hl : ls.length ≤ 8) (ts : List Int) (ht : ∀ t ∈ ts, 0 ≤ t) (p0 p3 p4 p5 p6 p7 p8 : Option D) :
    ∃ q4, loopD (gSet 4) bF (ts.map D.int) [p0, some (Ns ls), some (.int (ta ls (tot ls - 1))), p3, p4, p5, p6, p7, p8] = .nx [p0, some (Ns ls), some (.int (ta ls (tot ls - 1))), p3, q4, p5, p6, p7, p8] := by
  obtain ⟨r', e, q4, rfl⟩ := loop_inv (g := gSet 4) (b := bF) (fun i r => ∃ q4, r = [p0, some (Ns ls), some (.int (ta ls (tot ls - 1))), p3, q4, p5, p6, p7, p8]) (ts.map D.int) 0 [p0, some (Ns ls), some (.int (ta ls (tot ls - 1))), p3, p4, p5, p6, p7, p8] ⟨p4, rfl⟩ (by
    rintro i d r hd ⟨q4, rfl⟩
    rw [List.getElem?_map] at hd
    cases ew : ts[i]? with
    | none => rw [ew] at hd; cases hd
    | some t =>
      rw [ew] at hd
      cases hd
      have e := fr_ok ls ok hw (by omega) t (ht t (List.mem_of_getElem? ew))
      rw [← eq_fr] at e
      exact ⟨_, [p0, some (Ns ls), some (.int (ta ls (tot ls - 1))), p3, some (.int t), p5, p6, p7, p8], rfl, .inl (by simp [e]), _, rfl⟩)
  exact ⟨q4, e⟩
theorem momG (ls : List Ly) (ok : ∀ l ∈ ls, l.Ok) (hw : ∀ l ∈ ls, FC.W l) (hl : ls.length ≤ 8) (ts : List Int) (ht : ∀ t ∈ ts, 0 ≤ t) (p0 p3 p4 p5 p6 p7 p8 : Option D) :
    ∃ q7, loopD (gSet 7) bG (ts.map D.int) [p0, some (Ns ls), some (.int (ta ls (tot ls - 1))), p3, p4, p5, p6, p7, p8] = .nx [p0, some (Ns ls), some (.int (ta ls (tot ls - 1))), p3, p4, p5, p6, q7, p8] := by
  obtain ⟨r', e, q7, rfl⟩ := loop_inv (g := gSet 7) (b := bG) (fun i r => ∃ q7, r = [p0, some (Ns ls), some (.int (ta ls (tot ls - 1))), p3, p4, p5, p6, q7, p8]) (ts.map D.int) 0 [p0, some (Ns ls), some (.int (ta ls (tot ls - 1))), p3, p4, p5, p6, p7, p8] ⟨p7, rfl⟩ (by
    rintro i d r hd ⟨q7, rfl⟩
    rw [List.getElem?_map] at hd
    cases ew : ts[i]? with
    | none => rw [ew] at hd; cases hd
    | some t =>
      rw [ew] at hd
      cases hd
      have e := fr_ok ls ok hw (by omega) t (ht t (List.mem_of_getElem? ew))
      rw [← eq_fr] at e
      exact ⟨_, [p0, some (Ns ls), some (.int (ta ls (tot ls - 1))), p3, p4, p5, p6, some (.int t), p8], rfl, .inl (by simp [e]), _, rfl⟩)
  exact ⟨q7, e⟩
theorem last_ok (ls : List Ly) (hl : ls.length ≤ 8) (p0 p2 p3 p4 p5 p6 p7 p8 : Option D) :
    lcD [8] (dItL (dVar 1)) (gSet 8) dTrue (d2 iSub (dFn 1 r__law_size (dCons (dVar 8) dNil)) (dI 1)) [p0, some (Ns ls), p2, p3, p4, p5, p6, p7, p8] = .ok (iL (ls.map fun l => l.size - 1)) [p0, some (Ns ls), p2, p3, p4, p5, p6, p7, none] := by
  obtain ⟨out, r', ec, rfl, rfl⟩ := comp_inv (vs := [8]) (g := gSet 8) (ts := dTrue) (fe := d2 iSub (dFn 1 r__law_size (dCons (dVar 8) dNil)) (dI 1))
    (fun i acc r => acc = ((ls.take i).map fun l => l.size - 1).map D.int ∧ r = [p0, some (Ns ls), p2, p3, p4, p5, p6, p7, none]) (ls.map Ly.d) 0 [] [p0, some (Ns ls), p2, p3, p4, p5, p6, p7, none] ⟨rfl, rfl⟩ (by
      rintro i d acc r hd ⟨rfl, rfl⟩
      rw [List.getElem?_map] at hd
      cases ew : ls[i]? with
      | none => rw [ew] at hd; cases hd
      | some l =>
        rw [ew] at hd
        cases hd
        have es : r__law_size [l.d] = .ok (.int l.size) none := size_ok l
        rw [Nat.zero_add]
        have et : ls.take (i + 1) = ls.take i ++ [l] := by rw [List.take_add_one, ew]; rfl
        refine ⟨_, rfl, .inr ⟨[p0, some (Ns ls), p2, p3, p4, p5, p6, p7, some l.d], .int (l.size - 1), [p0, some (Ns ls), p2, p3, p4, p5, p6, p7, some l.d], rfl, by simp [es], ?_, by simp⟩⟩
        rw [et, List.map_append, List.map_append]
        rfl)
  rw [List.length_map, Nat.zero_add, List.take_length] at ec
  simp [ec, show ls.length ≤ 100000 by omega]
theorem num_lastN : ∀ {ls : List Ly}, (∀ l ∈ ls, l.Ok) → num ls (ls.map fun l => l.size - 1) = tot ls - 1
  | [], _ => rfl
  | l :: ls, ok => by
    have ih := num_lastN (ls := ls) fun x hx => ok x (List.mem_cons_of_mem _ hx)
    show l.size - 1 + l.size * num ls (ls.map fun l => l.size - 1) = l.size * tot ls - 1
    rw [ih, Int.mul_sub, Int.mul_one]
    omega
end Lk21

namespace Lk21
open PySem PySem.Spec VL PG FT FS
theorem parts_ok (ls : List Ly) (ok : ∀ l ∈ ls, l.Ok) (hl : ls.length ≤ 8) {n : Nat} {s : D} (hs : FC.Pool n s) (hn : n ≤ 600000000) : ∃ ps s', r__law_parts [s, Ns ls] = .ok (iL ps) (some s') ∧ Dig ls ps ∧ FC.Pool (n + 24) s' := by
  obtain ⟨r', e, s', ps, z3, z4, rfl, hd, hp⟩ := loop_inv (g := gSet 3) (b := dSeq (dSet 4 (dFn 1 r__law_size (dCons (dVar 3) dNil))) (dExpr (dMut 2 hAppend (dCons (d2 pIx (dLst (dCons (dI 0) (dCons (d2 iSub (dVar 4) (dI 1)) (dCons (dCallIo 0 2 r__law_draw (dCons (dVar 4) dNil)) (dCons (dCallIo 0 2 r__law_draw (dCons (dVar 4) dNil)) dNil))))) (dCallIo 0 2 r__law_draw (dCons (dI 4) dNil))) dNil))))
    (fun i r => ∃ (s' : D) (ps : List Int) (z3 z4 : Option D), r = [some s', some (Ns ls), some (iL ps), z3, z4] ∧ Dig (ls.take i) ps ∧ FC.Pool (n + 3 * i) s') (ls.map Ly.d) 0 [some s, some (Ns ls), some (.lst []), none, none] ⟨s, [], none, none, rfl, trivial, hs⟩ (by
      rintro i d r hdd ⟨s', ps, z3, z4, rfl, hd, hp⟩
      rw [List.getElem?_map] at hdd
      cases ew : ls[i]? with
      | none => rw [ew] at hdd; cases hdd
      | some l =>
        rw [ew] at hdd
        cases hdd
        have hi : i < ls.length := (List.getElem?_eq_some_iff.mp ew).1
        have okl := ok l (List.mem_of_getElem? ew)
        have lp := okl.pos
        have es : r__law_size [l.d] = .ok (.int l.size) none := size_ok l
        obtain ⟨v1, s1, e1, a1, b1, h1⟩ := FC.draw_ok hp (many := l.size) (by omega) okl.div (by omega)
        obtain ⟨v2, s2, e2, a2, b2, h2⟩ := FC.draw_ok h1 (many := l.size) (by omega) okl.div (by omega)
        obtain ⟨v3, s3, e3, a3, b3, h3⟩ := FC.draw_ok h2 (many := 4) (by decide) (by decide) (by omega)
        rw [← eq_draw] at e1 e2 e3
        have hx : ∃ p, pIx (.lst [.int 0, .int (l.size - 1), .int v1, .int v2]) (.int v3) = some (.int p) ∧ 0 ≤ p ∧ p < l.size := by
          have : v3 = 0 ∨ v3 = 1 ∨ v3 = 2 ∨ v3 = 3 := by omega
          rcases this with h | h | h | h <;> subst h
          · exact ⟨0, rfl, by omega, by omega⟩
          · exact ⟨_, rfl, by omega, by omega⟩
          · exact ⟨v1, rfl, a1, b1⟩
          · exact ⟨v2, rfl, a2, b2⟩
        obtain ⟨p, hp1, p0, p1⟩ := hx
        have hlen := dig_len hd
        have hlen2 : ps.length ≤ 8 := by rw [hlen, List.length_take]; omega
        have happ : hAppend (ps.map D.int) [.int p] = some (.non, (ps ++ [p]).map D.int) := by
          rw [hAppend_ok (by rw [List.length_map]; omega), List.map_append]; rfl
        have et : ls.take (0 + i + 1) = ls.take i ++ [l] := by rw [Nat.zero_add, List.take_add_one, ew]; rfl
        rw [Nat.zero_add] at hd
        refine ⟨[some s', some (Ns ls), some (iL ps), some l.d, z4], [some s3, some (Ns ls), some (iL (ps ++ [p])), some l.d, some (.int l.size)], rfl, .inl ?_, s3, ps ++ [p], _, _, rfl, ?_, h3.mono (by omega)⟩
        · simp [es, e1, e2, e3, lstD, hp1, happ]
        · rw [et]; exact dig_snoc hd p0 p1)
  rw [List.length_map, Nat.zero_add, List.take_length] at hd
  rw [List.length_map] at hp
  refine ⟨ps, s', ?_, hd, hp.mono (by omega)⟩
  have q : d__law_parts [some s, some (Ns ls), none, none, none] = .rt (iL ps) [some s', some (Ns ls), some (iL ps), z3, z4] := by
    simp [d__law_parts, e]
  exact runF_io rfl q rfl

noncomputable abbrev bT : Rho → SO := dSeq (dSet 6 (dCallIo 0 2 r__law_parts (dCons (dVar 1) dNil)))
  (dSeq (dSet 4 (dFn 2 r__law_time (dCons (dVar 1) (dCons (dVar 6) dNil))))
  (dSeq (dIf (dB (d2 iGt (dFn 2 r_first_attempt_from (dCons (dVar 1) (dCons (dVar 4) dNil))) (dFn 2 r__law_number (dCons (dVar 1) (dCons (dVar 6) dNil))))) (dRet (dBl false)) dEnd)
  (dFor (dItL (dLst (dCons (dVar 4) (dCons (d2 iAdd (dVar 4) (dI 1)) (dCons (dN pMax2 (dCons (dI 0) (dCons (d2 iSub (dVar 4) (dI 1)) dNil))) dNil))))) (gSet 7) bG)))
theorem turn_ok (ls : List Ly) (ok : ∀ l ∈ ls, l.Ok) (hw : ∀ l ∈ ls, FC.W l) (hl : ls.length ≤ 8) {n : Nat} {s : D} (hs : FC.Pool n s) (hn : n ≤ 600000000) (p3 p4 p5 p6 p7 p8 : Option D) :
    ∃ s' q4 q6 q7, bT [some s, some (Ns ls), some (.int (ta ls (tot ls - 1))), p3, p4, p5, p6, p7, p8] = .nx [some s', some (Ns ls), some (.int (ta ls (tot ls - 1))), p3, q4, p5, q6, q7, p8] ∧ FC.Pool (n + 24) s' := by
  obtain ⟨ps, s1, e1, hd, h1⟩ := parts_ok ls ok hl hs hn
  have bd := num_bd ok hd
  have e2 := number_ok ls ps ok hd (by omega)
  rw [← eq_number] at e2
  have e4 := lawtime_ok ls ps ok hw hd (by omega)
  rw [← eq_time] at e4
  have tb := ta_bd ok hw (num ls ps).toNat (by omega)
  rw [show ((num ls ps).toNat : Int) = num ls ps by omega] at tb
  obtain ⟨m, e5, m0, m1, m2, m3⟩ := first_some ls ok hw (by omega) (ta ls (num ls ps)) tb.1 (ta_le ok hw bd.1 (by omega) (by omega))
  rw [← eq_first] at e5
  have hm : ¬ num ls ps < m := fun z => by have := m3 _ bd.1 z; omega
  obtain ⟨q7, e6⟩ := momG ls ok hw hl [ta ls (num ls ps), ta ls (num ls ps) + 1, if ta ls (num ls ps) - 1 > 0 then ta ls (num ls ps) - 1 else 0] (by
    intro t ht
    simp only [List.mem_cons, List.not_mem_nil, or_false] at ht
    rcases ht with rfl | rfl | rfl
    · omega
    · omega
    · split <;> omega) (some s1) p3 (some (.int (ta ls (num ls ps)))) p5 (some (iL ps)) p7 p8
  refine ⟨s1, some (.int (ta ls (num ls ps))), some (iL ps), q7, ?_, h1⟩
  have n3 : ∀ x y z, lstD [x, y, z] = some (.lst [x, y, z]) := fun x y z => rfl
  simp only [List.map_cons, List.map_nil] at e6
  simp only [bT, ap_dSeq, ap_dSet, ap_dCallIo, rget0, rgetS, ap_dCons, ap_dVar, lift_some, ap_dNil, R.bind_ok, ioGo_some, List.length_cons, List.length_nil, Nat.zero_add, Nat.reduceAdd, if_true, e1, ioDR_ok, List.set_cons_zero, R.then_ok, List.set_cons_succ, ap_dFn, e4, ofDR_ok, ap_dIf, ap_dB, ap_d2, e5, e2, iGt_ii, asB_bl, decide_eq_false hm, Bool.false_eq_true, if_false, ap_dEnd, ap_dFor, ap_dItL, ap_dLst, ap_dI, iAdd_ii, ap_dN, iSub_ii, pMax2_ii, n3, itemsL_lst, e6]
theorem big_ok : d2 iMul (d2 iMul (d2 iMul (d2 iPow (dI 10) (dI 60)) (d2 iPow (dI 10) (dI 60))) (d2 iPow (dI 10) (dI 60))) (d2 iPow (dI 10) (dI 30)) = fun r => R.ok (.int (10 ^ 210)) r := by
  funext r
  have a1 : iMul (.int (10 ^ 60)) (.int (10 ^ 60)) = some (.int (10 ^ 120)) := (mul_log (n := 240) (m := 240) (by decide) (by decide) (by decide) (by decide) (by decide) (by decide) (by decide)).trans (congrArg (fun z => some (D.int z)) (by decide))
  have a2 : iMul (.int (10 ^ 120)) (.int (10 ^ 60)) = some (.int (10 ^ 180)) := (mul_log (n := 480) (m := 240) (by decide) (by decide) (by decide) (by decide) (by decide) (by decide) (by decide)).trans (congrArg (fun z => some (D.int z)) (by decide))
  have a3 : iMul (.int (10 ^ 180)) (.int (10 ^ 30)) = some (.int (10 ^ 210)) := (mul_log (n := 720) (m := 120) (by decide) (by decide) (by decide) (by decide) (by decide) (by decide) (by decide)).trans (congrArg (fun z => some (D.int z)) (by decide))
  have b1 : iPow (.int 10) (.int 60) = some (.int (10 ^ 60)) := iPow_10_60
  have b2 : iPow (.int 10) (.int 30) = some (.int (10 ^ 30)) := iPow_10_30
  simp only [ap_d2, ap_dI, R.bind_ok, b1, b2, lift_some, a1, a2, a3]
end Lk21

namespace Lk21
open PySem PySem.Spec VL PG FT FS
theorem dlog {j : Int} (h0 : 0 < j) (h : j < 2 ^ 602) : divOk j = true := by
  have := log2_lt (abs_lt (m := 602) (by omega) h) (by omega)
  unfold divOk
  rw [decide_eq_true h0, decide_eq_true (p := j.natAbs.log2 < 9000) (by omega)]
  simp
theorem many_ok : divOk (10 ^ 210) = true := by decide +kernel
theorem right_ok {n : Nat} {s : D} (hs : FC.Pool n s) (hn : n ≤ 500000000) : ∃ s', r__law_right [s] = .ok (.bl true) (some s') ∧ FC.Pool (n + 1300) s' := by
  obtain ⟨ls, s1, e1, ok, hw, l1, l2, h1⟩ := FC.large_ok hs (by omega)
  rw [← eq_large] at e1
  have z := last_ok ls l2 (some s1) none none none none none none none
  have dl := dig_last ok
  have tp := tot_pos ok
  have e2 := lawtime_ok ls _ ok hw dl (by omega)
  rw [← eq_time, num_lastN ok] at e2
  have tb := ta_bd ok hw (tot ls - 1).toNat (by omega)
  rw [show ((tot ls - 1).toNat : Int) = tot ls - 1 by omega] at tb
  have tl := tot_lt ok
  have hp : (2 : Int) ^ (70 * ls.length + 1) ≤ 2 ^ 561 := by
    have := Nat.pow_le_pow_right (n := 2) (by omega) (show 70 * ls.length + 1 ≤ 561 by omega)
    exact_mod_cast this
  have hE : ta ls (tot ls - 1) + 1 < 2 ^ 602 := by
    rw [show 602 = 41 + 561 by rfl, Int.pow_add]
    omega
  obtain ⟨v1, s2, e3, a3, b3, h2⟩ := FC.draw_ok h1 (many := 10 ^ 210) (by decide) many_ok (by omega)
  rw [← eq_draw] at e3
  obtain ⟨v2, s3, e4, a4, b4, h3⟩ := FC.draw_ok h2 (many := ta ls (tot ls - 1) + 1) (by omega) (Lk21.dlog (by omega) hE) (by omega)
  rw [← eq_draw] at e4
  obtain ⟨q4, e5⟩ := momF ls ok hw l2 [0, 1, ta ls (tot ls - 1), ta ls (tot ls - 1) + 1, ta ls (tot ls - 1) + v1, v2] (by
    intro t ht
    simp only [List.mem_cons, List.not_mem_nil, or_false] at ht
    rcases ht with rfl | rfl | rfl | rfl | rfl | rfl <;> omega) (some s3) (some (.int (ta ls (tot ls - 1) + v1))) none none none none none
  obtain ⟨r', el, s4, x4, x5, x6, x7, rfl, h4⟩ := loop_inv (g := gSet 5) (b := bT)
    (fun i r => ∃ s4 q4 q5 q6 q7, r = [some s4, some (Ns ls), some (.int (ta ls (tot ls - 1))), some (.int (ta ls (tot ls - 1) + v1)), q4, q5, q6, q7, none] ∧ FC.Pool (n + 1002 + 24 * i) s4) (rngD 0 2) 0
    [some s3, some (Ns ls), some (.int (ta ls (tot ls - 1))), some (.int (ta ls (tot ls - 1) + v1)), q4, none, none, none, none] ⟨s3, q4, none, none, none, rfl, h3⟩ (by
      rintro i d r hdd ⟨s4, q4, q5, q6, q7, rfl, h4⟩
      obtain ⟨rfl, hi⟩ := FC.rngD_at hdd
      obtain ⟨s5, y4, y6, y7, et, h5⟩ := turn_ok ls ok hw l2 h4 (by omega) (some (.int (ta ls (tot ls - 1) + v1))) q4 (some (.int (0 + (i : Nat)))) q6 q7 none
      exact ⟨_, _, rfl, .inl et, s5, y4, _, y6, y7, rfl, h5.mono (by omega)⟩)
  rw [rngD_len] at h4
  refine ⟨s4, ?_, h4.mono (by omega)⟩
  refine runF_io (r := [some s4, some (Ns ls), some (.int (ta ls (tot ls - 1))), some (.int (ta ls (tot ls - 1) + v1)), x4, x5, x6, x7, none]) rfl ?_ rfl
  show d__law_right [some s, none, none, none, none, none, none, none, none] = _
  have st1 : dSet 1 (dCallIo 0 1 r__law_large dNil) [some s, none, none, none, none, none, none, none, none] = .nx [some s1, some (Ns ls), none, none, none, none, none, none, none] := by
    simp only [ap_dSet, ap_dCallIo, rget0, ap_dNil, R.bind_ok, ioGo_some, List.length_nil, Nat.zero_add, if_true, e1, ioDR_ok, List.set_cons_zero, R.then_ok, List.set_cons_succ]
  have st2 : dSet 2 (dFn 2 r__law_time (dCons (dVar 1) (dCons (lcD [8] (dItL (dVar 1)) (gSet 8) dTrue (d2 iSub (dFn 1 r__law_size (dCons (dVar 8) dNil)) (dI 1))) dNil))) [some s1, some (Ns ls), none, none, none, none, none, none, none] = .nx [some s1, some (Ns ls), some (.int (ta ls (tot ls - 1))), none, none, none, none, none, none] := by
    simp only [ap_dSet, ap_dFn, ap_dCons, ap_dVar, rget0, rgetS, lift_some, R.bind_ok, z, ap_dNil, List.length_cons, List.length_nil, Nat.zero_add, Nat.reduceAdd, if_true, e2, ofDR_ok, R.then_ok, List.set_cons_succ, List.set_cons_zero]
  have st3 : dSet 3 (d2 iAdd (dVar 2) (dCallIo 0 2 r__law_draw (dCons (d2 iMul (d2 iMul (d2 iMul (d2 iPow (dI 10) (dI 60)) (d2 iPow (dI 10) (dI 60))) (d2 iPow (dI 10) (dI 60))) (d2 iPow (dI 10) (dI 30))) dNil))) [some s1, some (Ns ls), some (.int (ta ls (tot ls - 1))), none, none, none, none, none, none] = .nx [some s2, some (Ns ls), some (.int (ta ls (tot ls - 1))), some (.int (ta ls (tot ls - 1) + v1)), none, none, none, none, none] := by
    rw [big_ok]
    simp only [ap_dSet, ap_d2, ap_dVar, rget0, rgetS, lift_some, R.bind_ok, ap_dCallIo, ap_dCons, ap_dNil, ioGo_some, List.length_cons, List.length_nil, Nat.zero_add, Nat.reduceAdd, if_true, e3, ioDR_ok, List.set_cons_zero, iAdd_ii, R.then_ok, List.set_cons_succ]
  have st4 : dFor (dItL (dLst (dCons (dI 0) (dCons (dI 1) (dCons (dVar 2) (dCons (d2 iAdd (dVar 2) (dI 1)) (dCons (dVar 3) (dCons (dCallIo 0 2 r__law_draw (dCons (d2 iAdd (dVar 2) (dI 1)) dNil)) dNil)))))))) (gSet 4) bF [some s2, some (Ns ls), some (.int (ta ls (tot ls - 1))), some (.int (ta ls (tot ls - 1) + v1)), none, none, none, none, none] = .nx [some s3, some (Ns ls), some (.int (ta ls (tot ls - 1))), some (.int (ta ls (tot ls - 1) + v1)), q4, none, none, none, none] := by
    have n6 : ∀ x y z u v w, lstD [x, y, z, u, v, w] = some (.lst [x, y, z, u, v, w]) := fun x y z u v w => rfl
    simp only [List.map_cons, List.map_nil] at e5
    simp only [ap_dFor, ap_dItL, ap_dLst, ap_dCons, ap_dI, R.bind_ok, ap_dVar, rget0, rgetS, lift_some, ap_d2, iAdd_ii, ap_dCallIo, ap_dNil, ioGo_some, List.length_cons, List.length_nil, Nat.zero_add, Nat.reduceAdd, if_true, e4, ioDR_ok, List.set_cons_zero, n6, itemsL_lst, R.then_ok, e5]
  have st5 : dFor (dIt rng1 (dCons (dI 2) dNil)) (gSet 5) bT [some s3, some (Ns ls), some (.int (ta ls (tot ls - 1))), some (.int (ta ls (tot ls - 1) + v1)), q4, none, none, none, none] = .nx [some s4, some (Ns ls), some (.int (ta ls (tot ls - 1))), some (.int (ta ls (tot ls - 1) + v1)), x4, x5, x6, x7, none] := by
    have r1 : rng1 [.int 2] = some (rngD 0 2) := by rfl
    simp only [ap_dFor, ap_dIt, ap_dCons, ap_dI, ap_dNil, R.bind_ok, r1, lift_some, R.then_ok, el]
  rw [show d__law_right = dSeq (dSet 1 (dCallIo 0 1 r__law_large dNil)) (dSeq (dSet 2 (dFn 2 r__law_time (dCons (dVar 1) (dCons (lcD [8] (dItL (dVar 1)) (gSet 8) dTrue (d2 iSub (dFn 1 r__law_size (dCons (dVar 8) dNil)) (dI 1))) dNil))))
    (dSeq (dSet 3 (d2 iAdd (dVar 2) (dCallIo 0 2 r__law_draw (dCons (d2 iMul (d2 iMul (d2 iMul (d2 iPow (dI 10) (dI 60)) (d2 iPow (dI 10) (dI 60))) (d2 iPow (dI 10) (dI 60))) (d2 iPow (dI 10) (dI 30))) dNil))))
    (dSeq (dFor (dItL (dLst (dCons (dI 0) (dCons (dI 1) (dCons (dVar 2) (dCons (d2 iAdd (dVar 2) (dI 1)) (dCons (dVar 3) (dCons (dCallIo 0 2 r__law_draw (dCons (d2 iAdd (dVar 2) (dI 1)) dNil)) dNil)))))))) (gSet 4) bF)
    (dSeq (dFor (dIt rng1 (dCons (dI 2) dNil)) (gSet 5) bT) (dRet (dBl true)))))) from rfl, seq_eq st1, seq_eq st2, seq_eq st3, seq_eq st4, seq_eq st5]
  rfl
theorem plain (ns : List Int) (hl : ns.length ≤ 63) (hb : ∀ z ∈ ns, PySem.Builtin.Int.intBits z ≤ 1048576) : r_law [.scr ns] = .ok (.bl true) none := by
  have inner : ∀ (s : D) (p0 p1 p3 : Option D), FC.Pool 0 s → ∃ s' q3, dFor (dIt rng1 (dCons (dI 2) dNil)) (gSet 3) (dIf (dNotB (dB (dCallIo 2 1 r__law_right dNil))) (dRet (dBl false)) dEnd) [p0, p1, some s, p3] = .nx [p0, p1, some s', q3] := by
    intro s p0 p1 p3 hs
    obtain ⟨r', e, s', q3, rfl, hs'⟩ := loop_inv (g := gSet 3) (b := dIf (dNotB (dB (dCallIo 2 1 r__law_right dNil))) (dRet (dBl false)) dEnd)
      (fun i r => ∃ s' q3, r = [p0, p1, some s', q3] ∧ FC.Pool (1300 * i) s') (rngD 0 2) 0 [p0, p1, some s, p3] ⟨s, p3, rfl, hs⟩ (by
        rintro i d r hd ⟨s', q3, rfl, hs'⟩
        obtain ⟨rfl, hi⟩ := FC.rngD_at hd
        obtain ⟨s2, e, h2⟩ := right_ok hs' (by omega)
        exact ⟨_, [p0, p1, some s2, some (.int (0 + (i : Nat)))], rfl, .inl (by simp [e]), s2, _, rfl, h2.mono (by omega)⟩)
    refine ⟨s', q3, ?_⟩
    have r1 : rng1 [.int 2] = some (rngD 0 2) := by rfl
    simp only [ap_dFor, ap_dIt, ap_dCons, ap_dI, ap_dNil, R.bind_ok, r1, lift_some, R.then_ok, e]
  let m : Int := if (if (ns.length : Int) < 5 then (ns.length : Int) else 5) > 1 then (if (ns.length : Int) < 5 then (ns.length : Int) else 5) else 1
  have hm0 : 0 ≤ m := by show 0 ≤ (if (if (ns.length : Int) < 5 then (ns.length : Int) else 5) > 1 then (if (ns.length : Int) < 5 then (ns.length : Int) else 5) else 1); split <;> omega
  have hm1 : m ≤ 5 := by show (if (if (ns.length : Int) < 5 then (ns.length : Int) else 5) > 1 then (if (ns.length : Int) < 5 then (ns.length : Int) else 5) else 1) ≤ 5; split <;> (try split) <;> omega
  have r1 : rng1 [.int m] = some (rngD 0 m.toNat) := FC.rng1_ok hm0 (by omega)
  obtain ⟨r', e, q1, q2, q3, rfl⟩ := loop_inv (g := gSet 1) (b := dSeq (dSet 2 (dFn 2 r__law_pool (dCons (dVar 0) (dCons (dVar 1) dNil)))) (dFor (dIt rng1 (dCons (dI 2) dNil)) (gSet 3) (dIf (dNotB (dB (dCallIo 2 1 r__law_right dNil))) (dRet (dBl false)) dEnd)))
    (fun i r => ∃ q1 q2 q3, r = [some (.scr ns), q1, q2, q3]) (rngD 0 m.toNat) 0 [some (.scr ns), none, none, none] ⟨none, none, none, rfl⟩ (by
      rintro i d r hd ⟨q1, q2, q3, rfl⟩
      obtain ⟨rfl, hi⟩ := FC.rngD_at hd
      obtain ⟨s, e, hp⟩ := FC.pool_ok ns i (by omega)
      rw [← eq_pool] at e
      have e' : r__law_pool [.scr ns, .int (0 + (i : Nat))] = .ok s none := by rw [Int.zero_add]; exact e
      obtain ⟨s', q3', e3⟩ := inner s (some (.scr ns)) (some (.int (0 + (i : Nat)))) q3 hp
      refine ⟨_, [some (.scr ns), some (.int (0 + (i : Nat))), some s', q3'], rfl, .inl ?_, _, _, _, rfl⟩
      have st : dSet 2 (dFn 2 r__law_pool (dCons (dVar 0) (dCons (dVar 1) dNil))) [some (.scr ns), some (.int (0 + (i : Nat))), q2, q3] = .nx [some (.scr ns), some (.int (0 + (i : Nat))), some s, q3] := by
        simp only [ap_dSet, ap_dFn, ap_dCons, ap_dVar, rget0, rgetS, lift_some, ap_dNil, R.bind_ok, List.length_cons, List.length_nil, Nat.zero_add, Nat.reduceAdd, if_true, e', ofDR_ok, R.then_ok, List.set_cons_succ, List.set_cons_zero]
      show dSeq _ _ [some (.scr ns), some (.int (0 + (i : Nat))), q2, q3] = _
      rw [seq_eq st]
      exact e3)
  refine runF_rt rfl (r := [some (.scr ns), q1, q2, q3]) ?_
  show d_law [some (.scr ns), none, none, none] = _
  have st : dFor (dIt rng1 (dCons (dN pMax2 (dCons (dI 1) (dCons (dN pMin2 (dCons (dI 5) (dCons (dN pLen (dCons (dVar 0) dNil)) dNil))) dNil))) dNil)) (gSet 1) (dSeq (dSet 2 (dFn 2 r__law_pool (dCons (dVar 0) (dCons (dVar 1) dNil)))) (dFor (dIt rng1 (dCons (dI 2) dNil)) (gSet 3) (dIf (dNotB (dB (dCallIo 2 1 r__law_right dNil))) (dRet (dBl false)) dEnd))) [some (.scr ns), none, none, none] = .nx [some (.scr ns), q1, q2, q3] := by
    rw [ap_dFor]
    have st0 : dIt rng1 (dCons (dN pMax2 (dCons (dI 1) (dCons (dN pMin2 (dCons (dI 5) (dCons (dN pLen (dCons (dVar 0) dNil)) dNil))) dNil))) dNil) [some (.scr ns), none, none, none] = .ok (rngD 0 m.toNat) [some (.scr ns), none, none, none] := by
      simp only [ap_dIt, ap_dCons, ap_dN, ap_dI, ap_dVar, rget0, lift_some, ap_dNil, R.bind_ok, pLen_scr, pMin2_ii, pMax2_ii]
      rw [show rng1 [.int (if (if (ns.length : Int) < 5 then (ns.length : Int) else 5) > 1 then (if (ns.length : Int) < 5 then (ns.length : Int) else 5) else 1)] = _ from r1]
      rfl
    rw [st0]
    exact e
  have z1 := first_none [] (fun l h => (nomatch h)) (fun l h => (nomatch h)) (by decide) 1 (by decide) (by decide)
  obtain ⟨n, z2, n0, n1, n2, n3⟩ := first_some [] (fun l h => (nomatch h)) (fun l h => (nomatch h)) (by decide) 0 (by decide) (by decide)
  rw [← eq_first] at z1 z2
  have hn : n = 0 := by have : n < 1 := n1; omega
  subst hn
  have em : Ns [] = .lst [] := rfl
  rw [em] at z1 z2
  rw [show d_law = dSeq (dFor (dIt rng1 (dCons (dN pMax2 (dCons (dI 1) (dCons (dN pMin2 (dCons (dI 5) (dCons (dN pLen (dCons (dVar 0) dNil)) dNil))) dNil))) dNil)) (gSet 1) (dSeq (dSet 2 (dFn 2 r__law_pool (dCons (dVar 0) (dCons (dVar 1) dNil)))) (dFor (dIt rng1 (dCons (dI 2) dNil)) (gSet 3) (dIf (dNotB (dB (dCallIo 2 1 r__law_right dNil))) (dRet (dBl false)) dEnd))))
    (dRet (dAnd (d2 pIs (dFn 2 r_first_attempt_from (dCons (dLst dNil) (dCons (dI 1) dNil))) dNon) (d2 qEq (dFn 2 r_first_attempt_from (dCons (dLst dNil) (dCons (dI 0) dNil))) (dI 0)))) from rfl, seq_eq st]
  have k0 : qEq (.int 0) (.int 0) = some (.bl true) := by rw [qEq_int]; rfl
  simp only [ap_dRet, ap_dAnd, ap_dB, ap_d2, ap_dFn, ap_dCons, ap_dLst, ap_dNil, R.bind_ok, lstD_0, lift_some, ap_dI, List.length_cons, List.length_nil, Nat.zero_add, Nat.reduceAdd, if_true, z1, z2, ofDR_ok, ap_dNon, pIs_non, isN_non, asB_bl, k0, R.then_ok]
end Lk21

open PySem PySem.W PyProof.Rows
set_option maxHeartbeats 0 in
theorem PySem.Challenge.cw_retrynest_k21_first_attempts_of_long_nes_holds : PySem.Challenge.rw_retrynest_k21_first_attempts_of_long_nes.Holds := by
  w_on; o_law; k_head; (case hw => w_witness2)
  k_fill
  refine VL.walkG (l := PySem.Challenge.rw_retrynest_k21_first_attempts_of_long_nes) (n := 63) (k := 6) (x := "script") (sp := fun K mg => VL.SpD K mg none 1 0 Lk21.r_law) rfl (by decide) rfl ⟨rfl, by decide, by decide⟩ (fun w h Y => PySem.W.kIn_of Y) ?F ?hsp
  case hsp =>
    intro w mg H a ns hl hbits only hS
    exact VL.hsp_of only hS (Lk21.plain ns hl hbits)
  case F =>
    intro w mg fa h KX G hmg
    refine' Lk21.all_mk (h := h) hmg (Lk21.facts_mk KX G ?a0 ?l0 ?c0 ?k0 ?a1 ?l1 ?c1 ?k1 ?a2 ?l2 ?c2 ?k2 ?a3 ?l3 ?c3 ?k3 ?a4 ?l4 ?c4 ?k4 ?a5 ?l5 ?c5 ?k5 ?a6 ?l6 ?c6 ?k6 ?a7 ?l7 ?c7 ?k7 ?a8 ?l8 ?c8 ?k8 ?a9 ?l9 ?c9 ?k9 ?a10 ?l10 ?c10 ?k10 ?a11 ?l11 ?c11 ?k11 ?a12 ?l12 ?c12 ?k12 ?a13 ?l13 ?c13 ?k13 ?a14 ?l14 ?c14 ?k14 ?a15 ?l15 ?c15 ?k15 ?a16 ?l16 ?c16 ?k16 ?a17 ?l17 ?c17 ?k17 ?a18 ?l18 ?c18 ?k18 ?a19 ?l19 ?c19 ?k19 ?a20 ?l20 ?c20 ?k20 ?z0 ?z1 ?z2 ?z3 ?z4 ?z5 ?z6 ?z7 ?z8 ?z9 ?z10 ?z11)
    (case a0 => k_is); (case l0 => k_is); (case c0 => k_is); (case k0 => k_is); (case a1 => k_is); (case l1 => k_is); (case c1 => k_is); (case k1 => k_is); (case a2 => k_is); (case l2 => k_is); (case c2 => k_is); (case k2 => k_is); (case a3 => k_is); (case l3 => k_is); (case c3 => k_is); (case k3 => k_is); (case a4 => k_is); (case l4 => k_is); (case c4 => k_is); (case k4 => k_is); (case a5 => k_is); (case l5 => k_is); (case c5 => k_is); (case k5 => k_is); (case a6 => k_is); (case l6 => k_is); (case c6 => k_is); (case k6 => k_is); (case a7 => k_is); (case l7 => k_is); (case c7 => k_is); (case k7 => k_is); (case a8 => k_is); (case l8 => k_is); (case c8 => k_is); (case k8 => k_is); (case a9 => k_is); (case l9 => k_is); (case c9 => k_is); (case k9 => k_is); (case a10 => k_is); (case l10 => k_is); (case c10 => k_is); (case k10 => k_is); (case a11 => k_is); (case l11 => k_is); (case c11 => k_is); (case k11 => k_is); (case a12 => k_is); (case l12 => k_is); (case c12 => k_is); (case k12 => k_is); (case a13 => k_is); (case l13 => k_is); (case c13 => k_is); (case k13 => k_is); (case a14 => k_is); (case l14 => k_is); (case c14 => k_is); (case k14 => k_is); (case a15 => k_is); (case l15 => k_is); (case c15 => k_is); (case k15 => k_is); (case a16 => k_is); (case l16 => k_is); (case c16 => k_is); (case k16 => k_is); (case a17 => k_is); (case l17 => k_is); (case c17 => k_is); (case k17 => k_is); (case a18 => k_is); (case l18 => k_is); (case c18 => k_is); (case k18 => k_is); (case a19 => k_is); (case l19 => k_is); (case c19 => k_is); (case k19 => k_is); (case a20 => k_is); (case l20 => k_is); (case c20 => k_is); (case k20 => k_is); (case z0 => k_is); (case z1 => k_is); (case z2 => k_is); (case z3 => k_is); (case z4 => k_is); (case z5 => k_is); (case z6 => k_is); (case z7 => k_is); (case z8 => k_is); (case z9 => k_is); (case z10 => k_is); (case z11 => k_is)
