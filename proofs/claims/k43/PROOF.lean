import PyProof.Rows.All
import Wide.All
import OpenK.AllK
import Wide.FinOn
import HandS.ForMost
import HandS.Exc
import HandS.ExcOwn
import HandS.WordsExc
import HandS.Flow
import HandS.Wide
import HandS.WideBits
import HandS.IsInst
import HandS.Style
import HandS.EndBits
import HandS.TryOnly
import HandS.More
import PyProof.ReprRoads
import HandS.RaiseMore
import PyProof.EnumMake
import PyProof.Draws
import HandS.Zip
import HandS.Iter
import HandS.Walk
import HandS.TupLe
import HandS.Dict
import HandS.WordsDict
import HandS.ExcInit
import KE.KExcIs
import KE.KTryMore
import HandS.ExcIs
import HandS.DictComp
import HandS.Conv
import HandS.SetFor
import HandS.Text
import HandS.FStr
import HandS.ReplaceLit
import PyProof.StrOps2
import HandS.Deep
import PyProof.Rows.ReprOcc
import PyProof.ReprText
import PyProof.StrLawsReplace
import PySem.Challenge.RW_retrynest_k43_whole_texts_both_ways
set_option Elab.async false
set_option linter.all false
set_option maxRecDepth 100000
/-! VL1: deep data, what stands for it in the heap, ownership by counting. -/
namespace VL
open PySem PySem.Spec L2

/-- deep data -/
inductive D where
  | non | bl (b : Bool) | int (i : Int) | str (x : Str) | ty (n : String) | fn (a : Addr)
  | lst (xs : List D) | tup (xs : List D) | dct (kvs : List (Key × D))
  /-- the script -/
  | scr (ns : List Int)

abbrev Cnt := Addr → Nat
def z0 : Cnt := fun _ => 0
def one (a : Addr) : Cnt := fun b => if b = a then 1 else 0
def add (c d : Cnt) : Cnt := fun a => c a + d a
theorem add_z (c : Cnt) : add c z0 = c := by funext a; simp [add, z0]
theorem z_add (c : Cnt) : add z0 c = c := by funext a; simp [add, z0]
theorem add_comm' (c d : Cnt) : add c d = add d c := by funext a; simp [add, Nat.add_comm]
theorem add_assoc' (c d e : Cnt) : add (add c d) e = add c (add d e) := by funext a; simp [add, Nat.add_assoc]
theorem add_left_comm' (c d e : Cnt) : add c (add d e) = add d (add c e) := by funext a; simp only [add]; omega
theorem add_at (c d : Cnt) (a : Addr) : add c d a = c a + d a := rfl
theorem z_at (a : Addr) : z0 a = 0 := rfl
theorem one_at (a b : Addr) : one a b = if b = a then 1 else 0 := rfl
theorem one_same (a : Addr) : one a a = 1 := if_pos rfl
theorem one_ne {a b : Addr} (h : b ≠ a) : one a b = 0 := if_neg h

def MutO : HO → Prop
  | .lst _ => True
  | .dK _ => True
  | _ => False
theorem MutO.mut {o : HO} (h : MutO o) : Mut (some o) := by
  cases o <;> first | exact h | exact h.elim

mutual
/-- at the heap H the value stands for the data; the first n levels of lists and dicts are owned (counted by c), what lies below is shared (counted by s); tuples are not counted -/
inductive Rep (K : PySem.W.Frag) (H : Hp) : Nat → D → V → Cnt → Cnt → Prop
  | non {n} : Rep K H n .non .non z0 z0
  | bl {n} (b : Bool) : Rep K H n (.bl b) (.bl b) z0 z0
  | int {n} (i : Int) : Rep K H n (.int i) (.int i) z0 z0
  | str {n} (x : Str) : Rep K H n (.str x) (.str x) z0 z0
  | ty {n} (x : String) : Rep K H n (.ty x) (.ty x) z0 z0
  | fn {n} (a : Addr) : Rep K H n (.fn a) (.ref a) z0 z0
  | lst0 {a vs ds c s} : H a = some (.lst vs) → Reps K H 0 ds vs c s → Rep K H 0 (.lst ds) (.ref a) c (add (one a) s)
  | scr {n a ns} (o : Obj) : H a = some (.frz o (.lst (ns.map V.int))) → Rep K H n (.scr ns) (.ref a) z0 (one a)
  | scrK {n a ns} : (∀ H', SqL K H' a (ns.map V.int)) → Rep K H n (.scr ns) (.ref a) z0 z0
  | lstS {n a vs ds c s} : H a = some (.lst vs) → Reps K H n ds vs c s → Rep K H (n + 1) (.lst ds) (.ref a) (add (one a) c) s
  | tup {n a vs ds c s} : H a = some (.tup vs) → Reps K H n ds vs c s → Rep K H n (.tup ds) (.ref a) c s
  | dct0 {a kvs ks ds vs c s} : H a = some (.dK kvs) → kvs.map (·.2) = vs → kvs.map (·.1) = ks.map (·.1) → ks.map (·.2) = ds → Reps K H 0 ds vs c s → Rep K H 0 (.dct ks) (.ref a) c (add (one a) s)
  | dctS {n a kvs ks ds vs c s} : H a = some (.dK kvs) → kvs.map (·.2) = vs → kvs.map (·.1) = ks.map (·.1) → ks.map (·.2) = ds → Reps K H n ds vs c s → Rep K H (n + 1) (.dct ks) (.ref a) (add (one a) c) s
inductive Reps (K : PySem.W.Frag) (H : Hp) : Nat → List D → List V → Cnt → Cnt → Prop
  | nil {n} : Reps K H n [] [] z0 z0
  | cons {n d ds v vs c1 s1 c2 s2} : Rep K H n d v c1 s1 → Reps K H n ds vs c2 s2 → Reps K H n (d :: ds) (v :: vs) (add c1 c2) (add s1 s2)
end

def tupO : HO → Prop
  | .tup _ => True
  | _ => False
/-- what a heap must keep for data with these counts -/
def Kp (c s : Cnt) (H H' : Hp) : Prop := ∀ a o, H a = some o → (0 < c a ∨ 0 < s a ∨ tupO o) → H' a = some o

section
variable {K : PySem.W.Frag} {H H' : Hp}
theorem Kp.left {c1 c2 s1 s2 : Cnt} (k : Kp (add c1 c2) (add s1 s2) H H') : Kp c1 s1 H H' := fun a o e h => k a o e (by
  simp only [add_at]; rcases h with h | h | h
  · exact .inl (by omega)
  · exact .inr (.inl (by omega))
  · exact .inr (.inr h))
theorem Kp.right {c1 c2 s1 s2 : Cnt} (k : Kp (add c1 c2) (add s1 s2) H H') : Kp c2 s2 H H' := fun a o e h => k a o e (by
  simp only [add_at]; rcases h with h | h | h
  · exact .inl (by omega)
  · exact .inr (.inl (by omega))
  · exact .inr (.inr h))
theorem Kp.rS {c x s : Cnt} (k : Kp c (add x s) H H') : Kp c s H H' := fun a o e h => k a o e (by
  simp only [add_at]; rcases h with h | h | h
  · exact .inl h
  · exact .inr (.inl (by omega))
  · exact .inr (.inr h))
theorem Kp.rC {c x s : Cnt} (k : Kp (add x c) s H H') : Kp c s H H' := fun a o e h => k a o e (by
  simp only [add_at]; rcases h with h | h | h
  · exact .inl (by omega)
  · exact .inr (.inl h)
  · exact .inr (.inr h))
theorem one_add_pos (a : Addr) (c : Cnt) : 0 < add (one a) c a := by simp only [add_at, one_same]; omega
mutual
theorem Rep.keep : ∀ {n : Nat} {d : D} {v : V} {c s : Cnt}, Rep K H n d v c s → Kp c s H H' → Rep K H' n d v c s
  | _, _, _, _, _, .non, _ => .non
  | _, _, _, _, _, .bl b, _ => .bl b
  | _, _, _, _, _, .int i, _ => .int i
  | _, _, _, _, _, .str x, _ => .str x
  | _, _, _, _, _, .ty x, _ => .ty x
  | _, _, _, _, _, .fn a, _ => .fn a
  | _, _, _, _, _, .lst0 h r, k => .lst0 (k _ _ h (.inr (.inl (one_add_pos _ _)))) (Reps.keep r k.rS)
  | _, _, _, _, _, .scr o h, k => .scr o (k _ _ h (.inr (.inl (by rw [one_same]; exact Nat.one_pos))))
  | _, _, _, _, _, .scrK h, _ => .scrK h
  | _, _, _, _, _, .lstS h r, k => .lstS (k _ _ h (.inl (one_add_pos _ _))) (Reps.keep r k.rC)
  | _, _, _, _, _, .tup h r, k => .tup (k _ _ h (.inr (.inr trivial))) (Reps.keep r k)
  | _, _, _, _, _, .dct0 h e1 e2 e3 r, k => .dct0 (k _ _ h (.inr (.inl (one_add_pos _ _)))) e1 e2 e3 (Reps.keep r k.rS)
  | _, _, _, _, _, .dctS h e1 e2 e3 r, k => .dctS (k _ _ h (.inl (one_add_pos _ _))) e1 e2 e3 (Reps.keep r k.rC)
theorem Reps.keep : ∀ {n : Nat} {ds : List D} {vs : List V} {c s : Cnt}, Reps K H n ds vs c s → Kp c s H H' → Reps K H' n ds vs c s
  | _, _, _, _, _, .nil, _ => .nil
  | _, _, _, _, _, .cons a b, k => .cons (Rep.keep a k.left) (Reps.keep b k.right)
end
/-- what is counted stands in the heap, as a list or a dict -/
def Dom (c s : Cnt) (H : Hp) : Prop := ∀ a, (0 < c a → ∃ o, H a = some o ∧ MutO o) ∧ (0 < s a → ∃ o, H a = some o ∧ ¬ tupO o)
theorem Dom.add {c1 c2 s1 s2 : Cnt} (h1 : Dom c1 s1 H) (h2 : Dom c2 s2 H) : Dom (add c1 c2) (add s1 s2) H := fun a => by
  refine ⟨fun h => ?_, fun h => ?_⟩
  · by_cases p : 0 < c1 a
    · exact (h1 a).1 p
    · exact (h2 a).1 (by simp only [add_at] at h; omega)
  · by_cases p : 0 < s1 a
    · exact (h1 a).2 p
    · exact (h2 a).2 (by simp only [add_at] at h; omega)
theorem Dom.z : Dom z0 z0 H := fun a => ⟨fun h => absurd h (Nat.lt_irrefl 0), fun h => absurd h (Nat.lt_irrefl 0)⟩
theorem Dom.oneS {a : Addr} {u : HO} (h : H a = some u) (m : ¬ tupO u) : Dom z0 (one a) H := fun b => by
  refine ⟨fun h => absurd h (Nat.lt_irrefl 0), fun p => ?_⟩
  by_cases e : b = a
  · subst e
    exact ⟨_, h, m⟩
  · rw [one_ne e] at p; exact absurd p (Nat.lt_irrefl 0)
theorem Dom.oneC {a : Addr} {u : HO} (h : H a = some u) (m : MutO u) : Dom (one a) z0 H := fun b => by
  refine ⟨fun p => ?_, fun h => absurd h (Nat.lt_irrefl 0)⟩
  by_cases e : b = a
  · subst e; exact ⟨_, h, m⟩
  · rw [one_ne e] at p; exact absurd p (Nat.lt_irrefl 0)
theorem Dom.addS {a : Addr} {u : HO} {c s : Cnt} (h : H a = some u) (m : ¬ tupO u) (q : Dom c s H) : Dom c (VL.add (one a) s) H := by
  have q := (Dom.oneS h m).add q
  rw [z_add] at q
  exact q
theorem Dom.addC {a : Addr} {u : HO} {c s : Cnt} (h : H a = some u) (m : MutO u) (q : Dom c s H) : Dom (VL.add (one a) c) s H := by
  have q := (Dom.oneC h m).add q
  rw [z_add] at q
  exact q
mutual
theorem Rep.dom : ∀ {n : Nat} {d : D} {v : V} {c s : Cnt}, Rep K H n d v c s → Dom c s H
  | _, _, _, _, _, .non => .z
  | _, _, _, _, _, .bl b => .z
  | _, _, _, _, _, .int i => .z
  | _, _, _, _, _, .str x => .z
  | _, _, _, _, _, .ty x => .z
  | _, _, _, _, _, .fn a => .z
  | _, _, _, _, _, .lst0 h r => .addS h (fun z => z) (Reps.dom r)
  | _, _, _, _, _, .scr o h => .oneS h (fun z => z)
  | _, _, _, _, _, .scrK h => .z
  | _, _, _, _, _, .lstS h r => .addC h trivial (Reps.dom r)
  | _, _, _, _, _, .tup h r => Reps.dom r
  | _, _, _, _, _, .dct0 h e1 e2 e3 r => .addS h (fun z => z) (Reps.dom r)
  | _, _, _, _, _, .dctS h e1 e2 e3 r => .addC h trivial (Reps.dom r)
theorem Reps.dom : ∀ {n : Nat} {ds : List D} {vs : List V} {c s : Cnt}, Reps K H n ds vs c s → Dom c s H
  | _, _, _, _, _, .nil => .z
  | _, _, _, _, _, .cons a b => (Rep.dom a).add (Reps.dom b)
end
/-- less is owned -/
structure Wk (c s c' s' : Cnt) : Prop where
  le : ∀ a, c' a ≤ c a
  sum : ∀ a, c' a + s' a = c a + s a
theorem Wk.refl (c s : Cnt) : Wk c s c s := ⟨fun _ => Nat.le_refl _, fun _ => rfl⟩
theorem Wk.trans {c s c1 s1 c2 s2 : Cnt} (a : Wk c s c1 s1) (b : Wk c1 s1 c2 s2) : Wk c s c2 s2 :=
  ⟨fun x => Nat.le_trans (b.le x) (a.le x), fun x => (b.sum x).trans (a.sum x)⟩
theorem Wk.add {c1 s1 c1' s1' c2 s2 c2' s2' : Cnt} (a : Wk c1 s1 c1' s1') (b : Wk c2 s2 c2' s2') : Wk (add c1 c2) (add s1 s2) (add c1' c2') (add s1' s2') :=
  ⟨fun x => by have := a.le x; have := b.le x; simp only [add_at]; omega, fun x => by have := a.sum x; have := b.sum x; simp only [add_at]; omega⟩
theorem Wk.toS {a : Addr} {c s c' s' : Cnt} (w : Wk c s c' s') : Wk (VL.add (one a) c) s c' (VL.add (one a) s') :=
  ⟨fun x => by have := w.le x; simp only [add_at]; omega, fun x => by have := w.sum x; simp only [add_at]; omega⟩
theorem Wk.toC {a : Addr} {c s c' s' : Cnt} (w : Wk c s c' s') : Wk (VL.add (one a) c) s (VL.add (one a) c') s' :=
  ⟨fun x => by have := w.le x; simp only [add_at]; omega, fun x => by have := w.sum x; simp only [add_at]; omega⟩
mutual
theorem Rep.wk : ∀ {n : Nat} {d : D} {v : V} {c s : Cnt}, Rep K H n d v c s → ∀ m : Nat, m ≤ n → ∃ c' s', Rep K H m d v c' s' ∧ Wk c s c' s'
  | _, _, _, _, _, .non, _, _ => ⟨_, _, .non, .refl _ _⟩
  | _, _, _, _, _, .bl b, _, _ => ⟨_, _, .bl b, .refl _ _⟩
  | _, _, _, _, _, .int i, _, _ => ⟨_, _, .int i, .refl _ _⟩
  | _, _, _, _, _, .str x, _, _ => ⟨_, _, .str x, .refl _ _⟩
  | _, _, _, _, _, .ty x, _, _ => ⟨_, _, .ty x, .refl _ _⟩
  | _, _, _, _, _, .fn a, _, _ => ⟨_, _, .fn a, .refl _ _⟩
  | _, _, _, _, _, .lst0 hh r, 0, _ => ⟨_, _, .lst0 hh r, .refl _ _⟩
  | _, _, _, _, _, .scr o hh, _, _ => ⟨_, _, .scr o hh, .refl _ _⟩
  | _, _, _, _, _, .scrK hh, _, _ => ⟨_, _, .scrK hh, .refl _ _⟩
  | _, _, _, _, _, .lstS hh r, 0, _ =>
    let ⟨_, _, r', w⟩ := Reps.wk r 0 (Nat.zero_le _)
    ⟨_, _, .lst0 hh r', w.toS⟩
  | _, _, _, _, _, .lstS hh r, m + 1, h =>
    let ⟨_, _, r', w⟩ := Reps.wk r m (Nat.le_of_succ_le_succ h)
    ⟨_, _, .lstS hh r', w.toC⟩
  | _, _, _, _, _, .tup hh r, m, h =>
    let ⟨_, _, r', w⟩ := Reps.wk r m h
    ⟨_, _, .tup hh r', w⟩
  | _, _, _, _, _, .dct0 hh e1 e2 e3 r, 0, _ => ⟨_, _, .dct0 hh e1 e2 e3 r, .refl _ _⟩
  | _, _, _, _, _, .dctS hh e1 e2 e3 r, 0, _ =>
    let ⟨_, _, r', w⟩ := Reps.wk r 0 (Nat.zero_le _)
    ⟨_, _, .dct0 hh e1 e2 e3 r', w.toS⟩
  | _, _, _, _, _, .dctS hh e1 e2 e3 r, m + 1, h =>
    let ⟨_, _, r', w⟩ := Reps.wk r m (Nat.le_of_succ_le_succ h)
    ⟨_, _, .dctS hh e1 e2 e3 r', w.toC⟩
theorem Reps.wk : ∀ {n : Nat} {ds : List D} {vs : List V} {c s : Cnt}, Reps K H n ds vs c s → ∀ m : Nat, m ≤ n → ∃ c' s', Reps K H m ds vs c' s' ∧ Wk c s c' s'
  | _, _, _, _, _, .nil, _, _ => ⟨_, _, .nil, .refl _ _⟩
  | _, _, _, _, _, .cons a b, m, h =>
    let ⟨_, _, r1, w1⟩ := Rep.wk a m h
    let ⟨_, _, r2, w2⟩ := Reps.wk b m h
    ⟨_, _, .cons r1 r2, w1.add w2⟩
end
mutual
theorem Rep.zero' : ∀ {n : Nat} {d : D} {v : V} {c s : Cnt}, Rep K H n d v c s → n = 0 → c = z0
  | _, _, _, _, _, .non, _ => rfl
  | _, _, _, _, _, .bl b, _ => rfl
  | _, _, _, _, _, .int i, _ => rfl
  | _, _, _, _, _, .str x, _ => rfl
  | _, _, _, _, _, .ty x, _ => rfl
  | _, _, _, _, _, .fn a, _ => rfl
  | _, _, _, _, _, .lst0 h r, e => Reps.zero' r rfl
  | _, _, _, _, _, .scr o h, _ => rfl
  | _, _, _, _, _, .scrK h, _ => rfl
  | _, _, _, _, _, .lstS h r, e => by cases e
  | _, _, _, _, _, .tup h r, e => Reps.zero' r e
  | _, _, _, _, _, .dct0 h e1 e2 e3 r, e => Reps.zero' r rfl
  | _, _, _, _, _, .dctS h e1 e2 e3 r, e => by cases e
theorem Reps.zero' : ∀ {n : Nat} {ds : List D} {vs : List V} {c s : Cnt}, Reps K H n ds vs c s → n = 0 → c = z0
  | _, _, _, _, _, .nil, _ => rfl
  | _, _, _, _, _, .cons a b, e => by rw [Rep.zero' a e, Reps.zero' b e, z_add]
end
theorem Rep.zero {d : D} {v : V} {c s : Cnt} (r : Rep K H 0 d v c s) : c = z0 := Rep.zero' r rfl
theorem Reps.zero {ds : List D} {vs : List V} {c s : Cnt} (r : Reps K H 0 ds vs c s) : c = z0 := Reps.zero' r rfl
theorem Reps.length {n : Nat} : ∀ {ds : List D} {vs : List V} {c s : Cnt}, Reps K H n ds vs c s → ds.length = vs.length
  | _, _, _, _, .nil => rfl
  | _, _, _, _, .cons _ b => congrArg (· + 1) (Reps.length b)
end

/-! ### steps of the heap -/
def Ok (c s : Cnt) : Prop := ∀ a, c a ≤ 1 ∧ (c a = 0 ∨ s a = 0)
theorem Ok.wk {c s c' s' : Cnt} (h : Ok c s) (w : Wk c s c' s') : Ok c' s' := fun a => by
  have h1 := h a; have h2 := w.le a; have h3 := w.sum a
  omega
structure Step (c s : Cnt) (H : Hp) (c' s' : Cnt) (H' : Hp) : Prop where
  own : ∀ a, 0 < c' a → 0 < c a ∨ H a = none
  sh : ∀ a, 0 < s' a → 0 < c a ∨ 0 < s a ∨ H a = none
  keep : ∀ a o, H a = some o → (c a = 0 ∨ tupO o) → H' a = some o
  dom : ∀ a, H a ≠ none → H' a ≠ none
  ok : Ok c' s'
theorem Step.refl {c s : Cnt} {H : Hp} (h : Ok c s) : Step c s H c s H := ⟨fun _ h => .inl h, fun _ h => .inr (.inl h), fun _ _ e _ => e, fun _ h => h, h⟩
theorem Step.trans {c s c1 s1 c2 s2 : Cnt} {H H1 H2 : Hp} (x : Step c s H c1 s1 H1) (y : Step c1 s1 H1 c2 s2 H2) : Step c s H c2 s2 H2 where
  own := fun a h => by
    rcases y.own a h with h | h
    · exact x.own a h
    · by_cases e : H a = none
      · exact .inr e
      · exact absurd h (x.dom a e)
  sh := fun a h => by
    rcases y.sh a h with h | h | h
    · rcases x.own a h with h | h
      · exact .inl h
      · exact .inr (.inr h)
    · exact x.sh a h
    · by_cases e : H a = none
      · exact .inr (.inr e)
      · exact absurd h (x.dom a e)
  keep := fun a o e h => by
    refine y.keep a o (x.keep a o e h) ?_
    rcases h with h | h
    · by_cases p : 0 < c1 a
      · rcases x.own a p with q | q
        · omega
        · rw [e] at q; cases q
      · exact .inl (by omega)
    · exact .inr h
  dom := fun a h => y.dom a (x.dom a h)
  ok := y.ok
/-- what is owned may be shared at the end -/
theorem Step.wk {c s c1 s1 c2 s2 : Cnt} {H H1 : Hp} (x : Step c s H c1 s1 H1) (w : Wk c1 s1 c2 s2) : Step c s H c2 s2 H1 where
  own := fun a h => x.own a (Nat.lt_of_lt_of_le h (w.le a))
  sh := fun a h => by
    have h1 := w.sum a; have h2 := w.le a
    by_cases p : 0 < s1 a
    · exact x.sh a p
    · rcases x.own a (by omega) with q | q
      · exact .inl q
      · exact .inr (.inr q)
  keep := x.keep
  dom := x.dom
  ok := x.ok.wk w
/-- less at the end -/
theorem Step.less {c s c1 s1 c2 s2 : Cnt} {H H1 : Hp} (x : Step c s H c1 s1 H1) (hc : ∀ a, c2 a ≤ c1 a) (hs : ∀ a, 0 < s2 a → 0 < s1 a) : Step c s H c2 s2 H1 where
  own := fun a h => x.own a (Nat.lt_of_lt_of_le h (hc a))
  sh := fun a h => x.sh a (hs a h)
  keep := x.keep
  dom := x.dom
  ok := fun a => by
    have h1 := x.ok a; have h2 := hc a; have h3 := hs a
    refine ⟨by omega, ?_⟩
    by_cases p : 0 < s2 a
    · have := h3 p; omega
    · omega
/-- from less owned, more shared -/
theorem Step.wk0 {c s c0 s0 c1 s1 : Cnt} {H H1 : Hp} (w : Wk c s c0 s0) (x : Step c0 s0 H c1 s1 H1) : Step c s H c1 s1 H1 where
  own := fun a h => by
    rcases x.own a h with q | q
    · exact .inl (Nat.lt_of_lt_of_le q (w.le a))
    · exact .inr q
  sh := fun a h => by
    have h1 := w.sum a; have h2 := w.le a
    rcases x.sh a h with q | q | q
    · exact .inl (by omega)
    · by_cases p : 0 < s a
      · exact .inr (.inl p)
      · exact .inl (by omega)
    · exact .inr (.inr q)
  keep := fun a o e h => x.keep a o e (by
    have h2 := w.le a
    rcases h with h | h
    · exact .inl (by omega)
    · exact .inr h)
  dom := x.dom
  ok := x.ok
/-- with something put aside -/
theorem Step.frame {c s c1 s1 cf sf : Cnt} {H H1 : Hp} (x : Step c s H c1 s1 H1) (ok : Ok (add c cf) (add s sf)) (d : Dom cf sf H) : Step (add c cf) (add s sf) H (add c1 cf) (add s1 sf) H1 where
  own := fun a h => by
    simp only [add_at] at h ⊢
    by_cases p : 0 < cf a
    · exact .inl (by omega)
    · rcases x.own a (by omega) with q | q
      · exact .inl (by omega)
      · exact .inr q
  sh := fun a h => by
    simp only [add_at] at h ⊢
    by_cases p : 0 < sf a
    · exact .inr (.inl (by omega))
    · rcases x.sh a (by omega) with q | q | q
      · exact .inl (by omega)
      · exact .inr (.inl (by omega))
      · exact .inr (.inr q)
  keep := fun a o e h => x.keep a o e (by
    simp only [add_at] at h
    rcases h with h | h
    · exact .inl (by omega)
    · exact .inr h)
  dom := x.dom
  ok := fun a => by
    have h1 := x.ok a; have h2 := ok a
    simp only [add_at] at h2 ⊢
    have df := d a
    by_cases p : 0 < cf a
    · obtain ⟨o, e, _⟩ := df.1 p
      have n1 : ¬ 0 < c1 a := fun q => by
        rcases x.own a q with q | q
        · omega
        · rw [e] at q; cases q
      have n2 : ¬ 0 < s1 a := fun q => by
        rcases x.sh a q with q | q | q
        · omega
        · omega
        · rw [e] at q; cases q
      omega
    · by_cases p2 : 0 < sf a
      · obtain ⟨o, e, _⟩ := df.2 p2
        have n1 : ¬ 0 < c1 a := fun q => by
          rcases x.own a q with q | q
          · omega
          · rw [e] at q; cases q
        omega
      · omega
/-- what is put aside stands -/
theorem Step.aside {c s c1 s1 cf sf : Cnt} {H H1 : Hp} (x : Step c s H c1 s1 H1) (ok : Ok (add c cf) (add s sf)) : Kp cf sf H H1 := fun a o e h => x.keep a o e (by
  have h2 := ok a
  simp only [add_at] at h2
  rcases h with h | h | h
  · exact .inl (by omega)
  · exact .inl (by omega)
  · exact .inr h)
end VL

namespace VL
open PySem PySem.Spec L2

abbrev Rho := List (Option D)
def rget : Rho → Nat → Option D
  | [], _ => none
  | o :: _, 0 => o
  | _ :: r, i + 1 => rget r i
def gget : List Nat → Nat → Nat
  | [], _ => 0
  | n :: _, 0 => n
  | _ :: r, i + 1 => gget r i
/-- the slots' data -/
inductive SR (K : PySem.W.Frag) (H : Hp) : List Nat → Rho → St → Cnt → Cnt → Prop
  | nil : SR K H [] [] [] z0 z0
  | no {G r σ c s n o} : SR K H G r σ c s → SR K H (n :: G) (none :: r) (o :: σ) c s
  | yes {G r σ c s n d v c1 s1} : Rep K H n d v c1 s1 → SR K H G r σ c s → SR K H (n :: G) (some d :: r) (some v :: σ) (add c1 c) (add s1 s)
section
variable {K : PySem.W.Frag} {H H' : Hp}
theorem SR.keep : ∀ {G r σ c s}, SR K H G r σ c s → Kp c s H H' → SR K H' G r σ c s
  | _, _, _, _, _, .nil, _ => .nil
  | _, _, _, _, _, .no x, k => .no (SR.keep x k)
  | _, _, _, _, _, .yes a x, k => .yes (a.keep k.left) (SR.keep x k.right)
theorem SR.dom : ∀ {G r σ c s}, SR K H G r σ c s → Dom c s H
  | _, _, _, _, _, .nil => .z
  | _, _, _, _, _, .no x => SR.dom x
  | _, _, _, _, _, .yes a x => a.dom.add (SR.dom x)
/-- masks below -/
inductive LeG : List Nat → List Nat → Prop
  | nil : LeG [] []
  | cons {m n G G'} : m ≤ n → LeG G G' → LeG (m :: G) (n :: G')
theorem LeG.refl : ∀ G : List Nat, LeG G G
  | [] => .nil
  | _ :: G => .cons (Nat.le_refl _) (LeG.refl G)
def leG : List Nat → List Nat → Bool
  | [], [] => true
  | m :: G, n :: G' => Nat.ble m n && leG G G'
  | _, _ => false
theorem LeG.of : ∀ {G G' : List Nat}, leG G G' = true → LeG G G'
  | [], [], _ => .nil
  | m :: G, n :: G', h => by
    have h' : (Nat.ble m n && leG G G') = true := h
    rw [Bool.and_eq_true] at h'
    exact .cons (Nat.le_of_ble_eq_true h'.1) (LeG.of h'.2)
  | [], _ :: _, h => by cases h
  | _ :: _, [], h => by cases h
theorem SR.wk : ∀ {G r σ c s}, SR K H G r σ c s → ∀ {G'}, LeG G' G → ∃ c' s', SR K H G' r σ c' s' ∧ Wk c s c' s'
  | _, _, _, _, _, .nil, _, .nil => ⟨_, _, .nil, .refl _ _⟩
  | _, _, _, _, _, .no x, _, .cons _ g =>
    let ⟨_, _, x', w⟩ := SR.wk x g
    ⟨_, _, .no x', w⟩
  | _, _, _, _, _, .yes a x, _, .cons h g =>
    let ⟨_, _, x', w⟩ := SR.wk x g
    let ⟨_, _, a', w'⟩ := a.wk _ h
    ⟨_, _, .yes a' x', w'.add w⟩
theorem SR.lenG : ∀ {G r σ c s}, SR K H G r σ c s → G.length = r.length
  | _, _, _, _, _, .nil => rfl
  | _, _, _, _, _, .no x => congrArg (· + 1) (SR.lenG x)
  | _, _, _, _, _, .yes a x => congrArg (· + 1) (SR.lenG x)
theorem SR.lenS : ∀ {G r σ c s}, SR K H G r σ c s → σ.length = r.length
  | _, _, _, _, _, .nil => rfl
  | _, _, _, _, _, .no x => congrArg (· + 1) (SR.lenS x)
  | _, _, _, _, _, .yes a x => congrArg (· + 1) (SR.lenS x)
/-- a slot taken out -/
theorem SR.out : ∀ {G r σ c s}, SR K H G r σ c s → ∀ {i d}, rget r i = some d → ∃ v c1 s1 c2 s2, σ[i]? = some (some v) ∧ Rep K H (gget G i) d v c1 s1 ∧ SR K H G (r.set i none) σ c2 s2 ∧ c = add c1 c2 ∧ s = add s1 s2
  | _, _, _, _, _, .nil, _, _, h => by cases h
  | _, _, _, _, _, .no x, 0, _, h => by cases h
  | _, _, _, _, _, .no x, i + 1, d, h =>
    let ⟨v, c1, s1, c2, s2, e, rp, x', e1, e2⟩ := SR.out x (i := i) (d := d) h
    ⟨v, c1, s1, c2, s2, e, rp, .no x', e1, e2⟩
  | _, _, _, _, _, .yes a x, 0, d, h => by
    have h' : some _ = some d := h
    cases h'
    exact ⟨_, _, _, _, _, rfl, a, .no x, rfl, rfl⟩
  | _, _, _, _, _, .yes (c1 := ca) (s1 := sa) a x, i + 1, d, h =>
    let ⟨v, c1, s1, c2, s2, e, rp, x', e1, e2⟩ := SR.out x (i := i) (d := d) h
    ⟨v, c1, s1, _, _, e, rp, .yes a x', by rw [e1, add_left_comm'], by rw [e2, add_left_comm']⟩
/-- a slot forgotten -/
theorem SR.del : ∀ {G r σ c s}, SR K H G r σ c s → ∀ i, ∃ c2 s2, SR K H G (r.set i none) σ c2 s2 ∧ (∀ a, c2 a ≤ c a) ∧ ∀ a, s2 a ≤ s a
  | _, _, _, _, _, .nil, _ => ⟨_, _, .nil, fun _ => Nat.le_refl _, fun _ => Nat.le_refl _⟩
  | _, _, _, _, _, .no x, 0 => ⟨_, _, .no x, fun _ => Nat.le_refl _, fun _ => Nat.le_refl _⟩
  | _, _, _, _, _, .no x, i + 1 =>
    let ⟨_, _, x', e1, e2⟩ := SR.del x i
    ⟨_, _, .no x', e1, e2⟩
  | _, _, _, _, _, .yes a x, 0 => ⟨_, _, .no x, fun _ => Nat.le_add_left _ _, fun _ => Nat.le_add_left _ _⟩
  | _, _, _, _, _, .yes a x, i + 1 =>
    let ⟨_, _, x', e1, e2⟩ := SR.del x i
    ⟨_, _, .yes a x', fun b => Nat.add_le_add_left (e1 b) _, fun b => Nat.add_le_add_left (e2 b) _⟩
/-- a slot without data is filled -/
theorem SR.put : ∀ {G r σ c s}, SR K H G r σ c s → ∀ {i n d v c1 s1}, i < r.length → rget r i = none → Rep K H n d v c1 s1 → SR K H (G.set i n) (r.set i (some d)) (σ.set i (some v)) (add c1 c) (add s1 s)
  | _, _, _, _, _, .nil, _, _, _, _, _, _, h, _, _ => absurd h (Nat.not_lt_zero _)
  | _, _, _, _, _, .no x, 0, _, _, _, _, _, _, _, rp => .yes rp x
  | _, _, _, _, _, .no x, i + 1, _, _, _, _, _, h, e, rp => .no (SR.put x (i := i) (Nat.lt_of_succ_lt_succ h) e rp)
  | _, _, _, _, _, .yes a x, 0, _, _, _, _, _, _, e, _ => by cases e
  | _, _, _, _, _, .yes (c1 := ca) (s1 := sa) a x, i + 1, _, _, _, c1, s1, h, e, rp => by
    have q := SR.put x (i := i) (Nat.lt_of_succ_lt_succ h) e rp
    rw [add_left_comm' c1 ca, add_left_comm' s1 sa]
    exact .yes a q
theorem rget_set_none : ∀ (r : Rho) (i : Nat), rget (r.set i none) i = none
  | [], _ => rfl
  | _ :: _, 0 => rfl
  | _ :: r, i + 1 => rget_set_none r i
theorem rget_lt : ∀ {r : Rho} {i : Nat} {d : D}, rget r i = some d → i < r.length
  | [], _, _, h => by cases h
  | _ :: _, 0, _, _ => Nat.succ_pos _
  | _ :: r, i + 1, d, h => Nat.succ_lt_succ (rget_lt (r := r) (i := i) (d := d) h)
theorem set_same {α : Type} : ∀ {l : List α} {i : Nat} {x : α}, l[i]? = some x → l.set i x = l
  | [], _, _, h => by simp at h
  | y :: l, 0, x, h => by
    have h' : some y = some x := by simpa using h
    cases h'; rfl
  | y :: l, i + 1, x, h => by
    have h' : l[i]? = some x := by simpa using h
    show y :: l.set i x = y :: l
    rw [set_same h']
theorem set_set {α : Type} : ∀ (l : List α) (i : Nat) (x y : α), (l.set i x).set i y = l.set i y
  | [], _, _, _ => rfl
  | _ :: _, 0, _, _ => rfl
  | z :: l, i + 1, x, y => by show z :: (l.set i x).set i y = _; rw [set_set l i x y]; rfl
/-- a slot's data changed, the value stays -/
theorem SR.upd {G r σ c s} (x : SR K H G r σ c s) {i n d v c1 s1} (h : i < r.length) (e : rget r i = none) (hv : σ[i]? = some (some v)) (rp : Rep K H n d v c1 s1) : SR K H (G.set i n) (r.set i (some d)) σ (add c1 c) (add s1 s) := by
  have q := x.put h e rp
  rw [set_same hv] at q
  exact q
end

/-! ### results -/
inductive R (α : Type) where
  | ok (a : α) (r : Rho)
  | ex (n : Str) (x : D) (r : Rho)
  | no
def R.bind {α β : Type} (x : R α) (f : α → Rho → R β) : R β := match x with
  | .ok a r => f a r
  | .ex n x r => .ex n x r
  | .no => .no
@[simp] theorem R.bind_ok {α β : Type} (a : α) (r : Rho) (f : α → Rho → R β) : (R.ok a r).bind f = f a r := rfl
@[simp] theorem R.bind_ex {α β : Type} (n : Str) (x : D) (r : Rho) (f : α → Rho → R β) : (R.ex n x r : R α).bind f = .ex n x r := rfl
@[simp] theorem R.bind_no {α β : Type} (f : α → Rho → R β) : (R.no : R α).bind f = .no := rfl
def lift {α : Type} (o : Option α) (r : Rho) : R α := match o with
  | some a => .ok a r
  | none => .no
@[simp] theorem lift_some {α : Type} (a : α) (r : Rho) : lift (some a) r = .ok a r := rfl
@[simp] theorem lift_none {α : Type} (r : Rho) : lift (none : Option α) r = .no := rfl
inductive SO where
  | nx (r : Rho) | rt (d : D) (r : Rho) | bk (r : Rho) | ct (r : Rho) | ex (n : Str) (x : D) (r : Rho) | no
def R.then {α : Type} (x : R α) (f : α → Rho → SO) : SO := match x with
  | .ok a r => f a r
  | .ex n x r => .ex n x r
  | .no => .no
@[simp] theorem R.then_ok {α : Type} (a : α) (r : Rho) (f : α → Rho → SO) : (R.ok a r).then f = f a r := rfl
@[simp] theorem R.then_ex {α : Type} (n : Str) (x : D) (r : Rho) (f : α → Rho → SO) : (R.ex n x r : R α).then f = .ex n x r := rfl
@[simp] theorem R.then_no {α : Type} (f : α → Rho → SO) : (R.no : R α).then f = .no := rfl

/-- flat data as a value -/
def vOf : D → Option V
  | .non => some .non
  | .bl b => some (.bl b)
  | .int i => some (.int i)
  | .str x => some (.str x)
  | .ty n => some (.ty n)
  | .fn a => some (.ref a)
  | _ => none
structure Fx where
  W : WX
  io : Option Nat
  kr : Nat
  Gb : List Nat
  Gc : List Nat
  /-- names that keep what they had in the store -/
  pins : Nat → Bool := fun _ => false
  sg : St := []
abbrev Fx.nox (F : Fx) : Fx := { F with W := fun _ _ _ _ => False, io := none }
/-- the thing raised: of the class of that name, with its value -/
def ExP (mg : Str → Option Value) (n : Str) (x : D) (H : Hp) (cls : Value) (dx : Option Addr) : Prop :=
  ∃ C d v, cls = .ref C ∧ mg n = some (.ref C) ∧ dx = some d ∧ H d = some (.xd [(("value" : Str), v)]) ∧ vOf x = some v
def IoG (F : Fx) (G : List Nat) : Prop := ∀ m, F.io = some m → gget G 0 = m
def Pr (F : Fx) (v0 : V) (σ : St) : Prop := (∀ m, F.io = some m → σ[0]? = some (some v0)) ∧ ∀ i, F.pins i = true → σ[i]? = F.sg[i]?
def Fr (F : Fx) (i : Nat) : Prop := (F.io = none ∨ i ≠ 0) ∧ F.pins i = false
def ExW (X : Cx) (F : Fx) (c s : Cnt) (H : Hp) (σ : St) (n : Str) (x : D) (r : Rho) : Prop :=
  ∀ cls dx H' G c1 s1, ExP X.mg n x H' cls dx → IoG F G → SR X.K H' G r σ c1 s1 → Step c s H c1 s1 H' → F.W cls dx σ H'
def OutX {α : Type} (X : Cx) (F : Fx) (c s : Cnt) (H : Hp) (σ : St) (ok : α → Rho → Prop) : R α → Prop
  | .ok a r => ok a r
  | .ex n x r => ExW X F c s H σ n x r
  | .no => False
theorem ExW.shift {X : Cx} {F : Fx} {c s c1 s1 : Cnt} {H H1 : Hp} {σ : St} {n : Str} {x : D} {r : Rho} (w : ExW X F c s H σ n x r) (st : Step c s H c1 s1 H1) : ExW X F c1 s1 H1 σ n x r :=
  fun cls dx H' G c2 s2 e g sr st2 => w cls dx H' G c2 s2 e g sr (st.trans st2)
/-- an expression: its data, the slots behind it; the result's first k levels are owned -/
def OkE (X : Cx) (G' : List Nat) (k : Nat) (c s : Cnt) (H : Hp) (σ : St) (Q : VK) (d : D) (r : Rho) : Prop :=
  ∀ v H' c1 s1 cr sr, SR X.K H' G' r σ c1 s1 → Rep X.K H' k d v cr sr → Step c s H (add c1 cr) (add s1 sr) H' → Q v H'
structure PV (X : Cx) (F : Fx) (G G' : List Nat) (k : Nat) (e : Expr) (f : Rho → R D) : Prop where
  go : ∃ t, PE X e t ∧ ∀ σ H r c s Q, SR X.K H G r σ c s → Ok c s → OutX X F c s H σ (OkE X G' k c s H σ Q) (f r) → t σ H Q
def OkT (X : Cx) (G' : List Nat) (c s : Cnt) (H : Hp) (σ : St) (Q : Bool → Hp → Prop) (b : Bool) (r : Rho) : Prop :=
  ∀ H' c1 s1, SR X.K H' G' r σ c1 s1 → Step c s H c1 s1 H' → Q b H'
/-- a test -/
structure PB (X : Cx) (F : Fx) (G G' : List Nat) (e : Expr) (f : Rho → R Bool) : Prop where
  go : ∃ t, PT X e t ∧ ∀ σ H r c s Q, SR X.K H G r σ c s → Ok c s → OutX X F c s H σ (OkT X G' c s H σ Q) (f r) → t σ H Q
structure PBw (X : Cx) (F : Fx) (G G' : List Nat) (e : Expr) (f : Rho → R Bool) : Prop where
  go : ∃ t, PW X e t ∧ ∀ σ H r c s Q, SR X.K H G r σ c s → Ok c s → OutX X F c s H σ (OkT X G' c s H σ Q) (f r) → t σ H Q
def OkL (X : Cx) (G' : List Nat) (k : Nat) (c s : Cnt) (H : Hp) (σ : St) (Q : List V → Hp → Prop) (ds : List D) (r : Rho) : Prop :=
  ∀ vs H' c1 s1 cr sr, SR X.K H' G' r σ c1 s1 → Reps X.K H' k ds vs cr sr → Step c s H (add c1 cr) (add s1 sr) H' → Q vs H'
/-- an argument list -/
structure PL (X : Cx) (F : Fx) (G G' : List Nat) (k : Nat) (es : List Expr) (f : Rho → R (List D)) : Prop where
  go : ∃ t, PA X es t ∧ ∀ σ H r c s Q, SR X.K H G r σ c s → Ok c s → OutX X F c s H σ (OkL X G' k c s H σ Q) (f r) → t σ H Q

section
variable {X : Cx} {F : Fx} {G G1 G2 G' : List Nat} {k k1 k2 : Nat} {e a b : Expr} {es : List Expr}
theorem OutX.bind {α β : Type} {c s : Cnt} {H : Hp} {σ : St} {ok : β → Rho → Prop} {x : R α} {f : α → Rho → R β} (h : OutX X F c s H σ ok (x.bind f)) :
    OutX X F c s H σ (fun a r => OutX X F c s H σ ok (f a r)) x := by
  cases x with
  | ok a r => exact h
  | ex n x r => exact h
  | no => exact h
theorem OutX.imp {α : Type} {c s c1 s1 : Cnt} {H H1 : Hp} {σ : St} {ok ok' : α → Rho → Prop} {x : R α} (h : OutX X F c s H σ ok x) (st : Step c s H c1 s1 H1) (g : ∀ a r, ok a r → ok' a r) : OutX X F c1 s1 H1 σ ok' x := by
  cases x with
  | ok a r => exact g a r h
  | ex n x r => exact ExW.shift h st
  | no => exact h
theorem OutX.mono {α : Type} {c s : Cnt} {H : Hp} {σ : St} {ok ok' : α → Rho → Prop} {x : R α} (h : OutX X F c s H σ ok x) (g : ∀ a r, ok a r → ok' a r) : OutX X F c s H σ ok' x := by
  cases x with
  | ok a r => exact g a r h
  | ex n x r => exact h
  | no => exact h

/-- an expression, then something with its value in hand -/
theorem PV.use {f : Rho → R D} (A : PV X F G G1 k a f) : ∃ t, PE X a t ∧ ∀ σ H r c s (Q : VK), SR X.K H G r σ c s → Ok c s →
    OutX X F c s H σ (fun d r1 => ∀ v H1 c1 s1 ca sa, SR X.K H1 G1 r1 σ c1 s1 → Rep X.K H1 k d v ca sa → Step c s H (add c1 ca) (add s1 sa) H1 → Q v H1) (f r) → t σ H Q := A.go
/-- less -/
theorem PV.weak {f : Rho → R D} (A : PV X F G G1 k a f) (h : k1 ≤ k) : PV X F G G1 k1 a f := by
  obtain ⟨t, ht, q⟩ := A.go
  refine ⟨t, ht, fun σ H r c s Q sr ok h1 => q σ H r c s Q sr ok (h1.mono fun d r1 g => ?_)⟩
  intro v H1 c1 s1 cr srr x rp st
  obtain ⟨c', s', rp', w⟩ := rp.wk k1 h
  exact g v H1 c1 s1 c' s' x rp' (st.wk ((Wk.refl c1 s1).add w))
theorem PV.weakG {f : Rho → R D} (A : PV X F G G1 k a f) (h : LeG G' G1) : PV X F G G' k a f := by
  obtain ⟨t, ht, q⟩ := A.go
  refine ⟨t, ht, fun σ H r c s Q sr ok h1 => q σ H r c s Q sr ok (h1.mono fun d r1 g => ?_)⟩
  intro v H1 c1 s1 cr srr x rp st
  obtain ⟨c', s', x', w⟩ := x.wk h
  exact g v H1 c' s' cr srr x' rp (st.wk (w.add (Wk.refl cr srr)))
end
end VL

namespace VL
open PySem PySem.Spec L2

/-- a new thing (or a part of old ones), all that stood stands; S: what the parts may share -/
structure New (S : Cnt) (H : Hp) (cr sr : Cnt) (H' : Hp) : Prop where
  own : ∀ a, 0 < cr a → H a = none
  sh : ∀ a, 0 < sr a → 0 < S a ∨ H a = none
  keep : ∀ a o, H a = some o → H' a = some o
  ok : Ok cr sr
theorem New.flat {S : Cnt} {H : Hp} : New S H z0 z0 H := ⟨fun a h => absurd h (Nat.lt_irrefl 0), fun a h => absurd h (Nat.lt_irrefl 0), fun _ _ h => h, fun a => ⟨Nat.zero_le _, .inl rfl⟩⟩
theorem ex_kp {c s : Cnt} {H H' : Hp} (k : ∀ a o, H a = some o → H' a = some o) : Kp c s H H' := fun a o e _ => k a o e
theorem Step.new {c s c2 s2 s2' S cr sr : Cnt} {H H2 H3 : Hp} (x : Step c s H c2 s2' H2) (d : Dom c2 s2' H2) (hs : ∀ a, 0 < s2 a → 0 < s2' a) (hS : ∀ a, 0 < S a → 0 < s2' a) (n : New S H2 cr sr H3) : Step c s H (add c2 cr) (add s2 sr) H3 where
  own := fun a h => by
    simp only [add_at] at h
    by_cases p : 0 < cr a
    · have q := n.own a p
      by_cases e : H a = none
      · exact .inr e
      · exact absurd q (x.dom a e)
    · exact x.own a (by omega)
  sh := fun a h => by
    simp only [add_at] at h
    have old : H2 a = none → 0 < c a ∨ 0 < s a ∨ H a = none := fun q => by
      by_cases e : H a = none
      · exact .inr (.inr e)
      · exact absurd q (x.dom a e)
    by_cases p : 0 < sr a
    · rcases n.sh a p with q | q
      · exact x.sh a (hS a q)
      · exact old q
    · exact x.sh a (hs a (by omega))
  keep := fun a o e h => n.keep a o (x.keep a o e h)
  dom := fun a h => by
    have q := x.dom a h
    cases e : H2 a with
    | none => exact absurd e q
    | some o => rw [n.keep a o e]; exact fun z => nomatch z
  ok := fun a => by
    simp only [add_at]
    have h1 := x.ok a; have h2 := n.ok a; have hsa := hs a
    have nn : H2 a = none → c2 a = 0 ∧ s2' a = 0 := fun q => by
      refine ⟨?_, ?_⟩
      · by_cases p : 0 < c2 a
        · obtain ⟨o, e, _⟩ := (d a).1 p
          rw [q] at e; cases e
        · omega
      · by_cases p : 0 < s2' a
        · obtain ⟨o, e, _⟩ := (d a).2 p
          rw [q] at e; cases e
        · omega
    by_cases p : 0 < cr a
    · obtain ⟨e1, e2⟩ := nn (n.own a p)
      have : s2 a = 0 := by
        by_cases q : 0 < s2 a
        · have := hsa q; omega
        · omega
      omega
    · by_cases p2 : 0 < sr a
      · rcases n.sh a p2 with q | q
        · have := hS a q; omega
        · obtain ⟨e1, e2⟩ := nn q
          omega
      · by_cases q : 0 < s2 a
        · have := hsa q; omega
        · omega

section
variable {X : Cx} {F : Fx} {G G1 G2 G' : List Nat} {k k1 k2 : Nat} {e a b : Expr} {es : List Expr} {pos : Pos}

/-- two expressions, one behind the other -/
theorem two {fa fb : Rho → R D} (A : PV X F G G1 k1 a fa) (B : PV X F G1 G2 k2 b fb) : ∃ ta tb, PE X a ta ∧ PE X b tb ∧ ∀ σ H r c s (Rr : V → V → Hp → Prop), SR X.K H G r σ c s → Ok c s →
    OutX X F c s H σ (fun p r2 => ∀ x y H2 c2 s2 ca sa cb sb, SR X.K H2 G2 r2 σ c2 s2 → Rep X.K H2 k1 p.1 x ca sa → Rep X.K H2 k2 p.2 y cb sb → Step c s H (add (add c2 cb) ca) (add (add s2 sb) sa) H2 → Rr x y H2)
      ((fa r).bind fun da r1 => (fb r1).bind fun db r2 => .ok (da, db) r2) → ta σ H fun x H1 => tb σ H1 fun y H2 => Rr x y H2 := by
  obtain ⟨ta, ha, qa⟩ := A.go
  obtain ⟨tb, hb, qb⟩ := B.go
  refine ⟨ta, tb, ha, hb, fun σ H r c s Rr sr ok h => qa σ H r c s _ sr ok (h.bind.mono fun da r1 h1 => ?_)⟩
  intro x H1 c1 s1 ca sa sr1 rpa st
  have ok1 : Ok c1 s1 := fun z => by have := st.ok z; simp only [add_at] at this; omega
  have st1 : Step c s H c1 s1 H1 := st.less (fun z => by simp only [add_at]; omega) (fun z hz => by simp only [add_at]; omega)
  refine qb σ H1 r1 c1 s1 _ sr1 ok1 (h1.bind.imp st1 fun db r2 h2 => ?_)
  intro y H2 c2 s2 cb sb sr2 rpb st2
  refine h2 x y H2 c2 s2 ca sa cb sb sr2 (rpa.keep (st2.aside st.ok)) rpb ?_
  exact st.trans (st2.frame st.ok rpa.dom)

/-- two things made one -/
def P2 (X : Cx) (r : R2) (k : Nat) (g : D → D → Option D) : Prop := ∀ da db d, g da db = some d → ∀ x y H sa sb (Q : VK), Rep X.K H 0 da x z0 sa → Rep X.K H 0 db y z0 sb →
  (∀ v H' cr sr, Rep X.K H' k d v cr sr → New (add sa sb) H cr sr H' → Q v H') → r x y H Q
def P1 (X : Cx) (r : V → Hp → VK → Prop) (k : Nat) (g : D → Option D) : Prop := ∀ da d, g da = some d → ∀ x H sa (Q : VK), Rep X.K H 0 da x z0 sa →
  (∀ v H' cr sr, Rep X.K H' k d v cr sr → New sa H cr sr H' → Q v H') → r x H Q
/-- a test of two things -/
def PN (X : Cx) (r : List V → Hp → VK → Prop) (k : Nat) (g : List D → Option D) : Prop := ∀ ds d, g ds = some d → ∀ xs H sa (Q : VK), Reps X.K H 0 ds xs z0 sa →
  (∀ v H' cr sr, Rep X.K H' k d v cr sr → New sa H cr sr H' → Q v H') → r xs H Q
def d2 (g : D → D → Option D) (fa fb : Rho → R D) : Rho → R D := fun r => (fa r).bind fun da r1 => (fb r1).bind fun db r2 => lift (g da db) r2
def d1 (g : D → Option D) (fa : Rho → R D) : Rho → R D := fun r => (fa r).bind fun da r1 => lift (g da) r1
def dN (g : List D → Option D) (fa : Rho → R (List D)) : Rho → R D := fun r => (fa r).bind fun da r1 => lift (g da) r1
theorem OutX.bind2 {α β γ : Type} {c s : Cnt} {H : Hp} {σ : St} {ok : γ → Rho → Prop} {x : R α} {y : α → Rho → R β} {g : α → β → Option γ}
    (h : OutX X F c s H σ ok (x.bind fun a r1 => (y a r1).bind fun b r2 => lift (g a b) r2)) :
    OutX X F c s H σ (fun (p : α × β) r2 => ∃ z, g p.1 p.2 = some z ∧ ok z r2) (x.bind fun a r1 => (y a r1).bind fun b r2 => .ok (a, b) r2) := by
  cases x with
  | ok a r =>
    show OutX X F c s H σ _ ((y a r).bind fun b r2 => .ok (a, b) r2)
    have h' : OutX X F c s H σ ok ((y a r).bind fun b r2 => lift (g a b) r2) := h
    cases e : y a r with
    | ok b r2 =>
      rw [e] at h'
      have h2 : OutX X F c s H σ ok (lift (g a b) r2) := h'
      cases e2 : g a b with
      | none => rw [e2] at h2; exact False.elim h2
      | some z => rw [e2] at h2; exact ⟨z, e2, h2⟩
    | ex n x r => rw [e] at h'; exact h'
    | no => rw [e] at h'; exact h'
  | ex n x r => exact h
  | no => exact h
theorem OutX.bind1 {α γ : Type} {c s : Cnt} {H : Hp} {σ : St} {ok : γ → Rho → Prop} {x : R α} {g : α → Option γ} (h : OutX X F c s H σ ok (x.bind fun a r1 => lift (g a) r1)) :
    OutX X F c s H σ (fun a r2 => ∃ z, g a = some z ∧ ok z r2) x := by
  cases x with
  | ok a r =>
    have h2 : OutX X F c s H σ ok (lift (g a) r) := h
    cases e2 : g a with
    | none => rw [e2] at h2; exact False.elim h2
    | some z => rw [e2] at h2; exact ⟨z, e2, h2⟩
  | ex n x r => exact h
  | no => exact h
theorem two_r {fa fb : Rho → R D} {r2 : R2} {g : D → D → Option D} (A0 : PV X F G G1 k1 a fa) (B0 : PV X F G1 G2 k2 b fb) (p : P2 X r2 k g) : ∃ ta tb, PE X a ta ∧ PE X b tb ∧ ∀ σ H r c s (Q : VK), SR X.K H G r σ c s → Ok c s →
    OutX X F c s H σ (OkE X G2 k c s H σ Q) (d2 g fa fb r) → tOp r2 ta tb σ H Q := by
  have A := A0.weak (Nat.zero_le k1)
  have B := B0.weak (Nat.zero_le k2)
  obtain ⟨ta, tb, ha, hb, q⟩ := two A B
  refine ⟨ta, tb, ha, hb, fun σ H r c s Q sr ok h => q σ H r c s _ sr ok (h.bind2.mono fun ⟨da, db⟩ rr h2 => ?_)⟩
  obtain ⟨d, hd, h2⟩ := h2
  intro x y H2 c2 s2 ca sa cb sb srx rpa rpb st
  have ea := rpa.zero; have eb := rpb.zero
  subst ea; subst eb
  simp only [add_z] at st
  refine p da db d hd x y H2 sa sb Q rpa rpb fun v H3 cr sr' rp n => ?_
  refine h2 v H3 c2 s2 cr sr' (srx.keep (ex_kp n.keep)) rp ?_
  have dm : Dom (add (add c2 z0) z0) (add (add s2 sb) sa) H2 := (srx.dom.add rpb.dom).add rpa.dom
  simp only [add_z] at dm
  exact st.new dm (fun z hz => by simp only [add_at]; omega) (fun z hz => by simp only [add_at] at hz ⊢; omega) n

theorem v_op {fa fb : Rho → R D} {op : Operator} {r2 : R2} {g : D → D → Option D} (A : PV X F G G1 k1 a fa) (B : PV X F G1 G2 k2 b fb) (ho : OpR X (binaryOp op) r2) (p : P2 X r2 k g) : PV X F G G2 k (.BinOp a op b pos) (d2 g fa fb) := by
  obtain ⟨ta, tb, ha, hb, q⟩ := two_r A B p
  exact ⟨_, pe_op ho ha hb, q⟩
theorem v_cmp {fa fb : Rho → R D} {op : CmpOp} {r2 : R2} {g : D → D → Option D} (A : PV X F G G1 k1 a fa) (B : PV X F G1 G2 k2 b fb) (ho : OpR X (compareOp op) r2) (p : P2 X r2 k g) (hm : behindInMarks op b = false := by first | exact nomark _ | rfl) :
    PV X F G G2 k (.Compare a [op] [b] pos) (d2 g fa fb) := by
  obtain ⟨ta, tb, ha, hb, q⟩ := two_r A B p
  exact ⟨_, pe_cmpR ho ha hb hm, q⟩
def asB : D → Option Bool
  | .bl b => some b
  | _ => none
def dB (f : Rho → R D) : Rho → R Bool := fun r => (f r).bind fun d r1 => lift (asB d) r1
/-- a value that is True or False, as a test -/
theorem okE_b {c s : Cnt} {H : Hp} {σ : St} {Q : Bool → Hp → Prop} {f : Rho → R D} {r : Rho} (h : OutX X F c s H σ (OkT X G' c s H σ Q) (dB f r)) : OutX X F c s H σ (OkE X G' k c s H σ fun x H' => ∃ c, x = .bl c ∧ Q c H') (f r) :=
  h.bind1.mono fun d r1 ⟨b, hb, h2⟩ => by
    intro v H' c1 s1 cr sr x rp st
    cases d with
    | bl b' =>
      cases hb
      cases rp
      simp only [add_z] at st
      exact ⟨_, rfl, h2 H' c1 s1 x st⟩
    | _ => cases hb
theorem b_cmp {fa fb : Rho → R D} {op : CmpOp} {r2 : R2} {g : D → D → Option D} (A : PV X F G G1 k1 a fa) (B : PV X F G1 G2 k2 b fb) (ho : OpR X (compareOp op) r2) (p : P2 X r2 0 g) (hm : behindInMarks op b = false := by first | exact nomark _ | rfl) :
    PB X F G G2 (.Compare a [op] [b] pos) (dB (d2 g fa fb)) := by
  obtain ⟨ta, tb, ha, hb, q⟩ := two_r A B p
  exact ⟨_, pt_cmpR ho ha hb hm, fun σ H r c s Q sr ok h => q σ H r c s _ sr ok (okE_b h)⟩
theorem b_val {f : Rho → R D} (A : PV X F G G1 k e f) (he : ∀ whole, isTrue e X.env whole = (do let v ← whole; standAt e.pos; holding [v] (truthy v)) := by intro _; rfl) : PB X F G G1 e (dB f) := by
  obtain ⟨t, ht, q⟩ := A.go
  exact ⟨_, pt_val ht he, fun σ H r c s Q sr ok h => q σ H r c s _ sr ok (okE_b h)⟩
theorem b_not {f : Rho → R Bool} (A : PB X F G G1 e f) : PB X F G G1 (.UnaryOp .Not e pos) (fun r => (f r).bind fun b r1 => .ok (!b) r1) := by
  obtain ⟨t, ht, q⟩ := A.go
  refine ⟨_, pt_not ht, fun σ H r c s Q sr ok h => q σ H r c s _ sr ok ?_⟩
  have h' := h.bind
  exact h'.mono fun b r1 h2 => h2
theorem bw_pb {f : Rho → R Bool} (A : PBw X F G G1 e f) : PB X F G G1 e f := by
  obtain ⟨t, ht, q⟩ := A.go
  exact ⟨t, ht.pt, q⟩
theorem bw_and1 {f : Rho → R Bool} (A : PB X F G G1 a f) : PBw X F G G1 (.BoolOp .And [a] pos) f := by
  obtain ⟨t, ht, q⟩ := A.go
  exact ⟨t, pw_and1 ht, q⟩
theorem bw_or1 {f : Rho → R Bool} (A : PB X F G G1 a f) : PBw X F G G1 (.BoolOp .Or [a] pos) f := by
  obtain ⟨t, ht, q⟩ := A.go
  exact ⟨t, pw_or1 ht, q⟩
theorem okT_ite {c s : Cnt} {H : Hp} {σ : St} {Q : Bool → Hp → Prop} (g1 : LeG G' G1) {v : Bool} {r1 : Rho} (h2 : OkT X G' c s H σ Q v r1) {H' : Hp} {c1 s1 : Cnt} (x : SR X.K H' G1 r1 σ c1 s1) (st : Step c s H c1 s1 H') : Q v H' := by
  obtain ⟨c', s', x', w⟩ := x.wk g1
  exact h2 H' c' s' x' (st.wk w)
/-- a and b: the slots' masks behind it are those behind b (less than behind a) -/
theorem bw_and {rest : List Expr} {fa fb : Rho → R Bool} (A : PB X F G G1 a fa) (B : PBw X F G1 G2 (.BoolOp .And (b :: rest) pos) fb) (hg : leG G2 G1 = true := by rfl) :
    PBw X F G G2 (.BoolOp .And (a :: b :: rest) pos) (fun r => (fa r).bind fun v r1 => if v = true then fb r1 else .ok false r1) := by
  obtain ⟨t, ht, q⟩ := A.go
  obtain ⟨u, hu, q2⟩ := B.go
  refine ⟨_, pw_and ht hu, fun σ H r c s Q sr ok h => q σ H r c s _ sr ok (h.bind.mono fun v r1 h2 => ?_)⟩
  intro H' c1 s1 x st
  cases v with
  | true =>
    rw [if_pos rfl] at h2
    show if true = true then _ else _
    rw [if_pos rfl]
    refine q2 σ H' r1 c1 s1 Q x st.ok (h2.imp st fun b r2 h3 => ?_)
    exact fun H2 c2 s2 x2 st2 => h3 H2 c2 s2 x2 (st.trans st2)
  | false =>
    rw [if_neg Bool.false_ne_true] at h2
    show if false = true then _ else _
    rw [if_neg Bool.false_ne_true]
    exact okT_ite (LeG.of hg) h2 x st
theorem bw_or {rest : List Expr} {fa fb : Rho → R Bool} (A : PB X F G G1 a fa) (B : PBw X F G1 G2 (.BoolOp .Or (b :: rest) pos) fb) (hg : leG G2 G1 = true := by rfl) :
    PBw X F G G2 (.BoolOp .Or (a :: b :: rest) pos) (fun r => (fa r).bind fun v r1 => if v = true then .ok true r1 else fb r1) := by
  obtain ⟨t, ht, q⟩ := A.go
  obtain ⟨u, hu, q2⟩ := B.go
  refine ⟨_, pw_or ht hu, fun σ H r c s Q sr ok h => q σ H r c s _ sr ok (h.bind.mono fun v r1 h2 => ?_)⟩
  intro H' c1 s1 x st
  cases v with
  | false =>
    rw [if_neg Bool.false_ne_true] at h2
    show if false = true then _ else _
    rw [if_neg Bool.false_ne_true]
    refine q2 σ H' r1 c1 s1 Q x st.ok (h2.imp st fun b r2 h3 => ?_)
    exact fun H2 c2 s2 x2 st2 => h3 H2 c2 s2 x2 (st.trans st2)
  | true =>
    rw [if_pos rfl] at h2
    show if true = true then _ else _
    rw [if_pos rfl]
    exact okT_ite (LeG.of hg) h2 x st
/-- a if c else b -/
theorem v_if {c : Expr} {fc : Rho → R Bool} {fa fb : Rho → R D} (C : PB X F G G1 c fc) (A : PV X F G1 G2 k a fa) (B : PV X F G1 G2 k b fb) :
    PV X F G G2 k (.IfExp c a b pos) (fun r => (fc r).bind fun v r1 => if v = true then fa r1 else fb r1) := by
  obtain ⟨t, ht, q⟩ := C.go
  obtain ⟨ta, ha, qa⟩ := A.go
  obtain ⟨tb, hb, qb⟩ := B.go
  refine ⟨_, pe_ifExp ht ha hb, fun σ H r c s Q sr ok h => q σ H r c s _ sr ok (h.bind.mono fun v r1 h2 => ?_)⟩
  intro H' c1 s1 x st
  cases v with
  | true =>
    rw [if_pos rfl] at h2
    show if true = true then _ else _
    rw [if_pos rfl]
    refine qa σ H' r1 c1 s1 Q x st.ok (h2.imp st fun b r2 h3 => ?_)
    exact fun v H2 c2 s2 cr sr x2 rp st2 => h3 v H2 c2 s2 cr sr x2 rp (st.trans st2)
  | false =>
    rw [if_neg Bool.false_ne_true] at h2
    show if false = true then _ else _
    rw [if_neg Bool.false_ne_true]
    refine qb σ H' r1 c1 s1 Q x st.ok (h2.imp st fun b r2 h3 => ?_)
    exact fun v H2 c2 s2 cr sr x2 rp st2 => h3 v H2 c2 s2 cr sr x2 rp (st.trans st2)
/-- a test as a value -/
theorem v_and {rest : List Expr} {fa fb : Rho → R D} (A : PV X F G G1 k1 a fa) (B : PV X F G1 G2 k (.BoolOp .And (b :: rest) pos) fb) (hg : leG G2 G1 = true := by rfl) :
    PV X F G G2 k (.BoolOp .And (a :: b :: rest) pos) (fun r => (dB fa r).bind fun v r1 => if v = true then fb r1 else .ok (.bl false) r1) := by
  obtain ⟨t, ht, q⟩ := A.go
  obtain ⟨u, hu, q2⟩ := B.go
  refine ⟨_, pe_and ht hu, fun σ H r c s Q sr ok h => q σ H r c s _ sr ok (okE_b (f := fa) ?_)⟩
  refine h.bind.mono fun v r1 h2 => ?_
  intro H' c1 s1 x st
  cases v with
  | true =>
    rw [if_pos rfl] at h2
    rw [if_pos rfl]
    refine q2 σ H' r1 c1 s1 Q x st.ok (h2.imp st fun b r2 h3 => ?_)
    exact fun v H2 c2 s2 cr sr x2 rp st2 => h3 v H2 c2 s2 cr sr x2 rp (st.trans st2)
  | false =>
    rw [if_neg Bool.false_ne_true] at h2
    rw [if_neg Bool.false_ne_true]
    obtain ⟨c', s', x', w⟩ := x.wk (LeG.of hg)
    exact h2 (.bl false) H' c' s' z0 z0 x' (.bl false) (by simp only [add_z]; exact st.wk w)
theorem v_or {rest : List Expr} {fa fb : Rho → R D} (A : PV X F G G1 k1 a fa) (B : PV X F G1 G2 k (.BoolOp .Or (b :: rest) pos) fb) (hg : leG G2 G1 = true := by rfl) :
    PV X F G G2 k (.BoolOp .Or (a :: b :: rest) pos) (fun r => (dB fa r).bind fun v r1 => if v = true then .ok (.bl true) r1 else fb r1) := by
  obtain ⟨t, ht, q⟩ := A.go
  obtain ⟨u, hu, q2⟩ := B.go
  refine ⟨_, pe_or ht hu, fun σ H r c s Q sr ok h => q σ H r c s _ sr ok (okE_b (f := fa) ?_)⟩
  refine h.bind.mono fun v r1 h2 => ?_
  intro H' c1 s1 x st
  cases v with
  | false =>
    rw [if_neg Bool.false_ne_true] at h2
    rw [if_neg Bool.false_ne_true]
    refine q2 σ H' r1 c1 s1 Q x st.ok (h2.imp st fun b r2 h3 => ?_)
    exact fun v H2 c2 s2 cr sr x2 rp st2 => h3 v H2 c2 s2 cr sr x2 rp (st.trans st2)
  | true =>
    rw [if_pos rfl] at h2
    rw [if_pos rfl]
    obtain ⟨c', s', x', w⟩ := x.wk (LeG.of hg)
    exact h2 (.bl true) H' c' s' z0 z0 x' (.bl true) (by simp only [add_z]; exact st.wk w)
theorem v_one {op : BoolOp} {f : Rho → R D} (A : PV X F G G1 k a f) : PV X F G G1 k (.BoolOp op [a] pos) f := by
  obtain ⟨t, ht, q⟩ := A.go
  exact ⟨t, pe_one ht, q⟩
theorem v_not {f : Rho → R D} (A : PV X F G G1 k1 a f) : PV X F G G1 k (.UnaryOp .Not a pos) (fun r => (dB f r).bind fun v r1 => .ok (.bl (!v)) r1) := by
  obtain ⟨t, ht, q⟩ := A.go
  refine ⟨_, pe_not ht, fun σ H r c s Q sr ok h => q σ H r c s _ sr ok (okE_b (f := f) ?_)⟩
  refine h.bind.mono fun v r1 h2 => ?_
  exact fun H' c1 s1 x st => h2 (.bl (!v)) H' c1 s1 z0 z0 x (.bl _) (by simp only [add_z]; exact st)

/-! ### names and constants -/
theorem flat_ok {c s : Cnt} {H : Hp} {σ : St} {Q : VK} {d : D} {v : V} {r : Rho} (sr : SR X.K H G r σ c s) (ok : Ok c s) (rp : Rep X.K H k d v z0 z0) (h : OkE X G k c s H σ Q d r) : Q v H :=
  h v H c s z0 z0 sr rp (by simp only [add_z]; exact .refl ok)
theorem v_int {i j} : PV X F G G k (.Constant (.int i) j pos) (fun r => .ok (.int i) r) := ⟨_, pe_int, fun σ H r c s Q sr ok h => flat_ok sr ok (.int i) h⟩
theorem v_bl {b j} : PV X F G G k (.Constant (.bool b) j pos) (fun r => .ok (.bl b) r) := ⟨_, pe_bl, fun σ H r c s Q sr ok h => flat_ok sr ok (.bl b) h⟩
theorem v_non {j} : PV X F G G k (.Constant .none j pos) (fun r => .ok .non r) := ⟨_, pe_non, fun σ H r c s Q sr ok h => flat_ok sr ok .non h⟩
theorem v_str {x j} : PV X F G G k (.Constant (.str x) j pos) (fun r => .ok (.str x) r) := ⟨_, pe_str, fun σ H r c s Q sr ok h => flat_ok sr ok (.str x) h⟩
/-- a module's constant -/
theorem v_glob {x : Str} {d : D} {v : V} {u : Value} (hg : Gl X x) (hm : X.mg x = some u) (r : RelV v u) (rp : ∀ H, Rep X.K H k d v z0 z0) (hd : (x == ("__debug__" : Str)) = false := by decide) : PV X F G G k (.Name x pos) (fun r => .ok d r) :=
  ⟨_, pe_glob hg hm r hd, fun σ H r c s Q sr ok h => flat_ok sr ok (rp H) h⟩
/-- a name; the slot shares it from here on -/
theorem rset_same : ∀ {r : Rho} {i : Nat} {d : D}, rget r i = some d → r.set i (some d) = r
  | [], _, _, h => by cases h
  | o :: r, 0, d, h => by
    have e' : o = some d := h
    rw [e']; rfl
  | o :: r, i + 1, d, h => by
    show o :: r.set i (some d) = o :: r
    rw [rset_same (r := r) (i := i) h]
def dVar (i : Nat) : Rho → R D := fun r => lift (rget r i) r
theorem v_var (i : Nat) {x : Str} (hN : X.N[i]? = some x := by rfl) (hv : Vis X.env.scope x := by first | exact Or.inl rfl | exact Or.inr (Or.inl rfl) | exact Or.inr (Or.inr rfl)) (hd : (x == ("__debug__" : Str)) = false := by decide)
    (hcd : (x == ("__classdict__" : Str)) = false := by decide) : PV X F G (G.set i 0) 0 (.Name x pos) (dVar i) := by
  refine ⟨_, pv i hN hv hd hcd, fun σ H r c s Q sr ok h => ?_⟩
  unfold dVar at h
  cases e : rget r i with
  | none => rw [e] at h; exact False.elim h
  | some d =>
    rw [e] at h
    have h : OkE X (G.set i 0) 0 c s H σ Q d r := h
    obtain ⟨v, c1, s1, c2, s2, ev, rp, x', ec, es⟩ := sr.out e
    obtain ⟨c1', s1', rp', w⟩ := rp.wk 0 (Nat.zero_le _)
    have z := rp'.zero
    subst z
    have hl := rget_lt e
    have q := x'.upd (by rw [List.length_set]; exact hl) (rget_set_none r i) ev rp'
    rw [set_set] at q
    have er : r.set i (some d) = r := rset_same e
    rw [er] at q
    refine ⟨v, ev, h v H _ _ z0 s1' q rp' ?_⟩
    subst ec; subst es
    have w2 : Wk (add c1 c2) (add s1 s2) (add z0 c2) (add s1' s2) := w.add (Wk.refl c2 s2)
    have st := (Step.refl (H := H) ok).wk (c2 := add z0 c2) (s2 := add s1' s2) w2
    simp only [add_z] at st ⊢
    refine ⟨st.own, fun a ha => st.sh a (by simp only [add_at] at ha ⊢; omega), st.keep, st.dom, fun a => ?_⟩
    have := st.ok a
    simp only [add_at] at this ⊢
    omega
/-- a name that is not used again: what it owns is moved -/
def dMv (i : Nat) : Rho → R D := fun r => lift (rget r i) (r.set i none)
theorem v_mv (i : Nat) {x : Str} (hN : X.N[i]? = some x := by rfl) (hv : Vis X.env.scope x := by first | exact Or.inl rfl | exact Or.inr (Or.inl rfl) | exact Or.inr (Or.inr rfl)) (hd : (x == ("__debug__" : Str)) = false := by decide)
    (hcd : (x == ("__classdict__" : Str)) = false := by decide) : PV X F G G (gget G i) (.Name x pos) (dMv i) := by
  refine ⟨_, pv i hN hv hd hcd, fun σ H r c s Q sr ok h => ?_⟩
  unfold dMv at h
  cases e : rget r i with
  | none => rw [e] at h; exact False.elim h
  | some d =>
    rw [e] at h
    have h : OkE X G (gget G i) c s H σ Q d (r.set i none) := h
    obtain ⟨v, c1, s1, c2, s2, ev, rp, x', ec, es⟩ := sr.out e
    refine ⟨v, ev, h v H c2 s2 c1 s1 x' rp ?_⟩
    subst ec; subst es
    rw [add_comm' c2 c1, add_comm' s2 s1]
    exact .refl ok

/-! ### borrowing: an expression that only reads -/
def zG (G : List Nat) : List Nat := G.map fun _ => 0
theorem zG_le : ∀ G : List Nat, LeG (zG G) G
  | [] => .nil
  | n :: G => .cons (Nat.zero_le n) (zG_le G)
mutual
/-- no list or dict lies below the first k levels -/
def fits : Nat → D → Bool
  | 0, .lst _ => false
  | 0, .dct _ => false
  | 0, .scr _ => false
  | _ + 1, .scr _ => false
  | k + 1, .lst xs => fitsL k xs
  | k + 1, .dct _ => false
  | k, .tup xs => fitsL k xs
  | _, _ => true
def fitsL : Nat → List D → Bool
  | _, [] => true
  | k, x :: xs => fits k x && fitsL k xs
end
mutual
theorem Rep.fits0 {K : PySem.W.Frag} {H : Hp} : ∀ {n : Nat} {d : D} {v : V} {c s : Cnt}, Rep K H n d v c s → fits n d = true → s = z0
  | _, _, _, _, _, .non, _ => rfl
  | _, _, _, _, _, .bl b, _ => rfl
  | _, _, _, _, _, .int i, _ => rfl
  | _, _, _, _, _, .str x, _ => rfl
  | _, _, _, _, _, .ty x, _ => rfl
  | _, _, _, _, _, .fn a, _ => rfl
  | _, _, _, _, _, .lst0 h r, f => by simp [fits] at f
  | n, _, _, _, _, .scr o h, f => by cases n <;> simp [fits] at f
  | _, _, _, _, _, .scrK h, f => rfl
  | _, _, _, _, _, .lstS h r, f => Reps.fits0 r (by simpa [fits] using f)
  | n, _, _, _, _, .tup h r, f => Reps.fits0 r (by cases n <;> simpa [fits] using f)
  | _, _, _, _, _, .dct0 h e1 e2 e3 r, f => by simp [fits] at f
  | _, _, _, _, _, .dctS h e1 e2 e3 r, f => by simp [fits] at f
theorem Reps.fits0 {K : PySem.W.Frag} {H : Hp} : ∀ {n : Nat} {ds : List D} {vs : List V} {c s : Cnt}, Reps K H n ds vs c s → fitsL n ds = true → s = z0
  | _, _, _, _, _, .nil, _ => rfl
  | _, _, _, _, _, .cons a b, f => by
    simp only [fitsL, Bool.and_eq_true] at f
    rw [Rep.fits0 a f.1, Reps.fits0 b f.2, z_add]
end
theorem SR.zz {K : PySem.W.Frag} {H : Hp} : ∀ {Z r σ c s}, SR K H Z r σ c s → ∀ G, Z = zG G → c = z0
  | _, _, _, _, _, .nil, _, _ => rfl
  | _, _, _, _, _, .no y, G, e => by
    cases G with
    | nil => cases e
    | cons m G => exact SR.zz y G (by injection e)
  | _, _, _, _, _, .yes a y, G, e => by
    cases G with
    | nil => cases e
    | cons m G =>
      injection e with e1 e2
      subst e1
      rw [a.zero, SR.zz y G e2, z_add]
def dBor (k : Nat) (f : Rho → R D) : Rho → R D := fun r => match f r with
  | .ok d _ => if fits k d = true then .ok d r else .no
  | _ => .no
theorem v_bor {f : Rho → R D} (A : PV X F.nox (zG G) G' k e f) : PV X F G G k e (dBor k f) := by
  obtain ⟨t, ht, q⟩ := A.go
  refine ⟨t, ht, fun σ H r c s Q sr ok h => ?_⟩
  unfold dBor at h
  cases e1 : f r with
  | no => rw [e1] at h; exact False.elim h
  | ex n x r1 => rw [e1] at h; exact False.elim h
  | ok d r1 =>
    rw [e1] at h
    by_cases hf : fits k d = true
    · have h : OutX X F c s H σ (OkE X G k c s H σ Q) (if fits k d = true then .ok d r else .no) := h
      rw [if_pos hf] at h
      obtain ⟨c', s', x', w⟩ := sr.wk (zG_le G)
      have cz : c' = z0 := x'.zz G rfl
      subst cz
      refine q σ H r z0 s' Q x' (ok.wk w) ?_
      rw [e1]
      intro v H' c1 s1 cr sr' x1 rp st
      have kp : ∀ a o, H a = some o → H' a = some o := fun a o ha => st.keep a o ha (.inl rfl)
      have ez := rp.fits0 hf
      subst ez
      refine h v H' c s cr z0 (sr.keep (ex_kp kp)) rp ?_
      have hown : ∀ a, 0 < cr a → H a = none := fun a ha => by
        rcases st.own a (by simp only [add_at]; omega) with z | z
        · exact absurd z (Nat.lt_irrefl 0)
        · exact z
      refine (Step.refl ok).new sr.dom (fun a ha => ha) (S := z0) (fun a ha => absurd ha (Nat.lt_irrefl 0)) ⟨hown, fun a ha => absurd ha (Nat.lt_irrefl 0), kp, fun a => ?_⟩
      have := st.ok a
      simp only [add_at] at this
      exact ⟨by omega, .inr rfl⟩
    · have h : OutX X F c s H σ (OkE X G k c s H σ Q) (if fits k d = true then .ok d r else .no) := h
      rw [if_neg hf] at h
      exact False.elim h
def dBorB (f : Rho → R Bool) : Rho → R Bool := fun r => match f r with
  | .ok d _ => .ok d r
  | _ => .no
theorem b_bor {f : Rho → R Bool} (A : PB X F.nox (zG G) G' e f) : PB X F G G e (dBorB f) := by
  obtain ⟨t, ht, q⟩ := A.go
  refine ⟨t, ht, fun σ H r c s Q sr ok h => ?_⟩
  unfold dBorB at h
  cases e1 : f r with
  | no => rw [e1] at h; exact False.elim h
  | ex n x r1 => rw [e1] at h; exact False.elim h
  | ok d r1 =>
    rw [e1] at h
    obtain ⟨c', s', x', w⟩ := sr.wk (zG_le G)
    have cz := x'.zz G rfl
    subst cz
    refine q σ H r z0 s' Q x' (ok.wk w) ?_
    rw [e1]
    intro H' c1 s1 x1 st
    have kp : ∀ a o, H a = some o → H' a = some o := fun a o ha => st.keep a o ha (.inl rfl)
    refine h H' c s (sr.keep (ex_kp kp)) ⟨fun _ h => .inl h, fun _ h => .inr (.inl h), fun a o e _ => kp a o e, fun a ha => ?_, ok⟩
    exact st.dom a ha
end
end VL

namespace VL
open PySem PySem.Spec L2

section
variable {X : Cx} {F : Fx} {G G1 G2 G' : List Nat} {k k1 k2 : Nat} {e a b : Expr} {es : List Expr} {pos p : Pos}
/-! ### lists of expressions -/
theorem l_nil : PL X F G G k [] (fun r => .ok [] r) := ⟨_, pa_nil, fun σ H r c s Q sr ok h => h [] H c s z0 z0 sr .nil (by simp only [add_z]; exact .refl ok)⟩
theorem l_cons {f : Rho → R D} {g : Rho → R (List D)} (A : PV X F G G1 k e f) (B : PL X F G1 G2 k es g) (hs : starEach (e :: es) X.env = (false, eval e X.env) :: starEach es X.env := by rfl) :
    PL X F G G2 k (e :: es) (fun r => (f r).bind fun d r1 => (g r1).bind fun ds r2 => .ok (d :: ds) r2) := by
  obtain ⟨ta, ha, qa⟩ := A.go
  obtain ⟨tb, hb, qb⟩ := B.go
  refine ⟨_, pa_cons ha hb hs, fun σ H r c s Q sr ok h => qa σ H r c s _ sr ok (h.bind.mono fun d r1 h1 => ?_)⟩
  intro x H1 c1 s1 ca sa sr1 rpa st
  have ok1 : Ok c1 s1 := fun z => by have := st.ok z; simp only [add_at] at this; omega
  have st1 : Step c s H c1 s1 H1 := st.less (fun z => by simp only [add_at]; omega) (fun z hz => by simp only [add_at]; omega)
  refine qb σ H1 r1 c1 s1 _ sr1 ok1 (h1.bind.imp st1 fun ds r2 h2 => ?_)
  intro xs H2 c2 s2 cb sb sr2 rpb st2
  refine h2 (x :: xs) H2 c2 s2 (add ca cb) (add sa sb) sr2 (.cons (rpa.keep (st2.aside st.ok)) rpb) ?_
  have q := st.trans (st2.frame st.ok rpa.dom)
  rw [add_assoc', add_assoc', add_comm' cb ca, add_comm' sb sa] at q
  exact q
theorem lst_fresh {c s c1 s1 cr sr : Cnt} {H H' : Hp} {p : Addr} {xs : List V} (st : Step c s H (add c1 cr) (add s1 sr) H') (dm : Dom (add c1 cr) (add s1 sr) H') (hp : H' p = none) :
    Step c s H (add c1 (add (one p) cr)) (add s1 sr) (L2.upd H' p (.lst xs)) := by
  have nz : ∀ {n : Cnt}, (∀ a, n a ≤ add c1 cr a) ∨ (∀ a, n a ≤ add s1 sr a) → n p = 0 := fun {n} h => by
    have d := dm p
    rcases h with h | h
    · by_cases q : 0 < n p
      · obtain ⟨o, e, _⟩ := d.1 (Nat.lt_of_lt_of_le q (h p))
        rw [hp] at e; cases e
      · omega
    · by_cases q : 0 < n p
      · obtain ⟨o, e, _⟩ := d.2 (Nat.lt_of_lt_of_le q (h p))
        rw [hp] at e; cases e
      · omega
  have e1 : add c1 cr p = 0 := nz (.inl fun _ => Nat.le_refl _)
  have e2 : add s1 sr p = 0 := nz (.inr fun _ => Nat.le_refl _)
  have hH : H p = none := by
    cases e : H p with
    | none => rfl
    | some o => exact absurd hp (st.dom p (by rw [e]; exact fun z => nomatch z))
  refine ⟨fun a h => ?_, fun a h => st.sh a h, fun a o e h => ?_, fun a h => ?_, fun a => ?_⟩
  · by_cases q : a = p
    · subst q; exact .inr hH
    · refine st.own a ?_
      simp only [add_at, one_ne q] at h ⊢
      omega
  · rw [upd_ne (ne_of_none e hH)]
    exact st.keep a o e h
  · by_cases q : a = p
    · subst q; exact absurd hH h
    · rw [upd_ne q]; exact st.dom a h
  · have := st.ok a
    by_cases q : a = p
    · subst q
      simp only [add_at, one_same] at this e1 e2 ⊢
      omega
    · simp only [add_at, one_ne q] at this ⊢
      omega
theorem ex_upd {H : Hp} {p : Addr} {o : HO} (hp : H p = none) : ∀ a u, H a = some u → (L2.upd H p o) a = some u := fun a u e => by
  rw [upd_ne (ne_of_none e hp)]; exact e
def lstD (ds : List D) : Option D := if ds.length ≤ 100000 then some (.lst ds) else none
def tupD (ds : List D) : Option D := if ds.length ≤ 100000 then some (.tup ds) else none
theorem line5 {n : Nat} (h : n ≤ 100000) : n ≤ sizeLine := Nat.le_trans h (by decide)
/-- [..] -/
theorem v_lst {f : Rho → R (List D)} (A : PL X F G G1 k es f) : PV X F G G1 (k + 1) (.List es pos) (fun r => (f r).bind fun ds r1 => lift (lstD ds) r1) := by
  obtain ⟨t, ht, q⟩ := A.go
  refine ⟨_, pe_lst ht, fun σ H r c s Q sr ok h => q σ H r c s _ sr ok (h.bind1.mono fun ds r1 h2 => ?_)⟩
  obtain ⟨d, hd, h2⟩ := h2
  intro vs H' c1 s1 cr sr' x rp st
  unfold lstD at hd
  split at hd
  · rename_i hl
    cases hd
    refine ⟨by rw [← rp.length]; exact line5 hl, fun p hp => ?_⟩
    have ke := ex_upd (o := .lst vs) hp
    exact h2 (.ref p) _ c1 s1 (add (one p) cr) sr' (x.keep (ex_kp ke)) (.lstS upd_same (rp.keep (ex_kp ke))) (lst_fresh st (x.dom.add rp.dom) hp)
  · cases hd
theorem tup_fresh {c s c1 s1 : Cnt} {H H' : Hp} {p : Addr} {xs : List V} (st : Step c s H c1 s1 H') (hp : H' p = none) : Step c s H c1 s1 (L2.upd H' p (.tup xs)) := by
  have hH : H p = none := by
    cases e : H p with
    | none => rfl
    | some o => exact absurd hp (st.dom p (by rw [e]; exact fun z => nomatch z))
  refine ⟨st.own, st.sh, fun a o e h => ?_, fun a h => ?_, st.ok⟩
  · rw [upd_ne (ne_of_none e hH)]
    exact st.keep a o e h
  · by_cases q : a = p
    · subst q; exact absurd hH h
    · rw [upd_ne q]; exact st.dom a h
/-- (..) -/
theorem v_tup {f : Rho → R (List D)} {x1} (A : PL X F G G1 k es f) : PV X F G G1 k (.Tuple es x1 pos) (fun r => (f r).bind fun ds r1 => lift (tupD ds) r1) := by
  obtain ⟨t, ht, q⟩ := A.go
  refine ⟨_, pe_tup ht, fun σ H r c s Q sr ok h => q σ H r c s _ sr ok (h.bind1.mono fun ds r1 h2 => ?_)⟩
  obtain ⟨d, hd, h2⟩ := h2
  intro vs H' c1 s1 cr sr' x rp st
  unfold tupD at hd
  split at hd
  · rename_i hl
    cases hd
    refine ⟨by rw [← rp.length]; exact line5 hl, fun p hp => ?_⟩
    have ke := ex_upd (o := .tup vs) hp
    exact h2 (.ref p) _ c1 s1 cr sr' (x.keep (ex_kp ke)) (.tup upd_same (rp.keep (ex_kp ke))) (tup_fresh st hp)
  · cases hd
/-- a call of a built-in function, of a built-in class -/
theorem l_weak {f : Rho → R (List D)} (A : PL X F G G1 k es f) : PL X F G G1 0 es f := by
  obtain ⟨t, ht, q⟩ := A.go
  refine ⟨t, ht, fun σ H r c s Q sr ok h1 => q σ H r c s Q sr ok (h1.mono fun d r1 g => ?_)⟩
  intro v H1 c1 s1 cr srr x rp st
  obtain ⟨c', s', rp', w⟩ := rp.wk 0 (Nat.zero_le _)
  exact g v H1 c1 s1 c' s' x rp' (st.wk ((Wk.refl c1 s1).add w))
theorem args_r {f : Rho → R (List D)} {r : List V → Hp → VK → Prop} {g : List D → Option D} (A : PL X F G G1 k1 es f) (pn : PN X r k g) : ∃ t, PA X es t ∧ ∀ σ H rr c s (Q : VK), SR X.K H G rr σ c s → Ok c s →
    OutX X F c s H σ (OkE X G1 k c s H σ Q) (dN g f rr) → tCB r t σ H Q := by
  obtain ⟨t, ht, q⟩ := (l_weak A).go
  refine ⟨t, ht, fun σ H rr c s Q sr ok h => q σ H rr c s _ sr ok (h.bind1.mono fun ds r1 h2 => ?_)⟩
  obtain ⟨d, hd, h2⟩ := h2
  intro vs H' c1 s1 cr sr' x rp st
  have ez := rp.zero
  subst ez
  simp only [add_z] at st
  refine pn ds d hd vs H' sr' Q rp fun v H3 cr3 sr3 rp3 n => ?_
  have dm := x.dom.add rp.dom
  simp only [add_z] at dm
  exact h2 v H3 c1 s1 cr3 sr3 (x.keep (ex_kp n.keep)) rp3 (st.new dm (fun z hz => by simp only [add_at]; omega) (fun z hz => by simp only [add_at]; omega) n)
theorem v_callB {f : Rho → R (List D)} {x : Str} {id : String} {r : List V → Hp → VK → Prop} {g : List D → Option D} (A : PL X F G G1 k1 (e :: es) f) (hc : CallR X (.builtin id) r) (pn : PN X r k g) (hg : Gl X x) (hm : X.mg x = none) (hv : bootBuiltins x = some (.builtin id))
    (hn : x ≠ "__name__" := by decide) (hdb : (x == ("__debug__" : Str)) = false := by decide) (he : starEach (e :: es) X.env = (false, eval e X.env) :: starEach es X.env := by rfl) (hpl : (backTo pos (starEach es X.env)).any (·.1) = false := by rfl) :
    PV X F G G1 k (.Call (.Name x p) (e :: es) [] pos) (dN g f) := by
  obtain ⟨t, ht, q⟩ := args_r A pn
  exact ⟨_, pe_callB hc hg hm hv ht hn hdb he hpl, q⟩
theorem v_callTy {f : Rho → R (List D)} {x : Str} {T : String} {r : List V → Hp → VK → Prop} {g : List D → Option D} (A : PL X F G G1 k1 (e :: es) f) (hc : CallR X (.type T) r) (pn : PN X r k g) (hg : Gl X x) (hm : X.mg x = none) (hv : bootBuiltins x = some (.type T))
    (hn : x ≠ "__name__" := by decide) (hdb : (x == ("__debug__" : Str)) = false := by decide) (he : starEach (e :: es) X.env = (false, eval e X.env) :: starEach es X.env := by rfl) (hpl : (backTo pos (starEach es X.env)).any (·.1) = false := by rfl) :
    PV X F G G1 k (.Call (.Name x p) (e :: es) [] pos) (dN g f) := by
  obtain ⟨t, ht, q⟩ := args_r A pn
  exact ⟨_, pe_callTy hc hg hm hv ht hn hdb he hpl, q⟩
/-- a built-in's name as a value -/
theorem v_bltn {x : Str} {n : String} (hg : Gl X x) (hm : X.mg x = none) (hv : bootBuiltins x = some (.type n)) (hn : x ≠ "__name__" := by decide) (hd : (x == ("__debug__" : Str)) = false := by decide) : PV X F G G k (.Name x pos) (fun r => .ok (.ty n) r) :=
  ⟨_, pe_bltn (v := .ty n) hg hm hv rfl hn hd, fun σ H r c s Q sr ok h => flat_ok sr ok (.ty n) h⟩
/-- flat data lies on every level -/
def flat : D → Bool
  | .non | .bl _ | .int _ | .str _ | .ty _ | .fn _ => true
  | _ => false
theorem Rep.flatUp {K : PySem.W.Frag} {H : Hp} {n m : Nat} {d : D} {v : V} {c s : Cnt} (r : Rep K H n d v c s) (h : flat d = true) : Rep K H m d v c s := by
  cases r <;> first | (cases h; done) | constructor
theorem v_up {f : Rho → R D} (A : PV X F G G1 k1 e f) : PV X F G G1 k e (fun r => (f r).bind fun d r1 => if flat d = true then .ok d r1 else .no) := by
  obtain ⟨t, ht, q⟩ := A.go
  refine ⟨t, ht, fun σ H r c s Q sr ok h => q σ H r c s _ sr ok (h.bind.mono fun d r1 h2 => ?_)⟩
  intro v H' c1 s1 cr sr' x rp st
  by_cases hf : flat d = true
  · rw [if_pos hf] at h2
    exact h2 v H' c1 s1 cr sr' x (rp.flatUp hf) st
  · rw [if_neg hf] at h2
    exact False.elim h2
/-- a subscript -/
theorem v_ix {fa fb : Rho → R D} {r2 : R2} {g : D → D → Option D} (A : PV X F G G1 k1 a fa) (B : PV X F G1 G2 k2 b fb) (hr : IxR X r2) (pr : P2 X r2 k g) (hs : PlainIx b := by exact fun _ _ => rfl) : PV X F G G2 k (.Subscript a b pos) (d2 g fa fb) := by
  obtain ⟨ta, tb, ha, hb, q⟩ := two_r A B pr
  exact ⟨_, pe_ix hr ha hb hs, q⟩
def orD (o p : Option D) : Option D := match o with
  | some z => some z
  | none => p
@[simp] theorem orD_some (z : D) (p : Option D) : orD (some z) p = some z := rfl
@[simp] theorem orD_none (p : Option D) : orD none p = p := rfl
theorem P2.or {r1 r2 : R2} {g1 g2 : D → D → Option D} (h1 : P2 X r1 k g1) (h2 : P2 X r2 k g2) : P2 X (fun x y H Q => r1 x y H Q ∨ r2 x y H Q) k (fun a b => orD (g1 a b) (g2 a b)) := by
  intro da db d hd x y H sa sb Q ra rb h
  have hd : orD (g1 da db) (g2 da db) = some d := hd
  cases e : g1 da db with
  | some z =>
    rw [e] at hd
    have hd : some z = some d := hd
    cases hd
    exact .inl (h1 da db _ e x y H sa sb Q ra rb h)
  | none =>
    rw [e] at hd
    exact .inr (h2 da db d hd x y H sa sb Q ra rb h)
theorem PN.or {r1 r2 : List V → Hp → VK → Prop} {g1 g2 : List D → Option D} (h1 : PN X r1 k g1) (h2 : PN X r2 k g2) : PN X (fun xs H Q => r1 xs H Q ∨ r2 xs H Q) k (fun a => orD (g1 a) (g2 a)) := by
  intro ds d hd xs H sa Q ra h
  have hd : orD (g1 ds) (g2 ds) = some d := hd
  cases e : g1 ds with
  | some z =>
    rw [e] at hd
    have hd : some z = some d := hd
    cases hd
    exact .inl (h1 ds _ e xs H sa Q ra h)
  | none =>
    rw [e] at hd
    exact .inr (h2 ds d hd xs H sa Q ra h)
theorem callR_or {f : Value} {r r' : List V → Hp → VK → Prop} (h : CallR X f r) (h' : CallR X f r') : CallR X f (fun xs H Q => r xs H Q ∨ r' xs H Q) := by
  intro pins s σ H xs us Q I rv q
  rcases q with q | q
  · exact h pins s σ H xs us Q I rv q
  · exact h' pins s σ H xs us Q I rv q
end

/-! ### ints -/
def iAdd : D → D → Option D
  | .int i, .int j => some (.int (i + j))
  | _, _ => none
def iSub : D → D → Option D
  | .int i, .int j => some (.int (i - j))
  | _, _ => none
def mulOk (i j : Int) : Bool := (decide (i.natAbs < 2 ^ 64) || decide (j.natAbs < 2 ^ 64)) || decide (i.natAbs.log2 + j.natAbs.log2 < 1000000)
def iMul : D → D → Option D
  | .int i, .int j => if mulOk i j = true then some (.int (i * j)) else none
  | _, _ => none
def divOk (j : Int) : Bool := decide (0 < j) && (decide (j < 1073741824) || decide (j.natAbs.log2 < 9000))
def iDiv : D → D → Option D
  | .int i, .int j => if divOk j = true then some (.int (i / j)) else none
  | _, _ => none
def iMod : D → D → Option D
  | .int i, .int j => if 0 < j then some (.int (i % j)) else none
  | _, _ => none
/-- the guard is closed to the kernel: it would count down from it -/
noncomputable def powGo (i j : Int) : Option D := @ite _ (0 ≤ j ∧ (i.natAbs.log2 + 1 : Int) * j ≤ 134217728) (Classical.propDecidable _) (some (.int (i ^ j.toNat))) none
noncomputable def iPow : D → D → Option D
  | .int i, .int j => powGo i j
  | _, _ => none
def iNeg : D → Option D
  | .int i => some (.int (-i))
  | _ => none
def iLt : D → D → Option D
  | .int i, .int j => some (.bl (decide (i < j)))
  | _, _ => none
def iLe : D → D → Option D
  | .int i, .int j => some (.bl (decide (i ≤ j)))
  | _, _ => none
def iGt : D → D → Option D
  | .int i, .int j => some (.bl (decide (j < i)))
  | _, _ => none
def iGe : D → D → Option D
  | .int i, .int j => some (.bl (decide (j ≤ i)))
  | _, _ => none

section
variable {X : Cx} {k : Nat}
/-- two ints make a flat thing -/
theorem p2_int {C : Int → Int → Prop} {h : Int → Int → V} {g : D → D → Option D} (hg : ∀ i j d, g (.int i) (.int j) = some d → C i j ∧ ∃ dd, d = dd ∧ ∀ H, Rep X.K H k dd (h i j) z0 z0) (hn : ∀ a b d, g a b = some d → (∃ i, a = .int i) ∧ ∃ j, b = .int j) : P2 X (rI C h) k g := by
  intro da db d hd x y H sa sb Q ra rb hq
  obtain ⟨⟨i, rfl⟩, ⟨j, rfl⟩⟩ := hn da db d hd
  obtain ⟨hc, dd, rfl, hr⟩ := hg i j d hd
  cases ra
  cases rb
  exact ⟨i, j, rfl, rfl, hc, hq _ H z0 z0 (hr H) .flat⟩
theorem p2_int0 {h : Int → Int → V} {g : D → D → Option D} (hg : ∀ i j d, g (.int i) (.int j) = some d → ∀ H, Rep X.K H k d (h i j) z0 z0) (hn : ∀ a b d, g a b = some d → (∃ i, a = .int i) ∧ ∃ j, b = .int j) : P2 X (rI0 h) k g := by
  intro da db d hd x y H sa sb Q ra rb hq
  obtain ⟨⟨i, rfl⟩, ⟨j, rfl⟩⟩ := hn da db d hd
  have hr := hg i j d hd
  cases ra
  cases rb
  exact ⟨i, j, rfl, rfl, hq _ H z0 z0 (hr H) .flat⟩
theorem ints_only {g : Int → Int → Option D} {f : D → D → Option D} (hf : ∀ a b, f a b = match a, b with | .int i, .int j => g i j | _, _ => none) : ∀ a b d, f a b = some d → (∃ i, a = .int i) ∧ ∃ j, b = .int j := fun a b d h => by
  rw [hf] at h
  split at h
  · exact ⟨⟨_, rfl⟩, _, rfl⟩
  · cases h
theorem p_add : P2 X (rI0 fun i j => .int (i + j)) k iAdd := p2_int0 (fun i j d h H => by cases h; exact .int _) (ints_only (g := fun i j => some (.int (i + j))) fun a b => by unfold iAdd; rfl)
theorem p_sub : P2 X (rI0 fun i j => .int (i - j)) k iSub := p2_int0 (fun i j d h H => by cases h; exact .int _) (ints_only (g := fun i j => some (.int (i - j))) fun a b => by unfold iSub; rfl)
theorem p_lt : P2 X (rI0 fun i j => .bl (decide (i < j))) k iLt := p2_int0 (fun i j d h H => by cases h; exact .bl _) (ints_only (g := fun i j => some (.bl (decide (i < j)))) fun a b => by unfold iLt; rfl)
theorem p_le : P2 X (rI0 fun i j => .bl (decide (i ≤ j))) k iLe := p2_int0 (fun i j d h H => by cases h; exact .bl _) (ints_only (g := fun i j => some (.bl (decide (i ≤ j)))) fun a b => by unfold iLe; rfl)
theorem p_gt : P2 X (rI0 fun i j => .bl (decide (j < i))) k iGt := p2_int0 (fun i j d h H => by cases h; exact .bl _) (ints_only (g := fun i j => some (.bl (decide (j < i)))) fun a b => by unfold iGt; rfl)
theorem p_ge : P2 X (rI0 fun i j => .bl (decide (j ≤ i))) k iGe := p2_int0 (fun i j d h H => by cases h; exact .bl _) (ints_only (g := fun i j => some (.bl (decide (j ≤ i)))) fun a b => by unfold iGe; rfl)
/-- * of great ints, // by great ints, ** of great ints -/
def CMulV (i j : Int) : Prop := mulOk i j = true
def CDivV (_ j : Int) : Prop := divOk j = true
def CPowV (i j : Int) : Prop := 0 ≤ j ∧ (i.natAbs.log2 + 1 : Int) * j ≤ 134217728
theorem op_mulV : OpR X (binaryOp .Mult) (rI CMulV fun i j => .int (i * j)) := opI fun i j _ _ _ _ _ hc q => PyProof.Rows.mul_int q (by
  have hc : mulOk i j = true := hc
  unfold mulOk at hc
  simp only [Bool.or_eq_true, decide_eq_true_eq] at hc
  rcases hc with (h | h) | h
  · exact .of_left (intBits_le_64 (by omega) (by omega))
  · exact .of_right (intBits_le_64 (by omega) (by omega))
  · exact CMulW.ok h)
theorem op_divV : OpR X (binaryOp .FloorDiv) (rI CDivV fun i j => .int (i / j)) := opI fun i j _ _ _ _ _ hc q => by
  have hc : divOk j = true := hc
  unfold divOk at hc
  simp only [Bool.and_eq_true, Bool.or_eq_true, decide_eq_true_eq] at hc
  obtain ⟨h1, h2⟩ := hc
  refine PyProof.Rows.floordiv_int (by omega) (by rw [Int.fdiv_eq_ediv_of_nonneg i (by omega)]; exact q) (.inl ?_)
  rcases h2 with h2 | h2
  · exact PyProof.noPylong_small (by omega)
  · exact PyProof.noPylong_of_log2 h2
theorem op_powV : OpR X (binaryOp .Pow) (rI CPowV fun i j => .int (i ^ j.toNat)) := opI fun i j _ _ _ _ _ hc q => PyProof.Rows.pow_int hc.1 (by
  have b : Builtin.Int.intBits i ≤ i.natAbs.log2 + 1 := by
    unfold Builtin.Int.intBits
    split <;> omega
  have h0 := hc.1
  have h2 := hc.2
  have : (Builtin.Int.intBits i : Int) * j ≤ (i.natAbs.log2 + 1 : Int) * j := Int.mul_le_mul_of_nonneg_right (by omega) h0
  have e : (2 : Int) ^ 27 = 134217728 := by decide
  rw [e]
  omega) q
theorem p_mul : P2 X (rI CMulV fun i j => .int (i * j)) k iMul := p2_int (fun i j d h => by
  unfold iMul at h
  by_cases c : mulOk i j = true
  · simp only [if_pos c] at h; cases h; exact ⟨c, _, rfl, fun H => .int _⟩
  · simp only [if_neg c] at h; cases h) (ints_only (g := fun i j => if mulOk i j = true then some (.int (i * j)) else none) fun a b => by unfold iMul; rfl)
theorem p_div : P2 X (rI CDivV fun i j => .int (i / j)) k iDiv := p2_int (fun i j d h => by
  unfold iDiv at h
  by_cases c : divOk j = true
  · simp only [if_pos c] at h; cases h; exact ⟨c, _, rfl, fun H => .int _⟩
  · simp only [if_neg c] at h; cases h) (ints_only (g := fun i j => if divOk j = true then some (.int (i / j)) else none) fun a b => by unfold iDiv; rfl)
theorem p_mod : P2 X (rI (fun _ j => 0 < j) fun i j => .int (i % j)) k iMod := p2_int (fun i j d h => by
  unfold iMod at h
  by_cases c : 0 < j
  · simp only [if_pos c] at h; cases h; exact ⟨c, _, rfl, fun H => .int _⟩
  · simp only [if_neg c] at h; cases h) (ints_only (g := fun i j => if 0 < j then some (.int (i % j)) else none) fun a b => by unfold iMod; rfl)
theorem p_pow : P2 X (rI CPowV fun i j => .int (i ^ j.toNat)) k iPow := p2_int (fun i j d h => by
  have h : powGo i j = some d := h
  unfold powGo at h
  by_cases c : 0 ≤ j ∧ (i.natAbs.log2 + 1 : Int) * j ≤ 134217728
  · rw [if_pos c] at h; cases h; exact ⟨c, _, rfl, fun H => .int _⟩
  · rw [if_neg c] at h; cases h) (ints_only (g := fun i j => powGo i j) fun a b => by unfold iPow; rfl)
theorem p_neg : P1 X (rU fun i => .int (-i)) k iNeg := by
  intro da d hd x H sa Q ra hq
  cases ra <;> first | (cases hd; done) | skip
  cases hd
  exact ⟨_, rfl, hq _ H z0 z0 (.int _) .flat⟩
end
section
variable {X : Cx} {F : Fx} {G G1 G2 G' : List Nat} {k k1 k2 : Nat} {e a b : Expr} {es : List Expr} {pos p : Pos}
theorem v_un {fa : Rho → R D} {op : UnaryOp} {r1 : V → Hp → VK → Prop} {g : D → Option D} (A0 : PV X F G G1 k1 a fa) (ho : UnR X (unaryOp op) r1) (pr : P1 X r1 k g) : PV X F G G1 k (.UnaryOp op a pos) (d1 g fa) := by
  have A := A0.weak (Nat.zero_le k1)
  obtain ⟨t, ht, q⟩ := A.go
  refine ⟨_, pe_un ho ht, fun σ H rr c s Q sr ok h => q σ H rr c s _ sr ok (h.bind1.mono fun ds r1 h2 => ?_)⟩
  obtain ⟨d, hd, h2⟩ := h2
  intro vs H' c1 s1 cr sr' x rp st
  have ez := rp.zero
  subst ez
  simp only [add_z] at st
  refine pr ds d hd vs H' sr' Q rp fun v H3 cr3 sr3 rp3 n => ?_
  have dm := x.dom.add rp.dom
  simp only [add_z] at dm
  exact h2 v H3 c1 s1 cr3 sr3 (x.keep (ex_kp n.keep)) rp3 (st.new dm (fun z hz => by simp only [add_at]; omega) (fun z hz => by simp only [add_at]; omega) n)
end
end VL

namespace VL
open PySem PySem.Spec L2

def IoP (K : PySem.W.Frag) (H : Hp) (io : Option Nat) (o : Option D) (v0 : V) (c0 s0 : Cnt) : Prop := match io, o with
  | some m, some d => Rep K H m d v0 c0 s0
  | _, _ => c0 = z0 ∧ s0 = z0
def OutS (X : Cx) (F : Fx) (v0 : V) (G' : List Nat) (c s : Cnt) (H : Hp) (Dn : Ends) : SO → Prop
  | .nx r => ∀ σ' H' c' s', SR X.K H' G' r σ' c' s' → Pr F v0 σ' → Step c s H c' s' H' → Dn.nx σ' H'
  | .bk r => ∀ σ' H' c' s', SR X.K H' F.Gb r σ' c' s' → Pr F v0 σ' → Step c s H c' s' H' → Dn.bk σ' H'
  | .ct r => ∀ σ' H' c' s', SR X.K H' F.Gc r σ' c' s' → Pr F v0 σ' → Step c s H c' s' H' → Dn.ct σ' H'
  | .rt d r => ∀ v H' cr sr c0 s0, Rep X.K H' F.kr d v cr sr → IoP X.K H' F.io (rget r 0) v0 c0 s0 → Step c s H (add c0 cr) (add s0 sr) H' → Dn.rt v H'
  | .ex n x r => ∀ cls dx σ' H' G c1 s1, ExP X.mg n x H' cls dx → IoG F G → SR X.K H' G r σ' c1 s1 → Pr F v0 σ' → Step c s H c1 s1 H' → F.W cls dx σ' H'
  | .no => False
structure PSt (X : Cx) (F : Fx) (G G' : List Nat) (st : Stmt) (f : Rho → SO) : Prop where
  go : ∃ t, PS X st t ∧ ∀ v0 σ H r c s Dn, SR X.K H G r σ c s → Ok c s → Pr F v0 σ → OutS X F v0 G' c s H Dn (f r) → t Dn σ H
structure PBk (X : Cx) (F : Fx) (G G' : List Nat) (sts : List Stmt) (f : Rho → SO) : Prop where
  go : ∃ t, PSs X sts t ∧ ∀ v0 σ H r c s Dn, SR X.K H G r σ c s → Ok c s → Pr F v0 σ → OutS X F v0 G' c s H Dn (f r) → t Dn σ H
theorem io_none {F : Fx} {G : List Nat} (h : F.io = none) : IoG F G := fun m e => by rw [h] at e; cases e
theorem io_some {F : Fx} {G : List Nat} {n : Nat} (h : F.io = some n) (h2 : gget G 0 = n) : IoG F G := fun m e => by rw [h] at e; cases e; exact h2
def dSeq (f g : Rho → SO) : Rho → SO := fun r => match f r with
  | .nx r1 => g r1
  | o => o
section
variable {X : Cx} {F : Fx} {G G1 G2 G' : List Nat} {k k1 k2 : Nat} {e a b : Expr} {es : List Expr} {pos p : Pos} {st : Stmt} {sts : List Stmt}
theorem OutS.shift {v0 : V} {c s c1 s1 : Cnt} {H H1 : Hp} {Dn : Ends} {o : SO} (h : OutS X F v0 G' c s H Dn o) (x : Step c s H c1 s1 H1) : OutS X F v0 G' c1 s1 H1 Dn o := by
  cases o with
  | nx r => exact fun σ' H' c' s' a p y => h σ' H' c' s' a p (x.trans y)
  | bk r => exact fun σ' H' c' s' a p y => h σ' H' c' s' a p (x.trans y)
  | ct r => exact fun σ' H' c' s' a p y => h σ' H' c' s' a p (x.trans y)
  | rt d r => exact fun v H' cr sr c0 s0 a p y => h v H' cr sr c0 s0 a p (x.trans y)
  | ex n d r => exact fun cls dx σ' H' G c1 s1 e g a p y => h cls dx σ' H' G c1 s1 e g a p (x.trans y)
  | no => exact h
theorem OutS.weakG {v0 : V} {c s : Cnt} {H : Hp} {Dn : Ends} {o : SO} (h : OutS X F v0 G' c s H Dn o) (g : LeG G' G1) : OutS X F v0 G1 c s H Dn o := by
  cases o with
  | nx r =>
    intro σ' H' c' s' a p y
    obtain ⟨c2, s2, a2, w⟩ := a.wk g
    exact h σ' H' c2 s2 a2 p (y.wk w)
  | _ => exact h
theorem PSt.weakG {f : Rho → SO} (A : PSt X F G G1 st f) (g : leG G' G1 = true := by rfl) : PSt X F G G' st f := by
  obtain ⟨t, ht, q⟩ := A.go
  exact ⟨t, ht, fun v0 σ H r c s Dn sr ok pr h => q v0 σ H r c s Dn sr ok pr (h.weakG (LeG.of g))⟩
theorem PBk.weakG {f : Rho → SO} (A : PBk X F G G1 sts f) (g : leG G' G1 = true := by rfl) : PBk X F G G' sts f := by
  obtain ⟨t, ht, q⟩ := A.go
  exact ⟨t, ht, fun v0 σ H r c s Dn sr ok pr h => q v0 σ H r c s Dn sr ok pr (h.weakG (LeG.of g))⟩
/-- starting with less -/
theorem PBk.weak0 {f : Rho → SO} (A : PBk X F G1 G' sts f) (g : leG G1 G = true := by rfl) : PBk X F G G' sts f := by
  obtain ⟨t, ht, q⟩ := A.go
  refine ⟨t, ht, fun v0 σ H r c s Dn sr ok pr h => ?_⟩
  obtain ⟨c2, s2, sr2, w⟩ := sr.wk (LeG.of g)
  exact q v0 σ H r c2 s2 Dn sr2 (ok.wk w) pr (h.shift ((Step.refl ok).wk w))
theorem PSt.weak0 {f : Rho → SO} (A : PSt X F G1 G' st f) (g : leG G1 G = true := by rfl) : PSt X F G G' st f := by
  obtain ⟨t, ht, q⟩ := A.go
  refine ⟨t, ht, fun v0 σ H r c s Dn sr ok pr h => ?_⟩
  obtain ⟨c2, s2, sr2, w⟩ := sr.wk (LeG.of g)
  exact q v0 σ H r c2 s2 Dn sr2 (ok.wk w) pr (h.shift ((Step.refl ok).wk w))
theorem k_nil : PBk X F G G [] (fun r => .nx r) := ⟨_, pss_nil, fun v0 σ H r c s Dn sr ok pr h => h σ H c s sr pr (.refl ok)⟩
theorem k_cons {f g : Rho → SO} (A : PSt X F G G1 st f) (B : PBk X F G1 G' sts g) : PBk X F G G' (st :: sts) (dSeq f g) := by
  obtain ⟨t, ht, q⟩ := A.go
  obtain ⟨u, hu, q2⟩ := B.go
  refine ⟨_, pss_cons ht hu, fun v0 σ H r c s Dn sr ok pr h => q v0 σ H r c s _ sr ok pr ?_⟩
  unfold dSeq at h
  cases e : f r with
  | nx r1 =>
    rw [e] at h
    intro σ' H' c' s' sr' pr' x
    exact q2 v0 σ' H' r1 c' s' Dn sr' x.ok pr' (OutS.shift h x)
  | bk r1 => rw [e] at h; exact h
  | ct r1 => rw [e] at h; exact h
  | rt d r1 => rw [e] at h; exact h
  | ex n d r1 => rw [e] at h; exact h
  | no => rw [e] at h; exact h
theorem k_one {f : Rho → SO} (A : PSt X F G G1 st f) : PBk X F G G1 [st] f := by
  obtain ⟨t, ht, q⟩ := A.go
  exact ⟨t, pss_one ht, q⟩
theorem s_never : PSt X F G G' st (fun _ => .no) := ⟨_, ps_never, fun v0 σ H r c s Dn sr ok pr h => h⟩
theorem k_never : PBk X F G G' sts (fun _ => .no) := ⟨_, pss_never, fun v0 σ H r c s Dn sr ok pr h => h⟩
theorem s_pass : PSt X F G G (.Pass pos) (fun r => .nx r) := ⟨_, ps_pass, fun v0 σ H r c s Dn sr ok pr h => h σ H c s sr pr (.refl ok)⟩
theorem s_doc {x j pos'} : PSt X F G G (.Expr (.Constant (.str x) j pos) pos') (fun r => .nx r) := ⟨_, ps_doc, fun v0 σ H r c s Dn sr ok pr h => h σ H c s sr pr (.refl ok)⟩
theorem s_break (g : leG F.Gb G = true := by rfl) : PSt X F G G' (.Break pos) (fun r => .bk r) := ⟨_, ps_break, fun v0 σ H r c s Dn sr ok pr h => by
  obtain ⟨c2, s2, sr2, w⟩ := sr.wk (LeG.of g)
  exact h σ H c2 s2 sr2 pr ((Step.refl ok).wk w)⟩
theorem s_continue (g : leG F.Gc G = true := by rfl) : PSt X F G G' (.Continue pos) (fun r => .ct r) := ⟨_, ps_continue, fun v0 σ H r c s Dn sr ok pr h => by
  obtain ⟨c2, s2, sr2, w⟩ := sr.wk (LeG.of g)
  exact h σ H c2 s2 sr2 pr ((Step.refl ok).wk w)⟩
/-- an expression's ends for a statement -/
theorem OutS.useX {α : Type} {v0 : V} {c s : Cnt} {H : Hp} {σ : St} {Dn : Ends} {x : R α} {f : α → Rho → SO} {ok : α → Rho → Prop} (pr : Pr F v0 σ) (h : OutS X F v0 G' c s H Dn (x.then f)) (g : ∀ a r, OutS X F v0 G' c s H Dn (f a r) → ok a r) :
    OutX X F c s H σ ok x := by
  cases x with
  | ok a r => exact g a r h
  | ex n d r => exact fun cls dx H' G c1 s1 e gg a y => h cls dx σ H' G c1 s1 e gg a pr y
  | no => exact h
theorem s_expr {f : Rho → R D} (A : PV X F G G1 k e f) (hs : swapsWith e none pos.line X.env = pure false := by rfl) : PSt X F G G1 (.Expr e pos) (fun r => (f r).then fun _ r1 => .nx r1) := by
  obtain ⟨t, ht, q⟩ := A.go
  refine ⟨_, ps_expr ht hs, fun v0 σ H r c s Dn sr ok pr h => q σ H r c s _ sr ok (h.useX pr fun d r1 h2 => ?_)⟩
  intro v H' c1 s1 cr sr' x rp y
  exact h2 σ H' c1 s1 x pr (y.less (fun z => by simp only [add_at]; omega) (fun z hz => by simp only [add_at]; omega))
/-- the in-out argument at the end -/
theorem io_end {v0 : V} {c1 s1 : Cnt} {H' : Hp} {σ : St} {r1 : Rho} (hio : IoG F G1) (pr : Pr F v0 σ) (x : SR X.K H' G1 r1 σ c1 s1) : ∃ c0 s0, IoP X.K H' F.io (rget r1 0) v0 c0 s0 ∧ (∀ a, c0 a ≤ c1 a) ∧ ∀ a, s0 a ≤ s1 a := by
  cases ei : F.io with
  | none => exact ⟨z0, z0, ⟨rfl, rfl⟩, fun _ => Nat.zero_le _, fun _ => Nat.zero_le _⟩
  | some m =>
    have hm := hio m ei
    have hv := pr.1 m ei
    cases e0 : rget r1 0 with
    | none => exact ⟨z0, z0, ⟨rfl, rfl⟩, fun _ => Nat.zero_le _, fun _ => Nat.zero_le _⟩
    | some d0 =>
      obtain ⟨v', c3, s3, c4, s4, ev, rp0, x', ec, es⟩ := x.out e0
      rw [hv] at ev
      cases ev
      rw [hm] at rp0
      subst ec; subst es
      exact ⟨c3, s3, rp0, fun a => by simp only [add_at]; omega, fun a => by simp only [add_at]; omega⟩
theorem s_ret {f : Rho → R D} (A : PV X F G G1 F.kr e f) (hio : IoG F G1 := by first | exact io_none rfl | exact io_some rfl rfl) : PSt X F G G' (.Return (some e) pos) (fun r => (f r).then fun d r1 => .rt d r1) := by
  obtain ⟨t, ht, q⟩ := A.go
  refine ⟨_, ps_ret ht, fun v0 σ H r c s Dn sr ok pr h => q σ H r c s _ sr ok (h.useX pr fun d r1 h2 => ?_)⟩
  intro v H' c1 s1 cr sr' x rp y
  obtain ⟨c0, s0, i, hc, hs⟩ := io_end hio pr x
  exact h2 v H' cr sr' c0 s0 rp i (y.less (fun z => by have := hc z; simp only [add_at]; omega) (fun z hz => by have := hs z; simp only [add_at] at hz ⊢; omega))
theorem s_retN (hio : IoG F G := by first | exact io_none rfl | exact io_some rfl rfl) : PSt X F G G' (.Return none pos) (fun r => .rt .non r) := by
  refine ⟨_, ps_retN, fun v0 σ H r c s Dn sr ok pr h => ?_⟩
  obtain ⟨c0, s0, i, hc, hs⟩ := io_end hio pr sr
  exact h .non H z0 z0 c0 s0 .non i ((Step.refl ok).less (fun z => by have := hc z; simp only [add_at, z_at]; omega) (fun z hz => by have := hs z; simp only [add_at, z_at] at hz ⊢; omega))
def dIf (c : Rho → R Bool) (f g : Rho → SO) : Rho → SO := fun r => (c r).then fun b r1 => if b = true then f r1 else g r1
theorem s_if {c : Expr} {th el : List Stmt} {fc : Rho → R Bool} {f g : Rho → SO} (C : PB X F G G1 c fc) (A : PBk X F G1 G' th f) (B : PBk X F G1 G' el g) : PSt X F G G' (.If c th el pos) (dIf fc f g) := by
  obtain ⟨t, ht, q⟩ := C.go
  obtain ⟨ta, ha, qa⟩ := A.go
  obtain ⟨tb, hb, qb⟩ := B.go
  refine ⟨_, ps_if ht ha hb, fun v0 σ H r c s Dn sr ok pr h => q σ H r c s _ sr ok (OutS.useX pr h fun v r1 h2 => ?_)⟩
  intro H' c1 s1 x st
  cases v with
  | true =>
    rw [if_pos rfl] at h2
    show if true = true then _ else _
    rw [if_pos rfl]
    exact qa v0 σ H' r1 c1 s1 Dn x st.ok pr (h2.shift st)
  | false =>
    rw [if_neg Bool.false_ne_true] at h2
    show if false = true then _ else _
    rw [if_neg Bool.false_ne_true]
    exact qb v0 σ H' r1 c1 s1 Dn x st.ok pr (h2.shift st)
/-- a slot filled anew -/
theorem SR.fill {K : PySem.W.Frag} {H : Hp} {r : Rho} {σ : St} {c s cr sr : Cnt} {d : D} {v : V} (x : SR K H G r σ c s) {i m : Nat} (hi : i < r.length) (rp : Rep K H m d v cr sr) :
    ∃ c2 s2, SR K H (G.set i m) (r.set i (some d)) (σ.set i (some v)) (add cr c2) (add sr s2) ∧ (∀ a, c2 a ≤ c a) ∧ ∀ a, s2 a ≤ s a := by
  obtain ⟨c2, s2, x2, hc, hs⟩ := x.del i
  have q := x2.put (by rw [List.length_set]; exact hi) (rget_set_none r i) rp
  rw [set_set] at q
  exact ⟨c2, s2, q, hc, hs⟩
theorem Pr.set {v0 : V} {σ : St} (pr : Pr F v0 σ) {i : Nat} {o : Option V} (hp : Fr F i) : Pr F v0 (σ.set i o) := by
  refine ⟨fun m hm => ?_, fun j hj => ?_⟩
  · rcases hp.1 with h | h
    · rw [h] at hm; cases hm
    · rw [List.getElem?_set_ne h]
      exact pr.1 m hm
  · rw [List.getElem?_set_ne (fun z => by subst z; rw [hp.2] at hj; cases hj)]
    exact pr.2 j hj
def dSet (i : Nat) (f : Rho → R D) : Rho → SO := fun r => (f r).then fun d r1 => .nx (r1.set i (some d))
theorem lt_of_ix {N : List Str} {i : Nat} {x : Str} (h : N[i]? = some x) : i < N.length := (List.getElem?_eq_some_iff.mp h).1
/-- x = e -/
theorem s_set {f : Rho → R D} (i : Nat) {x : Str} {pos' : Pos} (nd : X.N.Nodup) (A : PV X F G G1 k e f) (hi : X.N[i]? = some x := by rfl) (hx : Loc X.env.scope x := by first | exact Or.inl rfl | exact Or.inr rfl)
    (hp : Fr F i := by first | exact ⟨Or.inl rfl, rfl⟩ | exact ⟨Or.inr (by decide), rfl⟩) (hl : i < G.length := by decide) (hs : swapsWith e (some (.Name x pos')) pos.line X.env = pure false := by rfl)
    (hf : X.fn x = true ∨ X.env.scope.names.lookup x = some .local := by first | exact .inl rfl | exact .inr rfl) :
    PSt X F G (G1.set i k) (.Assign [.Name x pos'] e pos) (dSet i f) := by
  obtain ⟨t, ht, q⟩ := A.go
  refine ⟨_, ps_set nd hi hx ht hs hf, fun v0 σ H r c s Dn sr ok pr h => q σ H r c s _ sr ok (OutS.useX pr h fun d r1 h2 => ?_)⟩
  intro v H' c1 s1 cr sr' x rp y
  have hlen : i < r1.length := by
    have e1 := x.lenS
    have e2 := sr.lenS
    have e3 := sr.lenG
    omega
  obtain ⟨c2, s2, x2, hc, hs2⟩ := x.fill hlen rp
  exact h2 (σ.set i (some v)) H' _ _ x2 (pr.set hp) (y.less (fun z => by have := hc z; simp only [add_at]; omega) (fun z hz => by have := hs2 z; simp only [add_at] at hz ⊢; omega))
theorem Rep.flatZ {K : PySem.W.Frag} {H H' : Hp} {n m : Nat} {d : D} {v : V} {c s : Cnt} (r : Rep K H n d v c s) (h : flat d = true) : Rep K H' m d v z0 z0 := by
  cases r <;> first | (cases h; done) | constructor
/-- x op= e, x flat ahead of it -/
def augN (i : Nat) (o : Option D) (r1 : Rho) : SO := match o with
  | some y => .nx (r1.set i (some y))
  | none => .no
def dAug (i : Nat) (g : D → D → Option D) (f : Rho → R D) : Rho → SO := fun r => match rget r i with
  | some x => if flat x = true then (f r).then fun d r1 => augN i (g x d) r1 else .no
  | none => .no
theorem s_aug {f : Rho → R D} {op : Operator} {r2 : R2} {g : D → D → Option D} (i : Nat) {x : Str} {pos' : Pos} (nd : X.N.Nodup) (A0 : PV X F G G1 k e f) (ho : OpR X (inplaceOp op) r2) (p2 : P2 X r2 0 g) (hi : X.N[i]? = some x := by rfl) (hx : Loc X.env.scope x := by first | exact Or.inl rfl | exact Or.inr rfl)
    (hp : Fr F i := by first | exact ⟨Or.inl rfl, rfl⟩ | exact ⟨Or.inr (by decide), rfl⟩) (hl : i < G.length := by decide)
    (hf : X.fn x = true ∨ X.env.scope.names.lookup x = some .local := by first | exact .inl rfl | exact .inr rfl) :
    PSt X F G (G1.set i 0) (.AugAssign (.Name x pos') op e pos) (dAug i g f) := by
  have A := A0.weak (Nat.zero_le k)
  obtain ⟨t, ht, q⟩ := A.go
  refine ⟨_, ps_aug (ti := r2) nd hi hx ht ho hf, fun v0 σ H r c s Dn sr ok pr h => ?_⟩
  unfold dAug at h
  cases ex : rget r i with
  | none => rw [ex] at h; exact False.elim h
  | some dx =>
    rw [ex] at h
    have h : OutS X F v0 (G1.set i 0) c s H Dn (if flat dx = true then (f r).then fun d r1 => augN i (g dx d) r1 else .no) := h
    by_cases hfl : flat dx = true
    · rw [if_pos hfl] at h
      obtain ⟨vx, c3, s3, c4, s4, ev, rpx, _, _, _⟩ := sr.out ex
      refine ⟨vx, ev, q σ H r c s _ sr ok (OutS.useX pr h fun d r1 h2 => ?_)⟩
      intro v H' c1 s1 cr sr' x rp y
      have ez := rp.zero
      subst ez
      simp only [add_z] at y
      cases eg : g dx d with
      | none => rw [eg] at h2; exact False.elim h2
      | some dy =>
        rw [eg] at h2
        have rpx0 : Rep X.K H' 0 dx vx z0 z0 := rpx.flatZ hfl
        refine p2 dx d dy eg vx v H' z0 sr' _ rpx0 rp fun w H2 cw sw rpw n => ?_
        have hlen : i < r1.length := by
          have e1 := x.lenS
          have e2 := sr.lenS
          have e3 := sr.lenG
          omega
        have x2 := x.keep (ex_kp n.keep)
        have dm := x.dom.add rp.dom
        simp only [add_z] at dm
        have y2 := y.new (s2 := s1) dm (fun z hz => by simp only [add_at]; omega) (S := add z0 sr') (fun z hz => by simp only [add_at, z_at] at hz ⊢; omega) n
        obtain ⟨c5, s5, x5, hc, hs2⟩ := x2.fill hlen rpw
        exact h2 (σ.set i (some w)) H2 _ _ x5 (pr.set hp) (y2.less (fun z => by have := hc z; simp only [add_at]; omega) (fun z hz => by have := hs2 z; simp only [add_at] at hz ⊢; omega))
    · rw [if_neg hfl] at h
      exact False.elim h
end
end VL

namespace VL
open PySem PySem.Spec L2

theorem Reps.get {K : PySem.W.Frag} {H : Hp} {n : Nat} : ∀ {ds : List D} {vs : List V} {c s : Cnt}, Reps K H n ds vs c s → ∀ {i : Nat} {d : D}, ds[i]? = some d → ∃ v ci si, vs[i]? = some v ∧ Rep K H n d v ci si ∧ (∀ a, ci a ≤ c a) ∧ ∀ a, si a ≤ s a
  | _, _, _, _, .nil, _, _, h => by simp at h
  | _, _, _, _, .cons a b, 0, d, h => by
    simp only [List.getElem?_cons_zero, Option.some.injEq] at h
    subst h
    exact ⟨_, _, _, rfl, a, fun _ => Nat.le_add_right _ _, fun _ => Nat.le_add_right _ _⟩
  | _, _, _, _, .cons a b, i + 1, d, h => by
    obtain ⟨v, ci, si, e, r, h1, h2⟩ := Reps.get b (i := i) (d := d) (by simpa using h)
    exact ⟨v, ci, si, by simpa using e, r, fun x => Nat.le_trans (h1 x) (Nat.le_add_left _ _), fun x => Nat.le_trans (h2 x) (Nat.le_add_left _ _)⟩

/-! ### what is walked -/
structure WalkOk (K : PySem.W.Frag) (J : It) (ds : List D) (sI : Cnt) (W : Hp → Prop) : Prop where
  keep : ∀ H H', W H → Kp z0 sI H H' → W H'
  dom : ∀ H, W H → Dom z0 sI H
  go : ∀ H i, W H → i < ds.length → J.go i H
  yld : ∀ H i x H' d, W H → ds[i]? = some d → J.yld i H x H' → ∃ si, Rep K H' 0 d x z0 si ∧ (∀ a, 0 < si a → 0 < sI a) ∧ ∀ a o, H a = some o → H' a = some o
  stop : ∀ H, W H → J.stop ds.length H
structure PIt (X : Cx) (F : Fx) (G G' : List Nat) (tg iter : Expr) (f : Rho → R (List D)) : Prop where
  go : ∃ wi, PI X tg iter wi ∧ ∀ σ H r c s (Rr : It → Hp → Prop), SR X.K H G r σ c s → Ok c s →
    OutX X F c s H σ (fun ds r1 => ∀ J H1 c1 s1 sI W, SR X.K H1 G' r1 σ c1 s1 → WalkOk X.K J ds sI W → W H1 → Step c s H c1 (add s1 sI) H1 → Rr J H1) (f r) → wi σ H Rr
def rngD (lo : Int) (n : Nat) : List D := (List.range n).map fun i => .int (lo + (i : Nat))
theorem rngD_len (lo : Int) (n : Nat) : (rngD lo n).length = n := by simp [rngD]
theorem rngD_get {lo : Int} {n i : Nat} {d : D} (h : (rngD lo n)[i]? = some d) : d = .int (lo + (i : Nat)) := by
  unfold rngD at h
  rw [List.getElem?_map] at h
  cases e : (List.range n)[i]? with
  | none => rw [e] at h; cases h
  | some j =>
    rw [e] at h
    have : j = i := by
      have := List.getElem?_eq_some_iff.mp e
      obtain ⟨h1, h2⟩ := this
      simpa using h2.symm
    subst this
    exact (Option.some.inj h).symm
section
variable {X : Cx} {F : Fx} {G G1 G2 G3 G4 G' : List Nat} {k k1 k2 : Nat} {e a b tg iter : Expr} {es : List Expr} {pos p : Pos} {st : Stmt} {sts : List Stmt}
def itemsL : D → Option (List D)
  | .lst ds => some ds
  | .scr ns => some (ns.map D.int)
  | _ => none
theorem SqL.scr {K : PySem.W.Frag} {H : Hp} {a : Addr} {o : Obj} {xs : List V} (h : H a = some (.frz o (.lst xs))) : SqL K H a xs := .inl (.inr ⟨o, h⟩)
theorem rep_scr {K : PySem.W.Frag} {H : Hp} {n : Nat} {ns : List Int} {v : V} {c s : Cnt} (r : Rep K H n (.scr ns) v c s) : ∃ a, v = .ref a ∧ SqL K H a (ns.map V.int) := by
  cases r with
  | scr o h => exact ⟨_, rfl, SqL.scr h⟩
  | scrK h => exact ⟨_, rfl, h H⟩
theorem rep_lst {K : PySem.W.Frag} {H : Hp} {n : Nat} {ds : List D} {v : V} {c s : Cnt} (r : Rep K H n (.lst ds) v c s) : ∃ a vs, v = .ref a ∧ H a = some (.lst vs) ∧ ∃ m c' s', Reps K H m ds vs c' s' ∧ (∀ x, c' x ≤ c x) ∧ ∀ x, s' x ≤ s x := by
  cases r with
  | lst0 h r => exact ⟨_, _, rfl, h, _, _, _, r, fun _ => Nat.le_refl _, fun _ => Nat.le_add_left _ _⟩
  | lstS h r => exact ⟨_, _, rfl, h, _, _, _, r, fun _ => Nat.le_add_left _ _, fun _ => Nat.le_refl _⟩
theorem rep_lst0 {K : PySem.W.Frag} {H : Hp} {ds : List D} {v : V} {c s : Cnt} (r : Rep K H 0 (.lst ds) v c s) : ∃ a vs s', v = .ref a ∧ H a = some (.lst vs) ∧ Reps K H 0 ds vs z0 s' ∧ s = add (one a) s' ∧ c = z0 := by
  have z := r.zero
  cases r with
  | lst0 h r => subst z; exact ⟨_, _, _, rfl, h, r, rfl, rfl⟩
theorem it_list {f : Rho → R D} (A0 : PV X F G G1 k iter f) : PIt X F G G1 tg iter (fun r => (f r).bind fun d r1 => lift (itemsL d) r1) := by
  have A := A0.weak (Nat.zero_le k)
  obtain ⟨t, ht, q⟩ := A.go
  refine ⟨_, pi_list ht, fun σ H r c s Rr sr ok h => q σ H r c s _ sr ok (h.bind1.mono fun d r1 h2 => ?_)⟩
  obtain ⟨ds, hd, h2⟩ := h2
  intro v H1 c1 s1 cr sI x rp st
  have z := rp.zero
  subst z
  simp only [add_z] at st
  cases d with
  | lst ds' =>
    cases hd
    obtain ⟨a, vs, s', rfl, ha, rs, _, _⟩ := rep_lst0 rp
    refine ⟨a, rfl, ⟨vs, SqL.of ha⟩, h2 _ H1 c1 s1 sI (fun H => Rep X.K H 0 (.lst ds) (.ref a) z0 sI) x ⟨fun H H' w k => w.keep k, fun H w => w.dom, fun H i w hi => ?_, fun H i y H' d w hd hy => ?_, fun H w => ?_⟩ rp st⟩
    · obtain ⟨a', vs', s2, e, ha', rs', _, _⟩ := rep_lst0 w
      cases e
      have hl := rs'.length
      exact ⟨vs', vs'[i], SqL.of ha', by simp [← hl, hi]⟩
    · obtain ⟨a', vs', s2, e, ha', rs', es, _⟩ := rep_lst0 w
      cases e
      obtain ⟨u, ci, si, eu, ru, h1, h3⟩ := rs'.get hd
      obtain ⟨rfl, hy⟩ := hy
      have e2 := hy vs' (SqL.of ha')
      rw [eu] at e2
      cases e2
      have zz := ru.zero
      subst zz
      refine ⟨si, ru, fun z hz => ?_, fun _ _ h => h⟩
      rw [es]
      have := h3 z
      simp only [add_at]
      omega
    · obtain ⟨a', vs', s2, e, ha', rs', _, _⟩ := rep_lst0 w
      cases e
      exact ⟨vs', SqL.of ha', by rw [rs'.length]; exact Nat.le_refl _⟩
  | scr ns =>
    cases hd
    obtain ⟨a, rfl, hq⟩ := rep_scr rp
    refine ⟨a, rfl, ⟨_, hq⟩, h2 _ H1 c1 s1 sI (fun H => Rep X.K H 0 (.scr ns) (.ref a) z0 sI) x ⟨fun H H' w k => w.keep k, fun H w => w.dom, fun H i w hi => ?_, fun H i y H' d w hd hy => ?_, fun H w => ?_⟩ rp st⟩
    · obtain ⟨a', e, hq'⟩ := rep_scr w
      cases e
      rw [List.length_map] at hi
      exact ⟨_, .int (ns[i]'hi), hq', by rw [List.getElem?_map, List.getElem?_eq_getElem hi]; rfl⟩
    · obtain ⟨a', e, hq'⟩ := rep_scr w
      cases e
      obtain ⟨rfl, hy⟩ := hy
      have e2 := hy _ hq'
      rw [List.getElem?_map] at hd e2
      cases e3 : ns[i]? with
      | none => rw [e3] at hd; cases hd
      | some m =>
        rw [e3] at hd e2
        cases hd
        cases e2
        exact ⟨z0, .int m, fun z hz => absurd hz (Nat.lt_irrefl 0), fun _ _ h => h⟩
    · obtain ⟨a', e, hq'⟩ := rep_scr w
      cases e
      exact ⟨_, hq', by rw [List.length_map, List.length_map]; exact Nat.le_refl _⟩
  | _ => cases hd
theorem rep_tup {K : PySem.W.Frag} {H : Hp} {n : Nat} {ds : List D} {v : V} {c s : Cnt} (r : Rep K H n (.tup ds) v c s) : ∃ a vs, v = .ref a ∧ H a = some (.tup vs) ∧ Reps K H n ds vs c s := by
  cases r with
  | tup h r => exact ⟨_, _, rfl, h, r⟩
def itemsT : D → Option (List D)
  | .tup ds => some ds
  | _ => none
theorem it_tup {f : Rho → R D} (A0 : PV X F G G1 k iter f) : PIt X F G G1 tg iter (fun r => (f r).bind fun d r1 => lift (itemsT d) r1) := by
  have A := A0.weak (Nat.zero_le k)
  obtain ⟨t, ht, q⟩ := A.go
  refine ⟨_, pi_tup ht, fun σ H r c s Rr sr ok h => q σ H r c s _ sr ok (h.bind1.mono fun d r1 h2 => ?_)⟩
  obtain ⟨ds, hd, h2⟩ := h2
  intro v H1 c1 s1 cr sI x rp st
  have z := rp.zero
  subst z
  simp only [add_z] at st
  cases d with
  | tup ds' =>
    cases hd
    obtain ⟨a, vs, rfl, ha, rs⟩ := rep_tup rp
    refine ⟨a, rfl, ⟨vs, SqT.of ha⟩, h2 _ H1 c1 s1 sI (fun H => Rep X.K H 0 (.tup ds) (.ref a) z0 sI) x ⟨fun H H' w k => w.keep k, fun H w => w.dom, fun H i w hi => ?_, fun H i y H' d w hd hy => ?_, fun H w => ?_⟩ rp st⟩
    · obtain ⟨a', vs', e, ha', rs'⟩ := rep_tup w
      cases e
      have hl := rs'.length
      exact ⟨vs', vs'[i], SqT.of ha', by simp [← hl, hi]⟩
    · obtain ⟨a', vs', e, ha', rs'⟩ := rep_tup w
      cases e
      obtain ⟨u, ci, si, eu, ru, h1, h3⟩ := rs'.get hd
      obtain ⟨rfl, hy⟩ := hy
      have e2 := hy vs' (SqT.of ha')
      rw [eu] at e2
      cases e2
      have zz := ru.zero
      subst zz
      exact ⟨si, ru, fun z hz => Nat.lt_of_lt_of_le hz (h3 z), fun _ _ h => h⟩
    · obtain ⟨a', vs', e, ha', rs'⟩ := rep_tup w
      cases e
      exact ⟨vs', SqT.of ha', by rw [rs'.length]; exact Nat.le_refl _⟩
  | _ => cases hd
/-- range(j) -/
def rng1 : List D → Option (List D)
  | [.int j] => if -4611686018427387904 ≤ j ∧ j < 4611686018427387904 then some (rngD 0 j.toNat) else none
  | _ => none
def rng2 : List D → Option (List D)
  | [.int i, .int j] => if (-4611686018427387904 ≤ i ∧ i < 4611686018427387904) ∧ (-4611686018427387904 ≤ j ∧ j < 4611686018427387904) then some (rngD i (j - i).toNat) else none
  | _ => none
theorem walk_rng (K : PySem.W.Frag) (lo : Int) (n : Nat) : WalkOk K (Itr lo n) (rngD lo n) z0 (fun _ => True) :=
  ⟨fun _ _ _ _ => trivial, fun _ _ => .z, fun H i _ hi => by rw [rngD_len] at hi; exact hi, fun H i x H' d _ hd hy => by
    obtain ⟨rfl, rfl⟩ := hy
    have e := rngD_get hd
    subst e
    exact ⟨z0, .int _, fun z hz => absurd hz (Nat.lt_irrefl 0), fun _ _ h => h⟩, fun H _ => by show n ≤ _; rw [rngD_len]; exact Nat.le_refl _⟩
theorem it_range1 {f : Rho → R (List D)} (A0 : PL X F G G1 k [a] f) (hg : Gl X "range") (hm : X.mg "range" = none) (hs : starEach [a] X.env = [(false, eval a X.env)] := by rfl) :
    PIt X F G G1 tg (.Call (.Name "range" p) [a] [] pos) (fun r => (f r).bind fun ds r1 => lift (rng1 ds) r1) := by
  obtain ⟨t, ht, q⟩ := (l_weak A0).go
  refine ⟨_, pi_range1 hg hm ht hs, fun σ H r c s Rr sr ok h => q σ H r c s _ sr ok (h.bind1.mono fun ds r1 h2 => ?_)⟩
  obtain ⟨is, hd, h2⟩ := h2
  intro vs H1 c1 s1 cr sI x rp st
  unfold rng1 at hd
  split at hd
  · rename_i j
    split at hd
    · rename_i hj
      cases hd
      cases rp with
      | cons r1 r2 =>
        cases r1
        cases r2
        simp only [add_z] at st
        exact ⟨j, rfl, by omega, by omega, h2 _ H1 c1 s1 z0 _ x (walk_rng X.K 0 j.toNat) trivial (by rw [add_z]; exact st)⟩
    · cases hd
  · cases hd
end
end VL

namespace VL
open PySem PySem.Spec L2
section
variable {X : Cx} {F : Fx} {G G1 G2 G3 G4 G' Gt Gn : List Nat} {k k1 k2 : Nat} {e a b tg iter : Expr} {es : List Expr} {pos p : Pos} {st : Stmt} {sts : List Stmt}
theorem it_range2 {f : Rho → R (List D)} (A0 : PL X F G G1 k [a, b] f) (hg : Gl X "range") (hm : X.mg "range" = none) (hs : starEach [a, b] X.env = [(false, eval a X.env), (false, eval b X.env)] := by rfl) (hs2 : starEach [b] X.env = [(false, eval b X.env)] := by rfl) :
    PIt X F G G1 tg (.Call (.Name "range" p) [a, b] [] pos) (fun r => (f r).bind fun ds r1 => lift (rng2 ds) r1) := by
  obtain ⟨t, ht, q⟩ := (l_weak A0).go
  refine ⟨_, pi_range2 hg hm ht hs hs2, fun σ H r c s Rr sr ok h => q σ H r c s _ sr ok (h.bind1.mono fun ds r1 h2 => ?_)⟩
  obtain ⟨is, hd, h2⟩ := h2
  intro vs H1 c1 s1 cr sI x rp st
  unfold rng2 at hd
  split at hd
  · rename_i i j
    split at hd
    · rename_i hj
      cases hd
      cases rp with
      | cons r1 r2 =>
        cases r1
        cases r2 with
        | cons r2 r3 =>
          cases r2
          cases r3
          simp only [add_z] at st
          exact ⟨i, j, rfl, by omega, h2 _ H1 c1 s1 z0 _ x (walk_rng X.K i (j - i).toNat) trivial (by rw [add_z]; exact st)⟩
    · cases hd
  · cases hd
/-! ### targets -/
structure PTg (X : Cx) (F : Fx) (G G' : List Nat) (tg : Expr) (g : D → Rho → Option Rho) : Prop where
  go : ∃ t, PG X tg t ∧ ∀ v0 σ H r c s d x sx Q r1, SR X.K H G r σ c s → Ok c (add s sx) → Rep X.K H 0 d x z0 sx → Pr F v0 σ → g d r = some r1 →
    (∀ σ' c' s', SR X.K H G' r1 σ' c' s' → Pr F v0 σ' → Step c (add s sx) H c' s' H → Q σ' H) → t x σ H Q
structure PTgs (X : Cx) (F : Fx) (G G' : List Nat) (tgs : List Expr) (g : List D → Rho → Option Rho) : Prop where
  go : ∃ t, PGs X tgs t ∧ ∀ v0 σ H r c s ds xs sx Q r1, SR X.K H G r σ c s → Ok c (add s sx) → Reps X.K H 0 ds xs z0 sx → Pr F v0 σ → g ds r = some r1 →
    (∀ σ' c' s', SR X.K H G' r1 σ' c' s' → Pr F v0 σ' → Step c (add s sx) H c' s' H → Q σ' H) → t xs σ H Q
def gSet (i : Nat) : D → Rho → Option Rho := fun d r => some (r.set i (some d))
theorem g_name (i : Nat) {x : Str} (nd : X.N.Nodup) (hi : X.N[i]? = some x := by rfl) (hx : Loc X.env.scope x := by first | exact Or.inl rfl | exact Or.inr rfl) (hp : Fr F i := by first | exact ⟨Or.inl rfl, rfl⟩ | exact ⟨Or.inr (by decide), rfl⟩) (hl : i < G.length := by decide)
    (hf : X.fn x = true ∨ X.env.scope.names.lookup x = some .local := by first | exact .inl rfl | exact .inr rfl) : PTg X F G (G.set i 0) (.Name x pos) (gSet i) := by
  refine ⟨_, pg_name nd hi hx hf, fun v0 σ H r c s d x sx Q r1 sr ok rp pr hg h => ?_⟩
  cases hg
  have hlen : i < r.length := by
    have e3 := sr.lenG
    omega
  obtain ⟨c2, s2, x2, hc, hs2⟩ := sr.fill hlen rp
  refine h (σ.set i (some x)) _ _ x2 (pr.set hp) ((Step.refl ok).less (fun z => by have := hc z; simp only [add_at, z_at]; omega) (fun z hz => by have := hs2 z; simp only [add_at] at hz ⊢; omega))
theorem Reps.inv0 {K : PySem.W.Frag} {H : Hp} {n : Nat} {vs : List V} {c s : Cnt} (r : Reps K H n [] vs c s) : vs = [] ∧ c = z0 ∧ s = z0 := by
  cases r with
  | nil => exact ⟨rfl, rfl, rfl⟩
theorem Reps.inv1 {K : PySem.W.Frag} {H : Hp} {n : Nat} {d : D} {ds : List D} {vs : List V} {c s : Cnt} (r : Reps K H n (d :: ds) vs c s) : ∃ v vs' c1 s1 c2 s2, vs = v :: vs' ∧ Rep K H n d v c1 s1 ∧ Reps K H n ds vs' c2 s2 ∧ c = add c1 c2 ∧ s = add s1 s2 := by
  cases r with
  | cons a b => exact ⟨_, _, _, _, _, _, rfl, a, b, rfl, rfl⟩
def gNil' : List D → Rho → Option Rho := fun ds r => match ds with | [] => some r | _ => none
theorem gs_nil : PTgs X F G G [] gNil' := by
  refine ⟨_, pgs_nil, fun v0 σ H r c s ds xs sx Q r1 sr ok rp pr hg h => ?_⟩
  cases ds with
  | nil =>
    cases hg
    obtain ⟨rfl, _, rfl⟩ := rp.inv0
    exact ⟨rfl, h σ c s sr pr (by rw [add_z]; exact .refl (by rw [add_z] at ok; exact ok))⟩
  | cons a b => cases hg
def gCons' (g : D → Rho → Option Rho) (gs : List D → Rho → Option Rho) : List D → Rho → Option Rho := fun ds r => match ds with
  | d :: ds => (g d r).bind fun r1 => gs ds r1
  | [] => none
theorem gs_cons {g : D → Rho → Option Rho} {gs : List D → Rho → Option Rho} (A : PTg X F G G1 e g) (B : PTgs X F G1 G2 es gs) (hs : (assignEach (e :: es) X.env).map (·.2) = assign e X.env :: (assignEach es X.env).map (·.2) := by rfl) :
    PTgs X F G G2 (e :: es) (gCons' g gs) := by
  obtain ⟨t, ht, q⟩ := A.go
  obtain ⟨u, hu, q2⟩ := B.go
  refine ⟨_, pgs_cons ht hu hs, fun v0 σ H r c s ds xs sx Q r1 sr ok rp pr hg h => ?_⟩
  cases ds with
  | nil => cases hg
  | cons d ds =>
    obtain ⟨v, vs, ca, sa, cb, sb, rfl, ra, rb, _, rfl⟩ := rp.inv1
    have za := ra.zero; have zb := rb.zero
    have ra0 : Rep X.K H 0 d v z0 sa := by rw [za] at ra; exact ra
    have rb0 : Reps X.K H 0 ds vs z0 sb := by rw [zb] at rb; exact rb
    unfold gCons' at hg
    cases e1 : g d r with
    | none => simp only [e1] at hg; cases hg
    | some r2 =>
      simp only [e1, Option.bind_some] at hg
      refine ⟨v, vs, rfl, q v0 σ H r c s d v sa _ r2 sr (fun z => by have := ok z; simp only [add_at] at this ⊢; omega) ra0 pr e1 fun σ' c' s' sr' pr' st => ?_⟩
      have st2 : Step c (add s (add sa sb)) H c' (add s' sb) H := by
        have hf : Ok (add c z0) (add (add s sa) sb) := by rw [add_z, add_assoc']; exact ok
        have q := st.frame (cf := z0) (sf := sb) hf rb0.dom
        rw [add_z, add_z, add_assoc'] at q
        exact q
      exact q2 v0 σ' H r2 c' s' ds vs sb Q r1 sr' st2.ok rb0 pr' hg fun σ2 c2 s2 sr2 pr2 st3 => h σ2 c2 s2 sr2 pr2 (st2.trans st3)
theorem g_tup {kk : Nat} {gs : List D → Rho → Option Rho} {n : Nat} (hc : X.calm = true) (A : PTgs X F G G1 es gs) (hn : (assignEach es X.env).length = n := by rfl) (hst : (assignEach es X.env).findIdx? (·.1) = none := by rfl) :
    PTg X F G G1 (.Tuple es kk pos) (fun d r => match d with | .tup ds => if ds.length = n then gs ds r else none | _ => none) := by
  obtain ⟨t, ht, q⟩ := A.go
  refine ⟨_, pg_tup hc ht hn hst, fun v0 σ H r c s d x sx Q r1 sr ok rp pr hg h => ?_⟩
  cases d with
  | tup ds =>
    obtain ⟨a, vs, rfl, ha, rs⟩ := rep_tup rp
    have hg : (if ds.length = n then gs ds r else none) = some r1 := hg
    by_cases hl : ds.length = n
    · rw [if_pos hl] at hg
      exact ⟨a, vs, rfl, SqT.of ha, by rw [← rs.length]; exact hl, q v0 σ H r c s ds vs sx Q r1 sr ok rs pr hg h⟩
    · rw [if_neg hl] at hg
      cases hg
  | _ => cases hg
/-- a, b = e (a tuple) -/
theorem s_asg {f : Rho → R D} {g : D → Rho → Option Rho} (A0 : PV X F G G1 k e f) (T : PTg X F G1 G2 tg g) (hs : swapsWithSole [tg] e pos.line X.env = pure false := by rfl) (hw : swappedStores [tg] e X.env = pure none := by rfl)
    (h1 : (assignEach [tg] X.env).map (·.2) = [assign tg X.env] := by rfl) : PSt X F G G2 (.Assign [tg] e pos) (fun r => (f r).then fun d r1 => match g d r1 with | some r2 => .nx r2 | none => .no) := by
  obtain ⟨t, ht, q⟩ := (A0.weak (Nat.zero_le k)).go
  obtain ⟨u, hu, q2⟩ := T.go
  refine ⟨_, ps_asg ht hu hs hw h1, fun v0 σ H r c s Dn sr ok pr h => q σ H r c s _ sr ok (OutS.useX pr h fun d r1 h2 => ?_)⟩
  intro v H' c1 s1 cr sr' x rp y
  have z := rp.zero
  subst z
  simp only [add_z] at y
  cases eg : g d r1 with
  | none => simp only [eg] at h2; exact False.elim h2
  | some r2 =>
    simp only [eg] at h2
    exact q2 v0 σ H' r1 c1 s1 d v sr' _ r2 x y.ok rp pr eg fun σ' c' s' sr2 pr2 st => h2 σ' H' c' s' sr2 pr2 (y.trans st)

/-! ### loops -/
def loopD (g : D → Rho → Option Rho) (b : Rho → SO) : List D → Rho → SO
  | [], r => .nx r
  | d :: ds, r => match g d r with
    | none => .no
    | some r1 => match b r1 with
      | .nx r2 => loopD g b ds r2
      | .ct r2 => loopD g b ds r2
      | .bk r2 => .nx r2
      | o => o
theorem Step.dup {c s c1 s1 si sI : Cnt} {H H1 : Hp} (x : Step c s H c1 (add s1 sI) H1) (h : ∀ a, 0 < si a → 0 < sI a) : Step c s H c1 (add (add s1 si) sI) H1 :=
  ⟨x.own, fun a ha => x.sh a (by have := h a; simp only [add_at] at ha ⊢; omega), x.keep, x.dom, fun a => by have h1 := x.ok a; have h2 := h a; simp only [add_at] at h1 ⊢; omega⟩
theorem Step.ext {c s c1 s1 : Cnt} {H H1 H2 : Hp} (x : Step c s H c1 s1 H1) (k : ∀ a o, H1 a = some o → H2 a = some o) : Step c s H c1 s1 H2 :=
  ⟨x.own, x.sh, fun a o e h => k a o (x.keep a o e h), fun a h => (by
    have q := x.dom a h
    cases e : H1 a with
    | none => exact absurd e q
    | some o => rw [k a o e]; exact fun z => nomatch z), x.ok⟩
abbrev Fx.at (F : Fx) (Gb Gc : List Nat) : Fx := { F with Gb := Gb, Gc := Gc }
/-- for tg in iter: body; G2: the masks ahead of each turn -/
theorem s_for (G2 : List Nat) {body : List Stmt} {fi : Rho → R (List D)} {g : D → Rho → Option Rho} {b : Rho → SO} (hp : PassesOwn (model X.prog X.w) X.A X.env X.xe) (hc : X.calm = true) (I : PIt X F G G1 tg iter fi) (T : PTg X F G2 Gt tg g) (B : PBk X (F.at G2 G2) Gt Gn body b)
    (h1 : leG G2 G1 = true := by rfl) (h2 : leG G2 Gn = true := by rfl) (hs : ∀ x, foldedSetIterable iter X.env x = pure x := by intro _; rfl) :
    PSt X F G G2 (.For tg iter body [] pos) (fun r => (fi r).then fun ds r1 => loopD g b ds r1) := by
  obtain ⟨wi, hwi, qi⟩ := I.go
  obtain ⟨tt, htt, qt⟩ := T.go
  obtain ⟨tb, htb, qb⟩ := B.go
  refine ⟨_, ps_for hp hc hwi htt htb hs, fun v0 σ H r c s Dn sr ok pr h => qi σ H r c s _ sr ok (OutS.useX pr h fun ds r1 h3 => ?_)⟩
  intro J H1 c1 s1 sI W x wk w1 st
  refine ⟨fun i m σ' H' => m = ds.length - i ∧ i ≤ ds.length ∧ ∃ r' c' s', SR X.K H' G2 r' σ' c' s' ∧ W H' ∧ Pr F v0 σ' ∧ Step c s H c' (add s' sI) H' ∧ OutS X F v0 G2 c s H Dn (loopD g b (ds.drop i) r'), ?_, ?_⟩
  · obtain ⟨c', s', x', w⟩ := x.wk (LeG.of h1)
    exact ⟨ds.length, by simp, Nat.zero_le _, r1, c', s', x', w1, pr, st.wk (by have q := w.add (Wk.refl z0 sI); rw [add_z, add_z] at q; exact q), h3⟩
  · rintro i m σ' H' ⟨rfl, hi, r', c', s', x', w', pr', st', o⟩
    by_cases hlt : i < ds.length
    · have hd : ds[i]? = some ds[i] := List.getElem?_eq_getElem hlt
      rw [List.drop_eq_getElem_cons hlt] at o
      unfold loopD at o
      cases eg : g ds[i] r' with
      | none => simp only [eg] at o; exact False.elim o
      | some r2 =>
        simp only [eg] at o
        refine .inr ⟨wk.go H' i w' hlt, fun σ' H' => ∃ r' c' s', SR X.K H' G2 r' σ' c' s' ∧ W H' ∧ Pr F v0 σ' ∧ Step c s H c' (add s' sI) H' ∧ OutS X F v0 G2 c s H Dn (loopD g b (ds.drop (i + 1)) r'), fun σ2 H2 hN => ⟨ds.length - (i + 1), by omega, rfl, hlt, hN⟩, fun y H2 hy => ?_⟩
        obtain ⟨si, ry, hsi, hk⟩ := wk.yld H' i y H2 ds[i] w' hd hy
        have x2 := x'.keep (ex_kp hk)
        have w2 := wk.keep H' H2 w' (ex_kp hk)
        have st2 := (st'.ext hk).dup hsi
        have okk : Ok c' (add s' si) := fun z => by have := st2.ok z; simp only [add_at] at this ⊢; omega
        refine qt v0 σ' H2 r' c' s' ds[i] y si _ r2 x2 okk ry pr' eg fun σ3 c3 s3 x3 pr3 st3 => ?_
        have fr := fun {c4 s4 H4} (z : Step c3 s3 H2 c4 s4 H4) => ((st3.trans z).frame (cf := z0) (sf := sI) (by rw [add_z]; exact st2.ok) (wk.dom H2 w2))
        simp only [add_z] at fr
        have aside : ∀ {c4 s4 H4}, Step c3 s3 H2 c4 s4 H4 → Kp z0 sI H2 H4 := fun {c4 s4 H4} z => (st3.trans z).aside (cf := z0) (sf := sI) (by rw [add_z]; exact st2.ok)
        have again : ∀ {σ4 H4 c4 s4 r4}, SR X.K H4 G2 r4 σ4 c4 s4 → Pr F v0 σ4 → Step c3 s3 H2 c4 s4 H4 → OutS X F v0 G2 c s H Dn (loopD g b (ds.drop (i + 1)) r4) →
            ∃ r' c' s', SR X.K H4 G2 r' σ4 c' s' ∧ W H4 ∧ Pr F v0 σ4 ∧ Step c s H c' (add s' sI) H4 ∧ OutS X F v0 G2 c s H Dn (loopD g b (ds.drop (i + 1)) r') := fun {σ4 H4 c4 s4 r4} sr4 pr4 z o4 =>
          ⟨r4, c4, s4, sr4, wk.keep H2 H4 w2 (aside z), pr4, st2.trans (fr z), o4⟩
        have back : ∀ {c4 s4 H4}, Step c3 s3 H2 c4 s4 H4 → Step c s H c4 s4 H4 := fun {c4 s4 H4} z => (st2.trans (fr z)).less (fun _ => Nat.le_refl _) (fun a ha => by simp only [add_at]; omega)
        refine qb v0 σ3 H2 r2 c3 s3 _ x3 st3.ok pr3 ?_
        cases eb : b r2 with
        | nx r3 =>
          simp only [eb] at o
          intro σ4 H4 c4 s4 sr4 pr4 z
          obtain ⟨c5, s5, sr5, w5⟩ := sr4.wk (LeG.of h2)
          exact again sr5 pr4 (z.wk w5) o
        | ct r3 =>
          simp only [eb] at o
          exact fun σ4 H4 c4 s4 sr4 pr4 z => again sr4 pr4 z o
        | bk r3 =>
          simp only [eb] at o
          exact fun σ4 H4 c4 s4 sr4 pr4 z => o σ4 H4 c4 s4 sr4 pr4 (back z)
        | rt d r3 =>
          simp only [eb] at o
          exact fun v H4 cr sr c0 s0 rp i z => o v H4 cr sr c0 s0 rp i (back z)
        | ex n d r3 =>
          simp only [eb] at o
          exact fun cls dx σ4 H4 G4 c4 s4 e gg sr4 pr4 z => o cls dx σ4 H4 G4 c4 s4 e gg sr4 pr4 (back z)
        | no =>
          simp only [eb] at o
          exact False.elim o
    · obtain rfl : i = ds.length := by omega
      rw [List.drop_length] at o
      exact .inl ⟨wk.stop H' w', o σ' H' c' s' x' pr' (st'.less (fun _ => Nat.le_refl _) (fun a ha => by simp only [add_at]; omega))⟩
/-! ### while -/
def whileD (c : Rho → R Bool) (b : Rho → SO) : Nat → Rho → SO
  | 0, _ => .no
  | n + 1, r => (c r).then fun t r1 => if t = true then (match b r1 with
      | .nx r2 => whileD c b n r2
      | .ct r2 => whileD c b n r2
      | .bk r2 => .nx r2
      | o => o) else .nx r1
/-- while c: body; at most n turns -/
theorem s_while (n : Nat) {c : Expr} {body : List Stmt} {fc : Rho → R Bool} {b : Rho → SO} (hp : PassesOwn (model X.prog X.w) X.A X.env X.xe) (C : PB X F G G1 c fc) (B : PBk X (F.at G1 G) G1 Gn body b) (h2 : leG G Gn = true := by rfl) :
    PSt X F G G1 (.While c body [] pos) (whileD fc b n) := by
  obtain ⟨tc, htc, qc⟩ := C.go
  obtain ⟨tb, htb, qb⟩ := B.go
  refine ⟨_, ps_while hp htc htb, fun v0 σ H r cc s Dn sr ok pr h => ?_⟩
  refine ⟨fun m σ' H' => ∃ r' c' s', SR X.K H' G r' σ' c' s' ∧ Pr F v0 σ' ∧ Step cc s H c' s' H' ∧ OutS X F v0 G1 cc s H Dn (whileD fc b m r'), ⟨n, r, cc, s, sr, pr, .refl ok, h⟩, ?_⟩
  rintro m σ' H' ⟨r', c', s', x', pr', st', o⟩
  cases m with
  | zero => exact False.elim o
  | succ m =>
    unfold whileD at o
    cases ef : fc r' with
    | no => simp only [ef, R.then_no] at o; exact False.elim o
    | ex nn d r1 =>
      simp only [ef, R.then_ex] at o
      refine qc σ' H' r' c' s' _ x' st'.ok ?_
      rw [ef]
      exact fun cls dx H4 G4 c4 s4 e gg sr4 z => o cls dx σ' H4 G4 c4 s4 e gg sr4 pr' (st'.trans z)
    | ok t r1 =>
      simp only [ef, R.then_ok] at o
      refine qc σ' H' r' c' s' _ x' st'.ok ?_
      rw [ef]
      intro H1 c1 s1 x1 st1
      cases t with
      | false =>
        rw [if_neg Bool.false_ne_true] at o
        rw [if_neg Bool.false_ne_true]
        exact o σ' H1 c1 s1 x1 pr' (st'.trans st1)
      | true =>
        rw [if_pos rfl] at o
        rw [if_pos rfl]
        refine ⟨fun σ' H' => ∃ r' c' s', SR X.K H' G r' σ' c' s' ∧ Pr F v0 σ' ∧ Step cc s H c' s' H' ∧ OutS X F v0 G1 cc s H Dn (whileD fc b m r'), fun σ2 H2 hN => ⟨m, Nat.lt_succ_self m, hN⟩, ?_⟩
        refine qb v0 σ' H1 r1 c1 s1 _ x1 st1.ok pr' ?_
        have back : ∀ {c4 s4 H4}, Step c1 s1 H1 c4 s4 H4 → Step cc s H c4 s4 H4 := fun {c4 s4 H4} z => st'.trans (st1.trans z)
        cases eb : b r1 with
        | nx r3 =>
          simp only [eb] at o
          intro σ4 H4 c4 s4 sr4 pr4 z
          obtain ⟨c5, s5, sr5, w5⟩ := sr4.wk (LeG.of h2)
          exact ⟨r3, c5, s5, sr5, pr4, (back z).wk w5, o⟩
        | ct r3 =>
          simp only [eb] at o
          exact fun σ4 H4 c4 s4 sr4 pr4 z => ⟨r3, c4, s4, sr4, pr4, back z, o⟩
        | bk r3 =>
          simp only [eb] at o
          exact fun σ4 H4 c4 s4 sr4 pr4 z => o σ4 H4 c4 s4 sr4 pr4 (back z)
        | rt d r3 =>
          simp only [eb] at o
          exact fun v H4 cr sr c0 s0 rp i z => o v H4 cr sr c0 s0 rp i (back z)
        | ex nn d r3 =>
          simp only [eb] at o
          exact fun cls dx σ4 H4 G4 c4 s4 e gg sr4 pr4 z => o cls dx σ4 H4 G4 c4 s4 e gg sr4 pr4 (back z)
        | no =>
          simp only [eb] at o
          exact False.elim o
end
end VL

namespace VL
open PySem PySem.Spec L2
def wipeR (r : Rho) : List Nat → Rho
  | [] => r
  | v :: vs => (wipeR r vs).set v none
section
variable {X : Cx} {F : Fx} {G G1 G2 G3 G4 G' Gt Gs Gn : List Nat} {k k1 k2 : Nat} {e a b tg iter elt : Expr} {es ifs : List Expr} {pos p : Pos} {st : Stmt} {sts : List Stmt}
theorem SR.delS {K : PySem.W.Frag} {H : Hp} : ∀ {G r σ c s}, SR K H G r σ c s → ∀ (i : Nat) (o : Option V), ∃ c2 s2, SR K H G (r.set i none) (σ.set i o) c2 s2 ∧ (∀ a, c2 a ≤ c a) ∧ ∀ a, s2 a ≤ s a
  | _, _, _, _, _, .nil, _, _ => ⟨_, _, .nil, fun _ => Nat.le_refl _, fun _ => Nat.le_refl _⟩
  | _, _, _, _, _, .no x, 0, _ => ⟨_, _, .no x, fun _ => Nat.le_refl _, fun _ => Nat.le_refl _⟩
  | _, _, _, _, _, .no x, i + 1, o =>
    let ⟨_, _, x', e1, e2⟩ := SR.delS x i o
    ⟨_, _, .no x', e1, e2⟩
  | _, _, _, _, _, .yes a x, 0, _ => ⟨_, _, .no x, fun _ => Nat.le_add_left _ _, fun _ => Nat.le_add_left _ _⟩
  | _, _, _, _, _, .yes a x, i + 1, o =>
    let ⟨_, _, x', e1, e2⟩ := SR.delS x i o
    ⟨_, _, .yes a x', fun b => Nat.add_le_add_left (e1 b) _, fun b => Nat.add_le_add_left (e2 b) _⟩
theorem SR.wipe {K : PySem.W.Frag} {H : Hp} {G r σ c s} (x : SR K H G r σ c s) : ∀ vs : List Nat, ∃ c2 s2, SR K H G (wipeR r vs) (L2.wipe σ vs) c2 s2 ∧ (∀ a, c2 a ≤ c a) ∧ ∀ a, s2 a ≤ s a
  | [] => ⟨c, s, x, fun _ => Nat.le_refl _, fun _ => Nat.le_refl _⟩
  | v :: vs =>
    let ⟨_, _, x1, h1, h2⟩ := SR.wipe x vs
    let ⟨_, _, x2, h3, h4⟩ := x1.delS v none
    ⟨_, _, x2, fun a => Nat.le_trans (h3 a) (h1 a), fun a => Nat.le_trans (h4 a) (h2 a)⟩
theorem SR.swap {K : PySem.W.Frag} {H : Hp} : ∀ {G r σ c s}, SR K H G r σ c s → ∀ {σ' : St}, σ'.length = σ.length → (∀ i, rget r i ≠ none → σ'[i]? = σ[i]?) → SR K H G r σ' c s
  | _, _, _, _, _, .nil, [], _, _ => .nil
  | _, _, _, _, _, .nil, _ :: _, h, _ => by cases h
  | _, _, _, _, _, .no x, [], h, _ => by cases h
  | _, _, _, _, _, .no x, _ :: _, h, g => .no (SR.swap x (Nat.succ.inj h) fun i hi => by simpa using g (i + 1) hi)
  | _, _, _, _, _, .yes a x, [], h, _ => by cases h
  | _, _, _, _, _, .yes a x, o :: _, h, g => by
    have e := g 0 (fun z => by cases z)
    simp only [List.getElem?_cons_zero, Option.some.injEq] at e
    subst e
    exact .yes a (SR.swap x (Nat.succ.inj h) fun i hi => by simpa using g (i + 1) hi)
theorem wipeR_none (r : Rho) : ∀ (vs : List Nat) (i : Nat), i ∈ vs → rget (wipeR r vs) i = none
  | v :: vs, i, h => by
    unfold wipeR
    by_cases e : i = v
    · subst e; exact rget_set_none _ _
    · have h' : i ∈ vs := by
        rcases List.mem_cons.mp h with h | h
        · exact absurd h e
        · exact h
      have q := wipeR_none r vs i h'
      have sn : ∀ (r : Rho) (i v : Nat), i ≠ v → rget (r.set v none) i = rget r i := by
        intro r
        induction r with
        | nil => intro i v _; rfl
        | cons o r ih =>
          intro i v hne
          cases v with
          | zero =>
            cases i with
            | zero => exact absurd rfl hne
            | succ i => rfl
          | succ v =>
            cases i with
            | zero => rfl
            | succ i => exact ih i v (fun z => hne (by rw [z]))
      rw [sn _ _ _ e]
      exact q
theorem wipe_else (σ : St) : ∀ (vs : List Nat) (i : Nat), i ∉ vs → (L2.wipe σ vs)[i]? = σ[i]?
  | [], i, _ => rfl
  | v :: vs, i, h => by
    unfold L2.wipe
    rw [List.getElem?_set_ne (fun z => h (by rw [z]; exact List.mem_cons_self))]
    exact wipe_else σ vs i fun z => h (List.mem_cons_of_mem _ z)
theorem SR.unwipe {K : PySem.W.Frag} {H : Hp} {r : Rho} {σ : St} {vs : List Nat} {c s : Cnt} (x : SR K H G (wipeR r vs) (L2.wipe σ vs) c s) : SR K H G (wipeR r vs) σ c s := by
  refine x.swap (wipe_length σ vs).symm fun i hi => (wipe_else σ vs i fun z => hi (wipeR_none r vs i z)).symm
theorem wipe_at (σ : St) : ∀ (vs : List Nat) (i : Nat), (L2.wipe σ vs)[i]? = if i ∈ vs then (if i < σ.length then some none else none) else σ[i]?
  | [], i => by rw [if_neg (fun h => by cases h)]; rfl
  | v :: vs, i => by
    show ((L2.wipe σ vs).set v none)[i]? = _
    by_cases hv : v = i
    · subst hv
      rw [if_pos List.mem_cons_self]
      by_cases hl : v < σ.length
      · rw [List.getElem?_set_self (by rw [wipe_length]; exact hl), if_pos hl]
      · rw [List.getElem?_eq_none (by rw [List.length_set, wipe_length]; omega), if_neg hl]
    · rw [List.getElem?_set_ne hv, wipe_at σ vs i]
      by_cases hm : i ∈ vs
      · rw [if_pos hm, if_pos (List.mem_cons_of_mem _ hm)]
      · rw [if_neg hm, if_neg (fun z => by rcases List.mem_cons.mp z with z | z; exact hv z.symm; exact hm z)]
theorem wipe_wipe_set (σ : St) (vs : List Nat) : L2.wipe (L2.wipe σ vs) vs = L2.wipe σ vs := by
  refine List.ext_getElem? fun i => ?_
  rw [wipe_at (L2.wipe σ vs), wipe_at σ, wipe_length]
  by_cases hm : i ∈ vs
  · rw [if_pos hm, if_pos hm]
  · rw [if_neg hm, if_neg hm]

/-! ### canonical readings -/
def rdE (X : Cx) (F : Fx) (G G' : List Nat) (k : Nat) (f : Rho → R D) : TE := fun σ H Q => ∃ r c s, SR X.K H G r σ c s ∧ Ok c s ∧ OutX X F c s H σ (OkE X G' k c s H σ Q) (f r)
theorem PV.pe {f : Rho → R D} (A : PV X F G G' k e f) : PE X e (rdE X F G G' k f) := by
  obtain ⟨t, ht, q⟩ := A.go
  exact ⟨fun pins s σ H Q I ⟨r, c, s', sr, ok, h⟩ => ht.run pins s σ H Q I (q σ H r c s' Q sr ok h)⟩
structure PTst (X : Cx) (F : Fx) (G G' : List Nat) (ifs : List Expr) (f : Rho → R Bool) : Prop where
  go : ∃ t, PTs X ifs t ∧ ∀ σ H r c s Q, SR X.K H G r σ c s → Ok c s → OutX X F c s H σ (OkT X G' c s H σ Q) (f r) → t σ H Q
theorem t_nil : PTst X F G G [] (fun r => .ok true r) := ⟨_, pts_nil, fun σ H r c s Q sr ok h => h H c s sr (.refl ok)⟩
theorem t_one {f : Rho → R Bool} (A : PB X F G G1 e f) : PTst X F G G1 [e] f := by
  obtain ⟨t, ht, q⟩ := A.go
  exact ⟨t, pts_one ht, q⟩
def rdT (X : Cx) (F : Fx) (G G' : List Nat) (f : Rho → R Bool) : TT := fun σ H Q => ∃ r c s, SR X.K H G r σ c s ∧ Ok c s ∧ OutX X F c s H σ (OkT X G' c s H σ Q) (f r)
theorem PTst.pt {f : Rho → R Bool} (A : PTst X F G G' ifs f) : PTs X ifs (rdT X F G G' f) := by
  obtain ⟨t, ht, q⟩ := A.go
  exact ⟨fun pins s σ H Q I ⟨r, c, s', sr, ok, h⟩ => ht.run pins s σ H Q I (q σ H r c s' Q sr ok h)⟩
/-- a target that is one name, or a tuple of names: only the comprehension's own slots are stored -/
structure PTo (X : Cx) (F : Fx) (G G' : List Nat) (vs : List Nat) (tg : Expr) (g : D → Rho → Option Rho) : Prop where
  go : ∃ t, PG X tg t ∧ ∀ σ H r c s d x sx Q r1, SR X.K H G r σ c s → Ok c (add s sx) → Rep X.K H 0 d x z0 sx → g d r = some r1 →
    (∀ σ' c' s', SR X.K H G' r1 σ' c' s' → L2.wipe σ' vs = L2.wipe σ vs → Step c (add s sx) H c' s' H → Q σ' H) → t x σ H Q
def rdG (X : Cx) (G G' : List Nat) (vs : List Nat) (g : D → Rho → Option Rho) : TG := fun x σ H Q => ∃ r c s d sx r1, SR X.K H G r σ c s ∧ Ok c (add s sx) ∧ Rep X.K H 0 d x z0 sx ∧ g d r = some r1 ∧
    (∀ σ' c' s', SR X.K H G' r1 σ' c' s' → L2.wipe σ' vs = L2.wipe σ vs → Step c (add s sx) H c' s' H → Q σ' H)
theorem PTo.pg {vs : List Nat} {g : D → Rho → Option Rho} (A : PTo X F G G' vs tg g) : PG X tg (rdG X G G' vs g) := by
  obtain ⟨t, ht, q⟩ := A.go
  exact ⟨fun pins s σ H v u Q I rv ⟨r, c, s', d, sx, r1, sr, ok, rp, hg, h⟩ => ht.run pins s σ H v u Q I rv (q σ H r c s' d v sx Q r1 sr ok rp hg h)⟩
theorem wipe_set (σ : St) (o : Option V) (vs : List Nat) (i : Nat) (h : i ∈ vs) : L2.wipe (σ.set i o) vs = L2.wipe σ vs := by
  refine List.ext_getElem? fun j => ?_
  rw [wipe_at, wipe_at, List.length_set]
  by_cases hm : j ∈ vs
  · rw [if_pos hm, if_pos hm]
  · rw [if_neg hm, if_neg hm, List.getElem?_set_ne (show i ≠ j from fun z => hm (by rw [← z]; exact h))]
theorem to_name (i : Nat) {x : Str} {vs : List Nat} (nd : X.N.Nodup) (hi : X.N[i]? = some x := by rfl) (hx : Loc X.env.scope x := by first | exact Or.inl rfl | exact Or.inr rfl) (hl : i < G.length := by decide) (hv : i ∈ vs := by decide)
    (hf : X.fn x = true ∨ X.env.scope.names.lookup x = some .local := by first | exact .inl rfl | exact .inr rfl) : PTo X F G (G.set i 0) vs (.Name x pos) (gSet i) := by
  refine ⟨_, pg_name nd hi hx hf, fun σ H r c s d x sx Q r1 sr ok rp hg h => ?_⟩
  cases hg
  have hlen : i < r.length := by
    have e3 := sr.lenG
    omega
  obtain ⟨c2, s2, x2, hc, hs2⟩ := sr.fill hlen rp
  refine h (σ.set i (some x)) _ _ x2 (wipe_set σ _ vs i hv) ((Step.refl ok).less (fun z => by have := hc z; simp only [add_at, z_at]; omega) (fun z hz => by have := hs2 z; simp only [add_at] at hz ⊢; omega))

def compD (vs : List Nat) (g : D → Rho → Option Rho) (ts : Rho → R Bool) (fe : Rho → R D) : List D → List D → Rho → R (List D)
  | [], acc, r => .ok acc r
  | d :: ds, acc, r => match g d r with
    | none => .no
    | some r1 => match ts r1 with
      | .ok true r2 => (match fe r2 with
        | .ok e r3 => compD vs g ts fe ds (acc ++ [e]) (wipeR r3 vs)
        | _ => .no)
      | .ok false r2 => compD vs g ts fe ds acc (wipeR r2 vs)
      | _ => .no
theorem Reps.snoc {K : PySem.W.Frag} {H : Hp} {n : Nat} {d : D} {v : V} {c2 s2 : Cnt} (r : Rep K H n d v c2 s2) : ∀ {ds : List D} {vs : List V} {c s : Cnt}, Reps K H n ds vs c s → Reps K H n (ds ++ [d]) (vs ++ [v]) (add c c2) (add s s2)
  | _, _, _, _, .nil => by
    have q : Reps K H n [d] [v] (add c2 z0) (add s2 z0) := .cons r .nil
    rw [add_z, add_z] at q
    rw [z_add, z_add]
    exact q
  | _, _, _, _, .cons a b => by
    rw [add_assoc', add_assoc']
    exact .cons a (Reps.snoc r b)
def lcD (vs : List Nat) (fi : Rho → R (List D)) (g : D → Rho → Option Rho) (ts : Rho → R Bool) (fe : Rho → R D) : Rho → R D := fun r =>
  (fi r).bind fun ds r1 => if ds.length ≤ 100000 then (compD vs g ts fe ds [] (wipeR r1 vs)).bind fun out r2 => .ok (.lst out) r2 else .no
theorem lc_read (G2 : List Nat) {vs : List Nat} {fi : Rho → R (List D)} {g : D → Rho → Option Rho} {ts : Rho → R Bool} {fe : Rho → R D} (I : PIt X F G G1 tg iter fi)
    (h1 : leG G2 G1 = true) (h2 : leG G2 Gn = true) (h3 : leG G2 Gs = true) :
    ∃ wi, PI X tg iter wi ∧ ∀ σ H r c s Q, SR X.K H G r σ c s → Ok c s → OutX X F c s H σ (OkE X G2 (k + 1) c s H σ Q) (lcD vs fi g ts fe r) → tLc wi (rdG X G2 Gt vs g) (rdT X F.nox Gt Gs ts) (rdE X F.nox Gs Gn k fe) vs σ H Q := by
  obtain ⟨wi, hwi, qi⟩ := I.go
  refine ⟨_, hwi, ?_⟩
  intro σ H r c s Q sr ok h
  unfold lcD at h
  refine qi σ H r c s _ sr ok (h.bind.mono fun ds r1 h4 => ?_)
  by_cases hl : ds.length ≤ 100000
  case neg => rw [if_neg hl] at h4; exact fun J H1 c1 s1 sI W x wk w1 st => False.elim h4
  rw [if_pos hl] at h4
  intro J H1 c1 s1 sI W x wk w1 st D0 hD
  refine ⟨fun i m H' => m = ds.length - i ∧ i ≤ ds.length ∧ ∃ r' c' s' acc va cA sA, acc.length ≤ i ∧ SR X.K H' G2 (wipeR r' vs) (L2.wipe σ vs) c' s' ∧ W H' ∧ H' D0 = some (.lst va) ∧ Reps X.K H' k acc va cA sA ∧ Step c s H (add c' (add (one D0) cA)) (add (add s' sA) sI) H' ∧
    OutX X F c s H σ (OkE X G2 (k + 1) c s H σ Q) ((compD vs g ts fe (ds.drop i) acc (wipeR r' vs)).bind fun out r2 => .ok (.lst out) r2), ?_, ?_⟩
  · obtain ⟨c', s', x', w⟩ := x.wk (LeG.of h1)
    obtain ⟨c2, s2, x2, hc2, hs2⟩ := x'.wipe vs
    have ke := ex_upd (o := .lst []) hD
    refine ⟨ds.length, by simp, Nat.zero_le _, r1, c2, s2, [], [], z0, z0, Nat.zero_le _, x2.keep (ex_kp ke), wk.keep _ _ w1 (ex_kp ke), upd_same, .nil, ?_, h4⟩
    have st' : Step c s H c' (add s' sI) H1 := st.wk (by have q := w.add (Wk.refl z0 sI); rw [add_z, add_z] at q; exact q)
    have st2 : Step c s H (add c2 z0) (add s2 sI) H1 := by
      rw [add_z]
      exact st'.less hc2 (fun a ha => by have := hs2 a; simp only [add_at] at ha ⊢; omega)
    have dm : Dom (add c2 z0) (add s2 sI) H1 := x2.dom.add (wk.dom H1 w1)
    have q := lst_fresh (xs := []) st2 dm hD
    rw [add_z (s2)]
    exact q
  · rintro i m H' ⟨rfl, hi, r', c', s', acc, va, cA, sA, hacc, x', w', hD', ra, st', o⟩
    by_cases hlt : i < ds.length
    · have hd : ds[i]? = some ds[i] := List.getElem?_eq_getElem hlt
      rw [List.drop_eq_getElem_cons hlt] at o
      unfold compD at o
      cases eg : g ds[i] (wipeR r' vs) with
      | none => simp only [eg] at o; exact False.elim o
      | some r2 =>
        simp only [eg] at o
        refine .inr ⟨wk.go H' i w' hlt, fun H' => ∃ r' c' s' acc va cA sA, acc.length ≤ i + 1 ∧ SR X.K H' G2 (wipeR r' vs) (L2.wipe σ vs) c' s' ∧ W H' ∧ H' D0 = some (.lst va) ∧ Reps X.K H' k acc va cA sA ∧ Step c s H (add c' (add (one D0) cA)) (add (add s' sA) sI) H' ∧
          OutX X F c s H σ (OkE X G2 (k + 1) c s H σ Q) ((compD vs g ts fe (ds.drop (i + 1)) acc (wipeR r' vs)).bind fun out r2 => .ok (.lst out) r2), fun H2 hN => ⟨ds.length - (i + 1), by omega, rfl, hlt, hN⟩, fun y H2 hy => ?_⟩
        obtain ⟨si, ry, hsi, hk⟩ := wk.yld H' i y H2 ds[i] w' hd hy
        have x2 := x'.keep (ex_kp hk)
        have w2 := wk.keep H' H2 w' (ex_kp hk)
        have ra2 := ra.keep (ex_kp hk)
        have hD2 := hk _ _ hD'
        -- what is put aside: the list that grows, what is walked
        have st2 : Step c s H (add (add c' (add (one D0) cA)) z0) (add (add (add s' si) sA) sI) H2 := by
          have q := (st'.ext hk).dup hsi
          rw [add_z]
          have e : add (add (add s' sA) si) sI = add (add (add s' si) sA) sI := by rw [add_assoc' s' sA si, add_comm' sA si, ← add_assoc']
          rw [← e]
          exact q
        have okk : Ok c' (add s' si) := fun z => by have := st2.ok z; simp only [add_at] at this ⊢; omega
        have okF : Ok (add c' (add (one D0) cA)) (add (add s' si) (add sA sI)) := fun z => by have := st2.ok z; simp only [add_at, z_at] at this ⊢; omega
        have domF : Dom (add (one D0) cA) (add sA sI) H2 := by
          have d1 : Dom (add (one D0) cA) sA H2 := Dom.addC hD2 trivial ra2.dom
          have q := d1.add (wk.dom H2 w2)
          rw [add_z] at q
          exact q
        refine ⟨wipeR r' vs, c', s', ds[i], si, r2, x2, okk, ry, eg, fun σ3 c3 s3 x3 hw3 st3 => ?_⟩
        have hw3' : L2.wipe σ3 vs = L2.wipe σ vs := hw3.trans (wipe_wipe_set σ vs)
        have back : ∀ {c4 s4 H4}, Step c3 s3 H2 c4 s4 H4 → Step c s H (add c4 (add (one D0) cA)) (add s4 (add sA sI)) H4 := fun {c4 s4 H4} z => by
          have q := (st3.trans z).frame okF domF
          have st2' : Step c s H (add c' (add (one D0) cA)) (add (add s' si) (add sA sI)) H2 := by
            have e : add (add (add s' si) sA) sI = add (add s' si) (add sA sI) := add_assoc' _ _ _
            rw [add_z, e] at st2
            exact st2
          exact st2'.trans q
        have aside : ∀ {c4 s4 H4}, Step c3 s3 H2 c4 s4 H4 → Kp (add (one D0) cA) (add sA sI) H2 H4 := fun {c4 s4 H4} z => (st3.trans z).aside okF
        have kD : ∀ {H4}, Kp (add (one D0) cA) (add sA sI) H2 H4 → H4 D0 = some (.lst va) ∧ Reps X.K H4 k acc va cA sA ∧ W H4 := fun {H4} kp =>
          ⟨kp D0 _ hD2 (.inl (one_add_pos _ _)), ra2.keep (fun a o e z => kp a o e (by simp only [add_at]; rcases z with z | z | z; exact .inl (by omega); exact .inr (.inl (by omega)); exact .inr (.inr z))), wk.keep H2 H4 w2 (fun a o e z => kp a o e (by simp only [add_at, z_at] at z ⊢; rcases z with z | z | z; exact absurd z (Nat.lt_irrefl 0); exact .inr (.inl (by omega)); exact .inr (.inr z)))⟩
        refine ⟨hw3', r2, c3, s3, x3, st3.ok, ?_⟩
        cases et : ts r2 with
        | no => simp only [et] at o; exact False.elim o
        | ex n d r3 => simp only [et] at o; exact False.elim o
        | ok bb r3 =>
          intro H4 c4 s4 x4 z4
          cases bb with
          | false =>
            simp only [et] at o
            show if false = true then _ else _
            rw [if_neg Bool.false_ne_true]
            obtain ⟨c5, s5, x5, w5⟩ := x4.wk (LeG.of h3)
            obtain ⟨c6, s6, x6, hc6, hs6⟩ := x5.wipe vs
            rw [hw3'] at x6
            obtain ⟨d1, d2, d3⟩ := kD (aside z4)
            refine ⟨r3, c6, s6, acc, va, cA, sA, by omega, x6, d3, d1, d2, ?_, o⟩
            have q := (back z4).wk ((w5.add (Wk.refl (add (one D0) cA) (add sA sI))))
            rw [← add_assoc'] at q
            exact q.less (fun a => by have := hc6 a; simp only [add_at]; omega) (fun a ha => by have := hs6 a; simp only [add_at] at ha ⊢; omega)
          | true =>
            simp only [et] at o
            show if true = true then _ else _
            rw [if_pos rfl]
            cases ef : fe r3 with
            | no => simp only [ef] at o; exact False.elim o
            | ex n d r4 => simp only [ef] at o; exact False.elim o
            | ok d r4 =>
              simp only [ef] at o
              refine ⟨r3, c4, s4, x4, z4.ok, ?_⟩
              rw [ef]
              intro v H5 c5 s5 cr srr x5 rp z5
              have zz := z4.trans z5
              obtain ⟨d1, d2, d3⟩ := kD (aside zz)
              have hlen := d2.length
              refine ⟨va, d1, by rw [← hlen]; exact Nat.lt_of_le_of_lt (Nat.le_trans hacc (Nat.le_trans hi hl)) (by decide), ?_⟩
              obtain ⟨c6, s6, x6, w6⟩ := x5.wk (LeG.of h2)
              obtain ⟨c7, s7, x7, hc7, hs7⟩ := x6.wipe vs
              rw [hw3'] at x7
              have q0 := back zz
              have e0 : ∀ x y z u : Cnt, add (add x y) (add z u) = add x (add z (add u y)) := fun x y z u => by funext a; simp only [add]; omega
              rw [e0, e0] at q0
              have q := q0.wk (w6.add (Wk.refl (add (one D0) (add cA cr)) (add sA (add sI srr))))
              have okq := q.ok D0
              have kp : ∀ {c s : Cnt}, c D0 = 0 → s D0 = 0 → Kp c s H5 (L2.upd H5 D0 (.lst (va ++ [v]))) := fun {c s} e1 e2 a o e z => by
                by_cases ha : a = D0
                · subst ha
                  rcases z with z | z | z
                  · omega
                  · omega
                  · rw [d1] at e; cases e; exact z.elim
                · rw [upd_ne ha]; exact e
              simp only [add_at, one_same] at okq
              have hc7' := hc7 D0; have hs7' := hs7 D0
              refine ⟨r4, c7, s7, acc ++ [d], va ++ [v], add cA cr, add sA srr, by rw [List.length_append]; show acc.length + 1 ≤ _; omega, x7.keep (kp (by omega) (by omega)), wk.keep _ _ d3 (kp rfl (by omega)), upd_same, Reps.snoc (rp.keep (kp (by omega) (by omega))) (d2.keep (kp (by omega) (by omega))), ?_, o⟩
              have nH : ∀ a o, H a = some o → c a = 0 ∨ tupO o → a ≠ D0 := fun a o e z ha => by
                subst ha
                have := q.keep a o e z
                rw [d1] at this
                cases this
                rcases z with z | z
                · rcases q.own a (by simp only [add_at, one_same]; omega) with z2 | z2
                  · omega
                  · rw [e] at z2; cases z2
                · exact z.elim
              refine ⟨fun a ha => q.own a ?_, fun a ha => q.sh a ?_, fun a o e z => ?_, fun a ha => ?_, fun a => ?_⟩
              · have := hc7 a
                simp only [add_at] at ha ⊢; omega
              · have h7 := hs7 a
                simp only [add_at] at ha ⊢; omega
              · rw [upd_ne (nH a o e z)]
                exact q.keep a o e z
              · by_cases hz : a = D0
                · subst hz; rw [upd_same]; exact fun z => nomatch z
                · rw [upd_ne hz]; exact q.dom a ha
              · have h6 := q.ok a; have h7 := hs7 a; have h10 := hc7 a
                simp only [add_at] at h6 ⊢
                omega
    · obtain rfl : i = ds.length := by omega
      rw [List.drop_length] at o
      refine .inl ⟨wk.stop H' w', ?_⟩
      exact o (.ref D0) H' c' s' (add (one D0) cA) sA x'.unwipe (.lstS hD' ra) (st'.less (fun _ => Nat.le_refl _) (fun a ha => by simp only [add_at] at ha ⊢; omega))
/-- [elt for tg in iter if ..] -/
theorem v_lc (G2 : List Nat) (own : List (Str × Nat)) {scope : Scope} {fi : Rho → R (List D)} {g : D → Rho → Option Rho} {ts : Rho → R Bool} {fe : Rho → R D} (hc : X.calm = true) (nd : X.N.Nodup) (I : PIt X F G G1 tg iter fi) (okb : BlkOk X.N X.env.scope scope own)
    (T : ∀ (s : Shared) (H : Hp) (C : Addr) (cl : List (Str × Addr)) (fp : List Addr), PTo (X.blk s H scope (compEnvC scope cl C X.env) fp) F.nox G2 Gt (own.map (·.2)) tg g)
    (Ts : ∀ (s : Shared) (H : Hp) (C : Addr) (cl : List (Str × Addr)) (fp : List Addr), PTst (X.blk s H scope (compEnvC scope cl C X.env) fp) F.nox Gt Gs ifs ts)
    (E : ∀ (s : Shared) (H : Hp) (C : Addr) (cl : List (Str × Addr)) (fp : List Addr), PV (X.blk s H scope (compEnvC scope cl C X.env) fp) F.nox Gs Gn k elt fe)
    (h1 : leG G2 G1 = true := by rfl) (h2 : leG G2 Gn = true := by rfl) (h3 : leG G2 Gs = true := by rfl) (hs : ∀ x, foldedSetIterable iter X.env x = pure x := by intro _; rfl) :
    PV X F G G2 (k + 1) (.ListComp elt [⟨tg, iter, ifs, 0⟩] scope pos) (lcD (own.map (·.2)) fi g ts fe) := by
  obtain ⟨wi, hwi, q⟩ := lc_read (k := k) (Gt := Gt) (Gs := Gs) (vs := own.map (·.2)) (g := g) (ts := ts) (fe := fe) G2 I h1 h2 h3
  exact ⟨_, pe_lc hc nd hwi okb (g := rdG X G2 Gt (List.map (fun p : Str × Nat => p.2) own) g) (tt := rdT X F.nox Gt Gs ts) (te := rdE X F.nox Gs Gn k fe) (fun s H C cl fp => (T s H C cl fp).pg) (fun s H C cl fp => (Ts s H C cl fp).pt) (fun s H C cl fp => (E s H C cl fp).pe) hs, q⟩
/-- y = [elt for tg in iter if ..] on one line, y a local name -/
theorem s_setLc (i : Nat) (G2 : List Nat) (own : List (Str × Nat)) {scope : Scope} {y : Str} {py spos : Pos} {fi : Rho → R (List D)} {g : D → Rho → Option Rho} {ts : Rho → R Bool} {fe : Rho → R D} (hc : X.calm = true) (nd : X.N.Nodup) (I : PIt X F G G1 tg iter fi) (okb : BlkOk X.N X.env.scope scope own)
    (T : ∀ (s : Shared) (H : Hp) (C : Addr) (cl : List (Str × Addr)) (fp : List Addr), PTo (X.blk s H scope (compEnvC scope cl C X.env) fp) F.nox G2 Gt (own.map (·.2)) tg g)
    (Ts : ∀ (s : Shared) (H : Hp) (C : Addr) (cl : List (Str × Addr)) (fp : List Addr), PTst (X.blk s H scope (compEnvC scope cl C X.env) fp) F.nox Gt Gs ifs ts)
    (E : ∀ (s : Shared) (H : Hp) (C : Addr) (cl : List (Str × Addr)) (fp : List Addr), PV (X.blk s H scope (compEnvC scope cl C X.env) fp) F.nox Gs Gn k elt fe)
    (hi : X.N[i]? = some y) (hyl : X.env.scope.names.lookup y = some .local) (hsw : swapsWith (.ListComp elt [⟨tg, iter, ifs, 0⟩] scope pos) (some (.Name y py)) spos.line X.env = pure true)
    (hp : Fr F i := by first | exact ⟨Or.inl rfl, rfl⟩ | exact ⟨Or.inr (by decide), rfl⟩) (hl : i < G.length := by decide)
    (h1 : leG G2 G1 = true := by rfl) (h2 : leG G2 Gn = true := by rfl) (h3 : leG G2 Gs = true := by rfl) (hs : ∀ x, foldedSetIterable iter X.env x = pure x := by intro _; rfl) :
    PSt X F G (G2.set i (k + 1)) (.Assign [.Name y py] (.ListComp elt [⟨tg, iter, ifs, 0⟩] scope pos) spos) (dSet i (lcD (own.map (·.2)) fi g ts fe)) := by
  obtain ⟨wi, hwi, q⟩ := lc_read (k := k) (Gt := Gt) (Gs := Gs) (vs := own.map (·.2)) (g := g) (ts := ts) (fe := fe) G2 I h1 h2 h3
  refine ⟨_, ps_setLc hc nd hi hyl hsw hwi okb (g := rdG X G2 Gt (List.map (fun p : Str × Nat => p.2) own) g) (tt := rdT X F.nox Gt Gs ts) (te := rdE X F.nox Gs Gn k fe) (fun s H C cl fp => (T s H C cl fp).pg) (fun s H C cl fp => (Ts s H C cl fp).pt) (fun s H C cl fp => (E s H C cl fp).pe) hs, fun v0 σ H r c s Dn sr ok pr h => q σ H r c s _ sr ok (OutS.useX pr h fun d r1 h2 => ?_)⟩
  intro v H' c1 s1 cr sr' x rp y
  have hlen : i < r1.length := by
    have e1 := x.lenS
    have e2 := sr.lenS
    have e3 := sr.lenG
    omega
  obtain ⟨c2, s2, x2, hc, hs2⟩ := x.fill hlen rp
  exact h2 (σ.set i (some v)) H' _ _ x2 (pr.set hp) (y.less (fun z => by have := hc z; simp only [add_at]; omega) (fun z hz => by have := hs2 z; simp only [add_at] at hz ⊢; omega))
end
end VL

/-! VLG: defs whose promise holds where no repr runs around the call (the stack's guards are known to be none). -/
namespace VL
open PySem PySem.Spec PyProof.Rows L2 Sem
/-- as FnOk, asked for stacks without guards alone -/
structure FnG (P : Program) (w : World) (K : PySem.W.Frag) (mg : Str → Option Value) (base : Heap) (k : Nat) (f : Addr) (fd : FuncData) (ps : List Str) (sp : Sp) : Prop where
  few : ∀ vs H Q E, sp vs H Q E → vs.length = ps.length
  runs : ∀ (A : Around) (out : List Env) (s : Shared) (H : Hp) (args : Args) (us : List Value) (vs : List V) (Q : VK) (E : XK), A.guards = some [] → Room k A → Env0 P w K mg base A out s H → Vals vs us → BindsTo s fd args (ps.zip us) → sp vs H Q E →
    codeAny (model P w) A (.call (.ref f) args) (CR (L2.CX P w) out P w H s Q E) s
section
variable {P : Program} {w : World} {K : PySem.W.Frag} {mg : Str → Option Value} {base : Heap} {k j : Nat} {f : Addr} {fd : FuncData} {ps : List Str} {sp : Sp}
theorem FnG.up (F : FnG P w K mg base j f fd ps sp) (h : j ≤ k) : FnG P w K mg base k f fd ps sp :=
  ⟨F.few, fun A out s H args us vs Q E g hr => F.runs A out s H args us vs Q E g (hr.mono h)⟩
end
section
variable {X : Cx} {k : Nat} {f : Addr} {fd : FuncData} {ps : List Str} {sp : Sp} {E : L2.St → XK} {x : Str} {p pos : Pos} {e : Expr} {es : List Expr} {t : TA}
theorem fng_step {pins : List (Addr × Obj)} {σ : L2.St} {H : Hp} {s : Shared} {Q : VK} {us : List Value} {vs : List V} {args : Args} (F : FnG X.prog X.w X.K X.mg X.base k f fd ps sp) (g : X.A.guards = some []) (hr : Room k X.A)
    (b : us.length = ps.length → BindsTo s fd args (ps.zip us)) (hx : PassesAt (L2.CX X.prog X.w) X σ (E σ)) (I : Inv X pins σ H s) (rv : Vals vs us) (h : sp vs H Q (E σ)) :
    codeAny (model X.prog X.w) X.A (.call (.ref f) args) (fun r s' => match r with
      | .ok fl => (match fl with | .ret u => EP X pins σ Q u s' | _ => False)
      | .error er => X.xe er s') s := by
  have few := F.few _ _ _ _ h
  refine codeAny_mono (F.runs X.A X.stack s H args us vs Q (E σ) g hr I.env0 rv (b (by rw [← rv.length]; exact few)) h) fun res s' done => ?_
  match res, done with
  | .error er, done => exact hx pins H s er s' I done
  | .ok (.ret u), done => exact I.after done
  | .ok .next, done => exact done.elim
  | .ok .brk, done => exact done.elim
  | .ok .cont, done => exact done.elim
theorem wp_of_code {pins : List (Addr × Obj)} {σ : L2.St} {Q : VK} {s : Shared} {v : Value} {us : List Value} {kw : List (Str × Value)}
    (h : codeAny (model X.prog X.w) X.A (.call v ⟨us, kw⟩) (fun r s' => match r with
      | .ok fl => (match fl with | .ret u => EP X pins σ Q u s' | _ => False)
      | .error er => X.xe er s') s) : wpAny (model X.prog X.w) X.A (call v us kw) (EP X pins σ Q) X.xe s := by
  refine wpAny_call (codeAny_mono h fun res s' done => ?_)
  match res, done with
  | .error er, done => exact done
  | .ok (.ret u), done => exact done
  | .ok .next, done => exact done.elim
  | .ok .brk, done => exact done.elim
  | .ok .cont, done => exact done.elim
/-- f(e, ..) -/
theorem pe_callG (F : FnG X.prog X.w X.K X.mg X.base k f fd ps sp) (g : X.A.guards = some []) (hr : Room k X.A) (hg : Gl X x) (hm : X.mg x = some (.ref f)) (hk : PySem.W.keepIn X.K (.ref f) = true) (hb : Binds X.K fd ps []) (hx : ∀ σ, PassesAt (L2.CX X.prog X.w) X σ (E σ))
    (ha : PA X (e :: es) t) (hdb : (x == ("__debug__" : Str)) = false := by decide) (he : starEach (e :: es) X.env = (false, eval e X.env) :: starEach es X.env := by rfl) (hpl : (backTo pos (starEach es X.env)).any (·.1) = false := by rfl) :
    PE X (.Call (.Name x p) (e :: es) [] pos) (tCallS sp E t) := ⟨fun pins s σ H Q I want =>
  wpAny_Call_Name_kw (ld_glob I hg hm (PySem.W.callWith_K (h₀ := X.base) I.ok.mod.kin hk (thn (ha.run pos pins s σ H _ I want) fun us s1 ⟨vs, H1, I1, rv, q⟩ =>
    ⟨I1.kIn, wp_of_code (fng_step F g hr (fun hl => by
      have bb := hb s1 us I1.kIn (by rw [List.append_nil]; exact hl)
      rw [List.append_nil] at bb
      exact bb) (hx σ) I1 rv q)⟩) he hpl) hdb)⟩
/-- the keywords' values in the parameters' order: as they are written, or the other way round -/
def turned {α : Type} (sw : Bool) (l : List α) : List α := if sw = true then l.reverse else l
theorem turned_len {α : Type} (sw : Bool) (l : List α) : (turned sw l).length = l.length := by
  unfold turned; split <;> simp
theorem vals_rev : ∀ {vs : List V} {us : List Value}, Vals vs us → Vals vs.reverse us.reverse
  | _, _, .nil => .nil
  | _, _, .cons a b => by
    rw [List.reverse_cons, List.reverse_cons]
    exact (vals_rev b).append (.cons a .nil)
theorem vals_turned {vs : List V} {us : List Value} (sw : Bool) (r : Vals vs us) : Vals (turned sw vs) (turned sw us) := by
  unfold turned; split
  · exact vals_rev r
  · exact r
def KwBinds (K : PySem.W.Frag) (fd : FuncData) (ps ks : List Str) (sw : Bool) : Prop := ∀ (s : Shared) (ws : List Value), K.In s.heap → ws.length = ps.length → BindsTo s fd ⟨[], ks.zip ws⟩ (ps.zip (turned sw ws))
theorem Fun.kwBinds {K : PySem.W.Frag} {x qual : Str} {st : Stmt} {f : Addr} {fd : FuncData} {ps ks : List Str} {sw : Bool} (F : Fun K x qual st f fd)
    (h : ∀ (kV doc pm : Value) (an : Option Addr) (cdv ct : Value) (ws : List Value), ws.length = ps.length → bindArgs (PySem.W.fnOf x qual (defArgs st) (defBody st) (defScope st) .none kV doc pm an cdv ct) ⟨[], ks.zip ws⟩ = pure (ps.zip (turned sw ws))) : KwBinds K fd ps ks sw := by
  obtain ⟨oc, od, kV, doc, pm, an, cdv, ct, osl, rfl, look, code⟩ := F.ex
  exact fun s ws _ hl => .of_eq (h kV doc pm an cdv ct ws hl)
/-- f(k = v, ..), keywords alone -/
theorem pe_callGK {ks : List Str} {kws : List Keyword} {tk : TA} {sw : Bool} (F : FnG X.prog X.w X.K X.mg X.base k f fd ps sp) (g : X.A.guards = some []) (hr : Room k X.A) (hg : Gl X x) (hm : X.mg x = some (.ref f)) (hk : PySem.W.keepIn X.K (.ref f) = true)
    (hb : KwBinds X.K fd ps ks sw) (hx : ∀ σ, PassesAt (L2.CX X.prog X.w) X σ (E σ)) (hkw : PK X kws tk)
    (hall : (backToKw pos (keywordEach kws X.env)).all (·.1.isSome) = true := by rfl) (hks : (backToKw pos (keywordEach kws X.env)).filterMap (·.1) = ks := by rfl) (hdb : (x == ("__debug__" : Str)) = false := by decide)
    (hpl : ((backTo pos (starEach [] X.env)).any (·.1) || (backToKw pos (keywordEach kws X.env)).any (·.1.isNone)) = false := by rfl) :
    PE X (.Call (.Name x p) [] kws pos) (fun σ H Q => tk σ H fun zs H1 => sp (turned sw zs) H1 Q (E σ)) := ⟨fun pins s σ H Q I want =>
  wpAny_Call_Name_kw (ld_glob I hg hm (PySem.W.callWith_KW0 (h₀ := X.base) I.ok.mod.kin hk hall
    (thn (hkw.run pos pins s σ H _ I want) fun ws s2 ⟨zs, H2, I2, rz, q2⟩ => ⟨I2.kIn, by
      rw [hks]
      exact wp_of_code (fng_step F g hr (fun hl => hb s2 ws I2.kIn (by rw [← hl, turned_len])) (hx σ) I2 (vals_turned sw rz) q2)⟩) hpl) hdb)⟩
end
section
variable {P : Program} {w : World} {K : PySem.W.Frag} {mg : Str → Option Value} {base : Heap}
/-- THE RULE for a def: its body, entered without guards around it -/
theorem fng_of {x qual : Str} {st : Stmt} {f : Addr} {fd : FuncData} {N ps : List Str} {k : Nat} {sp : Sp} (F : Fun K x qual st f fd) (S : FnScope N ps (defScope st)) (len : ∀ vs H Q E, sp vs H Q E → vs.length = ps.length)
    (hbody : ∀ (cdv : Value) (A : Around) (out : List Env) (s : Shared) (H : Hp) (vs : List V) (Q : VK) (E : XK), (A.deeper (envOfC qual (defScope st) s.heap.objs.size f cdv)).guards = some [] → Room k (A.deeper (envOfC qual (defScope st) s.heap.objs.size f cdv)) → sp vs H Q E →
      ∃ t, PSs (cxOf (L2.CX P w) P w K mg base N qual (defScope st) f cdv A out s H E) (defBody st) t ∧ t { nx := fun _ H' => Q .non H', rt := Q } (L2.start N vs) H) :
    FnG P w K mg base (k + 1) f fd ps sp := by
  obtain ⟨oc, od, kV, doc, pm, an, cdv, ct, osl, rfl, look, code⟩ := F.ex
  refine ⟨len, fun A out s H args us vs Q E hgd room e0 rv bind want => ?_⟩
  have few : vs.length = ps.length := len vs H Q E want
  have old : ∀ (b : Addr) (o : Obj), base.get? b = some o → s.heap.get? b = some o := fun b o e => (e0.bs b o e).1
  have KS : K.In s.heap := e0.mod.kin.keeps old
  have noLim : s.heap.NoLimit := e0.mod.nolimit.keeps old
  have kinds : ∀ y ∈ ps.zip us, (defScope st).names.lookup y.1 = some .local ∨ ((defScope st).names.lookup y.1 = some .cell ∧ ((cellsFrom (s.heap.objs.size + 1) (defScope st).names []).lookup y.1).isSome = true) := by
    rintro ⟨nm, val⟩ mem
    rcases S.par nm (List.of_mem_zip mem).1 with loc | cel
    · exact Or.inl loc
    · exact Or.inr ⟨cel, PySem.W.cellsFrom_some _ _ _ (Or.inl cel)⟩
  refine codeAny_call_function room.depth (KS _ _ look) rfl S.co S.gen rfl (PySem.W.codeRec_of KS code) (bind _ _ _ _ ?_)
  refine wpAny_newFunctionEnv_cells S.kind kinds fun env envEq s1 inCall => ?_
  subst envEq
  refine ⟨noLim.keeps inCall.toInCall.keep, codeAny_func ?_⟩
  obtain ⟨t, run, reading⟩ := hbody cdv A out s H vs Q E hgd (room.deeper _) want
  have start' : Inv (cxOf (L2.CX P w) P w K mg base N qual (defScope st) f cdv A out s H E) [] (L2.start N vs) H s1 := inv_start S room.hd e0 few rv inCall
  refine wpAny_mono (run.run [] s1 (L2.start N vs) H _ start' reading) (fun flow s' got => ?_) fun _ _ left => left
  match flow, got with
  | .ret u, ⟨v, σ', H', J, rel, q⟩ => exact ⟨v, H', J.os, J.bare, J.base, J.hok, rel, q⟩
  | .next, ⟨σ', H', J, q⟩ => exact ⟨V.non, H', J.os, J.bare, J.base, J.hok, (rfl : RelV V.non Value.none), q⟩
  | .brk, ⟨_, _, _, q⟩ => exact q.elim
  | .cont, ⟨_, _, _, q⟩ => exact q.elim
/-- THE END: the law's own def, called with the script -/
theorem lawG {mb : Str → Option Value} {k : Nat} {fa a : Addr} {fd : FuncData} {x : Str} {sp : Sp} {s1 : Shared} {vs : List Value} {ns : List Int}
    (KX : K.In s1.heap) (hns : s1.heap.Ns mainGlobals mg) (hb : s1.heap.Ns builtinsNs mb) (hbb : ∀ x : Str, x ≠ "__name__" → mb x = bootBuiltins x) (hlim : s1.heap.NoLimit) (hgens : s1.gens = #[])
    (ha : s1.heap.get? a = some { cls := .type "list", data := .seq vs.toArray }) (hi : IntsAre vs ns) (hl : ns.length ≤ sizeLine) (hr : Room k callerA)
    (F : ∀ base : Heap, K.In base → base.Ns mainGlobals mg → FnG P w K mg base k fa fd [x] sp) (hbind : ∀ (s : Shared) (u : Value), BindsTo s fd ⟨[u], []⟩ [(x, u)])
    (hsp : ∀ H : Hp, Only H → SqL K H a (ns.map V.int) → sp [.ref a] H (fun v _ => v = .bl true) fun _ _ _ => False) :
    codeAny (model P w) callerA (.call (.ref fa) ⟨[.ref a], []⟩) (fun r s' => r = .ok (.ret (.bool true)) ∧ OldK s1.heap s'.heap ∧ s'.os = s1.os ∧ AllBare s'.gens) s1 := by
  have lens := hi.length
  have intsV := vals_ints hi
  suffices core : ∀ H : Hp, Only H → SqL K H a (ns.map V.int) → HOk P w H s1.heap → (∀ b, H b ≠ none → b = a) → (H a ≠ none → K.lookup a = none) →
      codeAny (model P w) callerA (.call (.ref fa) ⟨[.ref a], []⟩) (fun r s' => r = .ok (.ret (.bool true)) ∧ OldK s1.heap s'.heap ∧ s'.os = s1.os ∧ AllBare s'.gens) s1 by
    cases look : K.lookup a with
    | some own =>
      have there := KX a own look
      rw [ha] at there
      cases there
      refine core (fun _ => none) (fun _ => Or.inl rfl) (Or.inr ⟨_, vs.toArray, _, look, rfl, rfl, rfl, by simpa [lens] using hl, by simpa using intsV⟩) (fun b u z => ?_) (fun b z => absurd rfl z) (fun z => absurd rfl z)
      have z1 : (none : Option HO) = some u := z
      cases z1
    | none =>
      have at_a : (fun b : Addr => if b = a then some (HO.frz { cls := .type "list", data := .seq vs.toArray } (.lst (ns.map V.int))) else none) a = some (HO.frz { cls := .type "list", data := .seq vs.toArray } (.lst (ns.map V.int))) := if_pos rfl
      refine core (fun b => if b = a then some (.frz { cls := .type "list", data := .seq vs.toArray } (.lst (ns.map V.int))) else none) (fun b => ?_) (Or.inl (Or.inr ⟨_, at_a⟩)) (fun b u z => ?_) (fun b z => ?_) (fun _ => look)
      · by_cases e : b = a
        · exact Or.inr ⟨_, _, if_pos e⟩
        · exact Or.inl (if_neg e)
      · by_cases e : b = a
        · subst e
          have z1 := at_a.symm.trans z
          cases z1
          exact ⟨ha, by simpa using hl, vs, 0, intsV, ha⟩
        · have z1 := (if_neg e).symm.trans z
          cases z1
      · exact Classical.byContradiction fun e => z (if_neg e)
  intro H only script okH justA notK
  -- a dict stands untracked
  have dictFree : ∀ {b : Addr} {o : Obj} {es : Array DictEntry} {ep : Nat}, s1.heap.get? b = some o → o.data = .dict es ep → H b = none := by
    intro b o es ep got isDict
    refine Classical.byContradiction fun tracked => ?_
    have e := justA b tracked
    subst e
    rw [ha] at got
    cases got
    cases isDict
  have space : ∀ {b : Addr} {m : Str → Option Value}, s1.heap.Ns b m → (hidT s1.heap H).Ns b m := by
    rintro b m ⟨o, es, ep, got, isDict, more⟩
    exact ⟨o, es, ep, hidT_get got (dictFree got isDict), isDict, more⟩
  have KB : K.In (hidT s1.heap H) := by
    intro b o got
    refine hidT_get (KX b o got) (Classical.byContradiction fun tracked => ?_)
    have e := justA b tracked
    subst e
    rw [notK tracked] at got
    cases got
  obtain ⟨mc, lim1, lim2⟩ := hlim
  have module : Mod K mg (hidT s1.heap H) := ⟨KB, space hns, ⟨mb, space hb, hbb⟩, ⟨mc, space lim1, lim2⟩⟩
  have around : Env0 P w K mg (hidT s1.heap H) callerA [] s1 H := by
    refine ⟨rfl, module, fun b o got => of_hidT got, Nat.le_of_eq (hidT_size _ _), trivial, fun b inNil => ?_, okH, AllBare.of_eq hgens⟩
    have none' : b ∈ ([] : List Addr) := inNil
    cases none'
  have ran := (F _ KB (space hns)).runs callerA [] s1 H ⟨[.ref a], []⟩ [.ref a] [.ref a] _ _ rfl hr around (.cons rfl .nil) (hbind s1 (.ref a)) (hsp H only script)
  refine codeAny_mono ran fun res s' done => ?_
  match res, done with
  | .error er, done =>
    obtain ⟨_, _, _, _, _, _, _, _, _, _, _, _, z⟩ := done
    exact z.elim
  | .ok .next, done => exact done.elim
  | .ok .brk, done => exact done.elim
  | .ok .cont, done => exact done.elim
  | .ok (.ret u), done =>
    obtain ⟨v, H2, sameOs, bare2, un, okH2, rel, isTrue'⟩ := done
    have isTrue2 : v = .bl true := isTrue'
    subst isTrue2
    have rel2 : u = Value.bool true := rel
    subst rel2
    refine ⟨rfl, OldK.of_keep fun b o got => ?_, sameOs, bare2⟩
    rcases only b with free | ⟨ob, xs, frozen⟩
    · refine un.keep b o got free (fun z => ?_) (by simp)
      have z1 : b ∈ ([] : List Addr) := z
      cases z1
    · have was := (okH b _ frozen).1
      have now := (okH2 b _ (un.frzs b ob _ frozen)).1
      rw [got] at was
      cases was
      exact now
end
/-- the goal that k_head leaves -/
theorem walkG {l : PySem.W.OpenLaw} {n k : Nat} {q : Program} {loose : List Str} {XP : (Str → Option Value) → Heap → Prop} {YP : World → Heap → Prop} {d : DefRec} {KK : Params → PySem.W.Frag} {sp : PySem.W.Frag → (Str → Option Value) → Sp} {x : Str}
    (hn : l.most = some n) (hn2 : n ≤ sizeLine) (hdf : d.params.defaults = []) (hr : Room k callerA) (hY : ∀ (w : World) (h : Heap), YP w h → (KK w.params).In h)
    (F : ∀ (w : World) (mg : Str → Option Value) (fa : Addr) (h : Heap), (KK w.params).In h → h.Ns mainGlobals mg → mg d.name = some (.ref fa) →
      ∃ fd : FuncData, (∀ (s : Shared) (u : Value), BindsTo s fd ⟨[u], []⟩ [(x, u)]) ∧ ∀ base : Heap, (KK w.params).In base → base.Ns mainGlobals mg → FnG l.prog w (KK w.params) mg base k fa fd [x] (sp (KK w.params) mg))
    (hsp : ∀ (w : World) (mg : Str → Option Value) (H : Hp) (a : Addr) (ns : List Int), ns.length ≤ n → (∀ z ∈ ns, Builtin.Int.intBits z ≤ 1048576) → Only H → SqL (KK w.params) H a (ns.map V.int) → sp (KK w.params) mg [.ref a] H (fun v _ => v = .bl true) fun _ _ _ => False) :
    PySem.W.WalkO q loose XP YP l.row.toRowW d [] (fun f vs => PySem.call f vs) :=
  Att.attach_callB hn hdf fun w _ _ mg _ fa _ _ _ _ a _ ns G Y _ _ _ hmg hobj hints hlen hbits hg => by
    obtain ⟨fd, hb, made⟩ := F w mg fa _ (hY w _ Y) G.T.g hmg
    exact lawG (hY w _ Y) G.T.g G.T.b G.T.builtins G.T.nolimit hg hobj hints (Nat.le_trans hlen hn2) hr made hb fun H only script => hsp w mg H a ns hlen hbits only script
end VL

namespace VL
open PySem PySem.Spec L2

/-- a def's end -/
inductive DR where
  | ok (d : D) (d0 : Option D) | ex (n : Str) (x : D) (d0 : Option D) | no
def fin (io : Option Nat) (r : Rho) (f : Option D → DR) : DR := match io with
  | none => f none
  | some _ => match rget r 0 with
    | some d => f (some d)
    | none => .no
def runF (io : Option Nat) (nN np : Nat) (f : Rho → SO) (ds : List D) : DR :=
  if ds.length = np then (match f (ds.map some ++ List.replicate (nN - np) none) with
    | .rt d r => fin io r (.ok d)
    | .nx r => fin io r (.ok .non)
    | .ex n x r => fin io r (.ex n x)
    | _ => .no) else .no
def gam (io : Option Nat) (np : Nat) : List Nat := match io with
  | none => List.replicate np 0
  | some m => m :: List.replicate (np - 1) 0
def SpD (K : PySem.W.Frag) (mg : Str → Option Value) (io : Option Nat) (np : Nat) (kr : Nat) (g : List D → DR) : Sp := fun vs H Q E =>
  ∃ ds c s, vs.length = np ∧ SR K H (gam io np) (ds.map some) (vs.map some) c s ∧ Ok c s ∧ match g ds with
    | .ok d d0 => ∀ v H' cr sr c0 s0, Rep K H' kr d v cr sr → IoP K H' io d0 (vs.headD .non) c0 s0 → Step c s H (add c0 cr) (add s0 sr) H' → Q v H'
    | .ex n x d0 => ∀ cls dx H' c0 s0, ExP mg n x H' cls dx → IoP K H' io d0 (vs.headD .non) c0 s0 → Step c s H c0 s0 H' → E cls dx H'
    | .no => False
abbrev FnV (P : Program) (w : World) (K : PySem.W.Frag) (mg : Str → Option Value) (base : Heap) (k : Nat) (f : Addr) (fd : FuncData) (ps : List Str) (io : Option Nat) (kr : Nat) (g : List D → DR) : Prop :=
  FnG P w K mg base k f fd ps (SpD K mg io ps.length kr g)
section
variable {K : PySem.W.Frag} {H : Hp}
theorem SR.more : ∀ {G r σ c s}, SR K H G r σ c s → ∀ (n : Nat), SR K H (G ++ List.replicate n 0) (r ++ List.replicate n none) (σ ++ List.replicate n none) c s
  | _, _, _, _, _, .nil, n => by
    simp only [List.nil_append]
    induction n with
    | zero => exact .nil
    | succ n ih => rw [List.replicate_succ, List.replicate_succ, List.replicate_succ]; exact .no ih
  | _, _, _, _, _, .no x, n => .no (SR.more x n)
  | _, _, _, _, _, .yes a x, n => .yes a (SR.more x n)
theorem SR.args {n : Nat} : ∀ {ds : List D} {vs : List V} {c s : Cnt}, Reps K H n ds vs c s → SR K H (List.replicate ds.length n) (ds.map some) (vs.map some) c s
  | _, _, _, _, .nil => .nil
  | _, _, _, _, .cons a b => .yes a (SR.args b)
theorem rget_app : ∀ (ds : List D) (m : Nat) (r : Rho), rget (ds.map some ++ r) 0 = match ds with | [] => rget r 0 | d :: _ => some d
  | [], _, _ => rfl
  | _ :: _, _, _ => rfl
end
section
variable {P : Program} {w : World} {K : PySem.W.Frag} {mg : Str → Option Value} {base : Heap}
/-- the context's wishes for a def's body -/
def fxOf (E : XK) (io : Option Nat) (kr : Nat) : Fx := { W := fun cls d _ H => E cls d H, io := io, kr := kr, Gb := [], Gc := [] }
theorem gam_len (io : Option Nat) (np : Nat) (h : io = none ∨ 0 < np) : (gam io np).length = np := by
  cases io with
  | none => simp [gam]
  | some m => rcases h with h | h
              · cases h
              · simp [gam]; omega
/-- THE RULE for a def -/
theorem fnv_of {x qual : Str} {st : Stmt} {f : Addr} {fd : FuncData} {N ps : List Str} {k : Nat} {io : Option Nat} {kr : Nat} {body : Rho → SO} {G' : List Nat} (F : Fun K x qual st f fd) (S : FnScope N ps (defScope st)) (hio : io = none ∨ 0 < ps.length) (hps : ps.length ≤ N.length)
    (B : ∀ (cdv : Value) (A : Around) (outer : List Env) (s : Shared) (H : Hp) (E : XK), (A.deeper (PyProof.Rows.envOfC qual (defScope st) s.heap.objs.size f cdv)).guards = some [] → Room k (A.deeper (PyProof.Rows.envOfC qual (defScope st) s.heap.objs.size f cdv)) →
      PBk (cxOf (L2.CX P w) P w K mg base N qual (defScope st) f cdv A outer s H E) (fxOf E io kr) (gam io ps.length ++ List.replicate (N.length - ps.length) 0) G' (defBody st) body) (hG : ∀ m, io = some m → gget G' 0 = m) :
    FnV P w K mg base (k + 1) f fd ps io kr (runF io N.length ps.length body) := by
  refine fng_of F S (fun vs H Q E h => ?_) (fun cdv A outer s H vs Q E hgd hr h => ?_)
  · obtain ⟨ds, c, s, hl, _⟩ := h
    exact hl
  · obtain ⟨ds, c, s', hl, sr, ok, h⟩ := h
    obtain ⟨t, ht, q⟩ := (B cdv A outer s H E hgd hr).go
    refine ⟨t, ht, ?_⟩
    have hdl : ds.length = vs.length := by
      have e := sr.lenS
      simpa using e.symm
    have hst : L2.start N vs = vs.map some ++ List.replicate (N.length - ps.length) none := by unfold L2.start; rw [hl]
    rw [hst]
    have sr2 := sr.more (N.length - ps.length)
    have hdp : ds.length = ps.length := by omega
    unfold runF at h
    rw [if_pos hdp] at h
    have hv0 : ∀ m, io = some m → (vs.map some ++ List.replicate (N.length - ps.length) none)[0]? = some (some (vs.headD .non)) := fun m hm => by
      rcases hio with z | z
      · rw [z] at hm; cases hm
      · cases vs with
        | nil => simp at hl; omega
        | cons v vs => rfl
    refine q (vs.headD .non) _ H _ c s' _ sr2 ok ⟨fun m hm => hv0 m hm, fun _ h => nomatch h⟩ ?_
    cases eb : body (ds.map some ++ List.replicate (N.length - ps.length) none) with
    | nx r =>
      rw [eb] at h
      intro σ' H' c1 s1 x pr y
      have hio' : IoG (fxOf E io kr) G' := hG
      obtain ⟨c0, s0, i, hc, hs⟩ := io_end hio' pr x
      cases io with
      | none => exact h .non H' z0 z0 c0 s0 .non i (by simp only [add_z]; exact y.less hc (fun a ha => Nat.lt_of_lt_of_le ha (hs a)))
      | some m =>
        have h : (match fin (some m) r (.ok .non) with | .ok d d0 => _ | .ex n x d0 => _ | .no => False) := h
        unfold fin at h
        cases e0 : rget r 0 with
        | none => simp only [e0] at h
        | some d0 =>
          simp only [e0] at h
          have i' : IoP K H' (some m) (rget r 0) (vs.headD .non) c0 s0 := i
          rw [e0] at i'
          exact h .non H' z0 z0 c0 s0 .non i' (by simp only [add_z]; exact y.less hc (fun a ha => Nat.lt_of_lt_of_le ha (hs a)))
    | bk r => rw [eb] at h; exact False.elim h
    | ct r => rw [eb] at h; exact False.elim h
    | rt d r =>
      rw [eb] at h
      intro v H' cr sr' c0 s0 rp i y
      cases io with
      | none => exact h v H' cr sr' c0 s0 rp i y
      | some m =>
        have h : (match fin (some m) r (.ok d) with | .ok d d0 => _ | .ex n x d0 => _ | .no => False) := h
        unfold fin at h
        cases e0 : rget r 0 with
        | none => simp only [e0] at h
        | some d0 =>
          simp only [e0] at h
          have i' : IoP K H' (some m) (rget r 0) (vs.headD .non) c0 s0 := i
          rw [e0] at i'
          exact h v H' cr sr' c0 s0 rp i' y
    | ex n d r =>
      rw [eb] at h
      intro cls dx σ' H' G c1 s1 e gg x pr y
      obtain ⟨c0, s0, i, hc, hs⟩ := io_end gg pr x
      have y' := y.less hc (fun a ha => Nat.lt_of_lt_of_le ha (hs a))
      cases io with
      | none => exact h cls dx H' c0 s0 e i y'
      | some m =>
        have h : (match fin (some m) r (.ex n d) with | .ok d d0 => _ | .ex n x d0 => _ | .no => False) := h
        unfold fin at h
        cases e0 : rget r 0 with
        | none => simp only [e0] at h
        | some d0 =>
          simp only [e0] at h
          have i' : IoP K H' (some m) (rget r 0) (vs.headD .non) c0 s0 := i
          rw [e0] at i'
          exact h cls dx H' c0 s0 e i' y'
    | no => rw [eb] at h; exact False.elim h
end
end VL

namespace VL
open PySem PySem.Spec L2
def ofDR (dr : DR) (r : Rho) : R D := match dr with
  | .ok d _ => .ok d r
  | .ex n x _ => .ex n x r
  | .no => .no
def dCall (g : List D → DR) (fa : Rho → R (List D)) : Rho → R D := fun r => (fa r).bind fun ds r1 => ofDR (g ds) r1
section
variable {X : Cx} {F : Fx} {G G1 G2 G3 G4 G' Gt Gs Gn : List Nat} {k k1 k2 kr lv : Nat} {e a b tg iter elt : Expr} {es ifs : List Expr} {pos p : Pos} {st : Stmt} {sts : List Stmt}
/-- what a def's body may let out is taken by the body around -/
abbrev Pf (X : Cx) (F : Fx) : Prop := ∀ σ, PassesAt (L2.CX X.prog X.w) X σ (WE F.W σ)
theorem passN : Pf X F.nox := fun σ pins H s e s' I h => by
  obtain ⟨_, _, _, _, _, _, _, _, _, _, _, _, z⟩ := h
  exact z.elim
theorem gam0 (n : Nat) : gam none n = List.replicate n 0 := rfl
/-- a call's arguments handed over, its end taken back -/
theorem call_end {g : List D → DR} {np : Nat} {c s c1 s1 sa : Cnt} {H H1 : Hp} {σ : St} {Q : VK} {ds : List D} {vs : List V} {r1 : Rho} (hio : IoG F G1) (x : SR X.K H1 G1 r1 σ c1 s1) (rp : Reps X.K H1 0 ds vs z0 sa) (st : Step c s H c1 (add s1 sa) H1) (hl : ds.length = np)
    (h : OutX X F c s H σ (OkE X G1 kr c s H σ Q) (ofDR (g ds) r1)) : SpD X.K X.mg none np kr g vs H1 Q (WE F.W σ) := by
  have hvl := rp.length
  refine ⟨ds, z0, sa, by omega, by have q := SR.args rp; rw [gam0, ← hl]; exact q, fun z => ⟨Nat.zero_le _, .inl rfl⟩, ?_⟩
  have okk : Ok (add z0 c1) (add sa s1) := fun z => by have := st.ok z; simp only [add_at, z_at] at this ⊢; omega
  cases eg : g ds with
  | no => rw [eg] at h; exact False.elim h
  | ok d d0 =>
    rw [eg] at h
    intro v H' cr sr c0 s0 rr i y
    obtain ⟨rfl, rfl⟩ : c0 = z0 ∧ s0 = z0 := i
    simp only [z_add] at y
    have fr := y.frame okk x.dom
    have as' := y.aside okk
    refine h v H' c1 s1 cr sr (x.keep as') rr ?_
    have st' : Step c s H (add z0 c1) (add sa s1) H1 := by rw [z_add, add_comm' sa s1]; exact st
    have q := st'.trans fr
    rw [add_comm' cr c1, add_comm' sr s1] at q
    exact q
  | ex n d d0 =>
    rw [eg] at h
    intro cls dx H' c0 s0 e i y
    obtain ⟨rfl, rfl⟩ : c0 = z0 ∧ s0 = z0 := i
    have fr := y.frame okk x.dom
    have as' := y.aside okk
    have st' : Step c s H (add z0 c1) (add sa s1) H1 := by rw [z_add, add_comm' sa s1]; exact st
    have q := st'.trans fr
    simp only [z_add] at q
    exact h cls dx H' G1 c1 s1 e hio (x.keep as') q
/-- f(e, ..), f a def that changes none of its arguments -/
theorem v_call {x : Str} {f : Addr} {fd : FuncData} {ps : List Str} {g : List D → DR} {fa : Rho → R (List D)} (Fv : FnV X.prog X.w X.K X.mg X.base lv f fd ps none kr g) (gd : X.A.guards = some []) (hr : Room lv X.A) (hm : X.mg x = some (.ref f)) (hk : PySem.W.keepIn X.K (.ref f) = true) (hb : Binds X.K fd ps []) (pf : Pf X F)
    (A0 : PL X F G G1 k (e :: es) fa) (hps : (e :: es).length = ps.length := by rfl) (hg : Gl X x := by rfl) (hio : IoG F G1 := by first | exact io_none rfl | exact io_some rfl rfl)
    (hdb : (x == ("__debug__" : Str)) = false := by decide) (he : starEach (e :: es) X.env = (false, eval e X.env) :: starEach es X.env := by rfl) (hpl : (backTo pos (starEach es X.env)).any (·.1) = false := by rfl) :
    PV X F G G1 kr (.Call (.Name x p) (e :: es) [] pos) (fun r => (fa r).bind fun ds r1 => if ds.length = ps.length then ofDR (g ds) r1 else .no) := by
  obtain ⟨t, ht, q⟩ := (l_weak A0).go
  refine ⟨_, pe_callG Fv gd hr hg hm hk hb pf ht hdb he hpl, fun σ H r c s Q sr ok h => q σ H r c s _ sr ok (h.bind.mono fun ds r1 h2 => ?_)⟩
  intro vs H1 c1 s1 ca sa x rp st
  have z := rp.zero
  subst z
  simp only [add_z] at st
  by_cases hl : ds.length = ps.length
  · rw [if_pos hl] at h2
    exact call_end hio x rp st hl h2
  · rw [if_neg hl] at h2
    exact False.elim h2
/-- keywords' values -/
structure PKw (X : Cx) (F : Fx) (G G' : List Nat) (k : Nat) (kws : List Keyword) (f : Rho → R (List D)) : Prop where
  go : ∃ t, PK X kws t ∧ ∀ σ H r c s Q, SR X.K H G r σ c s → Ok c s → OutX X F c s H σ (OkL X G' k c s H σ Q) (f r) → t σ H Q
theorem kw_nil : PKw X F G G k [] (fun r => .ok [] r) := ⟨_, pk_nil, fun σ H r c s Q sr ok h => h [] H c s z0 z0 sr .nil (by simp only [add_z]; exact .refl ok)⟩
theorem kw_cons {nm : Option Str} {kpos : Pos} {kws : List Keyword} {f : Rho → R D} {g : Rho → R (List D)} (A : PV X F G G1 k e f) (B : PKw X F G1 G2 k kws g) :
    PKw X F G G2 k (⟨nm, e, kpos⟩ :: kws) (fun r => (f r).bind fun d r1 => (g r1).bind fun ds r2 => .ok (d :: ds) r2) := by
  obtain ⟨ta, ha, qa⟩ := A.go
  obtain ⟨tb, hb, qb⟩ := B.go
  refine ⟨_, pk_cons ha hb, fun σ H r c s Q sr ok h => qa σ H r c s _ sr ok (h.bind.mono fun d r1 h1 => ?_)⟩
  intro x H1 c1 s1 ca sa sr1 rpa st
  have ok1 : Ok c1 s1 := fun z => by have := st.ok z; simp only [add_at] at this; omega
  have st1 : Step c s H c1 s1 H1 := st.less (fun z => by simp only [add_at]; omega) (fun z hz => by simp only [add_at]; omega)
  refine qb σ H1 r1 c1 s1 _ sr1 ok1 (h1.bind.imp st1 fun ds r2 h2 => ?_)
  intro xs H2 c2 s2 cb sb sr2 rpb st2
  refine h2 (x :: xs) H2 c2 s2 (add ca cb) (add sa sb) sr2 (.cons (rpa.keep (st2.aside st.ok)) rpb) ?_
  have q := st.trans (st2.frame st.ok rpa.dom)
  rw [add_assoc', add_assoc', add_comm' cb ca, add_comm' sb sa] at q
  exact q
theorem reps_turned {K : PySem.W.Frag} {H : Hp} {n : Nat} {ds : List D} {vs : List V} {c s : Cnt} (sw : Bool) (r : Reps K H n ds vs c s) : Reps K H n (turned sw ds) (turned sw vs) c s := by
  unfold turned; split
  · have gen : ∀ {ds : List D} {vs : List V} {c s : Cnt}, Reps K H n ds vs c s → Reps K H n ds.reverse vs.reverse c s := by
      intro ds
      induction ds with
      | nil => intro vs c s r; obtain ⟨rfl, rfl, rfl⟩ := r.inv0; exact .nil
      | cons d ds ih =>
        intro vs c s r
        obtain ⟨v, vs', c1, s1, c2, s2, rfl, a, b, rfl, rfl⟩ := r.inv1
        rw [List.reverse_cons, List.reverse_cons, add_comm' c1, add_comm' s1]
        exact Reps.snoc a (ih b)
    exact gen r
  · exact r
/-- f(k = e, ..) -/
theorem v_callK {x : Str} {f : Addr} {fd : FuncData} {ps ks : List Str} {sw : Bool} {kws : List Keyword} {g : List D → DR} {fa : Rho → R (List D)} (Fv : FnV X.prog X.w X.K X.mg X.base lv f fd ps none kr g) (gd : X.A.guards = some []) (hr : Room lv X.A) (hm : X.mg x = some (.ref f)) (hk : PySem.W.keepIn X.K (.ref f) = true) (hb : KwBinds X.K fd ps ks sw) (pf : Pf X F)
    (A0 : PKw X F G G1 0 kws fa) (hg : Gl X x := by rfl) (hio : IoG F G1 := by first | exact io_none rfl | exact io_some rfl rfl)
    (hall : (backToKw pos (keywordEach kws X.env)).all (·.1.isSome) = true := by rfl) (hks : (backToKw pos (keywordEach kws X.env)).filterMap (·.1) = ks := by rfl) (hdb : (x == ("__debug__" : Str)) = false := by decide)
    (hpl : ((backTo pos (starEach [] X.env)).any (·.1) || (backToKw pos (keywordEach kws X.env)).any (·.1.isNone)) = false := by rfl) :
    PV X F G G1 kr (.Call (.Name x p) [] kws pos) (fun r => (fa r).bind fun ds r1 => if ds.length = ps.length then ofDR (g (turned sw ds)) r1 else .no) := by
  obtain ⟨t, ht, q⟩ := A0.go
  refine ⟨_, pe_callGK Fv gd hr hg hm hk hb pf ht hall hks hdb hpl, fun σ H r c s Q sr ok h => q σ H r c s _ sr ok (h.bind.mono fun ds r1 h2 => ?_)⟩
  intro vs H1 c1 s1 ca sa x rp st
  have z := rp.zero
  subst z
  simp only [add_z] at st
  by_cases hl : ds.length = ps.length
  · rw [if_pos hl] at h2
    exact call_end hio x (reps_turned sw rp) st (by rw [turned_len]; exact hl) h2
  · rw [if_neg hl] at h2
    exact False.elim h2
/-- f(x, e, ..), f a def that changes the object at its first argument, the name x of slot i -/
def ioDR (i : Nat) (dr : DR) (r : Rho) : R D := match dr with
  | .ok d (some d1) => .ok d (r.set i (some d1))
  | .ex n x (some d1) => .ex n x (r.set i (some d1))
  | _ => .no
def ioGo (i np : Nat) (g : List D → DR) (ds : List D) (r1 : Rho) : R D := match rget r1 i with
  | some d0 => if ds.length + 1 = np then ioDR i (g (d0 :: ds)) r1 else .no
  | none => .no
def dCallIo (i np : Nat) (g : List D → DR) (fa : Rho → R (List D)) : Rho → R D := fun r => match rget r i with
  | some _ => (fa r).bind fun ds r1 => ioGo i np g ds r1
  | none => .no
theorem SR.cons_args {K : PySem.W.Frag} {H : Hp} {m : Nat} {d0 : D} {v0 : V} {c0 s0 : Cnt} {ds : List D} {vs : List V} {sa : Cnt} (r0 : Rep K H m d0 v0 c0 s0) (rp : Reps K H 0 ds vs z0 sa) : SR K H (gam (some m) (ds.length + 1)) ((d0 :: ds).map some) ((v0 :: vs).map some) c0 (add s0 sa) := by
  have q : SR K H (m :: List.replicate ds.length 0) (some d0 :: ds.map some) (some v0 :: vs.map some) (add c0 z0) (add s0 sa) := .yes r0 (SR.args rp)
  rw [add_z] at q
  exact q
theorem v_callIo (i m : Nat) {x y : Str} {py : Pos} {f : Addr} {fd : FuncData} {ps : List Str} {g : List D → DR} {fa : Rho → R (List D)} (Fv : FnV X.prog X.w X.K X.mg X.base lv f fd ps (some m) kr g) (gd : X.A.guards = some []) (hr : Room lv X.A) (hm : X.mg x = some (.ref f)) (hk : PySem.W.keepIn X.K (.ref f) = true) (hb : Binds X.K fd ps []) (pf : Pf X F)
    (A0 : PL X F G G1 k es fa) (hN : X.N[i]? = some y := by rfl) (hv : Vis X.env.scope y := by first | exact Or.inl rfl | exact Or.inr (Or.inl rfl) | exact Or.inr (Or.inr rfl)) (hmm : gget G1 i = m := by rfl) (hio : IoG F G1 := by first | exact io_none rfl | exact io_some rfl rfl) (hg : Gl X x := by rfl)
    (hd : (y == ("__debug__" : Str)) = false := by decide) (hcd : (y == ("__classdict__" : Str)) = false := by decide)
    (hdb : (x == ("__debug__" : Str)) = false := by decide) (he : starEach (.Name y py :: es) X.env = (false, eval (.Name y py) X.env) :: starEach es X.env := by rfl) (hpl : (backTo pos (starEach es X.env)).any (·.1) = false := by rfl) :
    PV X F G G1 kr (.Call (.Name x p) (.Name y py :: es) [] pos) (dCallIo i ps.length g fa) := by
  obtain ⟨t, ht, q⟩ := (l_weak A0).go
  refine ⟨_, pe_callG Fv gd hr hg hm hk hb pf (pa_cons (pv i hN hv hd hcd) ht he) hdb he hpl, fun σ H r c s Q sr ok h => ?_⟩
  unfold dCallIo at h
  cases e0 : rget r i with
  | none => simp only [e0] at h; exact False.elim h
  | some dd =>
    simp only [e0] at h
    obtain ⟨v0, _, _, _, _, ev0, _⟩ := sr.out e0
    refine ⟨v0, ev0, q σ H r c s _ sr ok (h.bind.mono fun ds r1 h2 => ?_)⟩
    intro vs H1 c1 s1 ca sa x rp st
    have z := rp.zero
    subst z
    simp only [add_z] at st
    unfold ioGo at h2
    cases e1 : rget r1 i with
    | none => simp only [e1] at h2; exact False.elim h2
    | some d0 =>
      simp only [e1] at h2
      by_cases hl : ds.length + 1 = ps.length
      case neg => rw [if_neg hl] at h2; exact False.elim h2
      rw [if_pos hl] at h2
      obtain ⟨v, c3, s3, c4, s4, ev, r0, x', ec, es'⟩ := x.out e1
      rw [ev0] at ev
      cases ev
      rw [hmm] at r0
      have hvl := rp.length
      have hlt := rget_lt e1
      subst ec; subst es'
      refine ⟨d0 :: ds, c3, add s3 sa, by show vs.length + 1 = _; omega, by rw [← hl]; exact SR.cons_args r0 rp, fun z => by have := st.ok z; simp only [add_at] at this ⊢; omega, ?_⟩
      -- what is put aside: the other slots
      have okk : Ok (add c3 c4) (add (add s3 sa) s4) := fun z => by have := st.ok z; simp only [add_at] at this ⊢; omega
      have st' : Step c s H (add c3 c4) (add (add s3 sa) s4) H1 := by
        have e : add (add s3 s4) sa = add (add s3 sa) s4 := by rw [add_assoc', add_comm' s4 sa, ← add_assoc']
        rw [← e]; exact st
      cases eg : g (d0 :: ds) with
      | no => rw [eg] at h2; exact False.elim h2
      | ok d od =>
        rw [eg] at h2
        cases od with
        | none => exact False.elim h2
        | some d1 =>
          have h2 : OkE X G1 kr c s H σ Q d (r1.set i (some d1)) := h2
          intro v' H' cr srr c0 s0 rr io y
          have io : Rep X.K H' m d1 v0 c0 s0 := io
          have fr := y.frame okk x'.dom
          have xk := x'.keep (y.aside okk)
          have xu := xk.upd (by rw [List.length_set]; exact hlt) (rget_set_none r1 i) ev0 io
          have eG : G1.set i m = G1 := by
            have gs : ∀ (l : List Nat) (i : Nat), l.set i (gget l i) = l := by
              intro l
              induction l with
              | nil => intro i; rfl
              | cons n l ih =>
                intro i
                cases i with
                | zero => rfl
                | succ i => show n :: l.set i (gget l i) = _; rw [ih i]
            rw [← hmm]; exact gs G1 i
          rw [set_set, eG] at xu
          refine h2 v' H' _ _ cr srr xu rr ?_
          have q := st'.trans fr
          have e : ∀ a b c : Cnt, add (add a b) c = add (add a c) b := fun a b c => by rw [add_assoc', add_comm' b c, ← add_assoc']
          rw [e c0 cr c4, e s0 srr s4] at q
          exact q
      | ex n d od =>
        rw [eg] at h2
        cases od with
        | none => exact False.elim h2
        | some d1 =>
          have h2 : ExW X F c s H σ n d (r1.set i (some d1)) := h2
          intro cls dx H' c0 s0 ee io y
          have io : Rep X.K H' m d1 v0 c0 s0 := io
          have fr := y.frame okk x'.dom
          have xk := x'.keep (y.aside okk)
          have xu := xk.upd (by rw [List.length_set]; exact hlt) (rget_set_none r1 i) ev0 io
          have eG : G1.set i m = G1 := by
            have gs : ∀ (l : List Nat) (i : Nat), l.set i (gget l i) = l := by
              intro l
              induction l with
              | nil => intro i; rfl
              | cons n l ih =>
                intro i
                cases i with
                | zero => rfl
                | succ i => show n :: l.set i (gget l i) = _; rw [ih i]
            rw [← hmm]; exact gs G1 i
          rw [set_set, eG] at xu
          exact h2 cls dx H' G1 _ _ ee hio xu (st'.trans fr)
end
end VL

namespace VL
open PySem PySem.Spec L2
/-- a method that changes the list it is called on: the data ahead, the arguments; the value, the data behind -/
def MuOk (X : Cx) (r : V → List V → Hp → VK → Prop) (n kr : Nat) (h : List D → List D → Option (D × List D)) : Prop :=
  ∀ ds as d ds', h ds as = some (d, ds') → ∀ l vs us H c s ca sa (Q : VK), H l = some (.lst vs) → Reps X.K H n ds vs c s → Reps X.K H n as us ca sa →
    (∀ vs' v c' s' cr sr, Reps X.K H n ds' vs' c' s' → Rep X.K H kr d v cr sr → (∀ a, c' a + cr a ≤ c a + ca a) → (∀ a, 0 < s' a + sr a → 0 < s a + sa a) → Q v (L2.upd H l (.lst vs'))) → r (.ref l) us H Q
theorem Step.mut {c s C S C' S' : Cnt} {H H1 : Hp} {l : Addr} {o o' : HO} (x : Step c s H C S H1) (hl : 0 < C l) (ho : H1 l = some o) (hm : ¬ tupO o) (hC : ∀ a, C' a ≤ C a) (hS : ∀ a, 0 < S' a → 0 < S a) : Step c s H C' S' (L2.upd H1 l o') where
  own := fun a h => x.own a (Nat.lt_of_lt_of_le h (hC a))
  sh := fun a h => x.sh a (hS a h)
  keep := fun a u e h => by
    have q := x.keep a u e h
    by_cases ha : a = l
    · subst ha
      rw [ho] at q
      cases q
      rcases h with h | h
      · rcases x.own a hl with z | z
        · omega
        · rw [e] at z; cases z
      · exact absurd h hm
    · rw [upd_ne ha]; exact q
  dom := fun a h => by
    by_cases ha : a = l
    · subst ha; rw [upd_same]; exact fun z => nomatch z
    · rw [upd_ne ha]; exact x.dom a h
  ok := fun a => by
    have h1 := x.ok a; have h2 := hC a; have h3 := hS a
    refine ⟨by omega, ?_⟩
    by_cases p : 0 < S' a
    · have := h3 p; omega
    · omega
theorem Kp.upd {c s : Cnt} {H : Hp} {l : Addr} {o o' : HO} (ho : H l = some o) (hm : ¬ tupO o) (e1 : c l = 0) (e2 : s l = 0) : Kp c s H (L2.upd H l o') := fun a u e h => by
  by_cases ha : a = l
  · subst ha
    rw [ho] at e
    cases e
    rcases h with h | h | h
    · omega
    · omega
    · exact absurd h hm
  · rw [upd_ne ha]; exact e
theorem Reps.app {K : PySem.W.Frag} {H : Hp} {n : Nat} {es : List D} {ws : List V} {c2 s2 : Cnt} (r : Reps K H n es ws c2 s2) : ∀ {ds : List D} {vs : List V} {c s : Cnt}, Reps K H n ds vs c s → Reps K H n (ds ++ es) (vs ++ ws) (add c c2) (add s s2)
  | _, _, _, _, .nil => by rw [z_add, z_add]; exact r
  | _, _, _, _, .cons a b => by
    rw [add_assoc', add_assoc']
    exact .cons a (Reps.app r b)
theorem Reps.erase {K : PySem.W.Frag} {H : Hp} {n : Nat} : ∀ {ds : List D} {vs : List V} {c s : Cnt}, Reps K H n ds vs c s → ∀ {i : Nat} {d : D}, ds[i]? = some d → ∃ v c1 s1 c2 s2, vs[i]? = some v ∧ Rep K H n d v c1 s1 ∧ Reps K H n (ds.eraseIdx i) (vs.eraseIdx i) c2 s2 ∧ c = add c1 c2 ∧ s = add s1 s2
  | _, _, _, _, .nil, _, _, h => by simp at h
  | _, _, _, _, .cons a b, 0, d, h => by
    simp only [List.getElem?_cons_zero, Option.some.injEq] at h
    subst h
    exact ⟨_, _, _, _, _, rfl, a, b, rfl, rfl⟩
  | _, _, _, _, .cons (c1 := ca) (s1 := sa) a b, i + 1, d, h => by
    obtain ⟨v, c1, s1, c2, s2, e, r, rs, e1, e2⟩ := Reps.erase b (i := i) (d := d) (by simpa using h)
    exact ⟨v, c1, s1, _, _, by simpa using e, r, .cons a rs, by rw [e1, add_left_comm'], by rw [e2, add_left_comm']⟩
theorem Reps.take {K : PySem.W.Frag} {H : Hp} {n : Nat} : ∀ {ds : List D} {vs : List V} {c s : Cnt}, Reps K H n ds vs c s → ∀ i : Nat, ∃ c1 s1 c2 s2, Reps K H n (ds.take i) (vs.take i) c1 s1 ∧ Reps K H n (ds.drop i) (vs.drop i) c2 s2 ∧ c = add c1 c2 ∧ s = add s1 s2
  | _, _, _, _, r, 0 => ⟨_, _, _, _, .nil, r, by rw [z_add], by rw [z_add]⟩
  | _, _, _, _, .nil, _ + 1 => ⟨_, _, _, _, .nil, .nil, by rw [z_add], by rw [z_add]⟩
  | _, _, _, _, .cons a b, i + 1 => by
    obtain ⟨c1, s1, c2, s2, r1, r2, e1, e2⟩ := Reps.take b i
    exact ⟨_, _, _, _, .cons a r1, r2, by rw [e1, add_assoc'], by rw [e2, add_assoc']⟩
theorem Reps.rev {K : PySem.W.Frag} {H : Hp} {n : Nat} : ∀ {ds : List D} {vs : List V} {c s : Cnt}, Reps K H n ds vs c s → Reps K H n ds.reverse vs.reverse c s
  | _, _, _, _, .nil => .nil
  | _, _, _, _, .cons (c1 := c1) (s1 := s1) (c2 := c2) (s2 := s2) a b => by
    rw [List.reverse_cons, List.reverse_cons]
    have q := Reps.snoc a (Reps.rev b)
    rw [add_comm' c2 c1, add_comm' s2 s1] at q
    exact q
/-- one element of the list, and the others -/
theorem Reps.focus {K : PySem.W.Frag} {H : Hp} {n : Nat} : ∀ {ds : List D} {vs : List V} {c s : Cnt}, Reps K H n ds vs c s → ∀ {i : Nat} {d : D}, ds[i]? = some d → ∃ v c1 s1 c2 s2, vs[i]? = some v ∧ Rep K H n d v c1 s1 ∧ c = add c1 c2 ∧ s = add s1 s2 ∧ Dom c2 s2 H ∧
    ∀ H' d' c1' s1', Kp c2 s2 H H' → Rep K H' n d' v c1' s1' → Reps K H' n (ds.set i d') vs (add c1' c2) (add s1' s2)
  | _, _, _, _, .nil, _, _, h => by simp at h
  | _, _, _, _, .cons a b, 0, d, h => by
    simp only [List.getElem?_cons_zero, Option.some.injEq] at h
    subst h
    exact ⟨_, _, _, _, _, rfl, a, rfl, rfl, b.dom, fun H' d' c1' s1' k r => .cons r (b.keep k)⟩
  | _, _, _, _, .cons (c1 := ca) (s1 := sa) a b, i + 1, d, h => by
    obtain ⟨v, c1, s1, c2, s2, e, r, e1, e2, dm, f⟩ := Reps.focus b (i := i) (d := d) (by simpa using h)
    refine ⟨v, c1, s1, add ca c2, add sa s2, by simpa using e, r, by rw [e1, add_left_comm'], by rw [e2, add_left_comm'], a.dom.add dm, fun H' d' c1' s1' k r' => ?_⟩
    have q := f H' d' c1' s1' k.right r'
    rw [add_left_comm' c1', add_left_comm' s1']
    exact .cons (a.keep k.left) q
section
variable {X : Cx} {F : Fx} {G G1 G2 G3 G4 G' Gt Gs Gn : List Nat} {k k1 k2 kr lv n : Nat} {e a b tg iter elt : Expr} {es ifs : List Expr} {pos p apos cpos : Pos} {st : Stmt} {sts : List Stmt}
def muGo (i : Nat) (h : List D → List D → Option (D × List D)) (as : List D) (r1 : Rho) : R D := match rget r1 i with
  | some (.lst ds) => (match h ds as with
    | some (d, ds') => .ok d (r1.set i (some (.lst ds')))
    | none => .no)
  | _ => .no
def isLst : Option D → Bool
  | some (.lst _) => true
  | _ => false
def dMut (i : Nat) (h : List D → List D → Option (D × List D)) (fa : Rho → R (List D)) : Rho → R D := fun r => if isLst (rget r i) = true then (fa r).bind fun as r1 => muGo i h as r1 else .no
theorem gset_same : ∀ (l : List Nat) (i : Nat), l.set i (gget l i) = l
  | [], _ => rfl
  | _ :: _, 0 => rfl
  | n :: l, i + 1 => by show n :: l.set i (gget l i) = _; rw [gset_same l i]
theorem isLst_of {o : Option D} (h : isLst o = true) : ∃ ds, o = some (.lst ds) := by
  cases o with
  | none => cases h
  | some d => cases d <;> first | exact ⟨_, rfl⟩ | cases h
theorem mu_end {i : Nat} {h : List D → List D → Option (D × List D)} {r0 : V → List V → Hp → VK → Prop} (mu : MuOk X r0 n kr h) {c s c1 s1 ca sa : Cnt} {H H1 : Hp} {σ : St} {Q : VK} {as : List D} {us : List V} {r1 : Rho} {l : Addr} (hm : gget G1 i = n + 1) (x : SR X.K H1 G1 r1 σ c1 s1) (rp : Reps X.K H1 n as us ca sa)
    (st : Step c s H (add c1 ca) (add s1 sa) H1) (ev0 : σ[i]? = some (some (.ref l))) (hh : OutX X F c s H σ (OkE X G1 kr c s H σ Q) (muGo i h as r1)) : r0 (.ref l) us H1 Q := by
  unfold muGo at hh
  cases e1 : rget r1 i with
  | none => rw [e1] at hh; exact False.elim hh
  | some d0 =>
    rw [e1] at hh
    cases d0 with
    | lst ds =>
      cases eh : h ds as with
      | none => simp only [eh] at hh; exact False.elim hh
      | some pr =>
        obtain ⟨d, ds'⟩ := pr
        simp only [eh] at hh
        obtain ⟨v, c3, s3, c4, s4, ev, rr, x', ec, es'⟩ := x.out e1
        rw [ev0] at ev
        cases ev
        rw [hm] at rr
        have hlt := rget_lt e1
        cases rr with
        | @lstS _ _ vs _ cc ss hl rs =>
          subst ec; subst es'
          have okl := st.ok l
          simp only [add_at, one_same] at okl
          refine mu ds as d ds' eh l vs us H1 cc s3 ca sa Q hl rs rp fun vs' v c' s' cr sr rs' rv hc hs => ?_
          have hcl := hc l
          have hsl : s' l = 0 ∧ sr l = 0 := by
            have := hs l
            omega
          have kp : ∀ {c s : Cnt}, c l = 0 → s l = 0 → Kp c s H1 (L2.upd H1 l (.lst vs')) := fun {c s} e1 e2 => Kp.upd hl (fun z => z) e1 e2
          have xk := x'.keep (kp (by omega) (by omega))
          have rk := rs'.keep (kp (by omega) hsl.1)
          have xu := xk.upd (by rw [List.length_set]; exact hlt) (rget_set_none r1 i) ev0 (.lstS upd_same rk)
          rw [set_set, ← hm, gset_same] at xu
          refine hh v _ _ _ cr sr xu (rv.keep (kp (by omega) hsl.2)) ?_
          refine st.mut (by simp only [add_at, one_same]; omega) hl (fun z => z) (fun a => ?_) (fun a ha => ?_)
          · have := hc a
            simp only [add_at]; omega
          · have := hs a
            simp only [add_at] at ha ⊢; omega
    | _ => exact False.elim hh
/-- x.m(e, ..), x the name of slot i, a list that is owned -/
theorem v_mt (i n : Nat) {y name : Str} {py : Pos} {id : String} {r0 : V → List V → Hp → VK → Prop} {h : List D → List D → Option (D × List D)} {fa : Rho → R (List D)} (slot : Slot "list" name id) (hty : typeOf (.builtin id) = pure (.type "method_descriptor")) (hmt : MtR X id r0) (mu : MuOk X r0 n kr h)
    (A : PL X F G G1 n (e :: es) fa) (hmm : gget G1 i = n + 1 := by rfl) (hN : X.N[i]? = some y := by rfl) (hv : Vis X.env.scope y := by first | exact Or.inl rfl | exact Or.inr (Or.inl rfl) | exact Or.inr (Or.inr rfl))
    (hd : (y == ("__debug__" : Str)) = false := by decide) (hcd : (y == ("__classdict__" : Str)) = false := by decide)
    (hbase : attributeBase (.Name y py) name X.env (eval (.Name y py) X.env) = eval (.Name y py) X.env := by rfl)
    (hfew : ((backTo cpos (starEach (e :: es) X.env)).all (fun x => !x.1) && (backToKw cpos (keywordEach [] X.env)).all (fun x => x.1.isSome)
      && decide ((e :: es).length + ([] : List Keyword).length + (if ([] : List Keyword).isEmpty then 0 else 1) < 30)) = true := by rfl)
    (hline : (apos.endLine == cpos.line) = true := by rfl) (hs : starEach (e :: es) X.env = (false, eval e X.env) :: starEach es X.env := by rfl) (hplain : (backTo cpos (starEach es X.env)).any (·.1) = false := by rfl) :
    PV X F G G1 kr (.Call (.Attribute (.Name y py) name apos) (e :: es) [] cpos) (dMut i h fa) := by
  obtain ⟨t, ht, q⟩ := A.go
  refine ⟨_, pe_bm PySem.F.plainAttrs_list slot hty hmt (pv i hN hv hd hcd) ht hbase hfew hline hs hplain, fun σ H r c s Q sr ok h0 => ?_⟩
  unfold dMut at h0
  by_cases hi : isLst (rget r i) = true
  case neg => rw [if_neg hi] at h0; exact False.elim h0
  rw [if_pos hi] at h0
  obtain ⟨ds0, e0⟩ := isLst_of hi
  obtain ⟨v0, _, _, _, _, ev0, rp0, _⟩ := sr.out e0
  obtain ⟨l, vs0, rfl, hl0, _⟩ := rep_lst rp0
  refine ⟨.ref l, ev0, .inl ⟨rfl, vs0, SqL.of hl0⟩, q σ H r c s _ sr ok (h0.bind.mono fun as r1 h2 => ?_)⟩
  intro us H1 c1 s1 ca sa x rp st
  exact mu_end mu hmm x rp st ev0 h2
/-- x.m() -/
theorem v_mt0 (i n : Nat) {y name : Str} {py : Pos} {id : String} {r0 : V → List V → Hp → VK → Prop} {h : List D → List D → Option (D × List D)} (slot : Slot "list" name id) (hty : typeOf (.builtin id) = pure (.type "method_descriptor")) (hmt : MtR X id r0) (mu : MuOk X r0 n kr h)
    (hmm : gget G i = n + 1 := by rfl) (hN : X.N[i]? = some y := by rfl) (hv : Vis X.env.scope y := by first | exact Or.inl rfl | exact Or.inr (Or.inl rfl) | exact Or.inr (Or.inr rfl))
    (hd : (y == ("__debug__" : Str)) = false := by decide) (hcd : (y == ("__classdict__" : Str)) = false := by decide)
    (hbase : attributeBase (.Name y py) name X.env (eval (.Name y py) X.env) = eval (.Name y py) X.env := by rfl) (hline : (apos.endLine == cpos.line) = true := by rfl) :
    PV X F G G kr (.Call (.Attribute (.Name y py) name apos) [] [] cpos) (dMut i h (fun r => .ok [] r)) := by
  refine ⟨_, pe_bm0 PySem.F.plainAttrs_list slot hty hmt (pv i hN hv hd hcd) hbase hline, fun σ H r c s Q sr ok h0 => ?_⟩
  unfold dMut at h0
  by_cases hi : isLst (rget r i) = true
  case neg => rw [if_neg hi] at h0; exact False.elim h0
  rw [if_pos hi] at h0
  obtain ⟨ds0, e0⟩ := isLst_of hi
  obtain ⟨v0, _, _, _, _, ev0, rp0, _⟩ := sr.out e0
  obtain ⟨l, vs0, rfl, hl0, _⟩ := rep_lst rp0
  refine ⟨.ref l, ev0, .inl ⟨rfl, vs0, SqL.of hl0⟩, ?_⟩
  exact mu_end mu hmm sr .nil (by simp only [add_z]; exact .refl ok) ev0 h0
/-! ### the methods -/
def hAppend : List D → List D → Option (D × List D) := fun ds as => match as with
  | [x] => if ds.length < 100000 then some (.non, ds ++ [x]) else none
  | _ => none
theorem line6 {n : Nat} (h : n < 100000) : n < sizeLine := Nat.lt_of_lt_of_le h (by decide)
theorem mu_append : MuOk X rAppend n kr hAppend := by
  intro ds as d ds' hh l vs us H c s ca sa Q hl rs ra hq
  unfold hAppend at hh
  split at hh
  · rename_i x
    split at hh
    · rename_i hlen
      cases hh
      obtain ⟨v, _, c1, s1, c2, s2, rfl, rx, rn, rfl, rfl⟩ := ra.inv1
      obtain ⟨rfl, rfl, rfl⟩ := rn.inv0
      exact ⟨l, vs, v, rfl, rfl, hl, by rw [← rs.length]; exact line6 hlen, hq _ .non _ _ z0 z0 (Reps.snoc rx rs) .non (fun a => by simp only [add_at, z_at]; omega) (fun a h => by simp only [add_at, z_at] at h ⊢; omega)⟩
    · cases hh
  · cases hh
def hReverse : List D → List D → Option (D × List D) := fun ds as => match as with
  | [] => some (.non, ds.reverse)
  | _ => none
theorem mu_reverse : MuOk X rReverse n kr hReverse := by
  intro ds as d ds' hh l vs us H c s ca sa Q hl rs ra hq
  unfold hReverse at hh
  split at hh
  · cases hh
    obtain ⟨rfl, rfl, rfl⟩ := ra.inv0
    exact ⟨l, vs, rfl, rfl, hl, hq _ .non _ _ z0 z0 rs.rev .non (fun a => Nat.le_refl _) (fun a h => h)⟩
  · cases hh
def hPopAt : List D → List D → Option (D × List D) := fun ds as => match as with
  | [.int i] => if ds.length ≤ 100000 then (match ixN ds.length i with
    | some k => (match ds[k]? with
      | some d => some (d, ds.eraseIdx k)
      | none => none)
    | none => none) else none
  | _ => none
theorem mu_popAt : MuOk X rPopAt n n hPopAt := by
  intro ds as d ds' hh l vs us H c s ca sa Q hl rs ra hq
  unfold hPopAt at hh
  split at hh
  · rename_i i
    split at hh
    · rename_i hlen
      split at hh
      · rename_i k hk
        split at hh
        · rename_i dd hd
          cases hh
          obtain ⟨v, _, c1, s1, c2, s2, rfl, rx, rn, rfl, rfl⟩ := ra.inv1
          obtain ⟨rfl, rfl, rfl⟩ := rn.inv0
          cases rx
          obtain ⟨w, c3, s3, c4, s4, ew, rw', rs', rfl, rfl⟩ := rs.erase hd
          obtain ⟨h1, h2, h3, h4⟩ := ixN_seq hk
          have hlv := rs.length
          refine ⟨l, vs, i, k, w, rfl, rfl, hl, by omega, by omega, by rw [← hlv]; exact h1, ew, hq _ w c4 s4 c3 s3 rs' rw' (fun a => by simp only [add_at]; omega) (fun a h => by simp only [add_at] at h ⊢; omega)⟩
        · cases hh
      · cases hh
    · cases hh
  · cases hh
def hPop : List D → List D → Option (D × List D) := fun ds as => match as with
  | [] => (match ds[ds.length - 1]? with
    | some d => some (d, ds.dropLast)
    | none => none)
  | _ => none
theorem eraseLast {α : Type} : ∀ (l : List α), l.eraseIdx (l.length - 1) = l.dropLast
  | [] => rfl
  | [x] => rfl
  | x :: y :: l => by
    show x :: (y :: l).eraseIdx ((y :: l).length - 1) = x :: (y :: l).dropLast
    rw [eraseLast (y :: l)]
theorem mu_pop : MuOk X rPop n n hPop := by
  intro ds as d ds' hh l vs us H c s ca sa Q hl rs ra hq
  unfold hPop at hh
  split at hh
  · split at hh
    · rename_i dd hd
      cases hh
      obtain ⟨rfl, rfl, rfl⟩ := ra.inv0
      obtain ⟨w, c3, s3, c4, s4, ew, rw', rs', rfl, rfl⟩ := rs.erase hd
      have hlv := rs.length
      rw [eraseLast, hlv, eraseLast] at rs'
      refine ⟨l, vs, w, rfl, rfl, hl, by rw [← hlv]; exact ew, hq _ w c4 s4 c3 s3 rs' rw' (fun a => by simp only [add_at]; omega) (fun a h => by simp only [add_at] at h ⊢; omega)⟩
    · cases hh
  · cases hh
def hExtend : List D → List D → Option (D × List D) := fun ds as => match as with
  | [.lst es] => if ds.length + es.length ≤ 100000 then some (.non, ds ++ es) else none
  | _ => none
theorem mu_extend : MuOk X rExtend 0 kr hExtend := by
  intro ds as d ds' hh l vs us H c s ca sa Q hl rs ra hq
  unfold hExtend at hh
  split at hh
  · rename_i es
    split at hh
    · rename_i hlen
      cases hh
      obtain ⟨v, _, c1, s1, c2, s2, rfl, rx, rn, rfl, rfl⟩ := ra.inv1
      obtain ⟨rfl, rfl, rfl⟩ := rn.inv0
      obtain ⟨b, zs, s3, rfl, hb, re, rfl, rfl⟩ := rep_lst0 rx
      refine ⟨l, b, vs, zs, rfl, rfl, hl, hb, by rw [← rs.length, ← re.length]; exact line5 hlen, hq _ .non _ _ z0 z0 (re.app rs) .non (fun a => by simp only [add_at, z_at]; omega) (fun a h => by simp only [add_at, z_at] at h ⊢; omega)⟩
    · cases hh
  · cases hh
end
end VL

namespace VL
open PySem PySem.Spec L2
/-- an element replaced -/
theorem Reps.putAt {K : PySem.W.Frag} {H : Hp} {n : Nat} : ∀ {ds : List D} {vs : List V} {c s : Cnt}, Reps K H n ds vs c s → ∀ {i : Nat}, i < ds.length → ∃ c1 s1 c2 s2, c = add c1 c2 ∧ s = add s1 s2 ∧ ∀ d v c' s', Rep K H n d v c' s' → Reps K H n (ds.set i d) (vs.set i v) (add c' c2) (add s' s2)
  | _, _, _, _, .nil, _, h => absurd h (Nat.not_lt_zero _)
  | _, _, _, _, .cons a b, 0, _ => ⟨_, _, _, _, rfl, rfl, fun d v c' s' r => .cons r b⟩
  | _, _, _, _, .cons (c1 := ca) (s1 := sa) a b, i + 1, h => by
    obtain ⟨c1, s1, c2, s2, e1, e2, f⟩ := Reps.putAt b (i := i) (Nat.lt_of_succ_lt_succ h)
    refine ⟨c1, s1, add ca c2, add sa s2, by rw [e1, add_left_comm'], by rw [e2, add_left_comm'], fun d v c' s' r => ?_⟩
    rw [add_left_comm' c', add_left_comm' s']
    exact .cons a (f d v c' s' r)
section
variable {X : Cx} {F : Fx} {G G1 G2 G3 G4 G' Gt Gs Gn : List Nat} {k k1 k2 kr lv n : Nat} {e a b tg iter elt : Expr} {es ifs : List Expr} {pos p apos cpos : Pos} {st : Stmt} {sts : List Stmt}
def setGo (i : Nat) (d dj : D) (r : Rho) : SO := match rget r i, dj with
  | some (.lst ds), .int j => (match ixN ds.length j with
    | some k => .nx (r.set i (some (.lst (ds.set k d))))
    | none => .no)
  | _, _ => .no
/-- x[j] = e, x the name of slot i, a list that is owned -/
theorem s_setIx (i n : Nat) {y : Str} {py ps : Pos} {fe fj : Rho → R D} (A : PV X F G G1 n e fe) (B0 : PV X F G1 G2 k2 b fj) (hmm : gget G2 i = n + 1 := by rfl) (hN : X.N[i]? = some y := by rfl) (hv : Vis X.env.scope y := by first | exact Or.inl rfl | exact Or.inr (Or.inl rfl) | exact Or.inr (Or.inr rfl))
    (hd : (y == ("__debug__" : Str)) = false := by decide) (hcd : (y == ("__classdict__" : Str)) = false := by decide)
    (ha : ∀ v, assign (.Subscript (.Name y py) b ps) X.env v = (do
      let ov ← holding [v] (eval (.Name y py) X.env)
      let iv ← holding [v, ov] (eval b X.env)
      standAt ps
      holding [v, ov, iv] (setItem ov iv v)
      release [v, ov, iv] []) := by intro _; rfl)
    (hs : swapsWithSole [.Subscript (.Name y py) b ps] e pos.line X.env = pure false := by rfl) (hw : swappedStores [.Subscript (.Name y py) b ps] e X.env = pure none := by rfl)
    (h1 : (assignEach [.Subscript (.Name y py) b ps] X.env).map (·.2) = [assign (.Subscript (.Name y py) b ps) X.env] := by rfl) :
    PSt X F G G2 (.Assign [.Subscript (.Name y py) b ps] e pos) (fun r => (fe r).then fun d r1 => if isLst (rget r1 i) = true then (fj r1).then fun dj r2 => setGo i d dj r2 else .no) := by
  have B := B0.weak (Nat.zero_le k2)
  obtain ⟨t, ht, q⟩ := A.go
  obtain ⟨u, hu, q2⟩ := B.go
  refine ⟨_, ps_asg ht (pg_sub (pv i hN hv hd hcd) hu set_list ha) hs hw h1, fun v0 σ H r c s Dn sr ok pr h => q σ H r c s _ sr ok (OutS.useX pr h fun d r1 h2 => ?_)⟩
  intro v0'' H1 c1 s1 ca sa x rp st
  by_cases hi : isLst (rget r1 i) = true
  case neg => rw [if_neg hi] at h2; exact False.elim h2
  rw [if_pos hi] at h2
  obtain ⟨ds0, e0⟩ := isLst_of hi
  obtain ⟨v0', _, _, _, _, ev0, rp0, _⟩ := x.out e0
  obtain ⟨l, vs0, rfl, hl0, _⟩ := rep_lst rp0
  have ok1 : Ok c1 s1 := fun z => by have := st.ok z; simp only [add_at] at this; omega
  have st1 : Step c s H c1 s1 H1 := st.less (fun z => by simp only [add_at]; omega) (fun z hz => by simp only [add_at]; omega)
  refine ⟨.ref l, ev0, q2 σ H1 r1 c1 s1 _ x ok1 ?_⟩
  cases ej : fj r1 with
  | no => rw [ej] at h2; exact False.elim h2
  | ex nn dd r2 => rw [ej] at h2; exact fun cls dx H' G c1 s1 e gg sr4 z => h2 cls dx σ H' G c1 s1 e gg sr4 pr (st1.trans z)
  | ok dj r2 =>
  rw [ej] at h2
  have h3 : OutS X F v0 G2 c s H Dn (setGo i d dj r2) := h2
  intro vj H2 c2 s2 cj sj x2 rj st2
  have zj := rj.zero
  subst zj
  unfold setGo at h3
  cases e1 : rget r2 i with
  | none => rw [e1] at h3; exact False.elim h3
  | some d0 =>
    rw [e1] at h3
    cases d0 with
    | lst ds =>
      cases dj with
      | int j =>
        cases hk : ixN ds.length j with
        | none => simp only [hk] at h3; exact False.elim h3
        | some kk =>
          simp only [hk] at h3
          cases rj
          simp only [add_z] at st2
          obtain ⟨v, c3, s3, c4, s4, ev, rr, x', ec, es'⟩ := x2.out e1
          rw [ev0] at ev
          cases ev
          rw [hmm] at rr
          have hlt := rget_lt e1
          cases rr with
          | @lstS _ _ vs _ cc ss hl rs =>
            subst ec; subst es'
            have hlen := rs.length
            have hkk : kk < ds.length := (ixN_seq hk).2.1
            obtain ⟨c5, s5, c6, s6, ecc, ess, put⟩ := rs.putAt hkk
            subst ecc; subst ess
            have stf := st2.frame (cf := ca) (sf := sa) st.ok rp.dom
            have rp2 := rp.keep (st2.aside st.ok)
            have rs2 := put d v0'' ca sa rp2
            have okl := stf.ok l
            simp only [add_at, one_same] at okl
            have kp : ∀ {c s : Cnt}, c l = 0 → s l = 0 → Kp c s H2 (L2.upd H2 l (.lst (vs.set kk v0''))) := fun {c s} e1 e2 => Kp.upd hl (fun z => z) e1 e2
            refine ⟨l, vs, j, kk, rfl, rfl, hl, by rw [← hlen]; exact hk, ?_⟩
            have xk := x'.keep (kp (by omega) (by omega))
            have rk := rs2.keep (kp (by simp only [add_at]; omega) (by simp only [add_at]; omega))
            have xu := xk.upd (by rw [List.length_set]; exact hlt) (rget_set_none r2 i) ev0 (.lstS upd_same rk)
            rw [set_set, ← hmm, gset_same] at xu
            refine h3 σ _ _ _ xu pr ?_
            exact (st.trans stf).mut (by simp only [add_at, one_same]; omega) hl (fun z => z) (fun a => by simp only [add_at]; omega) (fun a ha => by simp only [add_at] at ha ⊢; omega)
      | _ => exact False.elim h3
    | _ => exact False.elim h3
end
end VL

namespace VL
open PySem PySem.Spec L2

/-! ### equality of deep data -/
mutual
def toPy : D → PyData
  | .bl b => .bool b
  | .int i => .int i
  | .str x => .str x
  | .lst xs => .list (toPyL xs)
  | .tup xs => .tuple (toPyL xs)
  | _ => .none
def toPyL : List D → List PyData
  | [] => []
  | x :: xs => toPy x :: toPyL xs
end
mutual
/-- plain data, at most n levels of lists and tuples -/
def shD : Nat → D → Bool
  | _, .non => true
  | _, .bl _ => true
  | _, .int _ => true
  | _, .str x => PyData.strOk x
  | n + 1, .lst xs => shDL n xs
  | n + 1, .tup xs => shDL n xs
  | _, _ => false
def shDL : Nat → List D → Bool
  | _, [] => true
  | n, x :: xs => shD n x && shDL n xs
end
mutual
def eqD : D → D → Bool
  | .non, .non => true
  | .bl a, .bl b => a == b
  | .bl a, .int j => (if a then 1 else 0) == j
  | .int i, .bl b => i == (if b then 1 else 0)
  | .int i, .int j => i == j
  | .str x, .str y => x == y
  | .lst xs, .lst ys => eqDL xs ys
  | .tup xs, .tup ys => eqDL xs ys
  | _, _ => false
def eqDL : List D → List D → Bool
  | [], [] => true
  | x :: xs, y :: ys => eqD x y && eqDL xs ys
  | _, _ => false
end
mutual
theorem shD_lay : ∀ (n : Nat) (d : D), shD n d = true → (toPy d).canLay0 = true ∧ (toPy d).depth ≤ n
  | _, .non, _ => ⟨rfl, Nat.zero_le _⟩
  | _, .bl _, _ => ⟨rfl, Nat.zero_le _⟩
  | _, .int _, _ => ⟨rfl, Nat.zero_le _⟩
  | n, .str x, h => ⟨by unfold shD at h; unfold toPy PyData.canLay0; exact h, by unfold toPy PyData.depth; exact Nat.zero_le _⟩
  | n + 1, .lst xs, h => by
    unfold shD at h
    have q := shDL_lay n xs h
    unfold toPy PyData.canLay0 PyData.depth
    exact ⟨q.1, Nat.succ_le_succ q.2⟩
  | n + 1, .tup xs, h => by
    unfold shD at h
    have q := shDL_lay n xs h
    unfold toPy PyData.canLay0 PyData.depth
    exact ⟨q.1, Nat.succ_le_succ q.2⟩
  | 0, .lst xs, h => by simp [shD] at h
  | 0, .tup xs, h => by simp [shD] at h
  | n, .ty _, h => by cases n <;> simp [shD] at h
  | n, .fn _, h => by cases n <;> simp [shD] at h
  | n, .dct _, h => by cases n <;> simp [shD] at h
  | n, .scr _, h => by cases n <;> simp [shD] at h
theorem shDL_lay : ∀ (n : Nat) (ds : List D), shDL n ds = true → PyData.canLayAll0 (toPyL ds) = true ∧ PyData.depthAll (toPyL ds) ≤ n
  | _, [], _ => ⟨rfl, Nat.zero_le _⟩
  | n, d :: ds, h => by
    unfold shDL at h
    rw [Bool.and_eq_true] at h
    have q1 := shD_lay n d h.1
    have q2 := shDL_lay n ds h.2
    unfold toPyL PyData.canLayAll0 PyData.depthAll
    rw [q1.1, q2.1]
    exact ⟨rfl, Nat.max_le.mpr ⟨q1.2, q2.2⟩⟩
end
theorem shD_shaped {d : D} (h : shD 64 d = true) : SeqAt.shaped (toPy d) = true := by
  have q := shD_lay 64 d h
  unfold SeqAt.shaped
  rw [q.1, decide_eq_true q.2]
  rfl
mutual
theorem eqD_eqv : ∀ (n m : Nat) (a b : D), shD n a = true → shD m b = true → PyData.eqv (toPy a) (toPy b) = eqD a b
  | n, m, .lst xs, .lst ys, h1, h2 => by
    cases n with
    | zero => simp [shD] at h1
    | succ n =>
      cases m with
      | zero => simp [shD] at h2
      | succ m =>
        unfold shD at h1 h2
        unfold toPy PyData.eqv eqD
        exact eqDL_eqv n m xs ys h1 h2
  | n, m, .tup xs, .tup ys, h1, h2 => by
    cases n with
    | zero => simp [shD] at h1
    | succ n =>
      cases m with
      | zero => simp [shD] at h2
      | succ m =>
        unfold shD at h1 h2
        unfold toPy PyData.eqv eqD
        exact eqDL_eqv n m xs ys h1 h2
  | n, m, .non, b, h1, h2 => by cases b <;> first | (simp [toPy, PyData.eqv, eqD]; done) | (cases m <;> simp [shD] at h2)
  | n, m, .bl _, b, h1, h2 => by cases b <;> first | (simp [toPy, PyData.eqv, eqD]; done) | (cases m <;> simp [shD] at h2)
  | n, m, .int _, b, h1, h2 => by cases b <;> first | (simp [toPy, PyData.eqv, eqD]; done) | (cases m <;> simp [shD] at h2)
  | n, m, .str _, b, h1, h2 => by cases b <;> first | (simp [toPy, PyData.eqv, eqD]; done) | (cases m <;> simp [shD] at h2)
  | n, m, .ty _, b, h1, h2 => by cases n <;> simp [shD] at h1
  | n, m, .fn _, b, h1, h2 => by cases n <;> simp [shD] at h1
  | n, m, .dct _, b, h1, h2 => by cases n <;> simp [shD] at h1
  | n, m, .scr _, b, h1, h2 => by cases n <;> simp [shD] at h1
  | n, m, .lst _, .non, h1, h2 => by simp [toPy, PyData.eqv, eqD]
  | n, m, .lst _, .bl _, h1, h2 => by simp [toPy, PyData.eqv, eqD]
  | n, m, .lst _, .int _, h1, h2 => by simp [toPy, PyData.eqv, eqD]
  | n, m, .lst _, .str _, h1, h2 => by simp [toPy, PyData.eqv, eqD]
  | n, m, .lst _, .tup _, h1, h2 => by simp [toPy, PyData.eqv, eqD]
  | n, m, .lst _, .ty _, h1, h2 => by cases m <;> simp [shD] at h2
  | n, m, .lst _, .fn _, h1, h2 => by cases m <;> simp [shD] at h2
  | n, m, .lst _, .dct _, h1, h2 => by cases m <;> simp [shD] at h2
  | n, m, .lst _, .scr _, h1, h2 => by cases m <;> simp [shD] at h2
  | n, m, .tup _, .non, h1, h2 => by simp [toPy, PyData.eqv, eqD]
  | n, m, .tup _, .bl _, h1, h2 => by simp [toPy, PyData.eqv, eqD]
  | n, m, .tup _, .int _, h1, h2 => by simp [toPy, PyData.eqv, eqD]
  | n, m, .tup _, .str _, h1, h2 => by simp [toPy, PyData.eqv, eqD]
  | n, m, .tup _, .lst _, h1, h2 => by simp [toPy, PyData.eqv, eqD]
  | n, m, .tup _, .ty _, h1, h2 => by cases m <;> simp [shD] at h2
  | n, m, .tup _, .fn _, h1, h2 => by cases m <;> simp [shD] at h2
  | n, m, .tup _, .dct _, h1, h2 => by cases m <;> simp [shD] at h2
  | n, m, .tup _, .scr _, h1, h2 => by cases m <;> simp [shD] at h2
theorem eqDL_eqv : ∀ (n m : Nat) (a b : List D), shDL n a = true → shDL m b = true → PyData.eqvAll (toPyL a) (toPyL b) = eqDL a b
  | _, _, [], [], _, _ => by simp [toPyL, PyData.eqvAll, eqDL]
  | _, _, [], _ :: _, _, _ => by simp [toPyL, PyData.eqvAll, eqDL]
  | _, _, _ :: _, [], _, _ => by simp [toPyL, PyData.eqvAll, eqDL]
  | n, m, a :: as, b :: bs, h1, h2 => by
    unfold shDL at h1 h2
    rw [Bool.and_eq_true] at h1 h2
    unfold toPyL PyData.eqvAll eqDL
    rw [eqD_eqv n m a b h1.1 h2.1, eqDL_eqv n m as bs h1.2 h2.2]
end
section
variable {K : PySem.W.Frag} {H : Hp}
mutual
theorem Rep.dp : ∀ {n : Nat} {d : D} {v : V} {c s : Cnt}, Rep K H n d v c s → ∀ {m : Nat}, shD m d = true → Dp K H v (toPy d)
  | _, _, _, _, _, .non, _, _ => .non
  | _, _, _, _, _, .bl b, _, _ => .bl b
  | _, _, _, _, _, .int i, _, _ => .int i
  | _, _, _, _, _, .str x, _, _ => .str x
  | _, _, _, _, _, .ty x, m, h => by cases m <;> simp [shD] at h
  | _, _, _, _, _, .fn a, m, h => by cases m <;> simp [shD] at h
  | _, _, _, _, _, .lst0 hh r, m, h => by
    cases m with
    | zero => simp [shD] at h
    | succ m => unfold shD at h; unfold toPy; exact .lst (SqL.of hh) (Reps.dp r h)
  | _, _, _, _, _, .scr o hh, m, h => by cases m <;> simp [shD] at h
  | _, _, _, _, _, .scrK hh, m, h => by cases m <;> simp [shD] at h
  | _, _, _, _, _, .lstS hh r, m, h => by
    cases m with
    | zero => simp [shD] at h
    | succ m => unfold shD at h; unfold toPy; exact .lst (SqL.of hh) (Reps.dp r h)
  | _, _, _, _, _, .tup hh r, m, h => by
    cases m with
    | zero => simp [shD] at h
    | succ m => unfold shD at h; unfold toPy; exact .tup (SqT.of hh) (Reps.dp r h)
  | _, _, _, _, _, .dct0 hh e1 e2 e3 r, m, h => by cases m <;> simp [shD] at h
  | _, _, _, _, _, .dctS hh e1 e2 e3 r, m, h => by cases m <;> simp [shD] at h
theorem Reps.dp : ∀ {n : Nat} {ds : List D} {vs : List V} {c s : Cnt}, Reps K H n ds vs c s → ∀ {m : Nat}, shDL m ds = true → DpAll K H vs (toPyL ds)
  | _, _, _, _, _, .nil, _, _ => by unfold toPyL; exact .nil
  | _, _, _, _, _, .cons a b, m, h => by
    unfold shDL at h
    rw [Bool.and_eq_true] at h
    unfold toPyL
    exact .cons (Rep.dp a h.1) (Reps.dp b h.2)
end
end
def pEq (a b : D) : Option D := if shD 64 a = true ∧ shD 64 b = true then some (.bl (eqD a b)) else none
def pNe (a b : D) : Option D := if shD 64 a = true ∧ shD 64 b = true then some (.bl (!eqD a b)) else none
section
variable {X : Cx} {k : Nat}
theorem p_eq : P2 X (rEqD X.K) k pEq := by
  intro da db d hd x y H sa sb Q ra rb hq
  unfold pEq at hd
  split at hd
  · rename_i h
    cases hd
    have e := eqD_eqv 64 64 da db h.1 h.2
    refine ⟨_, _, ra.dp h.1, rb.dp h.2, shD_shaped h.1, shD_shaped h.2, ?_⟩
    rw [e]
    exact hq _ H z0 z0 (.bl _) .flat
  · cases hd
theorem p_ne : P2 X (rNeD X.K) k pNe := by
  intro da db d hd x y H sa sb Q ra rb hq
  unfold pNe at hd
  split at hd
  · rename_i h
    cases hd
    have e := eqD_eqv 64 64 da db h.1 h.2
    refine ⟨_, _, ra.dp h.1, rb.dp h.2, shD_shaped h.1, shD_shaped h.2, ?_⟩
    rw [e]
    exact hq _ H z0 z0 (.bl _) .flat
  · cases hd
/-! ### is None -/
def isN : D → Bool
  | .non => true
  | _ => false
def pIs (a b : D) : Option D := if isN b = true then some (.bl (isN a)) else none
def pIsNot (a b : D) : Option D := if isN b = true then some (.bl (!isN a)) else none
theorem rep_isN {K : PySem.W.Frag} {H : Hp} {n : Nat} {d : D} {v : V} {c s : Cnt} (r : Rep K H n d v c s) : decide (v = .non) = isN d := by
  cases r <;> simp [isN]
theorem isN_of {d : D} (h : isN d = true) : d = .non := by cases d <;> first | rfl | cases h
theorem p_is : P2 X (fun x y H Q => y = .non ∧ Q (.bl (decide (x = .non))) H) k pIs := by
  intro da db d hd x y H sa sb Q ra rb hq
  unfold pIs at hd
  split at hd
  · rename_i h
    cases hd
    have e := isN_of h
    subst e
    cases rb
    rw [rep_isN ra]
    exact ⟨rfl, hq _ H z0 z0 (.bl _) .flat⟩
  · cases hd
theorem p_isNot : P2 X (fun x y H Q => y = .non ∧ Q (.bl (!decide (x = .non))) H) k pIsNot := by
  intro da db d hd x y H sa sb Q ra rb hq
  unfold pIsNot at hd
  split at hd
  · rename_i h
    cases hd
    have e := isN_of h
    subst e
    cases rb
    rw [rep_isN ra]
    exact ⟨rfl, hq _ H z0 z0 (.bl _) .flat⟩
  · cases hd
/-! ### len -/
def lenD : D → Option Nat
  | .lst ds => some ds.length
  | .scr ns => some ns.length
  | .tup ds => some ds.length
  | .str x => if x.length ≤ 100000 then some x.length else none
  | _ => none
def pLen : List D → Option D
  | [d] => (lenD d).map fun n => .int n
  | _ => none
theorem rep_len {K : PySem.W.Frag} {H : Hp} {n m : Nat} {d : D} {v : V} {c s : Cnt} (r : Rep K H n d v c s) (h : lenD d = some m) : LenV K v H m := by
  cases d with
  | lst ds => cases h; obtain ⟨a, vs, rfl, hh, _, _, _, rs, _, _⟩ := rep_lst r; exact .inl ⟨vs, SqL.of hh, rs.length⟩
  | scr ns => cases h; obtain ⟨a, rfl, hh⟩ := rep_scr r; exact .inl ⟨_, hh, by rw [List.length_map]⟩
  | tup ds => cases h; obtain ⟨a, vs, rfl, hh, rs⟩ := rep_tup r; exact .inr ⟨vs, SqT.of hh, rs.length⟩
  | str x =>
    cases r
    simp only [lenD] at h
    split at h
    · rename_i hl
      cases h
      exact ⟨line5 hl, rfl⟩
    · cases h
  | _ => cases h
theorem n_len : PN X (fun xs H Q => ∃ x n, xs = [x] ∧ LenV X.K x H n ∧ Q (.int n) H) k pLen := by
  intro ds d hd xs H sa Q ra hq
  unfold pLen at hd
  split at hd
  · rename_i d0
    cases e : lenD d0 with
    | none => rw [e] at hd; cases hd
    | some m =>
      rw [e] at hd
      cases hd
      obtain ⟨v, _, _, _, _, _, rfl, rx, rn, _, _⟩ := ra.inv1
      obtain ⟨rfl, _, _⟩ := rn.inv0
      exact ⟨v, m, rfl, rep_len rx e, hq _ H z0 z0 (.int _) .flat⟩
  · cases hd
/-! ### subscripts -/
def pIx (a b : D) : Option D := match a, b with
  | .lst ds, .int i => (ixN ds.length i).bind fun j => ds[j]?
  | .tup ds, .int i => (ixN ds.length i).bind fun j => ds[j]?
  | .scr ns, .int i => (ixN ns.length i).bind fun j => (ns[j]?).map D.int
  | .str z, .int i => if z.length ≤ 100000 then (ixN z.cps.toList.length i).bind fun j => (z.cps.toList[j]?).map fun c => .str ⟨#[c]⟩ else none
  | _, _ => none
theorem New.part {S : Cnt} {H : Hp} {sr : Cnt} (h : ∀ a, 0 < sr a → 0 < S a) : New S H z0 sr H := ⟨fun a h => absurd h (Nat.lt_irrefl 0), fun a ha => .inl (h a ha), fun _ _ h => h, fun a => ⟨Nat.zero_le _, .inl rfl⟩⟩
theorem reps_at {K : PySem.W.Frag} {H : Hp} {ds : List D} {vs : List V} {s : Cnt} (rs : Reps K H 0 ds vs z0 s) {i : Int} {d : D} (h : ((ixN ds.length i).bind fun j => ds[j]?) = some d) : ∃ v si, atI vs i = some v ∧ Rep K H 0 d v z0 si ∧ ∀ a, si a ≤ s a := by
  cases e : ixN ds.length i with
  | none => rw [e] at h; cases h
  | some j =>
    rw [e] at h
    have h : ds[j]? = some d := h
    obtain ⟨v, ci, si, ev, rv, hc, hs⟩ := rs.get h
    have z := rv.zero
    subst z
    refine ⟨v, si, ?_, rv, hs⟩
    unfold atI
    rw [← rs.length, e]
    exact ev
theorem p_ix : P2 X (rIx X.K) 0 pIx := by
  intro da db d hd x y H sa sb Q ra rb hq
  unfold pIx at hd
  split at hd
  · obtain ⟨a, vs, s', rfl, ha, rs, es, _⟩ := rep_lst0 ra
    cases rb
    obtain ⟨v, si, ev, rv, hs⟩ := reps_at rs hd
    exact .inl ⟨a, vs, _, v, rfl, rfl, SqL.of ha, ev, hq v H z0 si rv (.part fun z hz => by have := hs z; subst es; simp only [add_at]; omega)⟩
  · obtain ⟨a, vs, rfl, ha, rs⟩ := rep_tup ra
    cases rb
    obtain ⟨v, si, ev, rv, hs⟩ := reps_at rs hd
    exact .inr (.inl ⟨a, vs, _, v, rfl, rfl, SqT.of ha, ev, hq v H z0 si rv (.part fun z hz => by have := hs z; simp only [add_at]; omega)⟩)
  · rename_i ns i
    obtain ⟨a, rfl, hh⟩ := rep_scr ra
    cases rb
    cases e : ixN ns.length i with
    | none => rw [e] at hd; cases hd
    | some j =>
      rw [e] at hd
      simp only [Option.bind_some] at hd
      cases e2 : ns[j]? with
      | none => rw [e2] at hd; cases hd
      | some m =>
        rw [e2] at hd
        cases hd
        refine .inl ⟨a, _, _, .int m, rfl, rfl, hh, ?_, hq _ H z0 z0 (.int _) .flat⟩
        unfold atI
        rw [List.length_map, e]
        show (ns.map V.int)[j]? = _
        rw [List.getElem?_map, e2]
        rfl
  · rename_i z i
    split at hd
    · rename_i hl
      cases ra
      cases rb
      cases e : ixN z.cps.toList.length i with
      | none => rw [e] at hd; cases hd
      | some j =>
        rw [e] at hd
        simp only [Option.bind_some] at hd
        cases e2 : z.cps.toList[j]? with
        | none => rw [e2] at hd; cases hd
        | some m =>
          rw [e2] at hd
          cases hd
          refine .inr (.inr ⟨z, _, m, rfl, rfl, line5 hl, ?_, hq _ H z0 z0 (.str _) .flat⟩)
          unfold atI
          rw [e]
          exact e2
    · cases hd
  · cases hd
/-! ### isinstance with one built-in class -/
def tyD : D → Option String
  | .non => some "NoneType"
  | .bl _ => some "bool"
  | .int _ => some "int"
  | .str _ => some "str"
  | .lst _ => some "list"
  | .tup _ => some "tuple"
  | .dct _ => some "dict"
  | _ => none
def pIsi : List D → Option D
  | [d, .ty T] => match tyD d with
    | some t => (kitB t T).map D.bl
    | none => none
  | _ => none
theorem rep_tyX {K : PySem.W.Frag} {H : Hp} {n : Nat} {d : D} {v : V} {c s : Cnt} (r : Rep K H n d v c s) {t : String} (h : tyD d = some t) : TyX K H v (.type t) := by
  cases r with
  | non => cases h; exact .base .non
  | bl b => cases h; exact .base (.bl b)
  | int i => cases h; exact .base (.int i)
  | str x => cases h; exact .base (.str x)
  | ty x => cases h
  | fn a => cases h
  | lst0 hh r => cases h; exact .base (.lst hh)
  | scr o hh => cases h
  | scrK hh => cases h
  | lstS hh r => cases h; exact .base (.lst hh)
  | tup hh r => cases h; exact .base (.tup hh)
  | dct0 hh e1 e2 e3 r => cases h; exact .base (.dK hh)
  | dctS hh e1 e2 e3 r => cases h; exact .base (.dK hh)
theorem n_isi : PN X (rIsi X.K) k pIsi := by
  intro ds d hd xs H sa Q ra hq
  unfold pIsi at hd
  split at hd
  · rename_i d0 T
    split at hd
    · rename_i t et
      cases e : kitB t T with
      | none => rw [e] at hd; cases hd
      | some b =>
        rw [e] at hd
        cases hd
        obtain ⟨v, _, _, _, _, _, rfl, rx, rn, _, _⟩ := ra.inv1
        obtain ⟨v2, _, _, _, _, _, rfl, r2, rn2, _, _⟩ := rn.inv1
        obtain ⟨rfl, _, _⟩ := rn2.inv0
        cases r2
        exact ⟨v, .ty T, _, _, b, rfl, .ty T, rep_tyX rx et, kit_ty e, hq _ H z0 z0 (.bl _) .flat⟩
    · cases hd
  · cases hd
/-! ### min, max, abs, int, sum, all, any -/
def pMax2 : List D → Option D
  | [.int i, .int j] => some (.int (if j > i then j else i))
  | _ => none
def pMin2 : List D → Option D
  | [.int i, .int j] => some (.int (if j < i then j else i))
  | _ => none
def pAbs : List D → Option D
  | [.int i] => some (.int (if i < 0 then -i else i))
  | _ => none
def pInt : List D → Option D
  | [.int i] => some (.int i)
  | [.bl b] => some (.int (if b then 1 else 0))
  | _ => none
theorem inv_1 {K : PySem.W.Frag} {H : Hp} {n : Nat} {d : D} {xs : List V} {c s : Cnt} (r : Reps K H n [d] xs c s) : ∃ v s1 c1, xs = [v] ∧ Rep K H n d v c1 s1 ∧ c1 = c ∧ s1 = s := by
  obtain ⟨v, _, c1, s1, c2, s2, rfl, rx, rn, ec, es⟩ := r.inv1
  obtain ⟨rfl, rfl, rfl⟩ := rn.inv0
  exact ⟨v, s1, c1, rfl, rx, by rw [ec, add_z], by rw [es, add_z]⟩
theorem inv_2 {K : PySem.W.Frag} {H : Hp} {n : Nat} {d e : D} {xs : List V} {c s : Cnt} (r : Reps K H n [d, e] xs c s) : ∃ v u c1 s1 c2 s2, xs = [v, u] ∧ Rep K H n d v c1 s1 ∧ Rep K H n e u c2 s2 ∧ c = add c1 c2 ∧ s = add s1 s2 := by
  obtain ⟨v, _, c1, s1, c2, s2, rfl, rx, rn, ec, es⟩ := r.inv1
  obtain ⟨u, s3, c3, rfl, ry, rfl, rfl⟩ := inv_1 rn
  exact ⟨v, u, c1, s1, _, _, rfl, rx, ry, ec, es⟩
theorem n_max2 : PN X (fun xs H Q => ∃ i j, xs = [.int i, .int j] ∧ Q (.int (if j > i then j else i)) H) k pMax2 := by
  intro ds d hd xs H sa Q ra hq
  unfold pMax2 at hd
  split at hd
  · cases hd
    obtain ⟨v, u, _, _, _, _, rfl, r1, r2, _, _⟩ := inv_2 ra
    cases r1; cases r2
    exact ⟨_, _, rfl, hq _ H z0 z0 (.int _) .flat⟩
  · cases hd
theorem n_min2 : PN X (fun xs H Q => ∃ i j, xs = [.int i, .int j] ∧ Q (.int (if j < i then j else i)) H) k pMin2 := by
  intro ds d hd xs H sa Q ra hq
  unfold pMin2 at hd
  split at hd
  · cases hd
    obtain ⟨v, u, _, _, _, _, rfl, r1, r2, _, _⟩ := inv_2 ra
    cases r1; cases r2
    exact ⟨_, _, rfl, hq _ H z0 z0 (.int _) .flat⟩
  · cases hd
theorem n_abs : PN X (fun xs H Q => ∃ i, xs = [.int i] ∧ Q (.int (if i < 0 then -i else i)) H) k pAbs := by
  intro ds d hd xs H sa Q ra hq
  unfold pAbs at hd
  split at hd
  · cases hd
    obtain ⟨v, _, _, rfl, r1, _, _⟩ := inv_1 ra
    cases r1
    exact ⟨_, rfl, hq _ H z0 z0 (.int _) .flat⟩
  · cases hd
theorem n_int : PN X (fun xs H Q => (∃ i, xs = [.int i] ∧ Q (.int i) H) ∨ ∃ k, xs = [.bl k] ∧ Q (.int (if k then 1 else 0)) H) k pInt := by
  intro ds d hd xs H sa Q ra hq
  unfold pInt at hd
  split at hd
  · cases hd
    obtain ⟨v, _, _, rfl, r1, _, _⟩ := inv_1 ra
    cases r1
    exact .inl ⟨_, rfl, hq _ H z0 z0 (.int _) .flat⟩
  · cases hd
    obtain ⟨v, _, _, rfl, r1, _, _⟩ := inv_1 ra
    cases r1
    exact .inr ⟨_, rfl, hq _ H z0 z0 (.int _) .flat⟩
  · cases hd
def intsD : List D → Option (List Int)
  | [] => some []
  | .int i :: ds => (intsD ds).map (i :: ·)
  | _ => none
def blsD : List D → Option (List Bool)
  | [] => some []
  | .bl b :: ds => (blsD ds).map (b :: ·)
  | _ => none
theorem reps_ints {K : PySem.W.Frag} {H : Hp} {n : Nat} : ∀ {ds : List D} {vs : List V} {c s : Cnt}, Reps K H n ds vs c s → ∀ {ns : List Int}, intsD ds = some ns → vs = ns.map V.int
  | [], _, _, _, r, ns, h => by cases h; exact r.inv0.1
  | d :: ds, _, _, _, r, ns, h => by
    obtain ⟨v, vs, _, _, _, _, rfl, rv, rs, _, _⟩ := r.inv1
    cases d with
    | int i =>
      simp only [intsD] at h
      cases e : intsD ds with
      | none => rw [e] at h; cases h
      | some ms =>
        rw [e] at h
        cases h
        cases rv
        rw [reps_ints rs e]
        rfl
    | _ => cases h
theorem reps_bls {K : PySem.W.Frag} {H : Hp} {n : Nat} : ∀ {ds : List D} {vs : List V} {c s : Cnt}, Reps K H n ds vs c s → ∀ {ns : List Bool}, blsD ds = some ns → vs = ns.map V.bl
  | [], _, _, _, r, ns, h => by cases h; exact r.inv0.1
  | d :: ds, _, _, _, r, ns, h => by
    obtain ⟨v, vs, _, _, _, _, rfl, rv, rs, _, _⟩ := r.inv1
    cases d with
    | bl i =>
      simp only [blsD] at h
      cases e : blsD ds with
      | none => rw [e] at h; cases h
      | some ms =>
        rw [e] at h
        cases h
        cases rv
        rw [reps_bls rs e]
        rfl
    | _ => cases h
def pSum : List D → Option D
  | [.lst ds] => (intsD ds).map fun ns => .int ns.sum
  | _ => none
def pAll : List D → Option D
  | [.lst ds] => (blsD ds).map fun ns => .bl (ns.all id)
  | _ => none
def pAny : List D → Option D
  | [.lst ds] => (blsD ds).map fun ns => .bl (ns.any id)
  | _ => none
theorem n_sum : PN X (rSum X.K) k pSum := by
  intro ds d hd xs H sa Q ra hq
  unfold pSum at hd
  split at hd
  · rename_i es
    cases e : intsD es with
    | none => rw [e] at hd; cases hd
    | some ns =>
      rw [e] at hd
      cases hd
      obtain ⟨v, _, _, rfl, r1, _, _⟩ := inv_1 ra
      obtain ⟨a, vs, rfl, ha, _, _, _, rs, _, _⟩ := rep_lst r1
      have q := reps_ints rs e
      subst q
      exact ⟨a, ns, rfl, SqL.of ha, hq _ H z0 z0 (.int _) .flat⟩
  · cases hd
theorem n_all : PN X (rAll X.K) k pAll := by
  intro ds d hd xs H sa Q ra hq
  unfold pAll at hd
  split at hd
  · rename_i es
    cases e : blsD es with
    | none => rw [e] at hd; cases hd
    | some ns =>
      rw [e] at hd
      cases hd
      obtain ⟨v, _, _, rfl, r1, _, _⟩ := inv_1 ra
      obtain ⟨a, vs, rfl, ha, _, _, _, rs, _, _⟩ := rep_lst r1
      have q := reps_bls rs e
      subst q
      exact ⟨a, ns, rfl, SqL.of ha, hq _ H z0 z0 (.bl _) .flat⟩
  · cases hd
theorem n_any : PN X (rAny X.K) k pAny := by
  intro ds d hd xs H sa Q ra hq
  unfold pAny at hd
  split at hd
  · rename_i es
    cases e : blsD es with
    | none => rw [e] at hd; cases hd
    | some ns =>
      rw [e] at hd
      cases hd
      obtain ⟨v, _, _, rfl, r1, _, _⟩ := inv_1 ra
      obtain ⟨a, vs, rfl, ha, _, _, _, rs, _, _⟩ := rep_lst r1
      have q := reps_bls rs e
      subst q
      exact ⟨a, ns, rfl, SqL.of ha, hq _ H z0 z0 (.bl _) .flat⟩
  · cases hd
end
end VL

namespace VL
open PySem PySem.Spec L2

/-! ### new lists, new tuples -/
theorem New.lst {K : PySem.W.Frag} {S s' : Cnt} {H : Hp} {p : Addr} {ds : List D} {vs : List V} (hp : H p = none) (rs : Reps K H 0 ds vs z0 s') (hs : ∀ a, 0 < s' a → 0 < S a) :
    Rep K (L2.upd H p (.lst vs)) 1 (.lst ds) (.ref p) (one p) s' ∧ New S H (one p) s' (L2.upd H p (.lst vs)) := by
  have ke := ex_upd (o := .lst vs) hp
  refine ⟨?_, fun a ha => ?_, fun a ha => .inl (hs a ha), ke, fun a => ?_⟩
  · have q : Rep K (L2.upd H p (.lst vs)) 1 (.lst ds) (.ref p) (add (one p) z0) s' := .lstS upd_same (rs.keep (ex_kp ke))
    rw [add_z] at q
    exact q
  · by_cases e : a = p
    · subst e; exact hp
    · rw [one_ne e] at ha; exact absurd ha (Nat.lt_irrefl 0)
  · by_cases e : a = p
    · subst e
      refine ⟨by rw [one_same]; exact Nat.le_refl _, .inr ?_⟩
      by_cases q : 0 < s' a
      · obtain ⟨o, eo, _⟩ := (rs.dom a).2 q
        rw [hp] at eo; cases eo
      · omega
    · rw [one_ne e]; exact ⟨Nat.zero_le _, .inl rfl⟩
theorem New.tup {K : PySem.W.Frag} {S s' : Cnt} {H : Hp} {p : Addr} {ds : List D} {vs : List V} (hp : H p = none) (rs : Reps K H 0 ds vs z0 s') (hs : ∀ a, 0 < s' a → 0 < S a) :
    Rep K (L2.upd H p (.tup vs)) 0 (.tup ds) (.ref p) z0 s' ∧ New S H z0 s' (L2.upd H p (.tup vs)) := by
  have ke := ex_upd (o := .tup vs) hp
  exact ⟨.tup upd_same (rs.keep (ex_kp ke)), fun a ha => absurd ha (Nat.lt_irrefl 0), fun a ha => .inl (hs a ha), ke, fun a => ⟨Nat.zero_le _, .inl rfl⟩⟩
theorem reps_scr {K : PySem.W.Frag} {H : Hp} {n : Nat} : ∀ ns : List Int, Reps K H n (ns.map D.int) (ns.map V.int) z0 z0
  | [] => .nil
  | i :: ns => by
    have q : Reps K H n (D.int i :: ns.map D.int) (V.int i :: ns.map V.int) (add z0 z0) (add z0 z0) := .cons (.int i) (reps_scr ns)
    rw [add_z] at q
    exact q
section
variable {X : Cx} {F : Fx} {G G1 G2 G3 G4 G' Gt Gs Gn : List Nat} {k k1 k2 k3 kr lv n : Nat} {e a b c tg iter elt : Expr} {es ifs : List Expr} {pos p tpos : Pos} {st : Stmt} {sts : List Stmt}
/-- list(x) -/
def pList : List D → Option D
  | [.lst ds] => some (.lst ds)
  | [.tup ds] => some (.lst ds)
  | [.scr ns] => some (.lst (ns.map D.int))
  | _ => none
theorem n_list : PN X (fun xs H Q => ∃ p ys, xs = [.ref p] ∧ (SqL X.K H p ys ∨ SqT X.K H p ys) ∧ ∀ l, H l = none → Q (.ref l) (L2.upd H l (.lst ys))) 1 pList := by
  intro ds d hd xs H sa Q ra hq
  unfold pList at hd
  split at hd
  · cases hd
    obtain ⟨v, s1, c1, rfl, r1, rfl, rfl⟩ := inv_1 ra
    obtain ⟨a, vs, s', rfl, ha, rs, es, _⟩ := rep_lst0 r1
    refine ⟨a, vs, rfl, .inl (SqL.of ha), fun l hl => ?_⟩
    obtain ⟨q1, q2⟩ := New.lst (S := s1) hl rs (fun z hz => by subst es; simp only [add_at]; omega)
    exact hq _ _ _ _ q1 q2
  · cases hd
    obtain ⟨v, s1, c1, rfl, r1, rfl, rfl⟩ := inv_1 ra
    obtain ⟨a, vs, rfl, ha, rs⟩ := rep_tup r1
    refine ⟨a, vs, rfl, .inr (SqT.of ha), fun l hl => ?_⟩
    obtain ⟨q1, q2⟩ := New.lst (S := s1) hl rs (fun z hz => hz)
    exact hq _ _ _ _ q1 q2
  · cases hd
    obtain ⟨v, s1, c1, rfl, r1, rfl, rfl⟩ := inv_1 ra
    obtain ⟨a, rfl, ha⟩ := rep_scr r1
    refine ⟨a, _, rfl, .inl ha, fun l hl => ?_⟩
    obtain ⟨q1, q2⟩ := New.lst (S := s1) hl (reps_scr (K := X.K) (n := 0) _) (fun z hz => absurd hz (Nat.lt_irrefl 0))
    exact hq _ _ _ _ q1 q2
  · cases hd
/-- list + list, list * int -/
def pCat (a b : D) : Option D := match a, b with
  | .lst xs, .lst ys => if xs.length + ys.length ≤ 100000 then some (.lst (xs ++ ys)) else none
  | _, _ => none
theorem p_cat : P2 X rCat 1 pCat := by
  intro da db d hd x y H sa sb Q ra rb hq
  unfold pCat at hd
  split at hd
  · split at hd
    · rename_i hl
      cases hd
      obtain ⟨a, vs, s', rfl, ha, rs, es, _⟩ := rep_lst0 ra
      obtain ⟨b, us, t', rfl, hb, rt, et, _⟩ := rep_lst0 rb
      refine ⟨a, b, vs, us, rfl, rfl, ha, hb, by rw [← rs.length, ← rt.length]; exact line5 hl, fun l hl => ?_⟩
      have q0 := rt.app rs
      rw [z_add] at q0
      obtain ⟨q1, q2⟩ := New.lst (S := add sa sb) hl q0 (fun z hz => by subst es; subst et; simp only [add_at] at hz ⊢; omega)
      exact hq _ _ _ _ q1 q2
    · cases hd
  · cases hd
def pRep (a b : D) : Option D := match a, b with
  | .lst xs, .int k => if k < 4611686018427387904 ∧ -4611686018427387904 < k ∧ xs.length * k.toNat ≤ 100000 then some (.lst (List.replicate k.toNat xs).flatten) else none
  | _, _ => none
theorem reps_rep {K : PySem.W.Frag} {H : Hp} {ds : List D} {vs : List V} {s : Cnt} (r : Reps K H 0 ds vs z0 s) : ∀ m : Nat, ∃ s', Reps K H 0 (List.replicate m ds).flatten (List.replicate m vs).flatten z0 s' ∧ ∀ a, 0 < s' a → 0 < s a
  | 0 => ⟨z0, .nil, fun a h => absurd h (Nat.lt_irrefl 0)⟩
  | m + 1 => by
    obtain ⟨s', r', h⟩ := reps_rep r m
    have q := r'.app r
    rw [z_add] at q
    refine ⟨add s s', ?_, fun a ha => ?_⟩
    · rw [List.replicate_succ, List.replicate_succ, List.flatten_cons, List.flatten_cons]; exact q
    · have := h a; simp only [add_at] at ha; omega
theorem p_rep : P2 X rRep 1 pRep := by
  intro da db d hd x y H sa sb Q ra rb hq
  unfold pRep at hd
  split at hd
  · split at hd
    · rename_i h
      cases hd
      obtain ⟨a, vs, s', rfl, ha, rs, es, _⟩ := rep_lst0 ra
      cases rb
      refine ⟨a, _, vs, rfl, rfl, ha, by omega, by omega, by rw [← rs.length]; exact line5 h.2.2, fun l hl => ?_⟩
      obtain ⟨s2, r2, h2⟩ := reps_rep rs _
      obtain ⟨q1, q2⟩ := New.lst (S := add sa z0) hl r2 (fun z hz => by have := h2 z hz; subst es; simp only [add_at]; omega)
      exact hq _ _ _ _ q1 q2
    · cases hd
  · cases hd
/-! ### slices -/
def cutX {α : Type} (xs : List α) (lo hi : Option Int) : List α := (xs.drop (HT.sIx xs.length 0 lo)).take (HT.sIx xs.length xs.length hi - HT.sIx xs.length 0 lo)
def pSl (d : D) (lo hi : Option Int) : Option D := match d with
  | .lst ds => some (.lst (cutX ds lo hi))
  | .scr ns => some (.lst ((cutX ns lo hi).map D.int))
  | .str z => if z.length ≤ 100000 then some (.str (cutS z lo hi)) else none
  | _ => none
structure PO1 (X : Cx) (F : Fx) (G G' : List Nat) (o : Option Expr) (f : Rho → R (Option Int)) : Prop where
  go : ∃ t, PO X o t ∧ ∀ σ H r c s (Q : Option Int → Hp → Prop), SR X.K H G r σ c s → Ok c s → OutX X F c s H σ (fun i r1 => ∀ H' c1 s1, SR X.K H' G' r1 σ c1 s1 → Step c s H c1 s1 H' → Q i H') (f r) → t σ H Q
theorem o_none : PO1 X F G G none (fun r => .ok none r) := ⟨_, po_none, fun σ H r c s Q sr ok h => h H c s sr (.refl ok)⟩
def asI : D → Option (Option Int)
  | .int i => some (some i)
  | _ => none
theorem o_some {f : Rho → R D} (A : PV X F G G1 k e f) : PO1 X F G G1 (some e) (fun r => (f r).bind fun d r1 => lift (asI d) r1) := by
  obtain ⟨t, ht, q⟩ := A.go
  refine ⟨_, po_some ht, fun σ H r c s Q sr ok h => q σ H r c s _ sr ok (h.bind1.mono fun d r1 ⟨i, hi, h2⟩ => ?_)⟩
  intro v H' c1 s1 cr sr' x rp st
  cases d with
  | int i' =>
    cases hi
    cases rp
    simp only [add_z] at st
    exact ⟨_, rfl, h2 H' c1 s1 x st⟩
  | _ => cases hi
theorem cutX_map {α β : Type} (f : α → β) (xs : List α) (lo hi : Option Int) : cutX (xs.map f) lo hi = (cutX xs lo hi).map f := by
  unfold cutX
  rw [List.length_map, List.map_take, List.map_drop]
def dSl (fe : Rho → R D) (fl fh : Rho → R (Option Int)) : Rho → R D := fun r => (fe r).bind fun d r1 => (fl r1).bind fun lo r2 => (fh r2).bind fun hi r3 => lift (pSl d lo hi) r3
theorem v_slice {lo hi : Option Expr} {fe : Rho → R D} {fl fh : Rho → R (Option Int)} {p2 : Pos} (A0 : PV X F G G1 k e fe) (L : PO1 X F G1 G2 lo fl) (U : PO1 X F G2 G3 hi fh) :
    PV X F G G3 1 (.Subscript e (.Slice lo hi none p2) pos) (dSl fe fl fh) := by
  have A := A0.weak (Nat.zero_le k)
  obtain ⟨t, ht, q⟩ := A.go
  obtain ⟨tl, hl, ql⟩ := L.go
  obtain ⟨tu, hu, qu⟩ := U.go
  refine ⟨_, pe_slice (sl_list.or sl_str) ht hl hu, fun σ H r c s Q sr ok h => q σ H r c s _ sr ok (h.bind.mono fun d r1 h1 => ?_)⟩
  intro v H1 c1 s1 cr sa x1 rp st
  have z := rp.zero
  subst z
  simp only [add_z] at st
  have ok1 : Ok c1 s1 := fun z => by have := st.ok z; simp only [add_at] at this; omega
  have st1 : Step c s H c1 s1 H1 := st.less (fun z => by omega) (fun z hz => by simp only [add_at]; omega)
  refine ql σ H1 r1 c1 s1 _ x1 ok1 (h1.bind.imp st1 fun lo r2 h2 => ?_)
  intro H2 c2 s2 x2 st2
  refine qu σ H2 r2 c2 s2 _ x2 st2.ok (h2.bind.imp (st1.trans st2) fun hi r3 h3 => ?_)
  intro H3 c3 s3 x3 st3
  have st23 := st2.trans st3
  have okf : Ok (add c1 z0) (add s1 sa) := by rw [add_z]; exact st.ok
  have rp3 := rp.keep (st23.aside okf)
  have stf := st.trans (by have q := st23.frame (cf := z0) (sf := sa) okf rp.dom; rw [add_z, add_z] at q; exact q)
  have dm : Dom c3 (add s3 sa) H3 := by have q := x3.dom.add rp3.dom; rw [add_z] at q; exact q
  cases d with
  | lst ds =>
    obtain ⟨a, vs, s', rfl, ha, rs, es, _⟩ := rep_lst0 rp3
    refine .inl ⟨a, vs, rfl, SqL.of ha, fun l hl => ?_⟩
    obtain ⟨ca, sa', cb, sb, _, r5, e1, e2⟩ := rs.take (HT.sIx ds.length 0 lo)
    obtain ⟨ca2, sa2, cb2, sb2, r6, _, e3, e4⟩ := r5.take (HT.sIx ds.length ds.length hi - HT.sIx ds.length 0 lo)
    have hz := r6.zero
    subst hz
    have hcut : cutV vs lo hi = ((vs.drop (HT.sIx ds.length 0 lo)).take (HT.sIx ds.length ds.length hi - HT.sIx ds.length 0 lo)) := by unfold cutV; rw [rs.length]
    rw [hcut]
    obtain ⟨q1, q2⟩ := New.lst (S := sa) hl r6 (fun z hz => by subst es; subst e2; subst e4; simp only [add_at]; omega)
    exact h3 _ _ c3 s3 _ _ (x3.keep (ex_kp q2.keep)) q1 (stf.new dm (fun z hz => by simp only [add_at]; omega) (fun z hz => by simp only [add_at]; omega) q2)
  | scr ns =>
    obtain ⟨a, rfl, ha⟩ := rep_scr rp3
    refine .inl ⟨a, _, rfl, ha, fun l hl => ?_⟩
    have e : cutV (ns.map V.int) lo hi = (cutX ns lo hi).map V.int := cutX_map _ _ _ _
    rw [e]
    obtain ⟨q1, q2⟩ := New.lst (S := sa) hl (reps_scr (K := X.K) (n := 0) (cutX ns lo hi)) (fun z hz => absurd hz (Nat.lt_irrefl 0))
    exact h3 _ _ c3 s3 _ _ (x3.keep (ex_kp q2.keep)) q1 (stf.new dm (fun z hz => by simp only [add_at]; omega) (fun z hz => by simp only [add_at]; omega) q2)
  | str z =>
    by_cases hl : z.length ≤ 100000
    · simp only [pSl, if_pos hl, lift_some] at h3
      cases rp3
      exact .inr ⟨z, rfl, line5 hl, h3 _ H3 c3 s3 z0 z0 x3 (.str _) (by simp only [add_z]; exact stf.less (fun _ => Nat.le_refl _) (fun a ha => by simp only [add_at]; omega))⟩
    · simp only [pSl, if_neg hl, lift_none] at h3
      exact False.elim h3
  | _ => exact False.elim h3
/-- x[::-1] -/
def pRevL : D → Option D
  | .lst ds => some (.lst ds.reverse)
  | .scr ns => some (.lst (ns.reverse.map D.int))
  | _ => none
theorem v_revL {fe : Rho → R D} {kk : Nat} {p1 p2 p3 : Pos} (A0 : PV X F G G1 k e fe) : PV X F G G1 1 (.Subscript e (.Slice none none (some (.UnaryOp .USub (.Constant (.int 1) kk p1) p2)) p3) pos) (d1 pRevL fe) := by
  have A := A0.weak (Nat.zero_le k)
  obtain ⟨t, ht, q⟩ := A.go
  refine ⟨_, pe_revL ht, fun σ H r c s Q sr ok h => q σ H r c s _ sr ok (h.bind1.mono fun d r1 h1 => ?_)⟩
  obtain ⟨dd, hd, h1⟩ := h1
  intro v H1 c1 s1 cr sa x1 rp st
  have z := rp.zero
  subst z
  simp only [add_z] at st
  have dm : Dom c1 (add s1 sa) H1 := by have q := x1.dom.add rp.dom; rw [add_z] at q; exact q
  cases d with
  | lst ds =>
    cases hd
    obtain ⟨a, vs, s', rfl, ha, rs, es, _⟩ := rep_lst0 rp
    refine ⟨a, vs, rfl, SqL.of ha, fun l hl => ?_⟩
    obtain ⟨q1, q2⟩ := New.lst (S := sa) hl rs.rev (fun z hz => by subst es; simp only [add_at]; omega)
    exact h1 _ _ c1 s1 _ _ (x1.keep (ex_kp q2.keep)) q1 (st.new dm (fun z hz => by simp only [add_at]; omega) (fun z hz => by simp only [add_at]; omega) q2)
  | scr ns =>
    cases hd
    obtain ⟨a, rfl, ha⟩ := rep_scr rp
    refine ⟨a, _, rfl, ha, fun l hl => ?_⟩
    rw [← List.map_reverse]
    obtain ⟨q1, q2⟩ := New.lst (S := sa) hl (reps_scr (K := X.K) (n := 0) ns.reverse) (fun z hz => absurd hz (Nat.lt_irrefl 0))
    exact h1 _ _ c1 s1 _ _ (x1.keep (ex_kp q2.keep)) q1 (st.new dm (fun z hz => by simp only [add_at]; omega) (fun z hz => by simp only [add_at]; omega) q2)
  | _ => cases hd
/-- divmod -/
def pDivmod : List D → Option D
  | [.int i, .int j] => if divOk j = true then some (.tup [.int (i / j), .int (i % j)]) else none
  | _ => none
theorem n_divmod : PN X (fun xs H Q => ∃ i j, xs = [.int i, .int j] ∧ CDivP i j ∧ ∀ p, H p = none → Q (.ref p) (L2.upd H p (.tup [.int (i / j), .int (i % j)]))) 0 pDivmod := by
  intro ds d hd xs H sa Q ra hq
  unfold pDivmod at hd
  split at hd
  · split at hd
    · rename_i i j hc
      cases hd
      obtain ⟨v, u, _, _, _, _, rfl, r1, r2, _, _⟩ := inv_2 ra
      cases r1; cases r2
      unfold divOk at hc
      simp only [Bool.and_eq_true, Bool.or_eq_true, decide_eq_true_eq] at hc
      refine ⟨_, _, rfl, ⟨hc.1, ?_⟩, fun p hp => ?_⟩
      · rcases hc.2 with h | h
        · exact PyProof.noPylong_small (by have := hc.1; omega)
        · exact PyProof.noPylong_of_log2 h
      · have rr : Reps X.K H 0 [.int (i / j), .int (i % j)] [.int (i / j), .int (i % j)] (add z0 (add z0 z0)) (add z0 (add z0 z0)) := .cons (.int _) (.cons (.int _) .nil)
        simp only [add_z] at rr
        obtain ⟨q1, q2⟩ := New.tup (S := sa) hp rr (fun z hz => absurd hz (Nat.lt_irrefl 0))
        exact hq _ _ _ _ q1 q2
    · cases hd
  · cases hd
/-! ### a op b op c -/
def chD (g1 g2 : D → D → Option D) (fa fb fc : Rho → R D) : Rho → R D := fun r => (fa r).bind fun da r1 => (fb r1).bind fun db r2 =>
  if flat db = true then (match g1 da db with
    | some (.bl true) => (fc r2).bind fun dc r3 => lift (g2 db dc) r3
    | some (.bl false) => .ok (.bl false) r2
    | _ => .no) else .no
theorem ch_run {op op' : CmpOp} {r1 r2 : R2} {g1 g2 : D → D → Option D} {fa fb fc : Rho → R D} (A0 : PV X F G G1 k1 a fa) (B0 : PV X F G1 G2 k2 b fb) (C0 : PV X F G2 G3 k3 c fc) (pr1 : P2 X r1 0 g1) (pr2 : P2 X r2 0 g2) (hg : LeG G3 G2) :
    ∃ ta tb tc, PE X a ta ∧ PE X b tb ∧ PE X c tc ∧ ∀ σ H r c s (Q : VK), SR X.K H G r σ c s → Ok c s → OutX X F c s H σ (OkE X G3 0 c s H σ Q) (chD g1 g2 fa fb fc r) → tChain r1 r2 ta tb tc σ H Q := by
  have A := A0.weak (Nat.zero_le k1)
  have B := B0.weak (Nat.zero_le k2)
  have C := C0.weak (Nat.zero_le k3)
  obtain ⟨ta, tb, ha, hb, q⟩ := two A B
  obtain ⟨tc, hc, qc⟩ := C.go
  refine ⟨ta, tb, tc, ha, hb, hc, fun σ H r c s Q sr ok h => q σ H r c s (fun x y H2 => r1 x y H2 fun z H3 => ∃ k, z = .bl k ∧ (if k = true then tc σ H3 fun w' H4 => r2 y w' H4 Q else Q (.bl false) H3)) sr ok ?_⟩
  have h' : OutX X F c s H σ (fun (p : D × D) r2 => OutX X F c s H σ (OkE X G3 0 c s H σ Q) (if flat p.2 = true then (match g1 p.1 p.2 with
      | some (.bl true) => (fc r2).bind fun dc r3 => lift (g2 p.2 dc) r3
      | some (.bl false) => .ok (.bl false) r2
      | _ => .no) else .no)) ((fa r).bind fun da r1 => (fb r1).bind fun db r2 => .ok (da, db) r2) := by
    unfold chD at h
    cases e1 : fa r with
    | no => rw [e1] at h; exact h
    | ex n d r1 => rw [e1] at h; exact h
    | ok da r1 =>
      rw [e1] at h
      show OutX X F c s H σ _ ((fb r1).bind fun db r2 => .ok (da, db) r2)
      have h : OutX X F c s H σ _ ((fb r1).bind fun db r2 => _) := h
      cases e2 : fb r1 with
      | no => rw [e2] at h; exact h
      | ex n d r2 => rw [e2] at h; exact h
      | ok db r2 => rw [e2] at h; exact h
  refine h'.mono fun ⟨da, db⟩ r2' h2 => ?_
  intro x y H2 c2 s2 ca sa cb sb srx rpa rpb st
  have ea := rpa.zero; have eb := rpb.zero
  subst ea; subst eb
  simp only [add_z] at st
  by_cases hf : flat db = true
  · simp only [if_pos hf] at h2
    have st0 : Step c s H c2 s2 H2 := st.less (fun _ => Nat.le_refl _) (fun z hz => by simp only [add_at]; omega)
    cases e : g1 da db with
    | none => simp only [e] at h2; exact False.elim h2
    | some dz =>
      refine pr1 da db dz e x y H2 sa sb _ rpa rpb fun v H3 cr sr' rp n => ?_
      cases dz with
      | bl bb =>
        cases rp
        have dm : Dom (add (add c2 z0) z0) (add (add s2 sb) sa) H2 := (srx.dom.add rpb.dom).add rpa.dom
        simp only [add_z] at dm
        have st3 := st.new (s2 := s2) (S := add sa sb) dm (fun z hz => by simp only [add_at]; omega) (fun z hz => by simp only [add_at] at hz ⊢; omega) n
        simp only [add_z] at st3
        have srx3 := srx.keep (ex_kp n.keep)
        refine ⟨bb, rfl, ?_⟩
        cases bb with
        | false =>
          simp only [e] at h2
          rw [if_neg Bool.false_ne_true]
          obtain ⟨c', s', x', w⟩ := srx3.wk hg
          exact h2 (.bl false) H3 c' s' z0 z0 x' (.bl false) (by simp only [add_z]; exact st3.wk w)
        | true =>
          simp only [e] at h2
          rw [if_pos rfl]
          refine qc σ H3 r2' c2 s2 _ srx3 st3.ok (h2.bind1.imp st3 fun dc r3 ⟨z, hz, h3⟩ => ?_)
          intro w' H4 c4 s4 cw sw x4 rpw st4
          have ez := rpw.zero
          subst ez
          simp only [add_z] at st4
          have rpb4 : Rep X.K H4 0 db y z0 z0 := rpb.flatZ hf
          refine pr2 db dc z hz y w' H4 z0 sw Q rpb4 rpw fun v H5 cr sr' rp5 n5 => ?_
          have dm4 : Dom (add c4 z0) (add s4 sw) H4 := x4.dom.add rpw.dom
          simp only [add_z] at dm4
          exact h3 v H5 c4 s4 cr sr' (x4.keep (ex_kp n5.keep)) rp5 ((st3.trans st4).new dm4 (fun z hz => by simp only [add_at]; omega) (fun z hz => by simp only [add_at, z_at] at hz ⊢; omega) n5)
      | _ => simp only [e] at h2; exact False.elim h2
  · simp only [if_neg hf] at h2
    exact False.elim h2
theorem v_ch {op op' : CmpOp} {r1 r2 : R2} {g1 g2 : D → D → Option D} {fa fb fc : Rho → R D} (A : PV X F G G1 k1 a fa) (B : PV X F G1 G2 k2 b fb) (C : PV X F G2 G3 k3 c fc) (ho : OpR X (compareOp op) r1) (pr1 : P2 X r1 0 g1) (ho' : OpR X (compareOp op') r2) (pr2 : P2 X r2 0 g2) (hg : leG G3 G2 = true := by rfl)
    (hm : lastMarks [op, op'] [b, c] = false := by with_unfolding_all rfl) : PV X F G G3 0 (.Compare a [op, op'] [b, c] pos) (chD g1 g2 fa fb fc) := by
  obtain ⟨ta, tb, tc, ha, hb, hc, q⟩ := ch_run (op := op) (op' := op') A B C pr1 pr2 (LeG.of hg)
  exact ⟨_, pe_chain ho ho' ha hb hc hm, q⟩
theorem b_ch {op op' : CmpOp} {r1 r2 : R2} {g1 g2 : D → D → Option D} {fa fb fc : Rho → R D} (A : PV X F G G1 k1 a fa) (B : PV X F G1 G2 k2 b fb) (C : PV X F G2 G3 k3 c fc) (ho : OpR X (compareOp op) r1) (pr1 : P2 X r1 0 g1) (ho' : OpR X (compareOp op') r2) (pr2 : P2 X r2 0 g2) (hg : leG G3 G2 = true := by rfl)
    (hm : lastMarks [op, op'] [b, c] = false := by with_unfolding_all rfl) : PB X F G G3 (.Compare a [op, op'] [b, c] pos) (dB (chD g1 g2 fa fb fc)) := by
  obtain ⟨ta, tb, tc, ha, hb, hc, q⟩ := ch_run (op := op) (op' := op') A B C pr1 pr2 (LeG.of hg)
  exact ⟨_, pt_chain ho ho' ha hb hc hm, fun σ H r c s Q sr ok h => q σ H r c s _ sr ok (okE_b h)⟩
/-! ### enumerate, zip -/
def enumL : Nat → List D → List D
  | _, [] => []
  | i, d :: ds => .tup [.int (i : Nat), d] :: enumL (i + 1) ds
theorem enumL_len : ∀ (i : Nat) (ds : List D), (enumL i ds).length = ds.length
  | _, [] => rfl
  | i, _ :: ds => congrArg (· + 1) (enumL_len (i + 1) ds)
theorem enumL_get : ∀ (i : Nat) (ds : List D) (j : Nat) (x : D), (enumL i ds)[j]? = some x → ∃ d, ds[j]? = some d ∧ x = .tup [.int ((i + j : Nat) : Int), d]
  | _, [], _, _, h => by simp [enumL] at h
  | i, d :: ds, 0, x, h => by
    simp only [enumL, List.getElem?_cons_zero, Option.some.injEq] at h
    exact ⟨d, rfl, h.symm⟩
  | i, d :: ds, j + 1, x, h => by
    obtain ⟨d', h1, h2⟩ := enumL_get (i + 1) ds j x (by simpa [enumL] using h)
    refine ⟨d', by simpa using h1, ?_⟩
    rw [h2, show i + 1 + j = i + (j + 1) by omega]
def enumD : List D → Option (List D)
  | [.lst ds] => some (enumL 0 ds)
  | _ => none
def zipD : List D → Option (List D)
  | [.lst xs, .lst ys] => some (List.zipWith (fun x y => .tup [x, y]) xs ys)
  | _ => none
theorem tup2_new {K : PySem.W.Frag} {H : Hp} {T : Addr} {d e : D} {x y : V} {s1 s2 : Cnt} (hT : H T = none) (r1 : Rep K H 0 d x z0 s1) (r2 : Rep K H 0 e y z0 s2) : Rep K (L2.upd H T (.tup [x, y])) 0 (.tup [d, e]) (.ref T) z0 (add s1 s2) := by
  have ke := ex_upd (o := .tup [x, y]) hT
  have rr : Reps K H 0 [d, e] [x, y] (add z0 (add z0 z0)) (add s1 (add s2 z0)) := .cons r1 (.cons r2 .nil)
  simp only [add_z] at rr
  exact .tup upd_same (rr.keep (ex_kp ke))
theorem it_enum {elts : List Expr} {kk : Nat} {f : Rho → R (List D)} (A0 : PL X F G G1 k [a] f) (hg : Gl X "enumerate") (hm : X.mg "enumerate" = none) (hs : starEach [a] X.env = [(false, eval a X.env)] := by rfl) :
    PIt X F G G1 (.Tuple elts kk tpos) (.Call (.Name "enumerate" p) [a] [] pos) (fun r => (f r).bind fun ds r1 => lift (enumD ds) r1) := by
  obtain ⟨t, ht, q⟩ := (l_weak A0).go
  refine ⟨_, pi_enum hg hm ht hs, fun σ H r c s Rr sr ok h => q σ H r c s _ sr ok (h.bind1.mono fun ds r1 h2 => ?_)⟩
  obtain ⟨is, hd, h2⟩ := h2
  intro vs H1 c1 s1 cr sI x rp st
  unfold enumD at hd
  split at hd
  · rename_i ds
    cases hd
    obtain ⟨v, s2, c2, rfl, r2, rfl, rfl⟩ := inv_1 rp
    have z := r2.zero
    subst z
    simp only [add_z] at st
    obtain ⟨a, vs, s', rfl, ha, rs, _, _⟩ := rep_lst0 r2
    refine ⟨a, vs, rfl, SqL.of ha, h2 _ H1 c1 s1 s2 (fun H => Rep X.K H 0 (.lst ds) (.ref a) z0 s2) x ⟨fun H H' w k => w.keep k, fun H w => w.dom, fun H i w hi => ?_, fun H i y H' d w hd hy => ?_, fun H w => ?_⟩ r2 st⟩
    · obtain ⟨a', vs', s2, e, ha', rs', _, _⟩ := rep_lst0 w
      cases e
      rw [enumL_len] at hi
      have hl := rs'.length
      exact ⟨vs', vs'[i], SqL.of ha', by simp [← hl, hi]⟩
    · obtain ⟨a', vs', s2, e, ha', rs', es, _⟩ := rep_lst0 w
      cases e
      obtain ⟨d', hd', rfl⟩ := enumL_get 0 ds i d hd
      obtain ⟨u, ci, si, eu, ru, h1, h3⟩ := rs'.get hd'
      obtain ⟨T, y', rfl, hT, rfl, hy⟩ := hy
      have e2 := hy vs' (SqL.of ha')
      rw [eu] at e2
      cases e2
      have zz := ru.zero
      subst zz
      rw [show ((0 + i : Nat) : Int) = (i : Nat) by rw [Nat.zero_add]]
      refine ⟨add z0 si, tup2_new hT (.int _) ru, fun z hz => ?_, ex_upd hT⟩
      rw [es]
      have := h3 z
      simp only [add_at, z_at] at hz ⊢
      omega
    · obtain ⟨a', vs', s2, e, ha', rs', _, _⟩ := rep_lst0 w
      cases e
      exact ⟨vs', SqL.of ha', by rw [enumL_len, rs'.length]; exact Nat.le_refl _⟩
  · cases hd
theorem zip_get {xs ys : List D} {i : Nat} {d : D} (h : (List.zipWith (fun x y => D.tup [x, y]) xs ys)[i]? = some d) : ∃ x y, xs[i]? = some x ∧ ys[i]? = some y ∧ d = .tup [x, y] := by
  rw [List.getElem?_zipWith] at h
  cases e1 : xs[i]? with
  | none => rw [e1] at h; cases h
  | some x =>
    cases e2 : ys[i]? with
    | none => rw [e1, e2] at h; cases h
    | some y =>
      rw [e1, e2] at h
      exact ⟨x, y, rfl, rfl, (Option.some.inj h).symm⟩
theorem it_zip {elts : List Expr} {kk : Nat} {f : Rho → R (List D)} (A0 : PL X F G G1 k [a, b] f) (hg : Gl X "zip") (hm : X.mg "zip" = none) (hs : starEach [a, b] X.env = (false, eval a X.env) :: starEach [b] X.env := by rfl) (hpl : (backTo pos (starEach [b] X.env)).any (·.1) = false := by rfl) :
    PIt X F G G1 (.Tuple elts kk tpos) (.Call (.Name "zip" p) [a, b] [] pos) (fun r => (f r).bind fun ds r1 => lift (zipD ds) r1) := by
  obtain ⟨t, ht, q⟩ := (l_weak A0).go
  refine ⟨_, pi_zip hg hm ht hs hpl, fun σ H r c s Rr sr ok h => q σ H r c s _ sr ok (h.bind1.mono fun ds r1 h2 => ?_)⟩
  obtain ⟨is, hd, h2⟩ := h2
  intro vs H1 c1 s1 cr sI x rp st
  unfold zipD at hd
  split at hd
  · rename_i xs ys
    cases hd
    obtain ⟨v, u, ca, sa, cb, sb, rfl, ra, rb, rfl, rfl⟩ := inv_2 rp
    have z := ra.zero
    have z2 := rb.zero
    subst z; subst z2
    simp only [add_z] at st
    obtain ⟨a, vs, s', rfl, ha, rs, _, _⟩ := rep_lst0 ra
    obtain ⟨b, us, t', rfl, hb, rt, _, _⟩ := rep_lst0 rb
    refine ⟨a, b, vs, us, rfl, SqL.of ha, SqL.of hb, h2 _ H1 c1 s1 (add sa sb) (fun H => Rep X.K H 0 (.lst xs) (.ref a) z0 sa ∧ Rep X.K H 0 (.lst ys) (.ref b) z0 sb) x
      ⟨fun H H' w k => ⟨w.1.keep (Kp.left (c1 := z0) (c2 := z0) (by rw [add_z]; exact k)), w.2.keep (Kp.right (c1 := z0) (c2 := z0) (by rw [add_z]; exact k))⟩, fun H w => by have q := w.1.dom.add w.2.dom; rw [add_z] at q; exact q, fun H i w hi => ?_, fun H i y H' d w hd hy => ?_, fun H w => ?_⟩ ⟨ra, rb⟩ st⟩
    · obtain ⟨a', vs', s2, e, ha', rs', _, _⟩ := rep_lst0 w.1
      obtain ⟨b', us', t2, e', hb', rt', _, _⟩ := rep_lst0 w.2
      cases e; cases e'
      rw [List.length_zipWith] at hi
      have hl := rs'.length
      have hl2 := rt'.length
      have h1 : i < vs'.length := by omega
      have h2 : i < us'.length := by omega
      exact ⟨vs', us', vs'[i], us'[i], SqL.of ha', SqL.of hb', List.getElem?_eq_getElem h1, List.getElem?_eq_getElem h2⟩
    · obtain ⟨a', vs', s2, e, ha', rs', es, _⟩ := rep_lst0 w.1
      obtain ⟨b', us', t2, e', hb', rt', et, _⟩ := rep_lst0 w.2
      cases e; cases e'
      obtain ⟨d1, d2, hd1, hd2, rfl⟩ := zip_get hd
      obtain ⟨u1, c1', si, eu, ru, h1, h3⟩ := rs'.get hd1
      obtain ⟨u2, c2', sj, eu2, ru2, h4, h5⟩ := rt'.get hd2
      obtain ⟨T, x', y', rfl, hT, rfl, hx, hy⟩ := hy
      have e2 := hx vs' (SqL.of ha')
      rw [eu] at e2
      cases e2
      have e3 := hy us' (SqL.of hb')
      rw [eu2] at e3
      cases e3
      have zz := ru.zero
      subst zz
      have zz2 := ru2.zero
      subst zz2
      refine ⟨add si sj, tup2_new hT ru ru2, fun z hz => ?_, ex_upd hT⟩
      have := h3 z
      have := h5 z
      rw [es, et]
      simp only [add_at] at hz ⊢
      omega
    · obtain ⟨a', vs', s2, e, ha', rs', _, _⟩ := rep_lst0 w.1
      obtain ⟨b', us', t2, e', hb', rt', _, _⟩ := rep_lst0 w.2
      cases e; cases e'
      refine ⟨vs', us', SqL.of ha', SqL.of hb', ?_⟩
      rw [List.length_zipWith, rs'.length, rt'.length]
      omega
  · cases hd
/-- a, b, .. = a list -/
theorem g_lst {kk : Nat} {gs : List D → Rho → Option Rho} {n : Nat} (hc : X.calm = true) (A : PTgs X F G G1 es gs) (hn : (assignEach es X.env).length = n := by rfl) (hst : (assignEach es X.env).findIdx? (·.1) = none := by rfl) :
    PTg X F G G1 (.Tuple es kk pos) (fun d r => match d with | .lst ds => if ds.length = n then gs ds r else none | _ => none) := by
  obtain ⟨t, ht, q⟩ := A.go
  refine ⟨_, pg_lst hc ht hn hst, fun v0 σ H r c s d x sx Q r1 sr ok rp pr hg h => ?_⟩
  cases d with
  | lst ds =>
    obtain ⟨a, vs, s', rfl, ha, rs, es, _⟩ := rep_lst0 rp
    have hg : (if ds.length = n then gs ds r else none) = some r1 := hg
    by_cases hl : ds.length = n
    · rw [if_pos hl] at hg
      refine ⟨a, vs, rfl, SqL.of ha, by rw [← rs.length]; exact hl, q v0 σ H r c s ds vs s' Q r1 sr (fun z => by have := ok z; subst es; simp only [add_at] at this ⊢; omega) rs pr hg fun σ' c' s4 x' p' st => h σ' c' s4 x' p' ?_⟩
      have st0 : Step c (add s sx) H c (add s s') H := (Step.refl ok).less (fun _ => Nat.le_refl _) (fun z hz => by subst es; simp only [add_at] at hz ⊢; omega)
      exact st0.trans st
    · rw [if_neg hl] at hg
      cases hg
  | _ => cases hg
end
end VL

namespace VL
open PySem PySem.Spec L2
section
variable {X : Cx} {F : Fx} {G G1 G2 G3 G4 G' Gt Gs Gn : List Nat} {k k1 k2 k3 kr lv n : Nat} {e a b c tg iter elt : Expr} {es ifs : List Expr} {pos p tpos apos cpos : Pos} {st : Stmt} {sts : List Stmt}
def atD (o : Option D) (j : Int) : Option (List D × Nat × List D) := match o with
  | some (.lst ds) => (match ixN ds.length j with
    | some m => (match ds[m]? with
      | some (.lst es) => some (ds, m, es)
      | _ => none)
    | none => none)
  | _ => none
theorem atD_of {o : Option D} {j : Int} {ds es : List D} {m : Nat} (h : atD o j = some (ds, m, es)) : o = some (.lst ds) ∧ ixN ds.length j = some m ∧ ds[m]? = some (.lst es) := by
  unfold atD at h
  split at h
  · split at h
    · rename_i hk
      split at h
      · rename_i he
        cases h
        exact ⟨rfl, hk, he⟩
      · cases h
    · cases h
  · cases h
def muIx (i : Nat) (ds : List D) (m : Nat) (o : Option (D × List D)) (r1 : Rho) : R D := match o with
  | some (d, es') => if i < r1.length ∧ rget r1 i = none then .ok d (r1.set i (some (.lst (ds.set m (.lst es'))))) else .no
  | none => .no
/-- x[j].m(args), the lists at x and at x[j] owned; the arguments do not reach x -/
def dMutIx (i : Nat) (j : Int) (h : List D → List D → Option (D × List D)) (fa : Rho → R (List D)) : Rho → R D := fun r => match atD (rget r i) j with
  | some (ds, m, es) => (match fa (r.set i none) with
    | .ok as r1 => muIx i ds m (h es as) r1
    | _ => .no)
  | none => .no
theorem mtix_run {i : Nat} {j : Int} {r0 : V → List V → Hp → VK → Prop} {h : List D → List D → Option (D × List D)} {fa : Rho → R (List D)} {t : TA} {to : TE} (mu : MuOk X r0 n kr h) (hmm : gget G1 i = n + 2) (hmG : gget G i = n + 2)
    (hto : ∀ σ H (Q : VK) v y, σ[i]? = some (some v) → rIx X.K v (.int j) H (fun z H' => z = y ∧ H' = H) → Q y H → to σ H Q)
    (q : ∀ σ H r c s Q, SR X.K H G r σ c s → Ok c s → OutX X F c s H σ (OkL X G1 n c s H σ Q) (fa r) → t σ H Q) :
    ∀ σ H r c s (Q : VK), SR X.K H G r σ c s → Ok c s → OutX X F c s H σ (OkE X G1 kr c s H σ Q) (dMutIx i j h fa r) → to σ H fun x H1 => tyV X.K "list" x H1 ∧ t σ H1 fun us H2 => r0 x us H2 Q := by
  intro σ H r c s Q sr ok h0
  unfold dMutIx at h0
  cases ea : atD (rget r i) j with
  | none => simp only [ea] at h0; exact False.elim h0
  | some tr =>
    obtain ⟨ds, m, es⟩ := tr
    simp only [ea] at h0
    obtain ⟨e0, hk, hes⟩ := atD_of ea
    obtain ⟨v, c1, s1, c2, s2, ev, rp, x', ec, es2⟩ := sr.out e0
    rw [hmG] at rp
    obtain ⟨h1, h2, h3, h4⟩ := ixN_seq hk
    cases rp with
    | @lstS _ l0 vs _ cc ss hl0 rs =>
      subst ec; subst es2
      obtain ⟨w, cw, sw, cr, sr', ew, rw', e1, e2, dmR, put⟩ := rs.focus hes
      subst e1; subst e2
      cases rw' with
      | @lstS _ l ws _ cl sl hl rl =>
        refine hto σ H _ (.ref l0) (.ref l) ev (.inl ⟨l0, vs, j, .ref l, rfl, rfl, SqL.of hl0, ?_, rfl, rfl⟩) ?_
        · unfold atI
          rw [← rs.length, hk]
          exact ew
        refine ⟨.inl ⟨rfl, ws, SqL.of hl⟩, ?_⟩
        have ok2 : Ok c2 s2 := fun z => by have := ok z; simp only [add_at] at this; omega
        refine q σ H (r.set i none) c2 s2 _ x' ok2 ?_
        cases ef : fa (r.set i none) with
        | no => simp only [ef] at h0; exact False.elim h0
        | ex nn d r1 => simp only [ef] at h0; exact False.elim h0
        | ok as r1 =>
          simp only [ef] at h0
          intro us H1 c3 s3 ca sa x3 ra st
          cases eh : h es as with
          | none => rw [eh] at h0; exact False.elim h0
          | some pr =>
            obtain ⟨d, es'⟩ := pr
            rw [eh] at h0
            unfold muIx at h0
            by_cases hr1 : i < r1.length ∧ rget r1 i = none
            case neg => simp only [if_neg hr1] at h0; exact False.elim h0
            simp only [if_pos hr1] at h0
            have okF : Ok (add c2 (add (one l0) (add (add (one l) cl) cr))) (add s2 (add sw sr')) := fun z => by
              have := ok z; simp only [add_at] at this ⊢; omega
            have domF : Dom (add (one l0) (add (add (one l) cl) cr)) (add sw sr') H := Dom.addC hl0 trivial rs.dom
            have asd := st.aside okF
            have stf := st.frame okF domF
            have okf := stf.ok
            have hl1 : H1 l = some (.lst ws) := asd l _ hl (.inl (by simp only [add_at, one_same]; omega))
            have hl01 : H1 l0 = some (.lst vs) := asd l0 _ hl0 (.inl (by simp only [add_at, one_same]; omega))
            have rl1 : Reps X.K H1 n es ws cl sw := rl.keep fun a o e z => asd a o e (by simp only [add_at]; rcases z with z | z | z; exact .inl (by omega); exact .inr (.inl (by omega)); exact .inr (.inr z))
            refine mu es as d es' eh l ws us H1 cl sw ca sa Q hl1 rl1 ra fun vs' v' c' s' cv sv rs' rv hc hs => ?_
            have okl := okf l
            have okl0 := okf l0
            simp only [add_at, one_same] at okl okl0
            have hcl := hc l
            have hsl : s' l = 0 ∧ sv l = 0 := by have := hs l; omega
            have ne : l0 ≠ l := fun z => by
              subst z
              simp only [one_same] at okl
              omega
            have kp : ∀ {c s : Cnt}, c l = 0 → s l = 0 → Kp c s H1 (L2.upd H1 l (.lst vs')) := fun {c s} e1 e2 => Kp.upd hl1 (fun z => z) e1 e2
            have kpR : Kp cr sr' H (L2.upd H1 l (.lst vs')) := fun a o e z => by
              have q1 := asd a o e (by simp only [add_at]; rcases z with z | z | z; exact .inl (by omega); exact .inr (.inl (by omega)); exact .inr (.inr z))
              exact kp (c := cr) (s := sr') (by omega) (by omega) a o q1 z
            have r2 := put (L2.upd H1 l (.lst vs')) (.lst es') (add (one l) c') s' kpR (.lstS upd_same (rs'.keep (kp (by omega) hsl.1)))
            have hl02 : (L2.upd H1 l (.lst vs')) l0 = some (.lst vs) := by rw [upd_ne ne]; exact hl01
            have x4 := x3.keep (kp (by omega) (by omega))
            have rfin : Rep X.K (L2.upd H1 l (.lst vs')) (n + 2) (.lst (ds.set m (.lst es'))) (.ref l0) (add (one l0) (add (add (one l) c') cr)) (add s' sr') := .lstS hl02 r2
            have xu := x4.upd hr1.1 hr1.2 ev rfin
            rw [← hmm, gset_same] at xu
            refine h0 v' _ _ _ cv sv xu (rv.keep (kp (by omega) hsl.2)) ?_
            rw [add_comm' (add (one l0) (add (add (one l) cl) cr)) c2, add_comm' (add sw sr') s2]
            refine stf.mut (l := l) (by simp only [add_at, one_same]; omega) hl1 (fun z => z) (fun a => ?_) (fun a ha => ?_)
            · have := hc a
              simp only [add_at]; omega
            · have := hs a
              simp only [add_at] at ha ⊢; omega
theorem v_mtIx (i n : Nat) {y name : Str} {py jp sp : Pos} {j : Int} {jj : Nat} {id : String} {r0 : V → List V → Hp → VK → Prop} {h : List D → List D → Option (D × List D)} {fa : Rho → R (List D)} (slot : Slot "list" name id) (hty : typeOf (.builtin id) = pure (.type "method_descriptor")) (hmt : MtR X id r0) (mu : MuOk X r0 n kr h)
    (A : PL X F G G1 n (e :: es) fa) (hmG : gget G i = n + 2 := by rfl) (hmm : gget G1 i = n + 2 := by rfl) (hN : X.N[i]? = some y := by rfl) (hv : Vis X.env.scope y := by first | exact Or.inl rfl | exact Or.inr (Or.inl rfl) | exact Or.inr (Or.inr rfl))
    (hd : (y == ("__debug__" : Str)) = false := by decide) (hcd : (y == ("__classdict__" : Str)) = false := by decide)
    (hbase : attributeBase (.Subscript (.Name y py) (.Constant (.int j) jj jp) sp) name X.env (eval (.Subscript (.Name y py) (.Constant (.int j) jj jp) sp) X.env) = eval (.Subscript (.Name y py) (.Constant (.int j) jj jp) sp) X.env := by rfl)
    (hfew : ((backTo cpos (starEach (e :: es) X.env)).all (fun x => !x.1) && (backToKw cpos (keywordEach [] X.env)).all (fun x => x.1.isSome)
      && decide ((e :: es).length + ([] : List Keyword).length + (if ([] : List Keyword).isEmpty then 0 else 1) < 30)) = true := by rfl)
    (hline : (apos.endLine == cpos.line) = true := by rfl) (hs : starEach (e :: es) X.env = (false, eval e X.env) :: starEach es X.env := by rfl) (hplain : (backTo cpos (starEach es X.env)).any (·.1) = false := by rfl) :
    PV X F G G1 kr (.Call (.Attribute (.Subscript (.Name y py) (.Constant (.int j) jj jp) sp) name apos) (e :: es) [] cpos) (dMutIx i j h fa) := by
  obtain ⟨t, ht, q⟩ := A.go
  exact ⟨_, pe_bm PySem.F.plainAttrs_list slot hty hmt (pe_ix ix_seq (pv i hN hv hd hcd) pe_int (fun _ _ => rfl)) ht hbase hfew hline hs hplain, fun σ H r c s Q sr ok h0 =>
    mtix_run (to := tOp (rIx X.K) (tVar i) (tC (.int j))) mu hmm hmG (fun σ H Q v y ev hr hq => ⟨v, ev, by
      rcases hr with ⟨p, xs, i', z, e1, e2, e3, e4, e5, _⟩ | ⟨p, xs, i', z, e1, e2, e3, e4, e5, _⟩ | ⟨z, i', c', e1, e2, e3, e4, e5, _⟩
      · subst e5; exact .inl ⟨p, xs, i', z, e1, e2, e3, e4, hq⟩
      · subst e5; exact .inr (.inl ⟨p, xs, i', z, e1, e2, e3, e4, hq⟩)
      · subst e5; exact .inr (.inr ⟨z, i', c', e1, e2, e3, e4, hq⟩)⟩) q σ H r c s Q sr ok h0⟩
theorem v_mtIx0 (i n : Nat) {y name : Str} {py jp sp : Pos} {j : Int} {jj : Nat} {id : String} {r0 : V → List V → Hp → VK → Prop} {h : List D → List D → Option (D × List D)} (slot : Slot "list" name id) (hty : typeOf (.builtin id) = pure (.type "method_descriptor")) (hmt : MtR X id r0) (mu : MuOk X r0 n kr h)
    (hmG : gget G i = n + 2 := by rfl) (hN : X.N[i]? = some y := by rfl) (hv : Vis X.env.scope y := by first | exact Or.inl rfl | exact Or.inr (Or.inl rfl) | exact Or.inr (Or.inr rfl))
    (hd : (y == ("__debug__" : Str)) = false := by decide) (hcd : (y == ("__classdict__" : Str)) = false := by decide)
    (hbase : attributeBase (.Subscript (.Name y py) (.Constant (.int j) jj jp) sp) name X.env (eval (.Subscript (.Name y py) (.Constant (.int j) jj jp) sp) X.env) = eval (.Subscript (.Name y py) (.Constant (.int j) jj jp) sp) X.env := by rfl)
    (hline : (apos.endLine == cpos.line) = true := by rfl) :
    PV X F G G kr (.Call (.Attribute (.Subscript (.Name y py) (.Constant (.int j) jj jp) sp) name apos) [] [] cpos) (dMutIx i j h (fun r => .ok [] r)) := by
  refine ⟨_, pe_bm0 PySem.F.plainAttrs_list slot hty hmt (pe_ix ix_seq (pv i hN hv hd hcd) pe_int (fun _ _ => rfl)) hbase hline, fun σ H r c s Q sr ok h0 => ?_⟩
  have q := mtix_run (F := F) (G := G) (G1 := G) (t := fun _ H Q => Q [] H) (to := tOp (rIx X.K) (tVar i) (tC (.int j))) mu hmG hmG (fun σ H Q v y ev hr hq => ⟨v, ev, by
      rcases hr with ⟨p, xs, i', z, e1, e2, e3, e4, e5, _⟩ | ⟨p, xs, i', z, e1, e2, e3, e4, e5, _⟩ | ⟨z, i', c', e1, e2, e3, e4, e5, _⟩
      · subst e5; exact .inl ⟨p, xs, i', z, e1, e2, e3, e4, hq⟩
      · subst e5; exact .inr (.inl ⟨p, xs, i', z, e1, e2, e3, e4, hq⟩)
      · subst e5; exact .inr (.inr ⟨z, i', c', e1, e2, e3, e4, hq⟩)⟩) (fun σ H r c s Q sr ok (h : OkL X G n c s H σ Q [] r) => h [] H c s z0 z0 sr .nil (by simp only [add_z]; exact .refl ok)) (fa := fun r => .ok [] r) σ H r c s Q sr ok h0
  exact q
/-- x.insert(i, y) -/
def hInsert : List D → List D → Option (D × List D) := fun ds as => match as with
  | [.int i, y] => if 0 ≤ i ∧ i < 100000 ∧ ds.length < 100000 then some (.non, ds.take i.toNat ++ [y] ++ ds.drop i.toNat) else none
  | _ => none
theorem mu_insert : MuOk X (fun x vs H Q => ∃ (l : Addr) (xs : List V) (i : Int) (y : V), x = .ref l ∧ vs = [.int i, y] ∧ H l = some (.lst xs) ∧ xs.length < sizeLine ∧ 0 ≤ i ∧ i < 2 ^ 63 ∧
    Q .non (L2.upd H l (.lst (xs.take i.toNat ++ [y] ++ xs.drop i.toNat)))) n kr hInsert := by
  intro ds as d ds' hh l vs us H c s ca sa Q hl rs ra hq
  unfold hInsert at hh
  split at hh
  · rename_i i y
    split at hh
    · rename_i hb
      cases hh
      obtain ⟨v, u, c1, s1, c2, s2, rfl, r1, r2, rfl, rfl⟩ := inv_2 ra
      cases r1
      obtain ⟨c3, s3, c4, s4, r3, r4, rfl, rfl⟩ := rs.take i.toNat
      have q := r4.app (Reps.snoc r2 r3)
      refine ⟨l, vs, i, u, rfl, rfl, hl, by rw [← rs.length]; exact line6 hb.2.2, hb.1, by omega, hq _ .non _ _ z0 z0 q .non (fun a => by simp only [add_at, z_at]; omega) (fun a ha => by simp only [add_at, z_at] at ha ⊢; omega)⟩
    · cases hh
  · cases hh
end
end VL

namespace VL
open PySem PySem.Spec L2
/-! ### repr -/
def rReprD (K : PySem.W.Frag) : List V → Hp → VK → Prop := fun xs H Q => ∃ a d, xs = [V.ref a] ∧ Dp K H (.ref a) d ∧ SeqAt.shaped d = true ∧ d.showable = true ∧ d.shown.length ≤ sizeLine ∧ Q (.str d.shown) H
theorem call_reprD {X : Cx} (hg : X.A.guards = some []) (hu : X.A.units + 66 < cLine) : CallR X (.builtin "repr") (rReprD X.K) := by
  intro pins s σ H xs us Q I r h
  obtain ⟨a, d, rfl, hd, hs, hw, hz, q⟩ := h
  obtain ⟨u, rfl, rx⟩ := vals1 r
  have rx' := rx
  cases rx
  obtain ⟨as, rd⟩ := Dp.reads I d _ _ hd rx'
  have hc := SeqAt.canLay_of_shaped hs
  have hdp := SeqAt.depth_of_shaped hs
  refine repr_of_reads' rd hw (PyData.noDict_hsm (PyData.hasDict_of_canLay d hc)) hg (by omega) (fun _ _ e => e) (fun h' u tk hk => ⟨.str d.shown, H, I.kept hk, ⟨_, rfl⟩, q⟩) hz
/-- of an int, of True and False, of None -/
def rReprS : List V → Hp → VK → Prop := fun xs H Q => (∃ i, xs = [.int i] ∧ i.natAbs.log2 < 1920 ∧ Q (.str (toString i)) H) ∨ (∃ b, xs = [.bl b] ∧ Q (.str (if b then "True" else "False")) H) ∨ (xs = [.non] ∧ Q (.str "None") H)
theorem repr_none {prog : Program} {w : World} {A : Around} {E : Value → Shared → Prop} {s : Shared} {Q : Value → Shared → Prop} (h : Q (.str "None" s.toks) { s with toks := s.toks + 1 }) : wpAny (model prog w) A (call (.builtin "repr") [.none]) Q E s :=
  call_repr_gives (typeIs_none s) F.slot_NoneType_repr F.entry_NoneType_repr (F.args_NoneType_repr_1 _) gives_none_repr h (hx := by decide)
theorem call_reprS {X : Cx} : CallR X (.builtin "repr") rReprS := by
  intro pins s σ H xs us Q I r h
  rcases h with ⟨i, rfl, hz, q⟩ | ⟨b, rfl, q⟩ | ⟨rfl, q⟩
  · obtain ⟨u, rfl, t, rfl⟩ := vals1 r
    exact PySem.P.repr_of_int hz ⟨.str _, H, I.tok _, ⟨_, rfl⟩, q⟩
  · obtain ⟨u, rfl, rx⟩ := vals1 r
    have e : u = .bool b := rx
    subst e
    exact PySem.P.repr_of_bool ⟨.str _, H, I.tok _, ⟨_, rfl⟩, q⟩
  · obtain ⟨u, rfl, rx⟩ := vals1 r
    have e : u = .none := rx
    subst e
    exact repr_none ⟨.str _, H, I.tok _, ⟨_, rfl⟩, q⟩
def isSq : D → Bool
  | .lst _ => true
  | .tup _ => true
  | _ => false
def reprD (d : D) : Str := (toPy d).shown
def reprOk (d : D) : Bool := isSq d && shD 64 d && (toPy d).showable && decide ((toPy d).shown.length ≤ 16000000)
def pRepr : List D → Option D
  | [.int i] => if i.natAbs.log2 < 1920 then some (.str (toString i)) else none
  | [.bl b] => some (.str (if b then "True" else "False"))
  | [.non] => some (.str "None")
  | [d] => if reprOk d = true then some (.str (reprD d)) else none
  | _ => none
section
variable {X : Cx} {k : Nat}
theorem n_repr : PN X (fun xs H Q => rReprD X.K xs H Q ∨ rReprS xs H Q) k pRepr := by
  intro ds d hd xs H sa Q ra hq
  unfold pRepr at hd
  split at hd
  · split at hd
    · rename_i hl
      cases hd
      obtain ⟨v, s1, c1, rfl, r1, _, _⟩ := inv_1 ra
      cases r1
      exact .inr (.inl ⟨_, rfl, hl, hq _ H z0 z0 (.str _) .flat⟩)
    · cases hd
  · cases hd
    obtain ⟨v, s1, c1, rfl, r1, _, _⟩ := inv_1 ra
    cases r1
    exact .inr (.inr (.inl ⟨_, rfl, hq _ H z0 z0 (.str _) .flat⟩))
  · cases hd
    obtain ⟨v, s1, c1, rfl, r1, _, _⟩ := inv_1 ra
    cases r1
    exact .inr (.inr (.inr ⟨rfl, hq _ H z0 z0 (.str _) .flat⟩))
  · rename_i d0 _ _ _
    split at hd
    · rename_i ho
      cases hd
      obtain ⟨v, s1, c1, rfl, r1, _, _⟩ := inv_1 ra
      unfold reprOk at ho
      simp only [Bool.and_eq_true, decide_eq_true_eq] at ho
      obtain ⟨⟨⟨h1, h2⟩, h3⟩, h4⟩ := ho
      have hv : ∃ a, v = .ref a := by
        cases d0 with
        | lst ds => obtain ⟨a, vs, e, _⟩ := rep_lst r1; exact ⟨a, e⟩
        | tup ds => obtain ⟨a, vs, e, _⟩ := rep_tup r1; exact ⟨a, e⟩
        | _ => cases h1
      obtain ⟨a, rfl⟩ := hv
      exact .inl ⟨a, toPy d0, rfl, r1.dp h2, shD_shaped h2, h3, Nat.le_trans h4 (by decide), hq _ H z0 z0 (.str _) .flat⟩
    · cases hd
  · cases hd
theorem call_repr (hg : X.A.guards = some []) (hu : X.A.units + 66 < cLine) : CallR X (.builtin "repr") (fun xs H Q => rReprD X.K xs H Q ∨ rReprS xs H Q) := callR_or (call_reprD hg hu) call_reprS
/-! ### texts compared -/
def pEqS (a b : D) : Option D := match a, b with
  | .str x, .str y => some (.bl (decide (x = y)))
  | _, _ => none
def pNeS (a b : D) : Option D := match a, b with
  | .str x, .str y => some (.bl (!decide (x = y)))
  | _, _ => none
theorem dec_V {x y : Str} : decide (V.str x = V.str y) = decide (x = y) := by
  by_cases h : x = y
  · rw [decide_eq_true h, decide_eq_true (by rw [h])]
  · rw [decide_eq_false h, decide_eq_false (fun z => h (V.str.inj z))]
theorem p_eqS : P2 X rEq k pEqS := by
  intro da db d hd x y H sa sb Q ra rb hq
  unfold pEqS at hd
  split at hd
  · cases hd
    cases ra; cases rb
    refine ⟨rfl, ?_⟩
    rw [dec_V]
    exact hq _ H z0 z0 (.bl _) .flat
  · cases hd
theorem p_neS : P2 X rNe k pNeS := by
  intro da db d hd x y H sa sb Q ra rb hq
  unfold pNeS at hd
  split at hd
  · cases hd
    cases ra; cases rb
    refine ⟨rfl, ?_⟩
    rw [dec_V]
    exact hq _ H z0 z0 (.bl _) .flat
  · cases hd
/-- == and != -/
def qEq (a b : D) : Option D := orD (pEqS a b) (pEq a b)
def qNe (a b : D) : Option D := orD (pNeS a b) (pNe a b)
def rQEq (K : PySem.W.Frag) : R2 := fun x y H Q => rEq x y H Q ∨ rEqD K x y H Q
def rQNe (K : PySem.W.Frag) : R2 := fun x y H Q => rNe x y H Q ∨ rNeD K x y H Q
theorem o_eq {lv : Nat} (hr : Room lv X.A) : OpR X (compareOp .Eq) (rQEq X.K) := op_eq.or (op_eqD (by have := hr.un; omega))
theorem o_ne {lv : Nat} (hr : Room lv X.A) : OpR X (compareOp .NotEq) (rQNe X.K) := op_ne.or (op_neD (by have := hr.un; omega))
theorem q_eq : P2 X (rQEq X.K) k qEq := P2.or p_eqS p_eq
theorem q_ne : P2 X (rQNe X.K) k qNe := P2.or p_neS p_ne
/-- +, * of ints and of lists -/
def qAdd (a b : D) : Option D := orD (iAdd a b) (pCat a b)
def qMul (a b : D) : Option D := orD (iMul a b) (pRep a b)
end
end VL

namespace VL
open PySem PySem.Spec L2
section
variable {X : Cx} {F : Fx} {G G1 G2 G3 G4 G' Gt Gs Gn : List Nat} {k k1 k2 k3 kr lv n : Nat} {e a b c tg iter elt : Expr} {es ifs : List Expr} {pos p tpos apos cpos : Pos} {st : Stmt} {sts : List Stmt}
def par2 (i j : Nat) (ds : List D) (r : Rho) : SO := match ds with
  | [d, e] => .nx ((r.set i (some d)).set j (some e))
  | _ => .no
/-- a, b = x, y -/
theorem s_par (i j : Nat) {x y : Str} {px py pt : Pos} {kt k2 pt2} {fa : Rho → R (List D)} (hc : X.calm = true) (nd : X.N.Nodup) (A : PL X F G G1 k [a, b] fa) (hij : i ≠ j := by decide) (hi : X.N[i]? = some x := by rfl) (hj : X.N[j]? = some y := by rfl)
    (hx : X.env.scope.names.lookup x = some .local := by rfl) (hy : X.env.scope.names.lookup y = some .local := by rfl) (hp : Fr F i := by first | exact ⟨Or.inl rfl, rfl⟩ | exact ⟨Or.inr (by decide), rfl⟩) (hp2 : Fr F j := by first | exact ⟨Or.inl rfl, rfl⟩ | exact ⟨Or.inr (by decide), rfl⟩)
    (hli : i < G.length := by decide) (hlj : j < G.length := by decide)
    (hw : swappedStores [.Tuple [.Name x px, .Name y py] kt pt] (.Tuple [a, b] k2 pt2) X.env = pure (some [x, y]) := by rfl)
    (hs : swapsWithSole [.Tuple [.Name x px, .Name y py] kt pt] (.Tuple [a, b] k2 pt2) pos.line X.env = pure false := by rfl) :
    PSt X F G ((G1.set i k).set j k) (.Assign [.Tuple [.Name x px, .Name y py] kt pt] (.Tuple [a, b] k2 pt2) pos) (fun r => (fa r).then fun ds r1 => par2 i j ds r1) := by
  obtain ⟨t, ht, q⟩ := A.go
  refine ⟨_, ps_par hc nd hi hj hij hx hy ht hw hs, fun v0 σ H r c s Dn sr ok pr h => q σ H r c s _ sr ok (OutS.useX pr h fun ds r1 h2 => ?_)⟩
  intro vs H' c1 s1 cr sr' x rp y
  unfold par2 at h2
  split at h2
  · rename_i d e
    obtain ⟨v, u, ca, sa, cb, sb, rfl, ra, rb, rfl, rfl⟩ := inv_2 rp
    have hlen : r1.length = G.length := by
      have e1 := x.lenS
      have e2 := sr.lenS
      have e3 := sr.lenG
      omega
    obtain ⟨c2, s2, x2, hc2, hs2⟩ := x.fill (i := i) (by omega) ra
    obtain ⟨c3, s3, x3, hc3, hs3⟩ := x2.fill (i := j) (by rw [List.length_set]; omega) rb
    refine ⟨v, u, rfl, h2 _ H' _ _ x3 ((pr.set hp).set hp2) (y.less (fun z => ?_) (fun z hz => ?_))⟩
    · have h4 := hc2 z; have h5 := hc3 z; simp only [add_at] at h5 ⊢; omega
    · have h4 := hs2 z; have h5 := hs3 z; simp only [add_at] at hz h5 ⊢; omega
  · exact False.elim h2
/-- [a] * n for a list display, shared below -/
theorem fits_int (i : Int) (k : Nat) : fits k (.int i) = true := by cases k <;> rfl
theorem fits_bl (i : Bool) (k : Nat) : fits k (.bl i) = true := by cases k <;> rfl
theorem fits_str (i : Str) (k : Nat) : fits k (.str i) = true := by cases k <;> rfl
theorem fits_non (k : Nat) : fits k .non = true := by cases k <;> rfl
end
/-! ### the denotations' names -/
def dI (i : Int) : Rho → R D := fun r => .ok (.int i) r
def dBl (b : Bool) : Rho → R D := fun r => .ok (.bl b) r
def dNon : Rho → R D := fun r => .ok .non r
def dStr (x : Str) : Rho → R D := fun r => .ok (.str x) r
def dTy (x : String) : Rho → R D := fun r => .ok (.ty x) r
def dK (d : D) : Rho → R D := fun r => .ok d r
def dUp (f : Rho → R D) : Rho → R D := fun r => (f r).bind fun d r1 => if flat d = true then .ok d r1 else .no
def dNotB (f : Rho → R Bool) : Rho → R Bool := fun r => (f r).bind fun b r1 => .ok (!b) r1
def dAndB (fa fb : Rho → R Bool) : Rho → R Bool := fun r => (fa r).bind fun v r1 => if v = true then fb r1 else .ok false r1
def dOrB (fa fb : Rho → R Bool) : Rho → R Bool := fun r => (fa r).bind fun v r1 => if v = true then .ok true r1 else fb r1
def dIfE (fc : Rho → R Bool) (fa fb : Rho → R D) : Rho → R D := fun r => (fc r).bind fun v r1 => if v = true then fa r1 else fb r1
def dAnd (fa fb : Rho → R D) : Rho → R D := fun r => (dB fa r).bind fun v r1 => if v = true then fb r1 else .ok (.bl false) r1
def dOr (fa fb : Rho → R D) : Rho → R D := fun r => (dB fa r).bind fun v r1 => if v = true then .ok (.bl true) r1 else fb r1
def dNot (f : Rho → R D) : Rho → R D := fun r => (dB f r).bind fun v r1 => .ok (.bl (!v)) r1
def dNil : Rho → R (List D) := fun r => .ok [] r
def dCons (f : Rho → R D) (g : Rho → R (List D)) : Rho → R (List D) := fun r => (f r).bind fun d r1 => (g r1).bind fun ds r2 => .ok (d :: ds) r2
def dLst (f : Rho → R (List D)) : Rho → R D := fun r => (f r).bind fun ds r1 => lift (lstD ds) r1
def dTup (f : Rho → R (List D)) : Rho → R D := fun r => (f r).bind fun ds r1 => lift (tupD ds) r1
def dFn (np : Nat) (g : List D → DR) (fa : Rho → R (List D)) : Rho → R D := fun r => (fa r).bind fun ds r1 => if ds.length = np then ofDR (g ds) r1 else .no
def dFnK (np : Nat) (sw : Bool) (g : List D → DR) (fa : Rho → R (List D)) : Rho → R D := fun r => (fa r).bind fun ds r1 => if ds.length = np then ofDR (g (turned sw ds)) r1 else .no
def dItL (f : Rho → R D) : Rho → R (List D) := fun r => (f r).bind fun d r1 => lift (itemsL d) r1
def dItT (f : Rho → R D) : Rho → R (List D) := fun r => (f r).bind fun d r1 => lift (itemsT d) r1
def dIt (g : List D → Option (List D)) (f : Rho → R (List D)) : Rho → R (List D) := fun r => (f r).bind fun ds r1 => lift (g ds) r1
def dONone : Rho → R (Option Int) := fun r => .ok none r
def dOSome (f : Rho → R D) : Rho → R (Option Int) := fun r => (f r).bind fun d r1 => lift (asI d) r1
def dTrue : Rho → R Bool := fun r => .ok true r
def dEnd : Rho → SO := fun r => .nx r
def dNo : Rho → SO := fun _ => .no
def dExpr (f : Rho → R D) : Rho → SO := fun r => (f r).then fun _ r1 => .nx r1
def dRet (f : Rho → R D) : Rho → SO := fun r => (f r).then fun d r1 => .rt d r1
def dRetN : Rho → SO := fun r => .rt .non r
def dBk : Rho → SO := fun r => .bk r
def dCt : Rho → SO := fun r => .ct r
def dAsg (g : D → Rho → Option Rho) (f : Rho → R D) : Rho → SO := fun r => (f r).then fun d r1 => match g d r1 with | some r2 => .nx r2 | none => .no
def dPar (i j : Nat) (f : Rho → R (List D)) : Rho → SO := fun r => (f r).then fun ds r1 => par2 i j ds r1
def dFor (fi : Rho → R (List D)) (g : D → Rho → Option Rho) (b : Rho → SO) : Rho → SO := fun r => (fi r).then fun ds r1 => loopD g b ds r1
def dSetIx (i : Nat) (fe fj : Rho → R D) : Rho → SO := fun r => (fe r).then fun d r1 => if isLst (rget r1 i) = true then (fj r1).then fun dj r2 => setGo i d dj r2 else .no
def gTup (n : Nat) (gs : List D → Rho → Option Rho) : D → Rho → Option Rho := fun d r => match d with | .tup ds => if ds.length = n then gs ds r else none | _ => none
def gLst (n : Nat) (gs : List D → Rho → Option Rho) : D → Rho → Option Rho := fun d r => match d with | .lst ds => if ds.length = n then gs ds r else none | _ => none
end VL
namespace VL
open PySem PySem.Spec L2
section
variable {X : Cx}
theorem iop_mulV : OpR X (inplaceOp .Mult) (rI CMulV fun i j => .int (i * j)) := opI fun i j _ _ _ _ _ hc q => PyProof.Rows.imul_int q (by
  have hc : mulOk i j = true := hc
  unfold mulOk at hc
  simp only [Bool.or_eq_true, decide_eq_true_eq] at hc
  rcases hc with (h | h) | h
  · exact .of_left (intBits_le_64 (by omega) (by omega))
  · exact .of_right (intBits_le_64 (by omega) (by omega))
  · exact CMulW.ok h)
theorem iop_divV : OpR X (inplaceOp .FloorDiv) (rI CDivV fun i j => .int (i / j)) := opI fun i j _ _ _ _ _ hc q => by
  have hc : divOk j = true := hc
  unfold divOk at hc
  simp only [Bool.and_eq_true, Bool.or_eq_true, decide_eq_true_eq] at hc
  obtain ⟨h1, h2⟩ := hc
  refine PyProof.Rows.ifloordiv_int (by omega) (by rw [Int.fdiv_eq_ediv_of_nonneg i (by omega)]; exact q) (.inl ?_)
  rcases h2 with h2 | h2
  · exact PyProof.noPylong_small (by omega)
  · exact PyProof.noPylong_of_log2 h2
end
end VL
namespace VL
open PySem PySem.Spec L2
section
variable {P : Program} {w : World} {K : PySem.W.Frag} {mg : Str → Option Value} {base : Heap}
theorem fnv_mk {x qual : Str} {st : Stmt} {f : Addr} {fd : FuncData} {N ps : List Str} {k : Nat} {io : Option Nat} {kr : Nat} {body : Rho → SO} (nN np : Nat) (G0 G' : List Nat) (F : Fun K x qual st f fd) (S : FnScope N ps (defScope st)) (hN : N.length = nN) (hP : ps.length = np)
    (hG0 : gam io np ++ List.replicate (nN - np) 0 = G0) (hio : io = none ∨ 0 < np) (hps : np ≤ nN)
    (B : ∀ (X : Cx) (EX : XK), (∃ (cdv : Value) (A : Around) (outer : List Env) (s : Shared) (H : Hp), X = cxOf (L2.CX P w) P w K mg base N qual (defScope st) f cdv A outer s H EX) → X.A.guards = some [] → Room k X.A → Pf X (fxOf EX io kr) → PassesOwn (model X.prog X.w) X.A X.env X.xe → PBk X (fxOf EX io kr) G0 G' (defBody st) body)
    (hG : ∀ m, io = some m → gget G' 0 = m) :
    FnV P w K mg base (k + 1) f fd ps io kr (runF io nN np body) := by
  subst hN; subst hP; subst hG0
  exact fnv_of F S hio hps (fun cdv A outer s H E gd hr => B _ E ⟨cdv, A, outer, s, H, rfl⟩ gd hr (passAt (takes_of rfl rfl rfl rfl)) (passes_of rfl)) hG
end
end VL

namespace VL
open PySem PySem.Spec L2
section
variable {X : Cx} {F : Fx} {G G1 G2 G3 G4 G' Gt Gs Gn : List Nat} {k k1 k2 k3 kr lv n : Nat} {e a b c tg iter elt : Expr} {es ifs : List Expr} {pos p tpos apos cpos : Pos} {st : Stmt} {sts : List Stmt}
theorem w_v_int {i j} : PV X F G G k (.Constant (.int i) j pos) (dI i) := v_int 
theorem w_v_bl {b j} : PV X F G G k (.Constant (.bool b) j pos) (dBl b) := v_bl 
theorem w_v_non {j} : PV X F G G k (.Constant .none j pos) (dNon) := v_non 
theorem w_v_str {x j} : PV X F G G k (.Constant (.str x) j pos) (dStr x) := v_str 
theorem w_v_glob {x : Str} {d : D} {v : V} {u : Value} (hg : Gl X x) (hm : X.mg x = some u) (r : RelV v u) (rp : ∀ H, Rep X.K H k d v z0 z0) (hd : (x == ("__debug__" : Str)) = false := by decide) : PV X F G G k (.Name x pos) (dK d) := v_glob hg hm r rp hd
theorem w_v_bltn {x : Str} {n : String} (hg : Gl X x) (hm : X.mg x = none) (hv : bootBuiltins x = some (.type n)) (hn : x ≠ "__name__" := by decide) (hd : (x == ("__debug__" : Str)) = false := by decide) : PV X F G G k (.Name x pos) (dTy n) := v_bltn hg hm hv hn hd
theorem w_v_up {f : Rho → R D} (A : PV X F G G1 k1 e f) : PV X F G G1 k e (dUp f) := v_up A
theorem w_v_not {f : Rho → R D} (A : PV X F G G1 k1 a f) : PV X F G G1 k (.UnaryOp .Not a pos) (dNot f) := v_not A
theorem w_v_and {rest : List Expr} {fa fb : Rho → R D} (A : PV X F G G1 k1 a fa) (B : PV X F G1 G2 k (.BoolOp .And (b :: rest) pos) fb) (hg : leG G2 G1 = true := by rfl) : PV X F G G2 k (.BoolOp .And (a :: b :: rest) pos) (dAnd fa fb) := v_and A B hg
theorem w_v_or {rest : List Expr} {fa fb : Rho → R D} (A : PV X F G G1 k1 a fa) (B : PV X F G1 G2 k (.BoolOp .Or (b :: rest) pos) fb) (hg : leG G2 G1 = true := by rfl) : PV X F G G2 k (.BoolOp .Or (a :: b :: rest) pos) (dOr fa fb) := v_or A B hg
theorem w_b_not {f : Rho → R Bool} (A : PB X F G G1 e f) : PB X F G G1 (.UnaryOp .Not e pos) (dNotB f) := b_not A
theorem w_bw_and {rest : List Expr} {fa fb : Rho → R Bool} (A : PB X F G G1 a fa) (B : PBw X F G1 G2 (.BoolOp .And (b :: rest) pos) fb) (hg : leG G2 G1 = true := by rfl) : PBw X F G G2 (.BoolOp .And (a :: b :: rest) pos) (dAndB fa fb) := bw_and A B hg
theorem w_bw_or {rest : List Expr} {fa fb : Rho → R Bool} (A : PB X F G G1 a fa) (B : PBw X F G1 G2 (.BoolOp .Or (b :: rest) pos) fb) (hg : leG G2 G1 = true := by rfl) : PBw X F G G2 (.BoolOp .Or (a :: b :: rest) pos) (dOrB fa fb) := bw_or A B hg
theorem w_v_if {c : Expr} {fc : Rho → R Bool} {fa fb : Rho → R D} (C : PB X F G G1 c fc) (A : PV X F G1 G2 k a fa) (B : PV X F G1 G2 k b fb) : PV X F G G2 k (.IfExp c a b pos) (dIfE fc fa fb) := v_if C A B
theorem w_l_nil  : PL X F G G k [] (dNil) := l_nil 
theorem w_l_cons {f : Rho → R D} {g : Rho → R (List D)} (A : PV X F G G1 k e f) (B : PL X F G1 G2 k es g) (hs : starEach (e :: es) X.env = (false, eval e X.env) :: starEach es X.env := by rfl) : PL X F G G2 k (e :: es) (dCons f g) := l_cons A B hs
theorem w_v_lst {f : Rho → R (List D)} (A : PL X F G G1 k es f) : PV X F G G1 (k + 1) (.List es pos) (dLst f) := v_lst A
theorem w_v_tup {f : Rho → R (List D)} {x1} (A : PL X F G G1 k es f) : PV X F G G1 k (.Tuple es x1 pos) (dTup f) := v_tup A
theorem w_it_list {f : Rho → R D} (A0 : PV X F G G1 k iter f) : PIt X F G G1 tg iter (dItL f) := it_list A0
theorem w_it_tup {f : Rho → R D} (A0 : PV X F G G1 k iter f) : PIt X F G G1 tg iter (dItT f) := it_tup A0
theorem w_it_range1 {f : Rho → R (List D)} (A0 : PL X F G G1 k [a] f) (hg : Gl X "range") (hm : X.mg "range" = none) (hs : starEach [a] X.env = [(false, eval a X.env)] := by rfl) : PIt X F G G1 tg (.Call (.Name "range" p) [a] [] pos) (dIt rng1 f) := it_range1 A0 hg hm hs
theorem w_it_range2 {f : Rho → R (List D)} (A0 : PL X F G G1 k [a, b] f) (hg : Gl X "range") (hm : X.mg "range" = none) (hs : starEach [a, b] X.env = [(false, eval a X.env), (false, eval b X.env)] := by rfl) (hs2 : starEach [b] X.env = [(false, eval b X.env)] := by rfl) : PIt X F G G1 tg (.Call (.Name "range" p) [a, b] [] pos) (dIt rng2 f) := it_range2 A0 hg hm hs hs2
theorem w_it_enum {elts : List Expr} {kk : Nat} {f : Rho → R (List D)} (A0 : PL X F G G1 k [a] f) (hg : Gl X "enumerate") (hm : X.mg "enumerate" = none) (hs : starEach [a] X.env = [(false, eval a X.env)] := by rfl) : PIt X F G G1 (.Tuple elts kk tpos) (.Call (.Name "enumerate" p) [a] [] pos) (dIt enumD f) := it_enum A0 hg hm hs
theorem w_it_zip {elts : List Expr} {kk : Nat} {f : Rho → R (List D)} (A0 : PL X F G G1 k [a, b] f) (hg : Gl X "zip") (hm : X.mg "zip" = none) (hs : starEach [a, b] X.env = (false, eval a X.env) :: starEach [b] X.env := by rfl) (hpl : (backTo pos (starEach [b] X.env)).any (·.1) = false := by rfl) : PIt X F G G1 (.Tuple elts kk tpos) (.Call (.Name "zip" p) [a, b] [] pos) (dIt zipD f) := it_zip A0 hg hm hs hpl
theorem w_o_none  : PO1 X F G G none (dONone) := o_none 
theorem w_o_some {f : Rho → R D} (A : PV X F G G1 k e f) : PO1 X F G G1 (some e) (dOSome f) := o_some A
theorem w_t_nil  : PTst X F G G [] (dTrue) := t_nil 
theorem w_k_nil  : PBk X F G G [] (dEnd) := k_nil 
theorem w_s_never  : PSt X F G G' st (dNo) := s_never 
theorem w_s_expr {f : Rho → R D} (A : PV X F G G1 k e f) (hs : swapsWith e none pos.line X.env = pure false := by rfl) : PSt X F G G1 (.Expr e pos) (dExpr f) := s_expr A hs
theorem w_s_ret {f : Rho → R D} (A : PV X F G G1 F.kr e f) (hio : IoG F G1 := by first | exact io_none rfl | exact io_some rfl rfl) : PSt X F G G' (.Return (some e) pos) (dRet f) := s_ret A hio
theorem w_s_retN (hio : IoG F G := by first | exact io_none rfl | exact io_some rfl rfl) : PSt X F G G' (.Return none pos) (dRetN) := s_retN hio
theorem w_s_break (g : leG F.Gb G = true := by rfl) : PSt X F G G' (.Break pos) (dBk) := s_break g
theorem w_s_continue (g : leG F.Gc G = true := by rfl) : PSt X F G G' (.Continue pos) (dCt) := s_continue g
theorem w_s_pass  : PSt X F G G (.Pass pos) (dEnd) := s_pass 
theorem w_s_doc {x j pos'} : PSt X F G G (.Expr (.Constant (.str x) j pos) pos') (dEnd) := s_doc 
theorem w_s_asg {f : Rho → R D} {g : D → Rho → Option Rho} (A0 : PV X F G G1 k e f) (T : PTg X F G1 G2 tg g) (hs : swapsWithSole [tg] e pos.line X.env = pure false := by rfl) (hw : swappedStores [tg] e X.env = pure none := by rfl)
    (h1 : (assignEach [tg] X.env).map (·.2) = [assign tg X.env] := by rfl) : PSt X F G G2 (.Assign [tg] e pos) (dAsg g f) := s_asg A0 T hs hw h1
theorem w_s_par (i j : Nat) {x y : Str} {px py pt : Pos} {kt k2 pt2} {fa : Rho → R (List D)} (hc : X.calm = true) (nd : X.N.Nodup) (A : PL X F G G1 k [a, b] fa) (hij : i ≠ j := by decide) (hi : X.N[i]? = some x := by rfl) (hj : X.N[j]? = some y := by rfl)
    (hx : X.env.scope.names.lookup x = some .local := by rfl) (hy : X.env.scope.names.lookup y = some .local := by rfl) (hp : Fr F i := by first | exact ⟨Or.inl rfl, rfl⟩ | exact ⟨Or.inr (by decide), rfl⟩) (hp2 : Fr F j := by first | exact ⟨Or.inl rfl, rfl⟩ | exact ⟨Or.inr (by decide), rfl⟩)
    (hli : i < G.length := by decide) (hlj : j < G.length := by decide)
    (hw : swappedStores [.Tuple [.Name x px, .Name y py] kt pt] (.Tuple [a, b] k2 pt2) X.env = pure (some [x, y]) := by rfl)
    (hs : swapsWithSole [.Tuple [.Name x px, .Name y py] kt pt] (.Tuple [a, b] k2 pt2) pos.line X.env = pure false := by rfl) : PSt X F G ((G1.set i k).set j k) (.Assign [.Tuple [.Name x px, .Name y py] kt pt] (.Tuple [a, b] k2 pt2) pos) (dPar i j fa) := s_par i j hc nd A hij hi hj hx hy hp hp2 hli hlj hw hs
theorem w_s_for (G2 : List Nat) {body : List Stmt} {fi : Rho → R (List D)} {g : D → Rho → Option Rho} {b : Rho → SO} (hp : PassesOwn (model X.prog X.w) X.A X.env X.xe) (hc : X.calm = true) (I : PIt X F G G1 tg iter fi) (T : PTg X F G2 Gt tg g) (B : PBk X (F.at G2 G2) Gt Gn body b)
    (h1 : leG G2 G1 = true := by rfl) (h2 : leG G2 Gn = true := by rfl) (hs : ∀ x, foldedSetIterable iter X.env x = pure x := by intro _; rfl) : PSt X F G G2 (.For tg iter body [] pos) (dFor fi g b) := s_for G2 hp hc I T B h1 h2 hs
theorem w_s_setIx (i n : Nat) {y : Str} {py ps : Pos} {fe fj : Rho → R D} (A : PV X F G G1 n e fe) (B0 : PV X F G1 G2 k2 b fj) (hmm : gget G2 i = n + 1 := by rfl) (hN : X.N[i]? = some y := by rfl) (hv : Vis X.env.scope y := by first | exact Or.inl rfl | exact Or.inr (Or.inl rfl) | exact Or.inr (Or.inr rfl))
    (hd : (y == ("__debug__" : Str)) = false := by decide) (hcd : (y == ("__classdict__" : Str)) = false := by decide)
    (ha : ∀ v, assign (.Subscript (.Name y py) b ps) X.env v = (do
      let ov ← holding [v] (eval (.Name y py) X.env)
      let iv ← holding [v, ov] (eval b X.env)
      standAt ps
      holding [v, ov, iv] (setItem ov iv v)
      release [v, ov, iv] []) := by intro _; rfl)
    (hs : swapsWithSole [.Subscript (.Name y py) b ps] e pos.line X.env = pure false := by rfl) (hw : swappedStores [.Subscript (.Name y py) b ps] e X.env = pure none := by rfl)
    (h1 : (assignEach [.Subscript (.Name y py) b ps] X.env).map (·.2) = [assign (.Subscript (.Name y py) b ps) X.env] := by rfl) : PSt X F G G2 (.Assign [.Subscript (.Name y py) b ps] e pos) (dSetIx i fe fj) := s_setIx i n A B0 hmm hN hv hd hcd ha hs hw h1
theorem w_g_tup {kk : Nat} {gs : List D → Rho → Option Rho} {n : Nat} (hc : X.calm = true) (A : PTgs X F G G1 es gs) (hn : (assignEach es X.env).length = n := by rfl) (hst : (assignEach es X.env).findIdx? (·.1) = none := by rfl) : PTg X F G G1 (.Tuple es kk pos) (gTup n gs) := g_tup hc A hn hst
theorem w_g_lst {kk : Nat} {gs : List D → Rho → Option Rho} {n : Nat} (hc : X.calm = true) (A : PTgs X F G G1 es gs) (hn : (assignEach es X.env).length = n := by rfl) (hst : (assignEach es X.env).findIdx? (·.1) = none := by rfl) : PTg X F G G1 (.Tuple es kk pos) (gLst n gs) := g_lst hc A hn hst
theorem w_kw_nil  : PKw X F G G k [] (dNil) := kw_nil 
theorem w_kw_cons {nm : Option Str} {kpos : Pos} {kws : List Keyword} {f : Rho → R D} {g : Rho → R (List D)} (A : PV X F G G1 k e f) (B : PKw X F G1 G2 k kws g) : PKw X F G G2 k (⟨nm, e, kpos⟩ :: kws) (dCons f g) := kw_cons A B
theorem w_v_call {np : Nat} {x : Str} {f : Addr} {fd : FuncData} {ps : List Str} {g : List D → DR} {fa : Rho → R (List D)} (Fv : FnV X.prog X.w X.K X.mg X.base lv f fd ps none kr g) (gd : X.A.guards = some []) (hr : Room lv X.A) (hm : X.mg x = some (.ref f)) (hk : PySem.W.keepIn X.K (.ref f) = true) (hb : Binds X.K fd ps []) (pf : Pf X F)
    (A0 : PL X F G G1 k (e :: es) fa) (hps : (e :: es).length = ps.length := by rfl) (hg : Gl X x := by rfl) (hio : IoG F G1 := by first | exact io_none rfl | exact io_some rfl rfl)
    (hdb : (x == ("__debug__" : Str)) = false := by decide) (he : starEach (e :: es) X.env = (false, eval e X.env) :: starEach es X.env := by rfl) (hpl : (backTo pos (starEach es X.env)).any (·.1) = false := by rfl) (hnp : ps.length = np := by rfl) : PV X F G G1 kr (.Call (.Name x p) (e :: es) [] pos) (dFn np g fa) := by
  subst hnp
  exact v_call Fv gd hr hm hk hb pf A0 hps hg hio hdb he hpl
theorem w_v_callK {np : Nat} {x : Str} {f : Addr} {fd : FuncData} {ps ks : List Str} {sw : Bool} {kws : List Keyword} {g : List D → DR} {fa : Rho → R (List D)} (Fv : FnV X.prog X.w X.K X.mg X.base lv f fd ps none kr g) (gd : X.A.guards = some []) (hr : Room lv X.A) (hm : X.mg x = some (.ref f)) (hk : PySem.W.keepIn X.K (.ref f) = true) (hb : KwBinds X.K fd ps ks sw) (pf : Pf X F)
    (A0 : PKw X F G G1 0 kws fa) (hg : Gl X x := by rfl) (hio : IoG F G1 := by first | exact io_none rfl | exact io_some rfl rfl)
    (hall : (backToKw pos (keywordEach kws X.env)).all (·.1.isSome) = true := by rfl) (hks : (backToKw pos (keywordEach kws X.env)).filterMap (·.1) = ks := by rfl) (hdb : (x == ("__debug__" : Str)) = false := by decide)
    (hpl : ((backTo pos (starEach [] X.env)).any (·.1) || (backToKw pos (keywordEach kws X.env)).any (·.1.isNone)) = false := by rfl) (hnp : ps.length = np := by rfl) : PV X F G G1 kr (.Call (.Name x p) [] kws pos) (dFnK np sw g fa) := by
  subst hnp
  exact v_callK Fv gd hr hm hk hb pf A0 hg hio hall hks hdb hpl
theorem w_v_callIo {np : Nat} (i m : Nat) {x y : Str} {py : Pos} {f : Addr} {fd : FuncData} {ps : List Str} {g : List D → DR} {fa : Rho → R (List D)} (Fv : FnV X.prog X.w X.K X.mg X.base lv f fd ps (some m) kr g) (gd : X.A.guards = some []) (hr : Room lv X.A) (hm : X.mg x = some (.ref f)) (hk : PySem.W.keepIn X.K (.ref f) = true) (hb : Binds X.K fd ps []) (pf : Pf X F)
    (A0 : PL X F G G1 k es fa) (hN : X.N[i]? = some y := by rfl) (hv : Vis X.env.scope y := by first | exact Or.inl rfl | exact Or.inr (Or.inl rfl) | exact Or.inr (Or.inr rfl)) (hmm : gget G1 i = m := by rfl) (hio : IoG F G1 := by first | exact io_none rfl | exact io_some rfl rfl) (hg : Gl X x := by rfl)
    (hd : (y == ("__debug__" : Str)) = false := by decide) (hcd : (y == ("__classdict__" : Str)) = false := by decide)
    (hdb : (x == ("__debug__" : Str)) = false := by decide) (he : starEach (.Name y py :: es) X.env = (false, eval (.Name y py) X.env) :: starEach es X.env := by rfl) (hpl : (backTo pos (starEach es X.env)).any (·.1) = false := by rfl) (hnp : ps.length = np := by rfl) : PV X F G G1 kr (.Call (.Name x p) (.Name y py :: es) [] pos) (dCallIo i np g fa) := by
  subst hnp
  exact v_callIo i m Fv gd hr hm hk hb pf A0 hN hv hmm hio hg hd hcd hdb he hpl
theorem w_v_mt0 (i n : Nat) {y name : Str} {py : Pos} {id : String} {r0 : V → List V → Hp → VK → Prop} {h : List D → List D → Option (D × List D)} (slot : Slot "list" name id) (hty : typeOf (.builtin id) = pure (.type "method_descriptor")) (hmt : MtR X id r0) (mu : MuOk X r0 n kr h)
    (hmm : gget G i = n + 1 := by rfl) (hN : X.N[i]? = some y := by rfl) (hv : Vis X.env.scope y := by first | exact Or.inl rfl | exact Or.inr (Or.inl rfl) | exact Or.inr (Or.inr rfl))
    (hd : (y == ("__debug__" : Str)) = false := by decide) (hcd : (y == ("__classdict__" : Str)) = false := by decide)
    (hbase : attributeBase (.Name y py) name X.env (eval (.Name y py) X.env) = eval (.Name y py) X.env := by rfl) (hline : (apos.endLine == cpos.line) = true := by rfl) : PV X F G G kr (.Call (.Attribute (.Name y py) name apos) [] [] cpos) (dMut i h dNil) := v_mt0 i n slot hty hmt mu hmm hN hv hd hcd hbase hline
theorem w_v_mtIx0 (i n : Nat) {y name : Str} {py jp sp : Pos} {j : Int} {jj : Nat} {id : String} {r0 : V → List V → Hp → VK → Prop} {h : List D → List D → Option (D × List D)} (slot : Slot "list" name id) (hty : typeOf (.builtin id) = pure (.type "method_descriptor")) (hmt : MtR X id r0) (mu : MuOk X r0 n kr h)
    (hmG : gget G i = n + 2 := by rfl) (hN : X.N[i]? = some y := by rfl) (hv : Vis X.env.scope y := by first | exact Or.inl rfl | exact Or.inr (Or.inl rfl) | exact Or.inr (Or.inr rfl))
    (hd : (y == ("__debug__" : Str)) = false := by decide) (hcd : (y == ("__classdict__" : Str)) = false := by decide)
    (hbase : attributeBase (.Subscript (.Name y py) (.Constant (.int j) jj jp) sp) name X.env (eval (.Subscript (.Name y py) (.Constant (.int j) jj jp) sp) X.env) = eval (.Subscript (.Name y py) (.Constant (.int j) jj jp) sp) X.env := by rfl)
    (hline : (apos.endLine == cpos.line) = true := by rfl) : PV X F G G kr (.Call (.Attribute (.Subscript (.Name y py) (.Constant (.int j) jj jp) sp) name apos) [] [] cpos) (dMutIx i j h dNil) := v_mtIx0 i n slot hty hmt mu hmG hN hv hd hcd hbase hline
end
end VL

namespace VL
open PySem PySem.Spec L2
/-- the promise that the end asks for, from the plain law -/
theorem hsp_of {K : PySem.W.Frag} {mg : Str → Option Value} {g : List D → DR} {H : Hp} {a : Addr} {ns : List Int} (only : Only H) (hS : SqL K H a (ns.map V.int)) (hg : g [.scr ns] = .ok (.bl true) none) :
    SpD K mg none 1 0 g [.ref a] H (fun v _ => v = .bl true) fun _ _ _ => False := by
  have rep : ∃ s, Rep K H 0 (.scr ns) (.ref a) z0 s := by
    rcases hS with (h | ⟨o, h⟩) | h
    · rcases only a with z | ⟨o, xs, z⟩
      · rw [z] at h; cases h
      · rw [z] at h; cases h
    · exact ⟨_, .scr o h⟩
    · exact ⟨_, .scrK fun H' => .inr h⟩
  obtain ⟨s, rp⟩ := rep
  have sr : SR K H [0] [some (.scr ns)] [some (.ref a)] (add z0 z0) (add s z0) := .yes rp .nil
  simp only [add_z] at sr
  refine ⟨[.scr ns], z0, s, rfl, sr, fun z => ⟨Nat.zero_le _, .inl rfl⟩, ?_⟩
  rw [hg]
  intro v H' cr sr' c0 s0 r i st
  cases r
  rfl
end VL

/-! VL20: enumerate(xs, 1), slices with a step, max and min of a list, range of three, sets of ints, in -/
namespace VL
open PySem PySem.Spec PyProof.Rows
open Sem (wp)
open AutoSeq1 (wpAny_loadPart')
theorem typeCall_en2 (a b : Value) : checkTypeCall "enumerate" ⟨[a, b], []⟩ = pure () := by kernel_rfl
theorem newCall_en2 (a b : Value) : checkBuiltinCall "enumerate.__new__" ⟨[.type "enumerate", a, b], []⟩ = pure () := by kernel_rfl
def enOb (it : Addr) (k : Int) : Obj := { cls := .type "enumerate", data := .fields #[.none, .bool false, .ref it, rawInt k, .none, .none] }
def liOb (l : Addr) : Obj := { cls := .type "list_iterator", data := .fields #[.ref l, .int 0 0] }
def lstOb (items : Array Value) (n : Nat) (dct : Option Addr) (sl : Array (Option Value)) : Obj := { cls := .type "list", dict := dct, data := .seq items n, slots := sl }
theorem meets_en2 (l : Addr) (t : Tok) (items : Array Value) (n : Nat) (dct : Option Addr) (sl : Array (Option Value)) :
    Meets (Builtin.«enumerate.__new__» ⟨[.type "enumerate", .ref l, .int 1 t], []⟩) (fun _ R s => s.heap.get? l = some (lstOb items n dct sl) ∧
      R (.ok (.ret (.ref (s.heap.push (liOb l)).objs.size))) { s with heap := (s.heap.push (liOb l)).push (enOb s.heap.objs.size 1) }) := by
  refine .of_wp fun prog w A R s h => ?_
  obtain ⟨hp, g, d, tk, os⟩ := s
  obtain ⟨h0, h1⟩ := h
  have hs := PySem.sub_enumerate
  have h2 : Heap.IsList (Shared.heap ⟨hp, g, d, tk, os⟩) l items := ⟨_, h0, rfl, n, rfl⟩
  have h0' : hp.get? l = some { cls := .type "list", dict := dct, data := .seq items n, slots := sl } := h0
  wp_walk using wpAny_loadPart' h0'
  refine wpAny_stack_any fun st => wpAny_pure ?_
  split
  · rename_i c _ _ _ _ _
    generalize (c == Value.type "enumerate") = b0
    cases b0 <;> (wp_walk using wpAny_loadPart' h0', wpAny_pyIter_list h2)
    · exact ⟨_, rfl, h1⟩
    · exact ⟨_, rfl, h1⟩
  · wp_walk using wpAny_loadPart' h0', wpAny_pyIter_list h2
    exact ⟨_, rfl, h1⟩
section
variable {prog : Program} {w : World} {A : Around} {E : Value → Shared → Prop} {s : Shared}
theorem call_en2 {l : Addr} {t : Tok} {items : Array Value} {Q : Value → Shared → Prop} (hL : s.heap.IsList l items)
    (h : ∀ hh : Heap, IsEnum hh (s.heap.objs.size + 1) s.heap.objs.size 1 .none → hh.IsListIter s.heap.objs.size l 0 → (∀ b o, s.heap.get? b = some o → hh.get? b = some o) →
      Q (.ref (s.heap.objs.size + 1)) { s with heap := hh }) : wpAny (model prog w) A (call (.type "enumerate") [.ref l, .int 1 t]) Q E s := by
  obtain ⟨⟨c, dct, dt, sl⟩, hl, hc, n, hd⟩ := hL
  have hc' : c = .type "list" := hc
  have hd' : dt = .seq items n := hd
  subst hc' hd'
  have hz : (s.heap.push (liOb l)).objs.size = s.heap.objs.size + 1 := Heap.size_push ..
  have at1 : ((s.heap.push (liOb l)).push (enOb s.heap.objs.size 1)).get? (s.heap.objs.size + 1) = some (enOb s.heap.objs.size 1) := by
    rw [← hz]; exact Heap.get?_push_size _ rfl
  have at0 : ((s.heap.push (liOb l)).push (enOb s.heap.objs.size 1)).get? s.heap.objs.size = some (liOb l) := Heap.get?_push_of_some _ (Heap.get?_push_size _ rfl)
  refine callType_new F.called_enumerate (by decide) (typeCall_en2 _ _) (newCall_en2 _ _) (fun ob => F.args_object_init_3 ob _ _) F.entry_enumerate_new (meets_en2 l t items n dct sl) ⟨hl, ?_⟩
  show Shared.TypeIs _ (.ref _) "enumerate" ∧ Q (.ref _) _
  rw [hz]
  exact ⟨⟨_, at1, rfl⟩, h _ at1 ⟨_, at0, rfl, rfl⟩ fun b o x => Heap.get?_push_of_some _ (Heap.get?_push_of_some _ x)⟩
/-- the items' numbers one higher -/
theorem draws_up {it : Addr} {fp : List Addr} {n : Nat} {P : Nat → Value → Prop} {St : Nat → Heap → Prop} (Dw : Draws prog w A it fp n P St) :
    Draws prog w A it fp (n + 1) (fun i x => ∃ j, i = j + 1 ∧ P j x) (fun i h => ∃ j, i = j + 1 ∧ St j h) where
  live := fun i h ⟨j, _, q⟩ => Dw.live j h q
  frame := fun i h h2 ⟨j, e, q⟩ k => ⟨j, e, Dw.frame j h h2 q k⟩
  item := fun i s Q E hi ⟨j, e, q⟩ g => by
    subst e
    exact Dw.item j s Q E (Nat.lt_of_succ_lt_succ hi) q fun x hh tk a b c => g x hh tk ⟨j, rfl, a⟩ ⟨j + 1, rfl, b⟩ c
  done := fun s Q E ⟨j, e, q⟩ g => by
    have e' : n = j := Nat.succ.inj e
    subst e'
    exact Dw.done s Q E q g
theorem draws_end (hd : A.handled = none) (it l : Addr) (ne : l ≠ it) (items : Array Value) (i : Nat) (hi : items.size ≤ i) :
    Draws prog w A it [it, l] i (fun _ _ => False) (fun j h => j = i ∧ h.IsListIter it l i ∧ h.IsList l items) where
  live := fun j h ⟨_, ⟨o, ho, _⟩, _⟩ => ⟨o, ho⟩
  frame := fun j h h2 ⟨e, q1, q2⟩ k => ⟨e, q1.at fun o z => k it (by simp) o z, q2.at fun o z => k l (by simp) o z⟩
  item := fun j s Q E lt ⟨e, _⟩ _ => absurd lt (by omega)
  done := fun s Q E ⟨_, q1, q2⟩ g => wpAny_nextOf_list_end hd q1 q2 (by simp; omega) g
end
open L2
/-- the list at a, each item in a new pair with its number, from 1 on -/
def Ite1 (K : PySem.W.Frag) (a : Addr) : It :=
  ⟨fun i H => ∃ (xs : List V) (x : V), SqL K H a xs ∧ xs[i]? = some x, fun i H v H2 => ∃ T x, v = .ref T ∧ H T = none ∧ H2 = L2.upd H T (.tup [.int ((i + 1 : Nat) : Int), x]) ∧ ∀ xs, SqL K H a xs → xs[i]? = some x, fun i H => ∃ xs : List V, SqL K H a xs ∧ xs.length ≤ i⟩
theorem two_objs {h : Heap} {e a : Addr} {o p : Obj} (h1 : h.get? e = some o) (h2 : h.get? a = some p) (hc : o.cls ≠ p.cls) : e ≠ a := fun z => by
  subst z; rw [h1] at h2; cases h2; exact hc rfl
theorem turn_en1 {P : Program} {w : World} {K : PySem.W.Frag} {elts : List Expr} {kk : Nat} {tpos : Pos} (a e it : Addr) :
    Turn P w K (.Tuple elts kk tpos) (Ite1 K a) [e, it] e (fun i h => (∃ old, IsEnum h e it ((i + 1 : Nat) : Int) old) ∧ h.IsListIter it a i ∧ e ≠ it) where
  mem := List.mem_cons_self
  obj := fun i h ⟨⟨old, he⟩, ⟨o, ho, _, hd⟩, _⟩ b hb => by
    rcases List.mem_cons.mp hb with z | z
    · subst z; exact ⟨_, he, fun v q => nomatch q⟩
    · rw [List.mem_singleton.mp z]; exact ⟨o, ho, fun v q => by rw [hd] at q; cases q⟩
  keep := fun i h h2 ⟨⟨old, he⟩, hi, ne⟩ k => ⟨⟨old, k e List.mem_cons_self _ he⟩, hi.at fun o q => k it (List.mem_cons_of_mem _ List.mem_cons_self) o q, ne⟩
  item := by
    intro X hP hw hK hc i pins s σ H E I hf ⟨⟨old, he⟩, hit, hne⟩ ⟨xs, x, hq, hx⟩
    subst hP hw hK
    obtain ⟨its, rv, pl, _⟩ := I.list hq
    obtain ⟨u, hu, ru⟩ := rv.get hx
    have hi : i < its.length := (List.getElem?_eq_some_iff.mp hu).1
    obtain ⟨ol, hol, hcl, _⟩ := pl.isList
    obtain ⟨oi, hoi, hci, _⟩ := hit
    have na : e ≠ a := two_objs he hol (by rw [hcl]; show Value.type "enumerate" ≠ .type "list"; decide)
    have ni : a ≠ it := two_objs hol hoi (by rw [hcl, hci]; decide)
    have Dw := draws_up (Draws.list (prog := X.prog) (w := X.w) (A := X.A.in1) (show X.A.in1.handled = none from I.ok.hd hc) it a ni its.toArray)
    refine wpAny_pyNext_enum_itemD Dw he ⟨i, rfl, ⟨oi, hoi, hci, by assumption⟩, pl.isList⟩ (by simp; exact hi) hne (by simp; exact ⟨hne, na⟩) fun x' hh tk hx' ho hst hT hsz hk => ?_
    obtain ⟨j, ej, hj⟩ := hx'
    have ej' : i = j := Nat.succ.inj ej
    subst ej'
    have ex : x' = u := by
      have q : its.toArray[i]? = some u := by simpa using hu
      rw [q] at hj; cases hj; rfl
    subst ex
    obtain ⟨j2, ej2, hit2, _⟩ := hst
    have ej3 : i + 1 = j2 := Nat.succ.inj ej2
    subst ej3
    refine ⟨_, rfl, wpAny_letOwnedTupleGo_enum (s := { s with heap := hh, toks := tk + 1 }) ho fun h3 he3 sb => ?_⟩
    have lt1 : e < s.heap.objs.size := Heap.lt_size he
    have lt2 : it < s.heap.objs.size := Heap.lt_size hoi
    have hT2 : h3.get? s.heap.objs.size = some { cls := .type "tuple", data := .seq #[.int ((i + 1 : Nat) : Int) tk, x'] } := (sb.2 _ (Nat.ne_of_gt lt1)).trans hT
    have new : ObjOk X.prog X.w (L2.upd H s.heap.objs.size (.tup [.int ((i + 1 : Nat) : Int), x])) h3 s.heap.objs.size (.tup [.int ((i + 1 : Nat) : Int), x]) :=
      ⟨by show 2 ≤ sizeLine; decide, [.int ((i + 1 : Nat) : Int) tk, x'], .cons ⟨_, rfl⟩ (.cons ru .nil), ⟨_, hT2, rfl, _, rfl⟩⟩
    have I2 := I.turnedNew (h' := h3) (t' := tk + 1) (ch := [e, it]) (fun b ob hb q => (sb.2 b (fun z => hb (by simp [z]))).trans (hk b ob (fun z => hb (by simp [z])) (fun z => hb (by simp [z])) q)) hf (Nat.le_refl _) new
    refine ⟨.ref s.heap.objs.size, _, I2, rfl, ⟨_, x, rfl, I.hok.fresh (Nat.le_refl _), rfl, fun ys hy => by rw [I.list_inj hy hq]; exact hx⟩, ⟨⟨x', ?_⟩, hit2.at fun o q => (sb.2 it (Ne.symm hne)).trans q, hne⟩, fun b hb => ?_⟩
    · have en : ((i + 1 + 1 : Nat) : Int) = ((i + 1 : Nat) : Int) + 1 := by omega
      rw [en]; exact he3
    · have lb : b < s.heap.objs.size := by
        rcases List.mem_cons.mp hb with z | z
        · rw [z]; exact lt1
        · rw [List.mem_singleton.mp z]; exact lt2
      rw [upd_ne (Nat.ne_of_lt lb)]
      exact (hf b hb).1
  done := by
    intro X hP hw hK hc i pins s σ H E I hf ⟨⟨old, he⟩, hit, hne⟩ ⟨xs, hq, hx⟩
    subst hP hw hK
    obtain ⟨its, rv, pl, _⟩ := I.list hq
    obtain ⟨f0, f1, _, f3, f4, f5⟩ := hf it (List.mem_cons_of_mem _ List.mem_cons_self)
    have hl := rv.length
    obtain ⟨ol, hol, hcl, _⟩ := pl.isList
    obtain ⟨oi, hoi, hci, hdi⟩ := hit
    have ni : a ≠ it := two_objs hol hoi (by rw [hcl, hci]; decide)
    exact wpAny_pyNext_enum_endD (draws_end (prog := X.prog) (w := X.w) (A := X.A.in1) (show X.A.in1.handled = none from I.ok.hd hc) it a ni its.toArray i (by simp; omega)) he ⟨rfl, ⟨oi, hoi, hci, hdi⟩, pl.isList⟩ fun hh eb => ⟨rfl, I.turned (t' := s.toks) (fun b o hb q => eb b o hb q) f0 f1 f3 f4 f5⟩
  self := fun A i s Q E ⟨⟨_, he⟩, _⟩ h => wpAny_pyIter_enum he h

def iEn1 (K : PySem.W.Frag) (ta : TA) : TI := fun σ H R => ta σ H fun vs H1 => ∃ a xs, vs = [.ref a, .int 1] ∧ SqL K H1 a xs ∧ R (Ite1 K a) H1
theorem pi_en1 {X : Cx} {e e2 : Expr} {ta : TA} {p pos tpos : Pos} {elts : List Expr} {kk : Nat} (hg : Gl X "enumerate") (hm : X.mg "enumerate" = none) (ha : PA X [e, e2] ta)
    (hs : starEach [e, e2] X.env = (false, eval e X.env) :: starEach [e2] X.env := by rfl) (hpl : (backTo pos (starEach [e2] X.env)).any (·.1) = false := by rfl) :
    PI X (.Tuple elts kk tpos) (.Call (.Name "enumerate" p) [e, e2] [] pos) (iEn1 X.K ta) := by
  refine ⟨fun pins s σ H R I h => ?_⟩
  refine Call_ (ld_blt I hg hm boot_enumerate (PyProof.Rows.callWith_type1 (thn (ha.run pos pins s σ H _ I h) fun us s1 ⟨vs, H1, I1, r1, a, xs, ex, hq, q⟩ => ?_) hs hpl))
  subst ex
  cases r1 with
  | cons r rr =>
    cases rr with
    | cons r' rr' =>
      cases rr'
      cases r
      obtain ⟨t, et⟩ := r'
      subst et
      obtain ⟨its, rv, pl, hz⟩ := I1.list hq
      refine call_en2 pl.isList fun hh he hit hk => wpAny_pyIter_enum he ?_
      have I2 : Inv X pins σ H1 { s1 with heap := hh } := I1.kept (t' := s1.toks) hk
      refine ⟨s1.heap.objs.size + 1, [s1.heap.objs.size + 1, s1.heap.objs.size], _, _, H1, rfl, I2, turn_en1 a (s1.heap.objs.size + 1) s1.heap.objs.size, ⟨⟨.none, he⟩, hit, Nat.succ_ne_self _⟩, fun b hb => ?_, q⟩
      have le : s1.heap.objs.size ≤ b := by
        rcases List.mem_cons.mp hb with z | z
        · rw [z]; exact Nat.le_succ _
        · rw [List.mem_singleton.mp z]; exact Nat.le_refl _
      exact I1.fpOk le (I1.hok.fresh le)
section
variable {X : Cx} {F : Fx} {G G1 G2 G3 G4 G' : List Nat} {k k1 k2 : Nat} {e a b tg iter : Expr} {es : List Expr} {p pos tpos : Pos}
/-- enumerate(xs, 1) -/
def enumD1 : List D → Option (List D)
  | [.lst ds, .int 1] => some (enumL 1 ds)
  | _ => none
theorem it_enum1 {elts : List Expr} {kk : Nat} {f : Rho → R (List D)} (A0 : PL X F G G1 k [a, b] f) (hg : Gl X "enumerate") (hm : X.mg "enumerate" = none)
    (hs : starEach [a, b] X.env = (false, eval a X.env) :: starEach [b] X.env := by rfl) (hpl : (backTo pos (starEach [b] X.env)).any (·.1) = false := by rfl) :
    PIt X F G G1 (.Tuple elts kk tpos) (.Call (.Name "enumerate" p) [a, b] [] pos) (dIt enumD1 f) := by
  obtain ⟨t, ht, q⟩ := (l_weak A0).go
  refine ⟨_, pi_en1 hg hm ht hs hpl, fun σ H r c s Rr sr ok h => q σ H r c s _ sr ok (h.bind1.mono fun ds r1 h2 => ?_)⟩
  obtain ⟨is, hd, h2⟩ := h2
  intro vs H1 c1 s1 cr sI x rp st
  unfold enumD1 at hd
  split at hd
  · rename_i ds
    cases hd
    obtain ⟨v, u, c2, s2, c3, s3, rfl, r2, r3, rfl, rfl⟩ := inv_2 rp
    cases r3
    have z := r2.zero
    subst z
    simp only [add_z] at st
    obtain ⟨a, vs, s', rfl, ha, rs, _, _⟩ := rep_lst0 r2
    refine ⟨a, vs, rfl, SqL.of ha, h2 _ H1 c1 s1 s2 (fun H => Rep X.K H 0 (.lst ds) (.ref a) z0 s2) x ⟨fun H H' w k => w.keep k, fun H w => w.dom, fun H i w hi => ?_, fun H i y H' d w hd hy => ?_, fun H w => ?_⟩ r2 st⟩
    · obtain ⟨a', vs', s2, e, ha', rs', _, _⟩ := rep_lst0 w
      cases e
      rw [enumL_len] at hi
      have hl := rs'.length
      exact ⟨vs', vs'[i], SqL.of ha', by simp [← hl, hi]⟩
    · obtain ⟨a', vs', s2, e, ha', rs', es, _⟩ := rep_lst0 w
      cases e
      obtain ⟨d', hd', rfl⟩ := enumL_get 1 ds i d hd
      obtain ⟨u, ci, si, eu, ru, h1, h3⟩ := rs'.get hd'
      obtain ⟨T, y', rfl, hT, rfl, hy⟩ := hy
      have e2 := hy vs' (SqL.of ha')
      rw [eu] at e2
      cases e2
      have zz := ru.zero
      subst zz
      rw [show ((1 + i : Nat) : Int) = ((i + 1 : Nat) : Int) by rw [Nat.add_comm]]
      refine ⟨add z0 si, tup2_new hT (.int _) ru, fun z hz => ?_, ex_upd hT⟩
      rw [es]
      have := h3 z
      simp only [add_at, z_at] at hz ⊢
      omega
    · obtain ⟨a', vs', s2, e, ha', rs', _, _⟩ := rep_lst0 w
      cases e
      exact ⟨vs', SqL.of ha', by rw [enumL_len, rs'.length]; exact Nat.le_refl _⟩
  · cases hd
end
end VL

/-! VL21: slices with a step, max and min of a list, range of three, in -/
namespace VL
open PySem PySem.Spec PyProof.Rows L2
/-- the places of xs[lo:hi:st] -/
def pickAt (n : Nat) (lo hi : Option Int) (c : Int) : List Nat := let b := sliceBounds lo hi (some c) n; sliceRange b.1 b.2.1 b.2.2
def pickX {α : Type} (xs : List α) (lo hi : Option Int) (c : Int) : List α := (pickAt xs.length lo hi c).filterMap fun i => xs[i]?
theorem slicePick_X (items : Array Value) (lo hi : Option Int) (c : Int) : slicePick items lo hi (some c) = (pickX items.toList lo hi c).toArray := by
  unfold slicePick pickX pickAt
  simp only [Array.length_toList, Array.getElem?_toList]
theorem pickX_len {α : Type} (xs : List α) (lo hi : Option Int) (c : Int) : (pickX xs lo hi c).length = (pickX (List.replicate xs.length Value.none) lo hi c).length := by
  unfold pickX
  rw [List.length_replicate]
  generalize pickAt xs.length lo hi c = is
  induction is with
  | nil => rfl
  | cons i is ih =>
    by_cases h : i < xs.length
    · rw [List.filterMap_cons_some (List.getElem?_eq_getElem h), List.filterMap_cons_some (b := Value.none) (by rw [List.getElem?_replicate, if_pos h]), List.length_cons, List.length_cons, ih]
    · rw [List.filterMap_cons_none (List.getElem?_eq_none (by omega)), List.filterMap_cons_none (by rw [List.getElem?_replicate, if_neg h]), ih]
theorem pickX_le {α : Type} (xs : List α) (lo hi : Option Int) (c : Int) : (pickX xs lo hi c).length ≤ xs.length := by
  rw [pickX_len]
  have q := slicePick_size_le (List.replicate xs.length Value.none).toArray lo hi (some c)
  rw [slicePick_X] at q
  simpa using q
theorem pickX_map {α β : Type} (f : α → β) (xs : List α) (lo hi : Option Int) (c : Int) : pickX (xs.map f) lo hi c = (pickX xs lo hi c).map f := by
  unfold pickX
  rw [List.length_map]
  generalize pickAt xs.length lo hi c = is
  induction is with
  | nil => rfl
  | cons i is ih =>
    cases e : xs[i]? with
    | none => rw [List.filterMap_cons_none (by rw [List.getElem?_map, e]; rfl), List.filterMap_cons_none e, ih]
    | some x => rw [List.filterMap_cons_some (b := f x) (by rw [List.getElem?_map, e]; rfl), List.filterMap_cons_some e, List.map_cons, ih]
theorem vals_pick {xs : List V} {us : List Value} (r : Vals xs us) (lo hi : Option Int) (c : Int) : Vals (pickX xs lo hi c) (pickX us lo hi c) := by
  unfold pickX
  rw [r.length]
  generalize pickAt us.length lo hi c = is
  have hl := r.length
  induction is with
  | nil => exact .nil
  | cons i is ih =>
    cases e : xs[i]? with
    | none =>
      have : us[i]? = none := List.getElem?_eq_none (by have := List.getElem?_eq_none_iff.mp e; omega)
      rw [List.filterMap_cons_none e, List.filterMap_cons_none this]
      exact ih
    | some x =>
      obtain ⟨u, hu, ru⟩ := r.get e
      rw [List.filterMap_cons_some e, List.filterMap_cons_some hu]
      exact .cons ru ih
/-- a list's parts, shared -/
theorem reps_pick {K : PySem.W.Frag} {H : Hp} {ds : List D} {vs : List V} {s : Cnt} (r : Reps K H 0 ds vs z0 s) (lo hi : Option Int) (c : Int) :
    ∃ s', Reps K H 0 (pickX ds lo hi c) (pickX vs lo hi c) z0 s' ∧ ∀ a, 0 < s' a → 0 < s a := by
  unfold pickX
  rw [r.length]
  generalize pickAt vs.length lo hi c = is
  have hl := r.length
  induction is with
  | nil => exact ⟨z0, .nil, fun a h => absurd h (Nat.lt_irrefl 0)⟩
  | cons i is ih =>
    obtain ⟨s', q, hs⟩ := ih
    cases e : ds[i]? with
    | none =>
      have : vs[i]? = none := List.getElem?_eq_none (by have := List.getElem?_eq_none_iff.mp e; omega)
      rw [List.filterMap_cons_none e, List.filterMap_cons_none this]
      exact ⟨s', q, hs⟩
    | some d =>
      obtain ⟨v, ci, si, ev, rv, h1, h2⟩ := r.get e
      have z := rv.zero
      subst z
      rw [List.filterMap_cons_some e, List.filterMap_cons_some ev]
      refine ⟨add si s', ?_, fun a ha => ?_⟩
      · have q2 := Reps.cons rv q
        rw [z_add] at q2
        exact q2
      · have q1 := h2 a
        have q2 := hs a
        simp only [add_at] at ha
        omega
def tSlS (K : PySem.W.Frag) (te : TE) (tl th : TO) (ts : TE) : TE := fun σ H Q => te σ H fun x H1 => tl σ H1 fun l H2 => th σ H2 fun u H3 => ts σ H3 fun z H4 =>
  ∃ a xs k, x = .ref a ∧ z = .int k ∧ k ≠ 0 ∧ SqL K H4 a xs ∧ ∀ p, H4 p = none → Q (.ref p) (L2.upd H4 p (.lst (pickX xs l u k)))
theorem pe_sliceS {X : Cx} {e st : Expr} {te ts : TE} {lo hi : Option Expr} {tl th : TO} {pos p2 : Pos} (he : PE X e te) (hl : PO X lo tl) (hu : PO X hi th) (hs : PE X st ts) :
    PE X (.Subscript e (.Slice lo hi (some st) p2) pos) (tSlS X.K te tl th ts) := by
  refine ⟨fun pins s σ H Q I h => ?_⟩
  refine Subscript_ (thn (he.run pins s σ H _ I h) fun v s1 ⟨x, H1, I1, r1, q1⟩ => ?_)
  refine wpAny_Slice (thn (hl.run pins s1 σ H1 _ I1 q1) fun vl s2 ⟨l, H2, I2, pl, q2⟩ => thn (hu.run pins s2 σ H2 _ I2 q2) fun vu s3 ⟨u, H3, I3, pu, q3⟩ => ?_)
  rw [evalPart_some]
  refine thn (hs.run pins s3 σ H3 _ I3 q3) fun vs s4 ⟨z, H4, I4, rz, a, xs, k, ex, ez, k0, hx, q⟩ => ?_
  · subst ex ez
    cases r1
    obtain ⟨tk, et⟩ := rz
    subst et
    have ps : IsPart (.int k tk) (some k) := .int k tk
    generalize Value.int k tk = vs at ps
    have I5 : Inv X pins σ H4 { s4 with heap := s4.heap.push { cls := .type "slice", data := .fields #[vl, vu, vs] } } := I4.kept (t' := s4.toks) fun b ob z => Heap.get?_push_of_some _ z
    obtain ⟨its, r, ht, hz⟩ := I5.list hx
    have hlen := r.length
    show wpAny (model X.prog X.w) X.A (subscriptTail e (.Slice lo hi (some st) p2) (.ref a) (.ref s4.heap.objs.size)) (EP X pins σ Q) X.xe { s4 with heap := s4.heap.push { cls := .type "slice", data := .fields #[vl, vu, vs] } }
    refine tail_any (ops := [.ref a, .ref s4.heap.objs.size]) ht.isList.typeIs (PySem.slot_list_getitem.lookup) ?_ (by with_unfolding_all rfl)
    refine wpAny_getItem_list_slice ht.isList (Heap.IsSliceOf.new _ vl vu vs) pl pu ps (by intro z; cases z; exact k0 rfl) ?_ (by rw [List.size_toArray]; omega)
    rw [slicePick_X]
    refine ⟨.ref _, _, I5.laid (t' := s4.toks) (o := .lst (pickX xs l u k)) (fun b ob z => Heap.get?_push_of_some _ z) (Nat.le_refl _) ?_, rfl, q _ (I5.hok.fresh (Nat.le_refl _))⟩
    exact ⟨Nat.le_trans (pickX_le xs l u k) hz, _, 0, vals_pick r l u k, Heap.get?_push_size _ rfl⟩

section
variable {X : Cx} {F : Fx} {G G1 G2 G3 G4 G' : List Nat} {k k1 k2 : Nat} {e a b st tg iter : Expr} {es : List Expr} {p pos tpos : Pos}
def pSlS (d : D) (lo hi : Option Int) (z : D) : Option D := match d, z with
  | .lst ds, .int k => if k ≠ 0 then some (.lst (pickX ds lo hi k)) else none
  | _, _ => none
def dSlS (fe : Rho → R D) (fl fh : Rho → R (Option Int)) (fs : Rho → R D) : Rho → R D := fun r => (fe r).bind fun d r1 => (fl r1).bind fun lo r2 => (fh r2).bind fun hi r3 => (fs r3).bind fun z r4 => lift (pSlS d lo hi z) r4
/-- xs[lo:hi:st] -/
theorem v_sliceS {lo hi : Option Expr} {fe : Rho → R D} {fl fh : Rho → R (Option Int)} {fs : Rho → R D} {p2 : Pos} (A0 : PV X F G G1 k e fe) (L : PO1 X F G1 G2 lo fl) (U : PO1 X F G2 G3 hi fh) (B0 : PV X F G3 G4 k2 st fs) :
    PV X F G G4 1 (.Subscript e (.Slice lo hi (some st) p2) pos) (dSlS fe fl fh fs) := by
  obtain ⟨t, ht, q⟩ := (A0.weak (Nat.zero_le k)).go
  obtain ⟨tl, hl, ql⟩ := L.go
  obtain ⟨tu, hu, qu⟩ := U.go
  obtain ⟨ts, hs, qs⟩ := (B0.weak (Nat.zero_le k2)).go
  refine ⟨_, pe_sliceS ht hl hu hs, fun σ H r c s Q sr ok h => q σ H r c s _ sr ok (h.bind.mono fun d r1 h1 => ?_)⟩
  intro v H1 c1 s1 cr sa x1 rp st0
  have z := rp.zero
  subst z
  simp only [add_z] at st0
  have ok1 : Ok c1 s1 := fun z => by have := st0.ok z; simp only [add_at] at this; omega
  have st1 : Step c s H c1 s1 H1 := st0.less (fun z => by omega) (fun z hz => by simp only [add_at]; omega)
  refine ql σ H1 r1 c1 s1 _ x1 ok1 (h1.bind.imp st1 fun lo r2 h2 => ?_)
  intro H2 c2 s2 x2 st2
  refine qu σ H2 r2 c2 s2 _ x2 st2.ok (h2.bind.imp (st1.trans st2) fun hi r3 h3 => ?_)
  intro H3 c3 s3 x3 st3
  have st13 := (st1.trans st2).trans st3
  refine qs σ H3 r3 c3 s3 _ x3 st3.ok (h3.bind1.imp st13 fun z r4 hz => ?_)
  obtain ⟨out, eo, h4⟩ := hz
  intro w H4 c4 s4 cw sw x4 rw_ st4
  have zw := rw_.zero
  subst zw
  simp only [add_z] at st4
  have st4' : Step c3 s3 H3 c4 s4 H4 := st4.less (fun z => by omega) (fun z hz => by simp only [add_at]; omega)
  have st24 := (st2.trans st3).trans st4'
  have okf : Ok (add c1 z0) (add s1 sa) := by rw [add_z]; exact st0.ok
  have rp4 := rp.keep (st24.aside okf)
  have stf := st0.trans (by have q := st24.frame (cf := z0) (sf := sa) okf rp.dom; rw [add_z, add_z] at q; exact q)
  have dm : Dom c4 (add s4 sa) H4 := by have q := x4.dom.add rp4.dom; rw [add_z] at q; exact q
  unfold pSlS at eo
  split at eo
  · rename_i ds k
    by_cases k0 : k ≠ 0
    · rw [if_pos k0] at eo
      cases eo
      cases rw_
      obtain ⟨a, vs, s', rfl, ha, rs, es, _⟩ := rep_lst0 rp4
      refine ⟨a, vs, k, rfl, rfl, k0, SqL.of ha, fun l hl => ?_⟩
      obtain ⟨s2', r5, hs5⟩ := reps_pick rs lo hi k
      obtain ⟨q1, q2⟩ := New.lst (S := sa) hl r5 (fun z hz => by subst es; have := hs5 z hz; simp only [add_at]; omega)
      exact h4 _ _ c4 s4 _ _ (x4.keep (ex_kp q2.keep)) q1 (stf.new dm (fun z hz => by simp only [add_at]; omega) (fun z hz => by simp only [add_at]; omega) q2)
    · rw [if_neg k0] at eo; cases eo
  · cases eo
/-- max(xs), min(xs) of ints -/
theorem foldl_max : ∀ (ns : List Int) (n : Int), ns.foldl max n ∈ n :: ns ∧ ∀ y ∈ n :: ns, y ≤ ns.foldl max n
  | [], n => ⟨List.mem_cons_self, fun y hy => by rw [List.mem_singleton.mp hy]; exact Int.le_refl _⟩
  | m :: ns, n => by
    obtain ⟨h1, h2⟩ := foldl_max ns (max n m)
    have e : (m :: ns).foldl max n = ns.foldl max (max n m) := rfl
    rw [e]
    refine ⟨?_, fun y hy => ?_⟩
    · rcases List.mem_cons.mp h1 with h | h
      · rw [h]
        rcases Int.le_total n m with z | z
        · rw [Int.max_eq_right z]; simp
        · rw [Int.max_eq_left z]; simp
      · simp [h]
    · have q := h2 (max n m) List.mem_cons_self
      rcases List.mem_cons.mp hy with z | z
      · rw [z]; exact Int.le_trans (Int.le_max_left n m) q
      · rcases List.mem_cons.mp z with z | z
        · rw [z]; exact Int.le_trans (Int.le_max_right n m) q
        · exact h2 y (List.mem_cons_of_mem _ z)
theorem foldl_min : ∀ (ns : List Int) (n : Int), ns.foldl min n ∈ n :: ns ∧ ∀ y ∈ n :: ns, ns.foldl min n ≤ y
  | [], n => ⟨List.mem_cons_self, fun y hy => by rw [List.mem_singleton.mp hy]; exact Int.le_refl _⟩
  | m :: ns, n => by
    obtain ⟨h1, h2⟩ := foldl_min ns (min n m)
    have e : (m :: ns).foldl min n = ns.foldl min (min n m) := rfl
    rw [e]
    refine ⟨?_, fun y hy => ?_⟩
    · rcases List.mem_cons.mp h1 with h | h
      · rw [h]
        rcases Int.le_total n m with z | z
        · rw [Int.min_eq_left z]; simp
        · rw [Int.min_eq_right z]; simp
      · simp [h]
    · have q := h2 (min n m) List.mem_cons_self
      rcases List.mem_cons.mp hy with z | z
      · rw [z]; exact Int.le_trans q (Int.min_le_left n m)
      · rcases List.mem_cons.mp z with z | z
        · rw [z]; exact Int.le_trans q (Int.min_le_right n m)
        · exact h2 y (List.mem_cons_of_mem _ z)
def topI (f : Int → Int → Int) : List Int → Option D
  | [] => none
  | n :: ns => some (.int (ns.foldl f n))
def pMax1 : List D → Option D
  | [.lst ds] => (intsD ds).bind (topI max)
  | _ => none
def pMin1 : List D → Option D
  | [.lst ds] => (intsD ds).bind (topI min)
  | _ => none
theorem n_max1 : PN X (rMax X.K) k pMax1 := by
  intro ds d hd xs H sa Q ra hq
  unfold pMax1 at hd
  split at hd
  · rename_i es
    cases e : intsD es with
    | none => rw [e] at hd; cases hd
    | some ns =>
      rw [e] at hd
      cases ns with
      | nil => cases hd
      | cons n ns =>
        cases hd
        obtain ⟨v, s1, c1, rfl, r1, rfl, rfl⟩ := inv_1 ra
        obtain ⟨a, vs, s', rfl, ha, rs, es', _⟩ := rep_lst0 r1
        have ev := reps_ints rs e
        subst ev
        refine ⟨a, n :: ns, rfl, SqL.of ha, Nat.succ_pos _, fun m h1 h2 => ?_⟩
        obtain ⟨f1, f2⟩ := foldl_max ns n
        have em : m = ns.foldl max n := Int.le_antisymm (f2 m h1) (h2 _ f1)
        rw [em]
        exact hq _ H z0 z0 (.int _) .flat
  · cases hd
theorem n_min1 : PN X (rMin X.K) k pMin1 := by
  intro ds d hd xs H sa Q ra hq
  unfold pMin1 at hd
  split at hd
  · rename_i es
    cases e : intsD es with
    | none => rw [e] at hd; cases hd
    | some ns =>
      rw [e] at hd
      cases ns with
      | nil => cases hd
      | cons n ns =>
        cases hd
        obtain ⟨v, s1, c1, rfl, r1, rfl, rfl⟩ := inv_1 ra
        obtain ⟨a, vs, s', rfl, ha, rs, es', _⟩ := rep_lst0 r1
        have ev := reps_ints rs e
        subst ev
        refine ⟨a, n :: ns, rfl, SqL.of ha, Nat.succ_pos _, fun m h1 h2 => ?_⟩
        obtain ⟨f1, f2⟩ := foldl_min ns n
        have em : m = ns.foldl min n := Int.le_antisymm (h2 _ f1) (f2 m h1)
        rw [em]
        exact hq _ H z0 z0 (.int _) .flat
  · cases hd
/-- x in xs of flat data -/
def flatQ : D → Bool
  | .non | .bl _ | .int _ | .str _ => true
  | _ => false
def itemsQ : D → Option (List D)
  | .lst ds => some ds
  | .tup ds => some ds
  | _ => none
def pIn (neg : Bool) (x y : D) : Option D := (itemsQ y).bind fun ds => if flatQ x = true ∧ ds.all flatQ = true then some (.bl (if neg then !ds.any (fun z => eqD z x) else ds.any (fun z => eqD z x))) else none
theorem rep_flatQ {K : PySem.W.Frag} {H : Hp} {n : Nat} {d : D} {v : V} {c s : Cnt} (r : Rep K H n d v c s) (h : flatQ d = true) : flatV v = true := by cases r <;> first | rfl | cases h
theorem eqV_eqD {K : PySem.W.Frag} {H H' : Hp} {n m : Nat} {d d' : D} {v v' : V} {c s c' s' : Cnt} (r : Rep K H n d v c s) (r' : Rep K H' m d' v' c' s') (h : flatQ d = true) (h' : flatQ d' = true) : eqV v v' = eqD d d' := by
  cases r <;> (first | cases h | skip) <;> cases r' <;> (first | cases h' | skip) <;> simp [eqV, eqD]
theorem reps_in {K : PySem.W.Frag} {H : Hp} {n : Nat} {x : D} {u : V} {m : Nat} {cu su : Cnt} (rx : Rep K H m x u cu su) (hx : flatQ x = true) : ∀ {ds : List D} {vs : List V} {c s : Cnt}, Reps K H n ds vs c s → ds.all flatQ = true → vs.all flatV = true ∧ inV u vs = ds.any (fun z => eqD z x)
  | _, _, _, _, .nil, _ => ⟨rfl, rfl⟩
  | _, _, _, _, .cons a b, h => by
    rw [List.all_cons, Bool.and_eq_true] at h
    obtain ⟨q1, q2⟩ := reps_in rx hx b h.2
    refine ⟨by rw [List.all_cons, rep_flatQ a h.1, q1]; rfl, ?_⟩
    unfold inV at q2 ⊢
    rw [List.any_cons, List.any_cons, q2, eqV_eqD a rx h.1 hx]
theorem p_in (neg : Bool) : P2 X (rIn X.K neg) k (pIn neg) := by
  intro da db d hd x y H sa sb Q ra rb hq
  unfold pIn at hd
  cases ei : itemsQ db with
  | none => rw [ei] at hd; cases hd
  | some ds =>
    rw [ei] at hd
    have hd' : (if flatQ da = true ∧ ds.all flatQ = true then some (D.bl (if neg then !ds.any (fun z => eqD z da) else ds.any (fun z => eqD z da))) else none) = some d := hd
    by_cases hf : flatQ da = true ∧ ds.all flatQ = true
    · rw [if_pos hf] at hd'
      cases hd'
      have fin : ∀ p vs, y = .ref p → (SqL X.K H p vs ∨ SqT X.K H p vs) → (∃ c s, Reps X.K H 0 ds vs c s) → rIn X.K neg x y H Q := by
        intro p vs ey hv ⟨c, s, rs⟩
        obtain ⟨q1, q2⟩ := reps_in ra hf.1 rs hf.2
        refine ⟨p, vs, ey, hv, rep_flatQ ra hf.1, q1, ?_⟩
        rw [q2]
        exact hq _ H z0 z0 (.bl _) .flat
      cases db with
      | lst es =>
        cases ei
        obtain ⟨a, vs, s', rfl, ha, rs, _, _⟩ := rep_lst0 rb
        exact fin a vs rfl (.inl (SqL.of ha)) ⟨_, _, rs⟩
      | tup es =>
        cases ei
        obtain ⟨a, vs, rfl, ha, rs⟩ := rep_tup rb
        exact fin a vs rfl (.inr (SqT.of ha)) ⟨_, _, rs⟩
      | _ => cases ei
    · rw [if_neg hf] at hd'; cases hd'
end
end VL

/-! VL22: tuple targets in comprehensions, three stores at once, range of three, len(set(..)) -/
namespace VL
open PySem PySem.Spec L2
section
variable {X : Cx} {F : Fx} {G G1 G2 G3 G4 G' : List Nat} {k k1 k2 : Nat} {e a b c tg iter : Expr} {es : List Expr} {p pos tpos : Pos}
structure PTos (X : Cx) (F : Fx) (G G' : List Nat) (vs : List Nat) (tgs : List Expr) (g : List D → Rho → Option Rho) : Prop where
  go : ∃ t, PGs X tgs t ∧ ∀ σ H r c s ds xs sx Q r1, SR X.K H G r σ c s → Ok c (add s sx) → Reps X.K H 0 ds xs z0 sx → g ds r = some r1 →
    (∀ σ' c' s', SR X.K H G' r1 σ' c' s' → L2.wipe σ' vs = L2.wipe σ vs → Step c (add s sx) H c' s' H → Q σ' H) → t xs σ H Q
theorem tos_nil {vs : List Nat} : PTos X F G G vs [] gNil' := by
  refine ⟨_, pgs_nil, fun σ H r c s ds xs sx Q r1 sr ok rp hg h => ?_⟩
  cases ds with
  | nil =>
    cases hg
    obtain ⟨rfl, _, rfl⟩ := rp.inv0
    exact ⟨rfl, h σ c s sr rfl (by rw [add_z]; exact .refl (by rw [add_z] at ok; exact ok))⟩
  | cons a b => cases hg
theorem tos_cons {vs : List Nat} {g : D → Rho → Option Rho} {gs : List D → Rho → Option Rho} (A : PTo X F G G1 vs e g) (B : PTos X F G1 G2 vs es gs) (hs : (assignEach (e :: es) X.env).map (·.2) = assign e X.env :: (assignEach es X.env).map (·.2) := by rfl) :
    PTos X F G G2 vs (e :: es) (gCons' g gs) := by
  obtain ⟨t, ht, q⟩ := A.go
  obtain ⟨u, hu, q2⟩ := B.go
  refine ⟨_, pgs_cons ht hu hs, fun σ H r c s ds xs sx Q r1 sr ok rp hg h => ?_⟩
  cases ds with
  | nil => cases hg
  | cons d ds =>
    obtain ⟨v, us, ca, sa, cb, sb, rfl, ra, rb, _, rfl⟩ := rp.inv1
    have za := ra.zero; have zb := rb.zero
    have ra0 : Rep X.K H 0 d v z0 sa := by rw [za] at ra; exact ra
    have rb0 : Reps X.K H 0 ds us z0 sb := by rw [zb] at rb; exact rb
    unfold gCons' at hg
    cases e1 : g d r with
    | none => simp only [e1] at hg; cases hg
    | some r2 =>
      simp only [e1, Option.bind_some] at hg
      refine ⟨v, us, rfl, q σ H r c s d v sa _ r2 sr (fun z => by have := ok z; simp only [add_at] at this ⊢; omega) ra0 e1 fun σ' c' s' sr' pr' st => ?_⟩
      have st2 : Step c (add s (add sa sb)) H c' (add s' sb) H := by
        have hf : Ok (add c z0) (add (add s sa) sb) := by rw [add_z, add_assoc']; exact ok
        have q := st.frame (cf := z0) (sf := sb) hf rb0.dom
        rw [add_z, add_z, add_assoc'] at q
        exact q
      exact q2 σ' H r2 c' s' ds us sb Q r1 sr' st2.ok rb0 hg fun σ2 c2 s2 sr2 pr2 st3 => h σ2 c2 s2 sr2 (pr2.trans pr') (st2.trans st3)
theorem to_tup {kk : Nat} {vs : List Nat} {gs : List D → Rho → Option Rho} {n : Nat} (hc : X.calm = true) (A : PTos X F G G1 vs es gs) (hn : (assignEach es X.env).length = n := by rfl) (hst : (assignEach es X.env).findIdx? (·.1) = none := by rfl) :
    PTo X F G G1 vs (.Tuple es kk pos) (gTup n gs) := by
  obtain ⟨t, ht, q⟩ := A.go
  refine ⟨_, pg_tup hc ht hn hst, fun σ H r c s d x sx Q r1 sr ok rp hg h => ?_⟩
  cases d with
  | tup ds =>
    obtain ⟨a, us, rfl, ha, rs⟩ := rep_tup rp
    have hg : (if ds.length = n then gs ds r else none) = some r1 := hg
    by_cases hl : ds.length = n
    · rw [if_pos hl] at hg
      exact ⟨a, us, rfl, SqT.of ha, by rw [← rs.length]; exact hl, q σ H r c s ds us sx Q r1 sr ok rs hg h⟩
    · rw [if_neg hl] at hg
      cases hg
  | _ => cases hg
def par3 (i j l : Nat) (ds : List D) (r : Rho) : SO := match ds with
  | [d, e, f] => .nx (((r.set i (some d)).set j (some e)).set l (some f))
  | _ => .no
def dPar3 (i j l : Nat) (f : Rho → R (List D)) : Rho → SO := fun r => (f r).then fun ds r1 => par3 i j l ds r1
/-- a, b, c = x, y, z -/
theorem s_par3 (i j l : Nat) {x y z : Str} {px py pz pt : Pos} {kt k2 pt2} {fa : Rho → R (List D)} (hc : X.calm = true) (nd : X.N.Nodup) (A : PL X F G G1 k [a, b, c] fa) (hij : i ≠ j := by decide) (hil : i ≠ l := by decide) (hjl : j ≠ l := by decide)
    (hi : X.N[i]? = some x := by rfl) (hj : X.N[j]? = some y := by rfl) (hl : X.N[l]? = some z := by rfl)
    (hx : X.env.scope.names.lookup x = some .local := by rfl) (hy : X.env.scope.names.lookup y = some .local := by rfl) (hz : X.env.scope.names.lookup z = some .local := by rfl)
    (hp : Fr F i := by first | exact ⟨Or.inl rfl, rfl⟩ | exact ⟨Or.inr (by decide), rfl⟩) (hp2 : Fr F j := by first | exact ⟨Or.inl rfl, rfl⟩ | exact ⟨Or.inr (by decide), rfl⟩) (hp3 : Fr F l := by first | exact ⟨Or.inl rfl, rfl⟩ | exact ⟨Or.inr (by decide), rfl⟩)
    (hli : i < G.length := by decide) (hlj : j < G.length := by decide) (hll : l < G.length := by decide)
    (hw : swappedStores [.Tuple [.Name x px, .Name y py, .Name z pz] kt pt] (.Tuple [a, b, c] k2 pt2) X.env = pure (some [x, y, z]) := by rfl)
    (hs : swapsWithSole [.Tuple [.Name x px, .Name y py, .Name z pz] kt pt] (.Tuple [a, b, c] k2 pt2) pos.line X.env = pure false := by rfl) :
    PSt X F G (((G1.set i k).set j k).set l k) (.Assign [.Tuple [.Name x px, .Name y py, .Name z pz] kt pt] (.Tuple [a, b, c] k2 pt2) pos) (dPar3 i j l fa) := by
  obtain ⟨t, ht, q⟩ := A.go
  refine ⟨_, ps_par3 hc nd hi hj hl hij hil hjl hx hy hz ht hw hs, fun v0 σ H r c s Dn sr ok pr h => q σ H r c s _ sr ok (OutS.useX pr h fun ds r1 h2 => ?_)⟩
  intro vs H' c1 s1 cr sr' x rp y
  unfold par3 at h2
  split at h2
  · rename_i d e f
    obtain ⟨v, vs', ca, sa, cb, sb, rfl, ra, rb', rfl, rfl⟩ := rp.inv1
    obtain ⟨u, w, cc, sc, cd, sd, rfl, rb, rc, rfl, rfl⟩ := inv_2 rb'
    have hlen : r1.length = G.length := by
      have e1 := x.lenS
      have e2 := sr.lenS
      have e3 := sr.lenG
      omega
    obtain ⟨c2, s2, x2, hc2, hs2⟩ := x.fill (i := i) (by omega) ra
    obtain ⟨c3, s3, x3, hc3, hs3⟩ := x2.fill (i := j) (by rw [List.length_set]; omega) rb
    obtain ⟨c4, s4, x4, hc4, hs4⟩ := x3.fill (i := l) (by rw [List.length_set, List.length_set]; omega) rc
    refine ⟨v, u, w, rfl, h2 _ H' _ _ x4 (((pr.set hp).set hp2).set hp3) (y.less (fun z => ?_) (fun z hz => ?_))⟩
    · have h4 := hc2 z; have h5 := hc3 z; have h6 := hc4 z; simp only [add_at] at h4 h5 h6 ⊢; omega
    · have h4 := hs2 z; have h5 := hs3 z; have h6 := hs4 z; simp only [add_at] at hz h4 h5 h6 ⊢; omega
  · exact False.elim h2
/-- range(i, j, c) -/
def rngC (i c : Int) (n : Nat) : List D := (List.range n).map fun (m : Nat) => .int (i + (m : Int) * c)
def rng3 : List D → Option (List D)
  | [.int i, .int j, .int c] => if (c ≠ 0 ∧ c.natAbs < 1073741824) ∧ Builtin.Range.small i j c = true ∧ 0 ≤ Builtin.Range.rangeSize i j c then some (rngC i c (Builtin.Range.rangeSize i j c).toNat) else none
  | _ => none
theorem walk_rngC (K : PySem.W.Frag) (i c : Int) (n : Nat) : WalkOk K (Itc i c n) (rngC i c n) z0 (fun _ => True) :=
  ⟨fun _ _ _ _ => trivial, fun _ _ => .z, fun H m _ hm => by unfold rngC at hm; rw [List.length_map, List.length_range] at hm; exact hm, fun H m x H' d _ hd hy => by
    obtain ⟨rfl, rfl⟩ := hy
    unfold rngC at hd
    rw [List.getElem?_map] at hd
    cases e : (List.range n)[m]? with
    | none => rw [e] at hd; cases hd
    | some t =>
      rw [e] at hd
      cases hd
      have et : t = m := by
        have q := List.getElem?_eq_some_iff.mp e
        obtain ⟨h1, h2⟩ := q
        rw [List.getElem_range] at h2
        exact h2.symm
      subst et
      exact ⟨z0, .int _, fun z hz => absurd hz (Nat.lt_irrefl 0), fun _ _ h => h⟩, fun H _ => by show n ≤ _; unfold rngC; rw [List.length_map, List.length_range]; exact Nat.le_refl _⟩
theorem it_range3 {f : Rho → R (List D)} (A0 : PL X F G G1 k [a, b, c] f) (hg : Gl X "range") (hm : X.mg "range" = none)
    (hs : starEach [a, b, c] X.env = (false, eval a X.env) :: starEach [b, c] X.env := by rfl) (hpl : (backTo pos (starEach [b, c] X.env)).any (·.1) = false := by rfl) :
    PIt X F G G1 tg (.Call (.Name "range" p) [a, b, c] [] pos) (dIt rng3 f) := by
  obtain ⟨t, ht, q⟩ := (l_weak A0).go
  refine ⟨_, pi_range3 hg hm ht hs hpl, fun σ H r c s Rr sr ok h => q σ H r c s _ sr ok (h.bind1.mono fun ds r1 h2 => ?_)⟩
  obtain ⟨is, hd, h2⟩ := h2
  intro vs H1 c1 s1 cr sI x rp st
  unfold rng3 at hd
  split at hd
  · rename_i i j l
    split at hd
    · rename_i hj
      cases hd
      obtain ⟨v1, vs1, _, _, _, _, rfl, r1, rpa, rfl, rfl⟩ := rp.inv1
      obtain ⟨v2, vs2, _, _, _, _, rfl, r2, rpb, rfl, rfl⟩ := rpa.inv1
      obtain ⟨v3, vs3, _, _, _, _, rfl, r3, rpc, rfl, rfl⟩ := rpb.inv1
      obtain ⟨rfl, rfl, rfl⟩ := rpc.inv0
      cases r1; cases r2; cases r3
      simp only [add_z] at st
      exact ⟨i, j, l, _, rfl, ⟨hj.1.1, hj.1.2, hj.2.1, (Int.toNat_of_nonneg hj.2.2).symm⟩, h2 _ H1 c1 s1 z0 _ x (walk_rngC X.K i l _) trivial (by rw [add_z]; exact st)⟩
    · cases hd
  · cases hd
end
end VL

/-! VL23: a def that calls itself: without fuel it promises nothing -/
namespace VL
open PySem PySem.Spec L2
theorem fnv_no {P : Program} {w : World} {K : PySem.W.Frag} {mg : Str → Option Value} {base : Heap} {k : Nat} {f : Addr} {fd : FuncData} {ps : List Str} {io : Option Nat} {kr : Nat} :
    FnV P w K mg base k f fd ps io kr (fun _ => .no) where
  few := fun vs H Q E h => by
    obtain ⟨_, _, _, _, _, _, h⟩ := h
    exact (h : False).elim
  runs := fun A out s H args us vs Q E g hr I rv b h => by
    obtain ⟨_, _, _, _, _, _, h⟩ := h
    exact (h : False).elim
end VL

/-! VL24: x[a:b] = e -/
namespace VL
open PySem PySem.Spec L2
section
variable {X : Cx} {F : Fx} {G G1 G2 G3 G4 G' : List Nat} {k k1 k2 n : Nat} {e a b : Expr} {es : List Expr} {pos p p2 : Pos}
/-- the store at the value level -/
def gSetSl (to : TE) (tl th : TO) : TG := fun v σ H Q => to σ H fun x H1 => tl σ H1 fun lo H2 => th σ H2 fun hi H3 =>
  ∃ (l bb : Addr) (xs ys : List V) (i j : Int), x = .ref l ∧ v = .ref bb ∧ H3 l = some (.lst xs) ∧ H3 bb = some (.lst ys) ∧ l ≠ bb ∧ lo = some i ∧ hi = some j ∧ 0 ≤ i ∧ i ≤ j ∧ j ≤ xs.length ∧ xs.length + ys.length ≤ sizeLine ∧
    Q σ (L2.upd H3 l (.lst (xs.take i.toNat ++ ys ++ xs.drop j.toNat)))
theorem pg_setSl {o : Expr} {lo hi : Option Expr} {to : TE} {tl th : TO} (ho : PE X o to) (hl : PO X lo tl) (hu : PO X hi th)
    (ha : ∀ v, assign (.Subscript o (.Slice lo hi none p2) pos) X.env v = (do
      let ov ← holding [v] (eval o X.env)
      let iv ← holding [v, ov] (eval (.Slice lo hi none p2) X.env)
      standAt pos
      holding [v, ov, iv] (setItem ov iv v)
      release [iv, v, ov] []) := by intro _; rfl) : PG X (.Subscript o (.Slice lo hi none p2) pos) (gSetSl to tl th) := by
  refine ⟨fun pins s σ H v u Q I r h => ?_⟩
  rw [ha]
  refine wpAny_bind (wpAny_holding (thn (ho.run pins s σ H _ I h) fun ov s1 ⟨x, H1, I1, r1, q1⟩ => ?_))
  refine wpAny_bind (wpAny_holding (PySem.wpAny_Slice (thn (hl.run pins s1 σ H1 _ I1 q1) fun vl s2 ⟨l, H2, I2, pl, q2⟩ => thn (hu.run pins s2 σ H2 _ I2 q2) fun vu s3 ⟨uu, H3, I3, pu, q3⟩ => ?_)))
  rw [evalPart_none]
  refine wpAny_pure ?_
  have I4 : Inv X pins σ H3 { s3 with heap := s3.heap.push { cls := .type "slice", data := .fields #[vl, vu, .none] } } := I3.kept (t' := s3.toks) fun b ob q => Heap.get?_push_of_some _ q
  obtain ⟨la, bb, xs, ys, i, j, rfl, rfl, e1, e2, hne, rfl, rfl, i0, ij, jl, hz, q⟩ := q3
  cases r1
  cases r
  cases pl with
  | int i t =>
  cases pu with
  | int j t2 =>
  refine wpAny_bind (wpAny_standAt (wpAny_bind (wpAny_holding (set_slice I4 e1 e2 hne (Heap.IsSliceOf.new ..) ⟨t, rfl⟩ ⟨t2, rfl⟩ i0 ij jl hz fun s' I' => ?_))))
  exact wpAny_release ⟨σ, _, I', q⟩
def setSlGo (i : Nat) (d : D) (lo hi : Option Int) (r : Rho) : SO := match rget r i, d, lo, hi with
  | some (.lst ds), .lst es, some a, some b => if 0 ≤ a ∧ a ≤ b ∧ b ≤ ds.length ∧ ds.length + es.length ≤ 100000 then .nx (r.set i (some (.lst (ds.take a.toNat ++ es ++ ds.drop b.toNat)))) else .no
  | _, _, _, _ => .no
def dSetSl (i : Nat) (fe : Rho → R D) (fl fh : Rho → R (Option Int)) : Rho → SO := fun r => (fe r).then fun d r1 => if isLst (rget r1 i) = true then (fl r1).then fun lo r2 => (fh r2).then fun hi r3 => setSlGo i d lo hi r3 else .no
/-- x[a:b] = e, x the name of slot i, a list that is owned -/
theorem s_setSl (i n : Nat) {y : Str} {py ps : Pos} {lo hi : Option Expr} {fe : Rho → R D} {fl fh : Rho → R (Option Int)} (A : PV X F G G1 (n + 1) e fe) (L : PO1 X F G1 G2 lo fl) (U : PO1 X F G2 G3 hi fh) (hmm : gget G3 i = n + 1 := by rfl) (hN : X.N[i]? = some y := by rfl) (hv : Vis X.env.scope y := by first | exact Or.inl rfl | exact Or.inr (Or.inl rfl) | exact Or.inr (Or.inr rfl))
    (hd : (y == ("__debug__" : Str)) = false := by decide) (hcd : (y == ("__classdict__" : Str)) = false := by decide)
    (ha : ∀ v, assign (.Subscript (.Name y py) (.Slice lo hi none p2) ps) X.env v = (do
      let ov ← holding [v] (eval (.Name y py) X.env)
      let iv ← holding [v, ov] (eval (.Slice lo hi none p2) X.env)
      standAt ps
      holding [v, ov, iv] (setItem ov iv v)
      release [iv, v, ov] []) := by intro _; rfl)
    (hs : swapsWithSole [.Subscript (.Name y py) (.Slice lo hi none p2) ps] e pos.line X.env = pure false := by rfl) (hw : swappedStores [.Subscript (.Name y py) (.Slice lo hi none p2) ps] e X.env = pure none := by rfl)
    (h1 : (assignEach [.Subscript (.Name y py) (.Slice lo hi none p2) ps] X.env).map (·.2) = [assign (.Subscript (.Name y py) (.Slice lo hi none p2) ps) X.env] := by rfl) :
    PSt X F G G3 (.Assign [.Subscript (.Name y py) (.Slice lo hi none p2) ps] e pos) (dSetSl i fe fl fh) := by
  obtain ⟨t, ht, q⟩ := A.go
  obtain ⟨tl, htl, ql⟩ := L.go
  obtain ⟨tu, htu, qu⟩ := U.go
  refine ⟨_, ps_asg ht (pg_setSl (pv i hN hv hd hcd) htl htu ha) hs hw h1, fun v0 σ H r c s Dn sr ok pr h => q σ H r c s _ sr ok (OutS.useX pr h fun d r1 h2 => ?_)⟩
  intro v0'' H1 c1 s1 ca sa x rp st
  by_cases hi : isLst (rget r1 i) = true
  case neg => rw [if_neg hi] at h2; exact False.elim h2
  rw [if_pos hi] at h2
  obtain ⟨ds0, e0⟩ := isLst_of hi
  obtain ⟨v0', _, _, _, _, ev0, rp0, _⟩ := x.out e0
  obtain ⟨l, vs0, rfl, hl0, _⟩ := rep_lst rp0
  have ok1 : Ok c1 s1 := fun z => by have := st.ok z; simp only [add_at] at this; omega
  have st1 : Step c s H c1 s1 H1 := st.less (fun z => by simp only [add_at]; omega) (fun z hz => by simp only [add_at]; omega)
  refine ⟨.ref l, ev0, ql σ H1 r1 c1 s1 _ x ok1 ?_⟩
  cases ej : fl r1 with
  | no => rw [ej] at h2; exact False.elim h2
  | ex nn dd r2 => rw [ej] at h2; exact fun cls dx H' G c1 s1 e gg sr4 z => h2 cls dx σ H' G c1 s1 e gg sr4 pr (st1.trans z)
  | ok lo r2 =>
  rw [ej] at h2
  intro H2 c2 s2 x2 st2
  refine qu σ H2 r2 c2 s2 _ x2 st2.ok ?_
  have h2' : OutS X F v0 G3 c s H Dn ((fh r2).then fun hi r3 => setSlGo i d lo hi r3) := h2
  cases ek : fh r2 with
  | no => rw [ek] at h2'; exact False.elim h2'
  | ex nn dd r3 => rw [ek] at h2'; exact fun cls dx H' G c1 s1 e gg sr4 z => h2' cls dx σ H' G c1 s1 e gg sr4 pr ((st1.trans st2).trans z)
  | ok hi r3 =>
  rw [ek] at h2'
  intro H3 c3 s3 x3 st3
  have h3 : OutS X F v0 G3 c s H Dn (setSlGo i d lo hi r3) := h2'
  have st23 := st2.trans st3
  unfold setSlGo at h3
  split at h3
  · rename_i ds es i0 j0 e1
    split at h3
    · rename_i hc
      obtain ⟨v, c5, s5, c4, s4, ev, rr, x', ec, es'⟩ := x3.out e1
      rw [ev0] at ev
      cases ev
      rw [hmm] at rr
      have hlt := rget_lt e1
      have stf := st23.frame (cf := ca) (sf := sa) st.ok rp.dom
      have rp2 := rp.keep (st23.aside st.ok)
      cases rr with
      | @lstS _ _ vs _ cc ss hl rs =>
        cases rp2 with
        | @lstS _ bb ys _ cb sb hb rb =>
          subst ec; subst es'
          have hlen := rs.length
          have hle := rb.length
          have okl := stf.ok l
          have okb := stf.ok bb
          simp only [add_at, one_same] at okl okb
          have hne : l ≠ bb := fun z => by
            subst z
            rw [one_same] at okl
            omega
          obtain ⟨cx, sx, cy, sy, rx, ry, eA, eB⟩ := rs.take j0.toNat
          obtain ⟨cx1, sx1, cx2, sx2, rx1, _, eC, eD⟩ := rx.take i0.toNat
          subst eA; subst eB; subst eC; subst eD
          simp only [add_at] at okl okb
          have hij : min i0.toNat j0.toNat = i0.toNat := Nat.min_eq_left (by omega)
          rw [List.take_take, List.take_take, hij] at rx1
          have rn := ry.app (rb.app rx1)
          have hz1 : one bb l = 0 := by unfold one; rw [if_neg hne]
          have kp : ∀ {c s : Cnt}, c l = 0 → s l = 0 → Kp c s H3 (L2.upd H3 l (.lst (vs.take i0.toNat ++ ys ++ vs.drop j0.toNat))) := fun {c s} e1 e2 => Kp.upd hl (fun z => z) e1 e2
          refine ⟨l, bb, vs, ys, i0, j0, rfl, rfl, hl, hb, hne, rfl, rfl, hc.1, hc.2.1, by rw [← hlen]; exact hc.2.2.1, line5 (by rw [← hlen, ← hle]; exact hc.2.2.2), ?_⟩
          have xk := x'.keep (kp (by omega) (by omega))
          have rk := rn.keep (kp (by simp only [add_at]; omega) (by simp only [add_at]; omega))
          have xu := xk.upd (by rw [List.length_set]; exact hlt) (rget_set_none r3 i) ev0 (.lstS upd_same rk)
          rw [set_set, ← hmm, gset_same] at xu
          refine h3 σ _ _ _ xu pr ?_
          exact ((st.trans stf)).mut (by simp only [add_at, one_same]; omega) hl (fun z => z) (fun a => by simp only [add_at]; omega) (fun a ha => by simp only [add_at] at ha ⊢; omega)
    · exact False.elim h3
  · exact False.elim h3
end
end VL

/-! VL25: is True, is False -/
namespace VL
open PySem PySem.Spec L2
section
variable {X : Cx} {k : Nat}
def pIsB (a b : D) : Option D := match a, b with
  | .bl x, .bl y => some (.bl (decide (x = y)))
  | _, _ => none
theorem p_isB : P2 X rIsB k pIsB := by
  intro da db d hd x y H sa sb Q ra rb hq
  unfold pIsB at hd
  split at hd
  · cases hd
    cases ra; cases rb
    exact ⟨_, _, rfl, rfl, hq _ H z0 z0 (.bl _) .flat⟩
  · cases hd
end
end VL

/-! VL26: how many different ints a list has -/
namespace VL
open PySem PySem.Spec PyProof.Rows L2
def metI (ns : List Int) : List Int := PyProof.Rows.firstMet (fun i => ns.getD i 0) ns.length
def tLenSet (K : PySem.W.Frag) (ta : TE) : TE := fun σ H Q => ta σ H fun x H1 => ∃ (l : Addr) (ns : List Int), x = .ref l ∧ SqL K H1 l (ns.map V.int) ∧ ns.length ≤ 4000 ∧ Q (.int ((metI ns).length : Nat)) H1
section
variable {X : Cx} {F : Fx} {G G1 : List Nat} {k k1 : Nat}
theorem pe_lenSet {a : Expr} {ta : TE} {p p2 q pos : Pos} (hg : Gl X "len") (hm : X.mg "len" = none) (hg2 : Gl X "set") (hm2 : X.mg "set" = none) (ha : PE X a ta) (hc : X.calm = true)
    (na : starEach [a] X.env = (false, eval a X.env) :: starEach [] X.env) : PE X (.Call (.Name "len" p) [.Call (.Name "set" p2) [a] [] q] [] pos) (tLenSet X.K ta) := by
  refine ⟨fun pins s σ H Q I h => ?_⟩
  refine Call_ (ld_blt I hg hm boot_len ?_)
  refine PyProof.Rows.callWith_builtin1 (PyProof.Rows.args_cons ?_ rfl) rfl rfl
  refine Call_ (ld_blt I hg2 hm2 boot_set ?_)
  refine PyProof.Rows.callWith_type1 (PyProof.Rows.args_cons (thn (ha.run pins s σ H _ I h) fun v s1 ⟨x, H1, I1, r1, q1⟩ => PyProof.Rows.args_nil ?_) na) na rfl
  obtain ⟨l, ns, rfl, hq, hl, q1⟩ := q1
  cases r1
  obtain ⟨its, r, pl, hz⟩ := I1.list hq
  have hlen : its.toArray.size = ns.length := by rw [List.size_toArray, ← r.length, List.length_map]
  refine PySem.call_set_list (I1.ok.hd hc) pl.isList (by simpa using RZ.intsAre_vals r) (by rw [hlen]; unfold PySem.scanBound; omega) fun h' tk hS hk => ?_
  refine PyProof.Rows.args_nil ?_
  rw [hlen] at hS
  have hle := PyProof.Rows.firstMet_length_le (fun i => ns.getD i 0) ns.length
  obtain ⟨o, es, ep, t, ho, hex, hd, _, _, _, hf, hn⟩ := hS
  have I2 : Inv X pins σ H1 { s1 with heap := h', toks := tk } := I1.kept fun b o e => hk b o (Heap.lt_size e) e
  exact call_len_set ho hex hd hf (by rw [hn] <;> omega) ⟨.int (metI ns).length, H1, I2.tok _, ⟨_, by rw [hn]; rfl⟩, q1⟩
def pLenSet : D → Option D
  | .lst ds => match intsD ds with
    | some ns => if ns.length ≤ 4000 then some (.int ((metI ns).length : Nat)) else none
    | none => none
  | _ => none
theorem v_lenSet {a : Expr} {fe : Rho → R D} {p p2 q pos : Pos} (A0 : PV X F G G1 k1 a fe) (hm : X.mg "len" = none) (hm2 : X.mg "set" = none) (hc : X.calm = true := by rfl) (hg : Gl X "len" := by rfl) (hg2 : Gl X "set" := by rfl)
    (na : starEach [a] X.env = (false, eval a X.env) :: starEach [] X.env := by rfl) : PV X F G G1 k (.Call (.Name "len" p) [.Call (.Name "set" p2) [a] [] q] [] pos) (d1 pLenSet fe) := by
  have A := A0.weak (Nat.zero_le k1)
  obtain ⟨t, ht, q⟩ := A.go
  refine ⟨_, pe_lenSet hg hm hg2 hm2 ht hc na, fun σ H r c s Q sr ok h => q σ H r c s _ sr ok (h.bind1.mono fun d r1 h1 => ?_)⟩
  obtain ⟨dd, hd, h1⟩ := h1
  intro v H1 c1 s1 cr sa x1 rp st
  have z := rp.zero
  subst z
  simp only [add_z] at st
  cases d with
  | lst ds =>
    obtain ⟨a, vs, s', rfl, ha, rs, es, _⟩ := rep_lst0 rp
    unfold pLenSet at hd
    simp only at hd
    cases e : intsD ds with
    | none => rw [e] at hd; cases hd
    | some ns =>
      rw [e] at hd
      simp only at hd
      split at hd
      · rename_i hl
        cases hd
        have ev := reps_ints rs e
        subst ev
        exact ⟨a, ns, rfl, SqL.of ha, hl, h1 _ _ c1 s1 z0 z0 x1 (.int _) (by simp only [add_z]; exact st.less (fun _ => Nat.le_refl _) (fun a ha => by simp only [add_at]; omega))⟩
      · cases hd
  | _ => cases hd
end
end VL

/-! VL27: a statement that asks less of the slots -/
namespace VL
open PySem PySem.Spec L2
theorem PSt.wkIn {X : Cx} {F : Fx} {G H G1 : List Nat} {st : Stmt} {f : Rho → SO} (A : PSt X F H G1 st f) (h : LeG H G) : PSt X F G G1 st f := by
  obtain ⟨t, ht, q⟩ := A.go
  refine ⟨t, ht, fun v0 σ Hp r c s Dn sr ok pr o => ?_⟩
  obtain ⟨c', s', x', w⟩ := sr.wk h
  exact q v0 σ Hp r c' s' Dn x' (ok.wk w) pr (o.shift ((Step.refl ok).wk w))
end VL

/-! VL28: a > b of two pairs of ints -/
namespace VL
open PySem PySem.Spec PyProof.Rows L2
def rGtP (K : PySem.W.Frag) : R2 := fun x y H Q => ∃ (p q : Addr) (a b c d : Int), x = .ref p ∧ y = .ref q ∧ H p = some (.tup [.int a, .int b]) ∧ H q = some (.tup [.int c, .int d]) ∧
  Q (.bl (if a = c then decide (d < b) else decide (c < a))) H
theorem op_gtP {X : Cx} (hu : X.A.units < cLine) : OpR X (compareOp .Gt) (rGtP X.K) := by
  intro pins s σ H x y v u Q I rx ry h
  obtain ⟨p, p2, a, b, c, d, rfl, rfl, ha, hb, q⟩ := h
  cases rx
  cases ry
  obtain ⟨its, r1, p1, _⟩ := I.tuple (SqT.of ha)
  obtain ⟨its2, r2, p2, _⟩ := I.tuple (SqT.of hb)
  have i1 : IntsAre its [a, b] := Vals.ints (ns := [a, b]) r1
  have i2 : IntsAre its2 [c, d] := Vals.ints (ns := [c, d]) r2
  have e1 : its.toArray.size = 2 := by rw [List.size_toArray]; exact i1.length
  have e2 : its2.toArray.size = 2 := by rw [List.size_toArray]; exact i2.length
  have at1 : ∀ j (h1 : j < its.toArray.size), ∃ t, its.toArray[j] = .int (([a, b] : List Int).getD j 0) t := fun j h1 => PyProof.Rows.IntsAre.int_at i1 _ _ (by simp at h1; simp [h1])
  have at2 : ∀ j (h1 : j < its2.toArray.size), ∃ t, its2.toArray[j] = .int (([c, d] : List Int).getD j 0) t := fun j h1 => PyProof.Rows.IntsAre.int_at i2 _ _ (by simp at h1; simp [h1])
  have R := Ob.RcOp.tuples_gt (A := X.A) (s := s) (e := fun j => decide (([a, b] : List Int).getD j 0 = ([c, d] : List Int).getD j 0)) (r := fun j => decide (([c, d] : List Int).getD j 0 < ([a, b] : List Int).getD j 0)) p1 p2 hu (fun j h1 h2 => by
    obtain ⟨t, et⟩ := at1 j h1
    obtain ⟨t', et'⟩ := at2 j h2
    rw [et, et']
    have z : (([a, b] : List Int).getD j 0 == ([c, d] : List Int).getD j 0) = decide (([a, b] : List Int).getD j 0 = ([c, d] : List Int).getD j 0) := by
      by_cases q : ([a, b] : List Int).getD j 0 = ([c, d] : List Int).getD j 0
      · rw [decide_eq_true q]; exact beq_iff_eq.mpr q
      · rw [decide_eq_false q]; exact beq_eq_false_iff_ne.mpr q
    rw [← z]
    exact SeqAt.EqAt.int_int _ _ _ _) (fun j h1 h2 _ => by
    obtain ⟨t, et⟩ := at1 j h1
    obtain ⟨t', et'⟩ := at2 j h2
    rw [et, et']
    exact Ob.RcOp.gt_int _ _ _ _)
  rw [e1, e2] at R
  have ev : Ob.lexAt (fun j => decide (([a, b] : List Int).getD j 0 = ([c, d] : List Int).getD j 0)) (fun j => decide (([c, d] : List Int).getD j 0 < ([a, b] : List Int).getD j 0)) (decide (2 > 2)) 0 (min 2 2) = if a = c then decide (d < b) else decide (c < a) := by
    show (if decide (a = c) = true then (if decide (b = d) = true then false else decide (d < b)) else decide (c < a)) = _
    by_cases h1 : a = c
    · rw [if_pos (decide_eq_true h1), if_pos h1]
      by_cases h2 : b = d
      · rw [if_pos (decide_eq_true h2), decide_eq_false (by omega)]
      · rw [if_neg (by rw [decide_eq_false h2]; exact Bool.false_ne_true)]
    · rw [if_neg (by rw [decide_eq_false h1]; exact Bool.false_ne_true), if_neg h1]
  rw [ev] at R
  exact R _ _ _ _ ⟨.bl _, H, I, rfl, q⟩
def pGtP (x y : D) : Option D := match x, y with
  | .tup [.int a, .int b], .tup [.int c, .int d] => some (.bl (if a = c then decide (d < b) else decide (c < a)))
  | _, _ => none
theorem p_gtP {X : Cx} {k : Nat} : P2 X (rGtP X.K) k pGtP := by
  intro da db d hd x y H sa sb Q ra rb hq
  unfold pGtP at hd
  split at hd
  · cases hd
    obtain ⟨p, vs, rfl, hp, r1⟩ := rep_tup ra
    obtain ⟨q, ws, rfl, hq2, r2⟩ := rep_tup rb
    have e1 := reps_ints r1 (ns := [_, _]) rfl
    have e2 := reps_ints r2 (ns := [_, _]) rfl
    subst e1; subst e2
    exact ⟨p, q, _, _, _, _, rfl, rfl, hp, hq2, hq _ H z0 z0 (.bl _) .flat⟩
  · cases hd
end VL

/-! VLP: the denotations in plain use -/
namespace VL
open PySem PySem.Spec
open L2 (kitB)
section
variable {α β : Type} {r : Rho} {i j : Int} {f fa fb fc fe fj : Rho → R D} {fl fl' : Rho → R (List D)} {b : Bool} {x : Str}
@[simp] theorem ap_dI : dI i r = .ok (.int i) r := rfl
@[simp] theorem ap_dBl : dBl b r = .ok (.bl b) r := rfl
@[simp] theorem ap_dNon : dNon r = .ok .non r := rfl
@[simp] theorem ap_dStr : dStr x r = .ok (.str x) r := rfl
@[simp] theorem ap_dTy {t : String} : dTy t r = .ok (.ty t) r := rfl
@[simp] theorem ap_dK {d : D} : dK d r = .ok d r := rfl
@[simp] theorem ap_dVar {n : Nat} : dVar n r = lift (rget r n) r := rfl
@[simp] theorem ap_dMv {n : Nat} : dMv n r = lift (rget r n) (r.set n none) := rfl
@[simp] theorem ap_d2 {g : D → D → Option D} : d2 g fa fb r = (fa r).bind fun da r1 => (fb r1).bind fun db r2 => lift (g da db) r2 := rfl
@[simp] theorem ap_d1 {g : D → Option D} : d1 g fa r = (fa r).bind fun da r1 => lift (g da) r1 := rfl
@[simp] theorem ap_dN {g : List D → Option D} : dN g fl r = (fl r).bind fun da r1 => lift (g da) r1 := rfl
@[simp] theorem ap_dUp : dUp f r = (f r).bind fun d r1 => if flat d = true then .ok d r1 else .no := rfl
@[simp] theorem ap_dBor {k : Nat} : dBor k f r = match f r with | .ok d _ => if fits k d = true then .ok d r else .no | _ => .no := rfl
@[simp] theorem ap_dBorB {f : Rho → R Bool} : dBorB f r = match f r with | .ok d _ => .ok d r | _ => .no := rfl
@[simp] theorem ap_dB : dB f r = (f r).bind fun d r1 => lift (asB d) r1 := rfl
@[simp] theorem ap_dNotB {f : Rho → R Bool} : dNotB f r = (f r).bind fun b r1 => .ok (!b) r1 := rfl
@[simp] theorem ap_dAndB {fa fb : Rho → R Bool} : dAndB fa fb r = (fa r).bind fun v r1 => if v = true then fb r1 else .ok false r1 := rfl
@[simp] theorem ap_dOrB {fa fb : Rho → R Bool} : dOrB fa fb r = (fa r).bind fun v r1 => if v = true then .ok true r1 else fb r1 := rfl
@[simp] theorem ap_dIfE {fc : Rho → R Bool} : dIfE fc fa fb r = (fc r).bind fun v r1 => if v = true then fa r1 else fb r1 := rfl
@[simp] theorem ap_dAnd : dAnd fa fb r = (dB fa r).bind fun v r1 => if v = true then fb r1 else .ok (.bl false) r1 := rfl
@[simp] theorem ap_dOr : dOr fa fb r = (dB fa r).bind fun v r1 => if v = true then .ok (.bl true) r1 else fb r1 := rfl
@[simp] theorem ap_dNot : dNot f r = (dB f r).bind fun v r1 => .ok (.bl (!v)) r1 := rfl
@[simp] theorem ap_dNil : dNil r = .ok [] r := rfl
@[simp] theorem ap_dCons : dCons f fl r = (f r).bind fun d r1 => (fl r1).bind fun ds r2 => .ok (d :: ds) r2 := rfl
@[simp] theorem ap_dLst : dLst fl r = (fl r).bind fun ds r1 => lift (lstD ds) r1 := rfl
@[simp] theorem ap_dTup : dTup fl r = (fl r).bind fun ds r1 => lift (tupD ds) r1 := rfl
@[simp] theorem ap_dFn {np : Nat} {g : List D → DR} : dFn np g fl r = (fl r).bind fun ds r1 => if ds.length = np then ofDR (g ds) r1 else .no := rfl
@[simp] theorem ap_dFnK {np : Nat} {sw : Bool} {g : List D → DR} : dFnK np sw g fl r = (fl r).bind fun ds r1 => if ds.length = np then ofDR (g (turned sw ds)) r1 else .no := rfl
@[simp] theorem ap_dCallIo {i np : Nat} {g : List D → DR} : dCallIo i np g fl r = match rget r i with | some _ => (fl r).bind fun ds r1 => ioGo i np g ds r1 | none => .no := rfl
@[simp] theorem ap_dItL : dItL f r = (f r).bind fun d r1 => lift (itemsL d) r1 := rfl
@[simp] theorem ap_dItT : dItT f r = (f r).bind fun d r1 => lift (itemsT d) r1 := rfl
@[simp] theorem ap_dIt {g : List D → Option (List D)} : dIt g fl r = (fl r).bind fun ds r1 => lift (g ds) r1 := rfl
@[simp] theorem ap_dONone : dONone r = .ok none r := rfl
@[simp] theorem ap_dOSome : dOSome f r = (f r).bind fun d r1 => lift (asI d) r1 := rfl
@[simp] theorem ap_dTrue : dTrue r = .ok true r := rfl
@[simp] theorem ap_dSl {fx fy : Rho → R (Option Int)} : dSl fe fx fy r = (fe r).bind fun d r1 => (fx r1).bind fun lo r2 => (fy r2).bind fun hi r3 => lift (pSl d lo hi) r3 := rfl
@[simp] theorem ap_lcD {vs : List Nat} {fi : Rho → R (List D)} {g : D → Rho → Option Rho} {ts : Rho → R Bool} : lcD vs fi g ts fe r = (fi r).bind fun ds r1 => if ds.length ≤ 100000 then (compD vs g ts fe ds [] (wipeR r1 vs)).bind fun out r2 => .ok (.lst out) r2 else .no := rfl
@[simp] theorem ap_dMut {i : Nat} {h : List D → List D → Option (D × List D)} : dMut i h fl r = if isLst (rget r i) = true then (fl r).bind fun as r1 => muGo i h as r1 else .no := rfl
-- statements
@[simp] theorem ap_dEnd : dEnd r = .nx r := rfl
@[simp] theorem ap_dNo : dNo r = .no := rfl
@[simp] theorem ap_dBk : dBk r = .bk r := rfl
@[simp] theorem ap_dCt : dCt r = .ct r := rfl
@[simp] theorem ap_dExpr : dExpr f r = (f r).then fun _ r1 => .nx r1 := rfl
@[simp] theorem ap_dRet : dRet f r = (f r).then fun d r1 => .rt d r1 := rfl
@[simp] theorem ap_dRetN : dRetN r = .rt .non r := rfl
@[simp] theorem ap_dSet {n : Nat} : dSet n f r = (f r).then fun d r1 => .nx (r1.set n (some d)) := rfl
@[simp] theorem ap_dSeq {f g : Rho → SO} : dSeq f g r = match f r with | .nx r1 => g r1 | o => o := rfl
@[simp] theorem ap_dIf {c : Rho → R Bool} {f g : Rho → SO} : dIf c f g r = (c r).then fun b r1 => if b = true then f r1 else g r1 := rfl
@[simp] theorem ap_dAug {n : Nat} {g : D → D → Option D} : dAug n g f r = match rget r n with | some x => if flat x = true then (f r).then fun d r1 => augN n (g x d) r1 else .no | none => .no := rfl
@[simp] theorem ap_dAsg {g : D → Rho → Option Rho} : dAsg g f r = (f r).then fun d r1 => match g d r1 with | some r2 => .nx r2 | none => .no := rfl
@[simp] theorem ap_dPar {n m : Nat} : dPar n m fl r = (fl r).then fun ds r1 => par2 n m ds r1 := rfl
@[simp] theorem ap_dFor {fi : Rho → R (List D)} {g : D → Rho → Option Rho} {b : Rho → SO} : dFor fi g b r = (fi r).then fun ds r1 => loopD g b ds r1 := rfl
@[simp] theorem ap_dSetIx {n : Nat} : dSetIx n fe fj r = (fe r).then fun d r1 => if isLst (rget r1 n) = true then (fj r1).then fun dj r2 => setGo n d dj r2 else .no := rfl
@[simp] theorem ap_gSet {n : Nat} {d : D} : gSet n d r = some (r.set n (some d)) := rfl
@[simp] theorem ap_gNil' : gNil' [] r = some r := rfl
@[simp] theorem ap_gCons' {g : D → Rho → Option Rho} {gs : List D → Rho → Option Rho} {d : D} {ds : List D} : gCons' g gs (d :: ds) r = (g d r).bind fun r1 => gs ds r1 := rfl
@[simp] theorem ap_gTup {n : Nat} {gs : List D → Rho → Option Rho} {ds : List D} : gTup n gs (.tup ds) r = if ds.length = n then gs ds r else none := rfl
@[simp] theorem ap_gLst {n : Nat} {gs : List D → Rho → Option Rho} {ds : List D} : gLst n gs (.lst ds) r = if ds.length = n then gs ds r else none := rfl
@[simp] theorem rget0 {o : Option D} : rget (o :: r) 0 = o := rfl
@[simp] theorem rgetS {o : Option D} {n : Nat} : rget (o :: r) (n + 1) = rget r n := rfl
@[simp] theorem wipe0 : wipeR r [] = r := rfl
@[simp] theorem wipeS {v : Nat} {vs : List Nat} : wipeR r (v :: vs) = (wipeR r vs).set v none := rfl
@[simp] theorem seq_nx {r1 : Rho} {g : Rho → SO} : (match SO.nx r1 with | .nx r1 => g r1 | o => o) = g r1 := rfl
end
/-- a result bound -/
theorem bind_eq {α β : Type} {x : R α} {f : α → Rho → R β} {a : α} {r : Rho} (h : x = .ok a r) : x.bind f = f a r := by rw [h]; rfl
theorem then_eq {α : Type} {x : R α} {f : α → Rho → SO} {a : α} {r : Rho} (h : x = .ok a r) : x.then f = f a r := by rw [h]; rfl
/-- a loop with an invariant: P i r ahead of item i -/
theorem loop_inv {g : D → Rho → Option Rho} {b : Rho → SO} (P : Nat → Rho → Prop) : ∀ (ds : List D) (k : Nat) (r : Rho), P k r →
    (∀ i d r, ds[i]? = some d → P (k + i) r → ∃ r1 r2, g d r = some r1 ∧ (b r1 = .nx r2 ∨ b r1 = .ct r2) ∧ P (k + i + 1) r2) → ∃ r', loopD g b ds r = .nx r' ∧ P (k + ds.length) r'
  | [], k, r, h, _ => ⟨r, rfl, h⟩
  | d :: ds, k, r, h, step => by
    obtain ⟨r1, r2, e1, e2, h2⟩ := step 0 d r rfl h
    obtain ⟨r', e3, h3⟩ := loop_inv P ds (k + 1) r2 h2 (fun i d r hd hp => by
      have q := step (i + 1) d r hd (by rw [show k + (i + 1) = k + 1 + i by omega]; exact hp)
      rw [show k + (i + 1) + 1 = k + 1 + i + 1 by omega] at q
      exact q)
    refine ⟨r', ?_, by rw [show k + (d :: ds).length = k + 1 + ds.length by simp only [List.length_cons]; omega]; exact h3⟩
    unfold loopD
    rw [e1]
    rcases e2 with e2 | e2
    · simp only [e2]; exact e3
    · simp only [e2]; exact e3
/-- a comprehension with an invariant -/
theorem comp_inv {vs : List Nat} {g : D → Rho → Option Rho} {ts : Rho → R Bool} {fe : Rho → R D} (P : Nat → List D → Rho → Prop) : ∀ (ds : List D) (k : Nat) (acc : List D) (r : Rho), P k acc r →
    (∀ i d acc r, ds[i]? = some d → P (k + i) acc r → ∃ r1, g d r = some r1 ∧ ((∃ r2, ts r1 = .ok false r2 ∧ P (k + i + 1) acc (wipeR r2 vs)) ∨ ∃ r2 e r3, ts r1 = .ok true r2 ∧ fe r2 = .ok e r3 ∧ P (k + i + 1) (acc ++ [e]) (wipeR r3 vs))) →
    ∃ out r', compD vs g ts fe ds acc r = .ok out r' ∧ P (k + ds.length) out r'
  | [], k, acc, r, h, _ => ⟨acc, r, rfl, h⟩
  | d :: ds, k, acc, r, h, step => by
    obtain ⟨r1, e1, e2⟩ := step 0 d acc r rfl h
    have next : ∀ acc' r', P (k + 1) acc' r' → ∃ out r'', compD vs g ts fe ds acc' r' = .ok out r'' ∧ P (k + (d :: ds).length) out r'' := fun acc' r' h' => by
      obtain ⟨out, r'', e3, h3⟩ := comp_inv P ds (k + 1) acc' r' h' (fun i d acc r hd hp => by
        have q := step (i + 1) d acc r hd (by rw [show k + (i + 1) = k + 1 + i by omega]; exact hp)
        rw [show k + (i + 1) + 1 = k + 1 + i + 1 by omega] at q
        exact q)
      exact ⟨out, r'', e3, by rw [show k + (d :: ds).length = k + 1 + ds.length by simp only [List.length_cons]; omega]; exact h3⟩
    rcases e2 with ⟨r2, e2, h2⟩ | ⟨r2, e, r3, e2, e3, h2⟩
    · obtain ⟨out, r'', q1, q2⟩ := next acc _ h2
      refine ⟨out, r'', ?_, q2⟩
      unfold compD
      simp only [e1, e2]
      exact q1
    · obtain ⟨out, r'', q1, q2⟩ := next (acc ++ [e]) _ h2
      refine ⟨out, r'', ?_, q2⟩
      unfold compD
      simp only [e1, e2, e3]
      exact q1
/-- a list of iL, of layers -/
abbrev iL (ns : List Int) : D := .lst (ns.map D.int)
theorem intsD_map : ∀ ns : List Int, intsD (ns.map D.int) = some ns
  | [] => rfl
  | n :: ns => by simp only [List.map_cons, intsD, intsD_map ns, Option.map_some]
theorem blsD_map : ∀ ns : List Bool, blsD (ns.map D.bl) = some ns
  | [] => rfl
  | n :: ns => by simp only [List.map_cons, blsD, blsD_map ns, Option.map_some]
theorem shDL_ints (k : Nat) : ∀ ns : List Int, shDL k (ns.map D.int) = true
  | [] => by simp [shDL]
  | n :: ns => by cases k <;> simp [shDL, shD, shDL_ints _ ns]
theorem shD_ints (k : Nat) (ns : List Int) : shD (k + 1) (iL ns) = true := by
  show shD (k + 1) (.lst _) = true
  unfold shD
  exact shDL_ints k ns
theorem eqDL_ints : ∀ ns ms : List Int, eqDL (ns.map D.int) (ms.map D.int) = decide (ns = ms)
  | [], [] => by simp [eqDL]
  | [], _ :: _ => by simp [eqDL]
  | _ :: _, [] => by simp [eqDL]
  | n :: ns, m :: ms => by
    simp only [List.map_cons, eqDL, eqD, eqDL_ints ns ms, List.cons.injEq, Bool.decide_and]
    congr 1
theorem eqD_ints (ns ms : List Int) : eqD (iL ns) (iL ms) = decide (ns = ms) := by
  show eqD (.lst _) (.lst _) = _
  unfold eqD
  exact eqDL_ints ns ms
theorem qEq_ints (ns ms : List Int) : qEq (iL ns) (iL ms) = some (.bl (decide (ns = ms))) := by
  show orD none (pEq (iL ns) (iL ms)) = _
  rw [orD_none]
  unfold pEq
  rw [if_pos ⟨shD_ints 63 ns, shD_ints 63 ms⟩, eqD_ints]
theorem qNe_ints (ns ms : List Int) : qNe (iL ns) (iL ms) = some (.bl (!decide (ns = ms))) := by
  show orD none (pNe (iL ns) (iL ms)) = _
  rw [orD_none]
  unfold pNe
  rw [if_pos ⟨shD_ints 63 ns, shD_ints 63 ms⟩, eqD_ints]
theorem qEq_int (i j : Int) : qEq (.int i) (.int j) = some (.bl (decide (i = j))) := by
  show orD none (pEq (.int i) (.int j)) = _
  rw [orD_none]
  unfold pEq
  rw [if_pos ⟨rfl, rfl⟩]
  simp [eqD]
  rfl
theorem qNe_int (i j : Int) : qNe (.int i) (.int j) = some (.bl (!decide (i = j))) := by
  show orD none (pNe (.int i) (.int j)) = _
  rw [orD_none]
  unfold pNe
  rw [if_pos ⟨rfl, rfl⟩]
  simp [eqD]
  rfl
theorem mulOk_l {i j : Int} (h : i.natAbs < 2 ^ 64) : mulOk i j = true := by unfold mulOk; rw [decide_eq_true h]; rfl
theorem mulOk_r {i j : Int} (h : j.natAbs < 2 ^ 64) : mulOk i j = true := by unfold mulOk; rw [decide_eq_true h]; simp
theorem divOk_s {j : Int} (h0 : 0 < j) (h : j < 1073741824) : divOk j = true := by unfold divOk; rw [decide_eq_true h0, decide_eq_true h]; rfl
theorem iMul_l {i j : Int} (h : i.natAbs < 2 ^ 64) : iMul (.int i) (.int j) = some (.int (i * j)) := by unfold iMul; exact if_pos (mulOk_l h)
theorem iMul_r {i j : Int} (h : j.natAbs < 2 ^ 64) : iMul (.int i) (.int j) = some (.int (i * j)) := by unfold iMul; exact if_pos (mulOk_r h)
theorem iDiv_ok {i j : Int} (h : divOk j = true) : iDiv (.int i) (.int j) = some (.int (i / j)) := by unfold iDiv; exact if_pos h
theorem iMod_ok {i j : Int} (h : 0 < j) : iMod (.int i) (.int j) = some (.int (i % j)) := by unfold iMod; exact if_pos h
theorem log2_lt {i : Int} {n : Nat} (h : i.natAbs < 2 ^ n) (hn : 0 < n) : i.natAbs.log2 + 1 ≤ n := by
  by_cases z : i.natAbs = 0
  · rw [z]; have : Nat.log2 0 = 0 := by decide
    omega
  · have := (Nat.log2_lt z).2 h
    omega
theorem iPow_ok {i j : Int} {n : Nat} (h0 : 0 ≤ j) (h : i.natAbs < 2 ^ n) (hn : 0 < n) (hj : (n : Int) * j ≤ 134217728) : iPow (.int i) (.int j) = some (.int (i ^ j.toNat)) := by
  show powGo i j = _
  unfold powGo
  refine if_pos ⟨h0, Int.le_trans (Int.mul_le_mul_of_nonneg_right ?_ h0) hj⟩
  have := log2_lt h hn
  omega
@[simp] theorem ofDR_ok {d : D} {o : Option D} {r : Rho} : ofDR (.ok d o) r = .ok d r := rfl
@[simp] theorem ioGo_some {i np : Nat} {g : List D → DR} {ds : List D} {r : Rho} : ioGo i np g ds r = match rget r i with | some d0 => if ds.length + 1 = np then ioDR i (g (d0 :: ds)) r else .no | none => .no := rfl
@[simp] theorem ioDR_ok {i : Nat} {d d1 : D} {r : Rho} : ioDR i (.ok d (some d1)) r = .ok d (r.set i (some d1)) := rfl
@[simp] theorem fin_none {r : Rho} {f : Option D → DR} : fin none r f = f none := rfl
@[simp] theorem fin_some {m : Nat} {r : Rho} {f : Option D → DR} : fin (some m) r f = match rget r 0 with | some d => f (some d) | none => .no := rfl
@[simp] theorem iAdd_ii {i j : Int} : iAdd (.int i) (.int j) = some (.int (i + j)) := rfl
@[simp] theorem iSub_ii {i j : Int} : iSub (.int i) (.int j) = some (.int (i - j)) := rfl
@[simp] theorem iLt_ii {i j : Int} : iLt (.int i) (.int j) = some (.bl (decide (i < j))) := rfl
@[simp] theorem iLe_ii {i j : Int} : iLe (.int i) (.int j) = some (.bl (decide (i ≤ j))) := rfl
@[simp] theorem iGt_ii {i j : Int} : iGt (.int i) (.int j) = some (.bl (decide (j < i))) := rfl
@[simp] theorem iGe_ii {i j : Int} : iGe (.int i) (.int j) = some (.bl (decide (j ≤ i))) := rfl
@[simp] theorem iNeg_i {i : Int} : iNeg (.int i) = some (.int (-i)) := rfl
@[simp] theorem asB_bl {b : Bool} : asB (.bl b) = some b := rfl
@[simp] theorem asI_int {i : Int} : asI (.int i) = some (some i) := rfl
@[simp] theorem flat_int {i : Int} : flat (.int i) = true := rfl
@[simp] theorem flat_bl {i : Bool} : flat (.bl i) = true := rfl
@[simp] theorem flat_str {i : Str} : flat (.str i) = true := rfl
@[simp] theorem flat_non : flat .non = true := rfl
@[simp] theorem fits_int' {i : Int} {k : Nat} : fits k (.int i) = true := fits_int i k
@[simp] theorem fits_bl' {i : Bool} {k : Nat} : fits k (.bl i) = true := fits_bl i k
@[simp] theorem fits_str' {i : Str} {k : Nat} : fits k (.str i) = true := fits_str i k
@[simp] theorem fits_non' {k : Nat} : fits k .non = true := fits_non k
@[simp] theorem pLen_lst {ds : List D} : pLen [.lst ds] = some (.int ds.length) := rfl
@[simp] theorem pLen_tup {ds : List D} : pLen [.tup ds] = some (.int ds.length) := rfl
@[simp] theorem pLen_scr {ds : List Int} : pLen [.scr ds] = some (.int ds.length) := rfl
@[simp] theorem itemsL_lst {ds : List D} : itemsL (.lst ds) = some ds := rfl
@[simp] theorem itemsL_scr {ds : List Int} : itemsL (.scr ds) = some (ds.map D.int) := rfl
@[simp] theorem itemsT_tup {ds : List D} : itemsT (.tup ds) = some ds := rfl
@[simp] theorem enumD_lst {ds : List D} : enumD [.lst ds] = some (enumL 0 ds) := rfl
@[simp] theorem zipD_lst {xs ys : List D} : zipD [.lst xs, .lst ys] = some (List.zipWith (fun x y => .tup [x, y]) xs ys) := rfl
@[simp] theorem pMax2_ii {i j : Int} : pMax2 [.int i, .int j] = some (.int (if j > i then j else i)) := rfl
@[simp] theorem pMin2_ii {i j : Int} : pMin2 [.int i, .int j] = some (.int (if j < i then j else i)) := rfl
@[simp] theorem pAbs_i {i : Int} : pAbs [.int i] = some (.int (if i < 0 then -i else i)) := rfl
@[simp] theorem pList_lst {ds : List D} : pList [.lst ds] = some (.lst ds) := rfl
@[simp] theorem pList_tup {ds : List D} : pList [.tup ds] = some (.lst ds) := rfl
@[simp] theorem pAll_bl {bs : List Bool} : pAll [.lst (bs.map D.bl)] = some (.bl (bs.all id)) := by show (blsD (bs.map D.bl)).map _ = _; rw [blsD_map]; rfl
@[simp] theorem pSum_int {bs : List Int} : pSum [.lst (bs.map D.int)] = some (.int bs.sum) := by show (intsD (bs.map D.int)).map _ = _; rw [intsD_map]; rfl
@[simp] theorem isLst_lst {ds : List D} : isLst (some (.lst ds)) = true := rfl
@[simp] theorem muGo_lst {i : Nat} {h : List D → List D → Option (D × List D)} {as : List D} {r : Rho} : muGo i h as r = match rget r i with | some (.lst ds) => (match h ds as with | some (d, ds') => .ok d (r.set i (some (.lst ds'))) | none => .no) | _ => .no := rfl
@[simp] theorem augN_some {i : Nat} {d : D} {r : Rho} : augN i (some d) r = .nx (r.set i (some d)) := rfl
@[simp] theorem par2_two {i j : Nat} {d e : D} {r : Rho} : par2 i j [d, e] r = .nx ((r.set i (some d)).set j (some e)) := rfl
theorem hAppend_ok {ds : List D} {x : D} (h : ds.length < 100000) : hAppend ds [x] = some (.non, ds ++ [x]) := if_pos h
theorem hExtend_ok {ds es : List D} (h : ds.length + es.length ≤ 100000) : hExtend ds [.lst es] = some (.non, ds ++ es) := if_pos h
theorem lstD_ok {ds : List D} (h : ds.length ≤ 100000) : lstD ds = some (.lst ds) := if_pos h
theorem tupD_ok {ds : List D} (h : ds.length ≤ 100000) : tupD ds = some (.tup ds) := if_pos h
@[simp] theorem lstD_0 : lstD [] = some (.lst []) := rfl
@[simp] theorem ki_lt : kitB "list" "tuple" = some false := by decide +kernel
@[simp] theorem ki_tt : kitB "tuple" "tuple" = some true := by decide +kernel
@[simp] theorem ki_ll : kitB "list" "list" = some true := by decide +kernel
@[simp] theorem ki_tl : kitB "tuple" "list" = some false := by decide +kernel
@[simp] theorem pIsi_lst {ds : List D} {T : String} : pIsi [.lst ds, .ty T] = (kitB "list" T).map D.bl := rfl
@[simp] theorem pIsi_tup {ds : List D} {T : String} : pIsi [.tup ds, .ty T] = (kitB "tuple" T).map D.bl := rfl
@[simp] theorem pIsi_int {i : Int} {T : String} : pIsi [.int i, .ty T] = (kitB "int" T).map D.bl := rfl
@[simp] theorem pIsi_bl {i : Bool} {T : String} : pIsi [.bl i, .ty T] = (kitB "bool" T).map D.bl := rfl
@[simp] theorem pIsi_non {T : String} : pIsi [.non, .ty T] = (kitB "NoneType" T).map D.bl := rfl
@[simp] theorem pIs_non {d : D} : pIs d .non = some (.bl (isN d)) := rfl
@[simp] theorem pIsNot_non {d : D} : pIsNot d .non = some (.bl (!isN d)) := rfl
@[simp] theorem isN_non : isN .non = true := rfl
@[simp] theorem isN_int {i : Int} : isN (.int i) = false := rfl
theorem pIx_nat {ds : List D} {n : Nat} {d : D} (h : ds[n]? = some d) : pIx (.lst ds) (.int (n : Int)) = some d := by
  have hn : n < ds.length := (List.getElem?_eq_some_iff.mp h).1
  show ((L2.ixN ds.length (n : Int)).bind fun j => ds[j]?) = _
  unfold L2.ixN
  rw [if_pos (by omega), if_pos (by omega)]
  simpa using h
theorem pIxT_nat {ds : List D} {n : Nat} {d : D} (h : ds[n]? = some d) : pIx (.tup ds) (.int (n : Int)) = some d := by
  have hn : n < ds.length := (List.getElem?_eq_some_iff.mp h).1
  show ((L2.ixN ds.length (n : Int)).bind fun j => ds[j]?) = _
  unfold L2.ixN
  rw [if_pos (by omega), if_pos (by omega)]
  simpa using h
theorem pIx_int {ds : List D} {i : Int} {d : D} (h0 : 0 ≤ i) (h : ds[i.toNat]? = some d) : pIx (.lst ds) (.int i) = some d := by
  have q := pIx_nat h
  rwa [Int.toNat_of_nonneg h0] at q
@[simp] theorem pIx_0 {d : D} {ds : List D} : pIx (.lst (d :: ds)) (.int 0) = some d := pIx_nat (n := 0) rfl
@[simp] theorem pIx_1 {d e : D} {ds : List D} : pIx (.lst (d :: e :: ds)) (.int 1) = some e := pIx_nat (n := 1) rfl
@[simp] theorem pIx_2 {d e f : D} {ds : List D} : pIx (.lst (d :: e :: f :: ds)) (.int 2) = some f := pIx_nat (n := 2) rfl
@[simp] theorem pIx_3 {d e f g : D} {ds : List D} : pIx (.lst (d :: e :: f :: g :: ds)) (.int 3) = some g := pIx_nat (n := 3) rfl
@[simp] theorem pIxT_0 {d : D} {ds : List D} : pIx (.tup (d :: ds)) (.int 0) = some d := pIxT_nat (n := 0) rfl
@[simp] theorem pIxT_1 {d e : D} {ds : List D} : pIx (.tup (d :: e :: ds)) (.int 1) = some e := pIxT_nat (n := 1) rfl
@[simp] theorem setGo_int {i : Nat} {j : Int} {d : D} {r : Rho} : setGo i d (.int j) r = match rget r i with | some (.lst ds) => (match L2.ixN ds.length j with | some k => .nx (r.set i (some (.lst (ds.set k d)))) | none => .no) | _ => .no := by
  unfold setGo
  cases rget r i with
  | none => rfl
  | some x => cases x <;> rfl
@[simp] theorem iPow_2_61 : iPow (.int 2) (.int 61) = some (.int 2305843009213693952) := (iPow_ok (n := 4) (by decide) (by decide) (by decide) (by decide)).trans (congrArg (fun z => some (D.int z)) (by decide))
@[simp] theorem iPow_10_5 : iPow (.int 10) (.int 5) = some (.int 100000) := (iPow_ok (n := 4) (by decide) (by decide) (by decide) (by decide)).trans (congrArg (fun z => some (D.int z)) (by decide))
@[simp] theorem iPow_10_6 : iPow (.int 10) (.int 6) = some (.int 1000000) := (iPow_ok (n := 4) (by decide) (by decide) (by decide) (by decide)).trans (congrArg (fun z => some (D.int z)) (by decide))
@[simp] theorem iPow_10_9 : iPow (.int 10) (.int 9) = some (.int 1000000000) := (iPow_ok (n := 4) (by decide) (by decide) (by decide) (by decide)).trans (congrArg (fun z => some (D.int z)) (by decide))
@[simp] theorem iPow_10_12 : iPow (.int 10) (.int 12) = some (.int 1000000000000) := (iPow_ok (n := 4) (by decide) (by decide) (by decide) (by decide)).trans (congrArg (fun z => some (D.int z)) (by decide))
@[simp] theorem iPow_10_18 : iPow (.int 10) (.int 18) = some (.int 1000000000000000000) := (iPow_ok (n := 4) (by decide) (by decide) (by decide) (by decide)).trans (congrArg (fun z => some (D.int z)) (by decide))
@[simp] theorem iPow_10_19 : iPow (.int 10) (.int 19) = some (.int 10000000000000000000) := (iPow_ok (n := 4) (by decide) (by decide) (by decide) (by decide)).trans (congrArg (fun z => some (D.int z)) (by decide))
@[simp] theorem iPow_10_20 : iPow (.int 10) (.int 20) = some (.int 100000000000000000000) := (iPow_ok (n := 4) (by decide) (by decide) (by decide) (by decide)).trans (congrArg (fun z => some (D.int z)) (by decide))
@[simp] theorem iPow_10_21 : iPow (.int 10) (.int 21) = some (.int 1000000000000000000000) := (iPow_ok (n := 4) (by decide) (by decide) (by decide) (by decide)).trans (congrArg (fun z => some (D.int z)) (by decide))
@[simp] theorem iPow_10_29 : iPow (.int 10) (.int 29) = some (.int 100000000000000000000000000000) := (iPow_ok (n := 4) (by decide) (by decide) (by decide) (by decide)).trans (congrArg (fun z => some (D.int z)) (by decide))
@[simp] theorem iPow_10_30 : iPow (.int 10) (.int 30) = some (.int 1000000000000000000000000000000) := (iPow_ok (n := 4) (by decide) (by decide) (by decide) (by decide)).trans (congrArg (fun z => some (D.int z)) (by decide))
@[simp] theorem iPow_10_40 : iPow (.int 10) (.int 40) = some (.int 10000000000000000000000000000000000000000) := (iPow_ok (n := 4) (by decide) (by decide) (by decide) (by decide)).trans (congrArg (fun z => some (D.int z)) (by decide))
@[simp] theorem iPow_10_60 : iPow (.int 10) (.int 60) = some (.int 1000000000000000000000000000000000000000000000000000000000000) := (iPow_ok (n := 4) (by decide) (by decide) (by decide) (by decide)).trans (congrArg (fun z => some (D.int z)) (by decide))
theorem iMod_M (x : Int) : iMod (.int x) (.int 2305843009213693951) = some (.int (x % 2305843009213693951)) := iMod_ok (by decide)
theorem iMod_9 (x : Int) : iMod (.int x) (.int 1000000000000000009) = some (.int (x % 1000000000000000009)) := iMod_ok (by decide)
theorem iDiv_128 (x : Int) : iDiv (.int x) (.int 128) = some (.int (x / 128)) := iDiv_ok (by decide)
theorem iMul_1000081 (x : Int) : iMul (.int 1000081) (.int x) = some (.int (1000081 * x)) := iMul_l (by decide)
theorem loop_nx {g : D → Rho → Option Rho} {b : Rho → SO} {d : D} {ds : List D} {r r1 r2 : Rho} (h1 : g d r = some r1) (h2 : b r1 = .nx r2) : loopD g b (d :: ds) r = loopD g b ds r2 := by
  rw [loopD, h1]
  simp only [h2]
theorem loop_rt {g : D → Rho → Option Rho} {b : Rho → SO} {d v : D} {ds : List D} {r r1 r2 : Rho} (h1 : g d r = some r1) (h2 : b r1 = .rt v r2) : loopD g b (d :: ds) r = .rt v r2 := by
  rw [loopD, h1]
  simp only [h2]
theorem runF_rt {nN np : Nat} {f : Rho → SO} {ds : List D} {d : D} {r : Rho} (h : ds.length = np) (e : f (ds.map some ++ List.replicate (nN - np) none) = .rt d r) : runF none nN np f ds = .ok d none := by
  unfold runF
  rw [if_pos h, e]
  rfl
theorem runF_nx {nN np : Nat} {f : Rho → SO} {ds : List D} {r : Rho} (h : ds.length = np) (e : f (ds.map some ++ List.replicate (nN - np) none) = .nx r) : runF none nN np f ds = .ok .non none := by
  unfold runF
  rw [if_pos h, e]
  rfl
theorem runF_io {m nN np : Nat} {f : Rho → SO} {ds : List D} {d d0 : D} {r : Rho} (h : ds.length = np) (e : f (ds.map some ++ List.replicate (nN - np) none) = .rt d r) (h0 : rget r 0 = some d0) : runF (some m) nN np f ds = .ok d (some d0) := by
  unfold runF
  rw [if_pos h, e]
  simp only [fin_some, h0]
end VL

/-! VLW: the denotations run by simp, what comes behind put aside (continuations are constants, so simp does not run ahead) -/
namespace VL
open PySem PySem.Spec
def WD (x : DR) (Q : D → Option D → Prop) (X : Str → D → Option D → Prop) : Prop := match x with
  | .ok d o => Q d o
  | .ex n d o => X n d o
  | .no => False
def WS (x : SO) (N : Rho → Prop) (Z : SO → Prop) : Prop := match x with
  | .nx r => N r
  | .no => False
  | o => Z o
def WR {α : Type} (x : R α) (Q : α → Rho → Prop) (X : Str → D → Rho → Prop) : Prop := match x with
  | .ok a r => Q a r
  | .ex n d r => X n d r
  | .no => False
def WO {α : Type} (x : Option α) (Q : α → Prop) : Prop := match x with
  | some a => Q a
  | none => False
/-- the ends of a loop's body -/
def ZL (N B : Rho → Prop) (Z : SO → Prop) : SO → Prop
  | .ct r => N r
  | .bk r => B r
  | o => Z o
/-- the ends of a def -/
def ZF (T : D → Rho → Prop) (X : Str → D → Rho → Prop) : SO → Prop
  | .rt d r => T d r
  | .ex n d r => X n d r
  | _ => False
def xF : Str → D → Rho → Prop := fun _ _ _ => False
def yF : Str → D → Option D → Prop := fun _ _ _ => False
section
variable {α β : Type} {Q : D → Option D → Prop} {Y : Str → D → Option D → Prop} {N B : Rho → Prop} {Z : SO → Prop} {T : D → Rho → Prop} {X : Str → D → Rho → Prop} {QA : α → Rho → Prop} {QB : β → Rho → Prop} {QD : D → Rho → Prop} {QT : Bool → Rho → Prop} {QI : Option Int → Rho → Prop} {QL : List D → Rho → Prop} {QO : α → Prop} {r : Rho}
@[simp] theorem WD_ok {d : D} {o : Option D} : WD (.ok d o) Q Y = Q d o := (rfl)
@[simp] theorem WD_ex {d : D} {n : Str} {o : Option D} : WD (.ex n d o) Q Y = Y n d o := (rfl)
@[simp] theorem WS_nx : WS (.nx r) N Z = N r := (rfl)
@[simp] theorem WS_rt {d : D} : WS (.rt d r) N Z = Z (.rt d r) := (rfl)
@[simp] theorem WS_ct : WS (.ct r) N Z = Z (.ct r) := (rfl)
@[simp] theorem WS_bk : WS (.bk r) N Z = Z (.bk r) := (rfl)
@[simp] theorem WS_ex {n : Str} {d : D} : WS (.ex n d r) N Z = Z (.ex n d r) := (rfl)
@[simp] theorem ZL_ct : ZL N B Z (.ct r) = N r := (rfl)
@[simp] theorem ZL_bk : ZL N B Z (.bk r) = B r := (rfl)
@[simp] theorem ZL_rt {d : D} : ZL N B Z (.rt d r) = Z (.rt d r) := (rfl)
@[simp] theorem ZL_ex {n : Str} {d : D} : ZL N B Z (.ex n d r) = Z (.ex n d r) := (rfl)
@[simp] theorem ZF_rt {d : D} : ZF T X (.rt d r) = T d r := (rfl)
@[simp] theorem ZF_ex {n : Str} {d : D} : ZF T X (.ex n d r) = X n d r := (rfl)
@[simp] theorem WR_ok {a : α} : WR (.ok a r) QA X = QA a r := (rfl)
@[simp] theorem WR_ex {n : Str} {d : D} : WR (.ex n d r : R α) QA X = X n d r := (rfl)
@[simp] theorem WO_some {a : α} : WO (some a) QO = QO a := (rfl)
theorem WR_bind {x : R α} {f : α → Rho → R β} : WR (x.bind f) QB X = WR x (fun a r => WR (f a r) QB X) X := by cases x <;> rfl
theorem WS_then {x : R α} {f : α → Rho → SO} : WS (x.then f) N Z = WR x (fun a r => WS (f a r) N Z) (fun n d r => Z (.ex n d r)) := by cases x <;> rfl
/-! continuations -/
def kO (Q : α → Rho → Prop) (r : Rho) (a : α) : Prop := Q a r
@[simp] theorem kO_ap {a : α} : kO QA r a = QA a r := (rfl)
def kG (g : α → Option β) (Q : β → Rho → Prop) (a : α) (r : Rho) : Prop := WO (g a) (kO Q r)
@[simp] theorem kG_ap {g : α → Option β} {a : α} : kG g QB a r = WO (g a) (kO QB r) := (rfl)
@[simp] theorem WR_lift {o : Option α} : WR (lift o r) QA X = WO o (kO QA r) := by cases o <;> rfl
/-! expressions -/
def kD2b (g : D → D → Option D) (a : D) (Q : D → Rho → Prop) (b : D) (r : Rho) : Prop := WO (g a b) (kO Q r)
def kD2 (g : D → D → Option D) (fb : Rho → R D) (Q : D → Rho → Prop) (X : Str → D → Rho → Prop) (a : D) (r : Rho) : Prop := WR (fb r) (kD2b g a Q) X
@[simp] theorem kD2b_ap {g : D → D → Option D} {a b : D} : kD2b g a QD b r = WO (g a b) (kO QD r) := (rfl)
@[simp] theorem kD2_ap {g : D → D → Option D} {fb : Rho → R D} {a : D} : kD2 g fb QD X a r = WR (fb r) (kD2b g a QD) X := (rfl)
@[simp ↓ high] theorem W_d2 {g : D → D → Option D} {fa fb : Rho → R D} : WR (d2 g fa fb r) QD X = WR (fa r) (kD2 g fb QD X) X := by
  rw [ap_d2, WR_bind]
  cases fa r with
  | ok a r1 => show WR ((fb r1).bind _) QD X = WR (fb r1) _ X; rw [WR_bind]; cases fb r1 with
    | ok b r2 => exact WR_lift
    | _ => rfl
  | _ => rfl
theorem W_g {g : α → Option β} {fa : Rho → R α} : WR ((fa r).bind fun a r1 => lift (g a) r1) QB X = WR (fa r) (kG g QB) X := by
  rw [WR_bind]
  cases fa r with
  | ok a r1 => exact WR_lift
  | _ => rfl
@[simp ↓ high] theorem W_d1 {g : D → Option D} {fa : Rho → R D} : WR (d1 g fa r) QD X = WR (fa r) (kG g QD) X := W_g
@[simp ↓ high] theorem W_dN {g : List D → Option D} {fa : Rho → R (List D)} : WR (dN g fa r) QD X = WR (fa r) (kG g QD) X := W_g
@[simp ↓ high] theorem W_dB {fa : Rho → R D} : WR (dB fa r) QT X = WR (fa r) (kG asB QT) X := W_g
@[simp ↓ high] theorem W_dLst {fa : Rho → R (List D)} : WR (dLst fa r) QD X = WR (fa r) (kG lstD QD) X := W_g
@[simp ↓ high] theorem W_dTup {fa : Rho → R (List D)} : WR (dTup fa r) QD X = WR (fa r) (kG tupD QD) X := W_g
@[simp ↓ high] theorem W_dItL {fa : Rho → R D} : WR (dItL fa r) QL X = WR (fa r) (kG itemsL QL) X := W_g
@[simp ↓ high] theorem W_dItT {fa : Rho → R D} : WR (dItT fa r) QL X = WR (fa r) (kG itemsT QL) X := W_g
@[simp ↓ high] theorem W_dIt {g : List D → Option (List D)} {fa : Rho → R (List D)} : WR (dIt g fa r) QL X = WR (fa r) (kG g QL) X := W_g
@[simp ↓ high] theorem W_dOSome {fa : Rho → R D} : WR (dOSome fa r) QI X = WR (fa r) (kG asI QI) X := W_g
def kUp (Q : D → Rho → Prop) (d : D) (r : Rho) : Prop := if flat d = true then Q d r else False
@[simp] theorem kUp_ap {d : D} : kUp QD d r = if flat d = true then QD d r else False := (rfl)
@[simp ↓ high] theorem W_dUp {f : Rho → R D} : WR (dUp f r) QD X = WR (f r) (kUp QD) X := by
  rw [ap_dUp, WR_bind]
  cases f r with
  | ok d r1 =>
    show WR (if flat d = true then R.ok d r1 else .no) QD X = if flat d = true then QD d r1 else False
    by_cases h : flat d = true
    · rw [if_pos h, if_pos h]; rfl
    · rw [if_neg h, if_neg h]; rfl
  | _ => rfl
def kBor (k : Nat) (r0 : Rho) (Q : D → Rho → Prop) (d : D) (_ : Rho) : Prop := if fits k d = true then Q d r0 else False
@[simp] theorem kBor_ap {k : Nat} {r0 : Rho} {d : D} : kBor k r0 QD d r = if fits k d = true then QD d r0 else False := (rfl)
@[simp ↓ high] theorem W_dBor {k : Nat} {f : Rho → R D} : WR (dBor k f r) QD X = WR (f r) (kBor k r QD) xF := by
  rw [ap_dBor]
  cases f r with
  | ok d r1 =>
    show WR (if fits k d = true then R.ok d r else .no) QD X = if fits k d = true then QD d r else False
    by_cases h : fits k d = true
    · rw [if_pos h, if_pos h]; rfl
    · rw [if_neg h, if_neg h]; rfl
  | _ => rfl
def kBorB (r0 : Rho) (Q : Bool → Rho → Prop) (d : Bool) (_ : Rho) : Prop := Q d r0
@[simp] theorem kBorB_ap {r0 : Rho} {d : Bool} : kBorB r0 QT d r = QT d r0 := (rfl)
@[simp ↓ high] theorem W_dBorB {f : Rho → R Bool} : WR (dBorB f r) QT X = WR (f r) (kBorB r QT) xF := by
  rw [ap_dBorB]
  cases f r <;> rfl
def kNot (Q : Bool → Rho → Prop) (b : Bool) (r : Rho) : Prop := Q (!b) r
@[simp] theorem kNot_ap {b : Bool} : kNot QT b r = QT (!b) r := (rfl)
@[simp ↓ high] theorem W_dNotB {f : Rho → R Bool} : WR (dNotB f r) QT X = WR (f r) (kNot QT) X := by rw [ap_dNotB, WR_bind]; cases f r <;> rfl
def kNotD (Q : D → Rho → Prop) (b : Bool) (r : Rho) : Prop := Q (.bl (!b)) r
@[simp] theorem kNotD_ap {b : Bool} : kNotD QD b r = QD (.bl (!b)) r := (rfl)
@[simp ↓ high] theorem W_dNot {f : Rho → R D} : WR (dNot f r) QD X = WR (dB f r) (kNotD QD) X := by rw [ap_dNot, WR_bind]; cases dB f r <;> rfl
def kAndB (fb : Rho → R Bool) (Q : Bool → Rho → Prop) (X : Str → D → Rho → Prop) (v : Bool) (r : Rho) : Prop := if v = true then WR (fb r) Q X else Q false r
@[simp] theorem kAndB_ap {fb : Rho → R Bool} {v : Bool} : kAndB fb QT X v r = if v = true then WR (fb r) QT X else QT false r := (rfl)
@[simp ↓ high] theorem W_dAndB {fa fb : Rho → R Bool} : WR (dAndB fa fb r) QT X = WR (fa r) (kAndB fb QT X) X := by
  rw [ap_dAndB, WR_bind]
  cases fa r with
  | ok v r1 => cases v <;> rfl
  | _ => rfl
def kOrB (fb : Rho → R Bool) (Q : Bool → Rho → Prop) (X : Str → D → Rho → Prop) (v : Bool) (r : Rho) : Prop := if v = true then Q true r else WR (fb r) Q X
@[simp] theorem kOrB_ap {fb : Rho → R Bool} {v : Bool} : kOrB fb QT X v r = if v = true then QT true r else WR (fb r) QT X := (rfl)
@[simp ↓ high] theorem W_dOrB {fa fb : Rho → R Bool} : WR (dOrB fa fb r) QT X = WR (fa r) (kOrB fb QT X) X := by
  rw [ap_dOrB, WR_bind]
  cases fa r with
  | ok v r1 => cases v <;> rfl
  | _ => rfl
def kAnd (fb : Rho → R D) (Q : D → Rho → Prop) (X : Str → D → Rho → Prop) (v : Bool) (r : Rho) : Prop := if v = true then WR (fb r) Q X else Q (.bl false) r
@[simp] theorem kAnd_ap {fb : Rho → R D} {v : Bool} : kAnd fb QD X v r = if v = true then WR (fb r) QD X else QD (.bl false) r := (rfl)
@[simp ↓ high] theorem W_dAnd {fa fb : Rho → R D} : WR (dAnd fa fb r) QD X = WR (dB fa r) (kAnd fb QD X) X := by
  rw [ap_dAnd, WR_bind]
  cases dB fa r with
  | ok v r1 => cases v <;> rfl
  | _ => rfl
def kOr (fb : Rho → R D) (Q : D → Rho → Prop) (X : Str → D → Rho → Prop) (v : Bool) (r : Rho) : Prop := if v = true then Q (.bl true) r else WR (fb r) Q X
@[simp] theorem kOr_ap {fb : Rho → R D} {v : Bool} : kOr fb QD X v r = if v = true then QD (.bl true) r else WR (fb r) QD X := (rfl)
@[simp ↓ high] theorem W_dOr {fa fb : Rho → R D} : WR (dOr fa fb r) QD X = WR (dB fa r) (kOr fb QD X) X := by
  rw [ap_dOr, WR_bind]
  cases dB fa r with
  | ok v r1 => cases v <;> rfl
  | _ => rfl
def kIfE (fa fb : Rho → R D) (Q : D → Rho → Prop) (X : Str → D → Rho → Prop) (v : Bool) (r : Rho) : Prop := if v = true then WR (fa r) Q X else WR (fb r) Q X
@[simp] theorem kIfE_ap {fa fb : Rho → R D} {v : Bool} : kIfE fa fb QD X v r = if v = true then WR (fa r) QD X else WR (fb r) QD X := (rfl)
@[simp ↓ high] theorem W_dIfE {fc : Rho → R Bool} {fa fb : Rho → R D} : WR (dIfE fc fa fb r) QD X = WR (fc r) (kIfE fa fb QD X) X := by
  rw [ap_dIfE, WR_bind]
  cases fc r with
  | ok v r1 => cases v <;> rfl
  | _ => rfl
def kC2 (d : D) (Q : List D → Rho → Prop) (ds : List D) (r : Rho) : Prop := Q (d :: ds) r
def kC1 (g : Rho → R (List D)) (Q : List D → Rho → Prop) (X : Str → D → Rho → Prop) (d : D) (r : Rho) : Prop := WR (g r) (kC2 d Q) X
@[simp] theorem kC2_ap {d : D} {ds : List D} : kC2 d QL ds r = QL (d :: ds) r := (rfl)
@[simp] theorem kC1_ap {g : Rho → R (List D)} {d : D} : kC1 g QL X d r = WR (g r) (kC2 d QL) X := (rfl)
@[simp ↓ high] theorem W_dCons {f : Rho → R D} {g : Rho → R (List D)} : WR (dCons f g r) QL X = WR (f r) (kC1 g QL X) X := by
  rw [ap_dCons, WR_bind]
  cases f r with
  | ok d r1 => show WR ((g r1).bind _) QL X = WR (g r1) _ X; rw [WR_bind]; cases g r1 <;> rfl
  | _ => rfl
def kOk (Q : D → Rho → Prop) (r : Rho) (d : D) (_ : Option D) : Prop := Q d r
def kEx (X : Str → D → Rho → Prop) (r : Rho) (n : Str) (d : D) (_ : Option D) : Prop := X n d r
@[simp] theorem kOk_ap {d : D} {o : Option D} : kOk QD r d o = QD d r := (rfl)
@[simp] theorem kEx_ap {d : D} {n : Str} {o : Option D} : kEx X r n d o = X n d r := (rfl)
theorem W_ofDR {x : DR} : WR (ofDR x r) QD X = WD x (kOk QD r) (kEx X r) := by cases x <;> rfl
def kFn (np : Nat) (g : List D → DR) (Q : D → Rho → Prop) (X : Str → D → Rho → Prop) (ds : List D) (r : Rho) : Prop := if ds.length = np then WD (g ds) (kOk Q r) (kEx X r) else False
@[simp] theorem kFn_ap {np : Nat} {g : List D → DR} {ds : List D} : kFn np g QD X ds r = if ds.length = np then WD (g ds) (kOk QD r) (kEx X r) else False := (rfl)
@[simp ↓ high] theorem W_dFn {np : Nat} {g : List D → DR} {fa : Rho → R (List D)} : WR (dFn np g fa r) QD X = WR (fa r) (kFn np g QD X) X := by
  rw [ap_dFn, WR_bind]
  cases fa r with
  | ok ds r1 =>
    show WR (if ds.length = np then ofDR (g ds) r1 else .no) QD X = if ds.length = np then WD (g ds) (kOk QD r1) (kEx X r1) else False
    by_cases h : ds.length = np
    · rw [if_pos h, if_pos h]; exact W_ofDR
    · rw [if_neg h, if_neg h]; rfl
  | _ => rfl
def kFnK (np : Nat) (sw : Bool) (g : List D → DR) (Q : D → Rho → Prop) (X : Str → D → Rho → Prop) (ds : List D) (r : Rho) : Prop := if ds.length = np then WD (g (turned sw ds)) (kOk Q r) (kEx X r) else False
@[simp] theorem kFnK_ap {np : Nat} {sw : Bool} {g : List D → DR} {ds : List D} : kFnK np sw g QD X ds r = if ds.length = np then WD (g (turned sw ds)) (kOk QD r) (kEx X r) else False := (rfl)
@[simp ↓ high] theorem W_dFnK {np : Nat} {sw : Bool} {g : List D → DR} {fa : Rho → R (List D)} : WR (dFnK np sw g fa r) QD X = WR (fa r) (kFnK np sw g QD X) X := by
  rw [ap_dFnK, WR_bind]
  cases fa r with
  | ok ds r1 =>
    show WR (if ds.length = np then ofDR (g (turned sw ds)) r1 else .no) QD X = if ds.length = np then WD (g (turned sw ds)) (kOk QD r1) (kEx X r1) else False
    by_cases h : ds.length = np
    · rw [if_pos h, if_pos h]; exact W_ofDR
    · rw [if_neg h, if_neg h]; rfl
  | _ => rfl
@[simp] theorem turned_f {α : Type} {l : List α} : turned false l = l := (rfl)
@[simp] theorem turned_t1 {α : Type} {a : α} : turned true [a] = [a] := (rfl)
@[simp] theorem turned_t2 {α : Type} {a b : α} : turned true [a, b] = [b, a] := (rfl)
def kI5 (i : Nat) (Q : D → Rho → Prop) (r : Rho) (d d1 : D) : Prop := Q d (r.set i (some d1))
def kI3 (i : Nat) (Q : D → Rho → Prop) (r : Rho) (d : D) (o : Option D) : Prop := WO o (kI5 i Q r d)
def kI4 (i : Nat) (X : Str → D → Rho → Prop) (r : Rho) (n : Str) (d : D) (o : Option D) : Prop := WO o (kI5 i (X n) r d)
def kI2 (i np : Nat) (g : List D → DR) (ds : List D) (Q : D → Rho → Prop) (X : Str → D → Rho → Prop) (r : Rho) (d0 : D) : Prop := if ds.length + 1 = np then WD (g (d0 :: ds)) (kI3 i Q r) (kI4 i X r) else False
def kI (i np : Nat) (g : List D → DR) (Q : D → Rho → Prop) (X : Str → D → Rho → Prop) (ds : List D) (r : Rho) : Prop := WO (rget r i) (kI2 i np g ds Q X r)
@[simp] theorem kI5_ap {i : Nat} {d d1 : D} : kI5 i QD r d d1 = QD d (r.set i (some d1)) := (rfl)
@[simp] theorem kI3_ap {i : Nat} {d : D} {o : Option D} : kI3 i QD r d o = WO o (kI5 i QD r d) := (rfl)
@[simp] theorem kI4_ap {i : Nat} {n : Str} {d : D} {o : Option D} : kI4 i X r n d o = WO o (kI5 i (X n) r d) := (rfl)
@[simp] theorem kI2_ap {i np : Nat} {g : List D → DR} {ds : List D} {d0 : D} : kI2 i np g ds QD X r d0 = if ds.length + 1 = np then WD (g (d0 :: ds)) (kI3 i QD r) (kI4 i X r) else False := (rfl)
@[simp] theorem kI_ap {i np : Nat} {g : List D → DR} {ds : List D} : kI i np g QD X ds r = WO (rget r i) (kI2 i np g ds QD X r) := (rfl)
theorem W_ioDR {i : Nat} {x : DR} : WR (ioDR i x r) QD X = WD x (kI3 i QD r) (kI4 i X r) := by
  cases x with
  | ok d o => cases o <;> rfl
  | ex n d o => cases o <;> rfl
  | no => rfl
@[simp ↓ high] theorem W_dCallIo {i np : Nat} {g : List D → DR} {fa : Rho → R (List D)} : WR (dCallIo i np g fa r) QD X = if (rget r i).isSome = true then WR (fa r) (kI i np g QD X) X else False := by
  rw [ap_dCallIo]
  cases rget r i with
  | none => rfl
  | some d =>
    show WR ((fa r).bind fun ds r1 => ioGo i np g ds r1) QD X = if true = true then _ else False
    rw [if_pos rfl, WR_bind]
    cases fa r with
    | ok ds r1 =>
      show WR (ioGo i np g ds r1) QD X = WO (rget r1 i) (kI2 i np g ds QD X r1)
      rw [ioGo_some]
      cases rget r1 i with
      | none => rfl
      | some d0 =>
        show WR (if ds.length + 1 = np then ioDR i (g (d0 :: ds)) r1 else .no) QD X = if ds.length + 1 = np then _ else False
        by_cases h : ds.length + 1 = np
        · rw [if_pos h, if_pos h]; exact W_ioDR
        · rw [if_neg h, if_neg h]; rfl
    | _ => rfl
def kS3 (d : D) (lo : Option Int) (Q : D → Rho → Prop) (hi : Option Int) (r : Rho) : Prop := WO (pSl d lo hi) (kO Q r)
def kS2 (d : D) (fh : Rho → R (Option Int)) (Q : D → Rho → Prop) (X : Str → D → Rho → Prop) (lo : Option Int) (r : Rho) : Prop := WR (fh r) (kS3 d lo Q) X
def kS1 (fl fh : Rho → R (Option Int)) (Q : D → Rho → Prop) (X : Str → D → Rho → Prop) (d : D) (r : Rho) : Prop := WR (fl r) (kS2 d fh Q X) X
@[simp] theorem kS3_ap {d : D} {lo hi : Option Int} : kS3 d lo QD hi r = WO (pSl d lo hi) (kO QD r) := (rfl)
@[simp] theorem kS2_ap {d : D} {fh : Rho → R (Option Int)} {lo : Option Int} : kS2 d fh QD X lo r = WR (fh r) (kS3 d lo QD) X := (rfl)
@[simp] theorem kS1_ap {d : D} {fl fh : Rho → R (Option Int)} : kS1 fl fh QD X d r = WR (fl r) (kS2 d fh QD X) X := (rfl)
@[simp ↓ high] theorem W_dSl {fe : Rho → R D} {fl fh : Rho → R (Option Int)} : WR (dSl fe fl fh r) QD X = WR (fe r) (kS1 fl fh QD X) X := by
  rw [ap_dSl, WR_bind]
  cases fe r with
  | ok d r1 =>
    show WR ((fl r1).bind _) QD X = WR (fl r1) _ X
    rw [WR_bind]
    cases fl r1 with
    | ok lo r2 =>
      show WR ((fh r2).bind _) QD X = WR (fh r2) _ X
      rw [WR_bind]
      cases fh r2 with
      | ok hi r3 => exact WR_lift
      | _ => rfl
    | _ => rfl
  | _ => rfl
def chO (g1 : D → D → Option D) (a b : D) : Option Bool := if flat b = true then (g1 a b).bind asB else none
@[simp] theorem chO_ap {g1 : D → D → Option D} {a b : D} : chO g1 a b = if flat b = true then (g1 a b).bind asB else none := (rfl)
def kCh3 (g2 : D → D → Option D) (b : D) (fc : Rho → R D) (Q : D → Rho → Prop) (X : Str → D → Rho → Prop) (r : Rho) (v : Bool) : Prop := if v = true then WR (fc r) (kD2b g2 b Q) X else Q (.bl false) r
def kCh2 (g1 g2 : D → D → Option D) (a : D) (fc : Rho → R D) (Q : D → Rho → Prop) (X : Str → D → Rho → Prop) (b : D) (r : Rho) : Prop := WO (chO g1 a b) (kCh3 g2 b fc Q X r)
def kCh1 (g1 g2 : D → D → Option D) (fb fc : Rho → R D) (Q : D → Rho → Prop) (X : Str → D → Rho → Prop) (a : D) (r : Rho) : Prop := WR (fb r) (kCh2 g1 g2 a fc Q X) X
@[simp] theorem kCh3_ap {g2 : D → D → Option D} {b : D} {fc : Rho → R D} {v : Bool} : kCh3 g2 b fc QD X r v = if v = true then WR (fc r) (kD2b g2 b QD) X else QD (.bl false) r := (rfl)
@[simp] theorem kCh2_ap {g1 g2 : D → D → Option D} {a b : D} {fc : Rho → R D} : kCh2 g1 g2 a fc QD X b r = WO (chO g1 a b) (kCh3 g2 b fc QD X r) := (rfl)
@[simp] theorem kCh1_ap {g1 g2 : D → D → Option D} {a : D} {fb fc : Rho → R D} : kCh1 g1 g2 fb fc QD X a r = WR (fb r) (kCh2 g1 g2 a fc QD X) X := (rfl)
@[simp ↓ high] theorem W_chD {g1 g2 : D → D → Option D} {fa fb fc : Rho → R D} : WR (chD g1 g2 fa fb fc r) QD X = WR (fa r) (kCh1 g1 g2 fb fc QD X) X := by
  unfold chD
  rw [WR_bind]
  cases fa r with
  | ok a r1 =>
    show WR ((fb r1).bind _) QD X = WR (fb r1) _ X
    rw [WR_bind]
    cases fb r1 with
    | ok b r2 =>
      show WR (if flat b = true then (match g1 a b with
        | some (.bl true) => (fc r2).bind fun dc r3 => lift (g2 b dc) r3
        | some (.bl false) => .ok (.bl false) r2
        | _ => .no) else .no) QD X = WO (if flat b = true then (g1 a b).bind asB else none) (kCh3 g2 b fc QD X r2)
      by_cases h : flat b = true
      · rw [if_pos h, if_pos h]
        cases g1 a b with
        | none => rfl
        | some v =>
          cases v with
          | bl t =>
            cases t with
            | false => rfl
            | true =>
              show WR ((fc r2).bind fun dc r3 => lift (g2 b dc) r3) QD X = WR (fc r2) (kD2b g2 b QD) X
              rw [WR_bind]
              cases fc r2 with
              | ok c r3 => exact WR_lift
              | _ => rfl
          | _ => rfl
      · rw [if_neg h, if_neg h]; rfl
    | _ => rfl
  | _ => rfl
def kLst (Q : D → Rho → Prop) (ds : List D) (r : Rho) : Prop := Q (.lst ds) r
@[simp] theorem kLst_ap {ds : List D} : kLst QD ds r = QD (.lst ds) r := (rfl)
def kLc (vs : List Nat) (g : D → Rho → Option Rho) (ts : Rho → R Bool) (fe : Rho → R D) (Q : D → Rho → Prop) (X : Str → D → Rho → Prop) (ds : List D) (r : Rho) : Prop := if ds.length ≤ 100000 then WR (compD vs g ts fe ds [] (wipeR r vs)) (kLst Q) X else False
@[simp] theorem kLc_ap {vs : List Nat} {g : D → Rho → Option Rho} {ts : Rho → R Bool} {fe : Rho → R D} {ds : List D} : kLc vs g ts fe QD X ds r = if ds.length ≤ 100000 then WR (compD vs g ts fe ds [] (wipeR r vs)) (kLst QD) X else False := (rfl)
@[simp ↓ high] theorem W_lcD {vs : List Nat} {fi : Rho → R (List D)} {g : D → Rho → Option Rho} {ts : Rho → R Bool} {fe : Rho → R D} : WR (lcD vs fi g ts fe r) QD X = WR (fi r) (kLc vs g ts fe QD X) X := by
  rw [ap_lcD, WR_bind]
  cases fi r with
  | ok ds r1 =>
    show WR (if ds.length ≤ 100000 then (compD vs g ts fe ds [] (wipeR r1 vs)).bind fun out r2 => R.ok (.lst out) r2 else .no) QD X = if ds.length ≤ 100000 then _ else False
    by_cases h : ds.length ≤ 100000
    · rw [if_pos h, if_pos h, WR_bind]; cases compD vs g ts fe ds [] (wipeR r1 vs) <;> rfl
    · rw [if_neg h, if_neg h]; rfl
  | _ => rfl
def muO (h : List D → List D → Option (D × List D)) (o : Option D) (as : List D) : Option (D × List D) := match o with
  | some (.lst ds) => h ds as
  | _ => none
@[simp] theorem muO_ap {h : List D → List D → Option (D × List D)} {ds as : List D} : muO h (some (.lst ds)) as = h ds as := (rfl)
def kM2 (i : Nat) (Q : D → Rho → Prop) (r : Rho) (p : D × List D) : Prop := Q p.1 (r.set i (some (.lst p.2)))
@[simp] theorem kM2_ap {i : Nat} {d : D} {ds : List D} : kM2 i QD r (d, ds) = QD d (r.set i (some (.lst ds))) := (rfl)
def kM (i : Nat) (h : List D → List D → Option (D × List D)) (Q : D → Rho → Prop) (as : List D) (r : Rho) : Prop := WO (muO h (rget r i) as) (kM2 i Q r)
@[simp] theorem kM_ap {i : Nat} {h : List D → List D → Option (D × List D)} {as : List D} : kM i h QD as r = WO (muO h (rget r i) as) (kM2 i QD r) := (rfl)
@[simp ↓ high] theorem W_dMut {i : Nat} {h : List D → List D → Option (D × List D)} {fa : Rho → R (List D)} : WR (dMut i h fa r) QD X = if isLst (rget r i) = true then WR (fa r) (kM i h QD) X else False := by
  rw [ap_dMut]
  by_cases hl : isLst (rget r i) = true
  · rw [if_pos hl, if_pos hl, WR_bind]
    cases fa r with
    | ok as r1 =>
      show WR (muGo i h as r1) QD X = WO (muO h (rget r1 i) as) (kM2 i QD r1)
      rw [muGo_lst]
      cases rget r1 i with
      | none => rfl
      | some d =>
        cases d with
        | lst ds =>
          show WR (match h ds as with | some (d, ds') => R.ok d (r1.set i (some (.lst ds'))) | none => .no) QD X = WO (h ds as) (kM2 i QD r1)
          cases h ds as <;> rfl
        | _ => rfl
    | _ => rfl
  · rw [if_neg hl, if_neg hl]; rfl
def kMx2 (i : Nat) (ds : List D) (m : Nat) (h : List D → List D → Option (D × List D)) (es : List D) (Q : D → Rho → Prop) (as : List D) (r1 : Rho) : Prop := WR (muIx i ds m (h es as) r1) Q xF
def kMx (i : Nat) (h : List D → List D → Option (D × List D)) (fa : Rho → R (List D)) (r : Rho) (Q : D → Rho → Prop) (t : List D × Nat × List D) : Prop := WR (fa (r.set i none)) (kMx2 i t.1 t.2.1 h t.2.2 Q) xF
@[simp] theorem kMx2_ap {i : Nat} {ds : List D} {m : Nat} {h : List D → List D → Option (D × List D)} {es as : List D} : kMx2 i ds m h es QD as r = WR (muIx i ds m (h es as) r) QD xF := (rfl)
@[simp] theorem kMx_ap {i : Nat} {h : List D → List D → Option (D × List D)} {fa : Rho → R (List D)} {ds es : List D} {m : Nat} : kMx i h fa r QD (ds, m, es) = WR (fa (r.set i none)) (kMx2 i ds m h es QD) xF := (rfl)
@[simp ↓ high] theorem W_dMutIx {i : Nat} {j : Int} {h : List D → List D → Option (D × List D)} {fa : Rho → R (List D)} : WR (dMutIx i j h fa r) QD X = WO (atD (rget r i) j) (kMx i h fa r QD) := by
  unfold dMutIx
  cases atD (rget r i) j with
  | none => rfl
  | some t =>
    obtain ⟨ds, m, es⟩ := t
    show WR (match fa (r.set i none) with | .ok as r1 => muIx i ds m (h es as) r1 | _ => .no) QD X = WR (fa (r.set i none)) (kMx2 i ds m h es QD) xF
    cases fa (r.set i none) with
    | ok as r1 =>
      show WR (muIx i ds m (h es as) r1) QD X = WR (muIx i ds m (h es as) r1) QD xF
      unfold muIx
      cases h es as with
      | none => rfl
      | some p =>
        obtain ⟨d, es'⟩ := p
        show WR (if i < r1.length ∧ rget r1 i = none then _ else _) QD X = WR (if i < r1.length ∧ rget r1 i = none then _ else _) QD xF
        by_cases z : i < r1.length ∧ rget r1 i = none
        · rw [if_pos z]; rfl
        · rw [if_neg z]; rfl
    | _ => rfl
/-! statements -/
def kX (Z : SO → Prop) (n : Str) (d : D) (r : Rho) : Prop := Z (.ex n d r)
@[simp] theorem kX_ap {n : Str} {d : D} : kX Z n d r = Z (.ex n d r) := (rfl)
def kSeq (g : Rho → SO) (N : Rho → Prop) (Z : SO → Prop) (r : Rho) : Prop := WS (g r) N Z
@[simp] theorem kSeq_ap {g : Rho → SO} : kSeq g N Z r = WS (g r) N Z := (rfl)
@[simp ↓ high] theorem WS_seq {f g : Rho → SO} : WS (dSeq f g r) N Z = WS (f r) (kSeq g N Z) Z := by
  rw [ap_dSeq]; cases f r <;> rfl
def kSt (i : Nat) (N : Rho → Prop) (d : D) (r : Rho) : Prop := N (r.set i (some d))
@[simp] theorem kSt_ap {i : Nat} {d : D} : kSt i N d r = N (r.set i (some d)) := (rfl)
@[simp ↓ high] theorem WS_set {i : Nat} {f : Rho → R D} : WS (dSet i f r) N Z = WR (f r) (kSt i N) (kX Z) := by
  rw [ap_dSet, WS_then]; rfl
def kE0 (N : Rho → Prop) (_ : D) (r : Rho) : Prop := N r
@[simp] theorem kE0_ap {d : D} : kE0 N d r = N r := (rfl)
@[simp ↓ high] theorem WS_expr {f : Rho → R D} : WS (dExpr f r) N Z = WR (f r) (kE0 N) (kX Z) := by
  rw [ap_dExpr, WS_then]; rfl
def kRt (Z : SO → Prop) (d : D) (r : Rho) : Prop := Z (.rt d r)
@[simp] theorem kRt_ap {d : D} : kRt Z d r = Z (.rt d r) := (rfl)
@[simp ↓ high] theorem WS_ret {f : Rho → R D} : WS (dRet f r) N Z = WR (f r) (kRt Z) (kX Z) := by
  rw [ap_dRet, WS_then]; rfl
def kIf (f g : Rho → SO) (N : Rho → Prop) (Z : SO → Prop) (b : Bool) (r : Rho) : Prop := if b = true then WS (f r) N Z else WS (g r) N Z
@[simp] theorem kIf_ap {f g : Rho → SO} {b : Bool} : kIf f g N Z b r = if b = true then WS (f r) N Z else WS (g r) N Z := (rfl)
@[simp ↓ high] theorem WS_if {c : Rho → R Bool} {f g : Rho → SO} : WS (dIf c f g r) N Z = WR (c r) (kIf f g N Z) (kX Z) := by
  rw [ap_dIf, WS_then]
  cases c r with
  | ok b r1 => cases b <;> rfl
  | _ => rfl
def kAu2 (i : Nat) (g : D → D → Option D) (x : D) (N : Rho → Prop) (d : D) (r : Rho) : Prop := WO (g x d) (fun y => N (r.set i (some y)))
def kAu (i : Nat) (g : D → D → Option D) (f : Rho → R D) (N : Rho → Prop) (Z : SO → Prop) (r : Rho) (x : D) : Prop := if flat x = true then WR (f r) (kAu2 i g x N) (kX Z) else False
@[simp] theorem kAu2_ap {i : Nat} {g : D → D → Option D} {x d : D} : kAu2 i g x N d r = WO (g x d) (fun y => N (r.set i (some y))) := (rfl)
@[simp] theorem kAu_ap {i : Nat} {g : D → D → Option D} {f : Rho → R D} {x : D} : kAu i g f N Z r x = if flat x = true then WR (f r) (kAu2 i g x N) (kX Z) else False := (rfl)
@[simp ↓ high] theorem WS_aug {i : Nat} {g : D → D → Option D} {f : Rho → R D} : WS (dAug i g f r) N Z = WO (rget r i) (kAu i g f N Z r) := by
  rw [ap_dAug]
  cases rget r i with
  | none => rfl
  | some x =>
    show WS (if flat x = true then (f r).then fun d r1 => augN i (g x d) r1 else .no) N Z = if flat x = true then _ else False
    by_cases h : flat x = true
    · rw [if_pos h, if_pos h, WS_then]
      cases f r with
      | ok d r1 =>
        show WS (augN i (g x d) r1) N Z = WO (g x d) _
        cases g x d <;> rfl
      | _ => rfl
    · rw [if_neg h, if_neg h]; rfl
def kAs (g : D → Rho → Option Rho) (N : Rho → Prop) (d : D) (r : Rho) : Prop := WO (g d r) N
@[simp] theorem kAs_ap {g : D → Rho → Option Rho} {d : D} : kAs g N d r = WO (g d r) N := (rfl)
@[simp ↓ high] theorem WS_asg {g : D → Rho → Option Rho} {f : Rho → R D} : WS (dAsg g f r) N Z = WR (f r) (kAs g N) (kX Z) := by
  rw [ap_dAsg, WS_then]
  cases f r with
  | ok d r1 =>
    show WS (match g d r1 with | some r2 => .nx r2 | none => .no) N Z = WO (g d r1) N
    cases g d r1 <;> rfl
  | _ => rfl
def kPa (i j : Nat) (N : Rho → Prop) (ds : List D) (r : Rho) : Prop := WS (par2 i j ds r) N (fun _ => False)
@[simp] theorem kPa_ap {i j : Nat} {d e : D} : kPa i j N [d, e] r = N ((r.set i (some d)).set j (some e)) := (rfl)
@[simp ↓ high] theorem WS_par {i j : Nat} {f : Rho → R (List D)} : WS (dPar i j f r) N Z = WR (f r) (kPa i j N) (kX Z) := by
  rw [ap_dPar, WS_then]
  cases f r with
  | ok ds r1 =>
    show WS (par2 i j ds r1) N Z = WS (par2 i j ds r1) N _
    match ds with
    | [] => rfl
    | [_] => rfl
    | [_, _] => rfl
    | _ :: _ :: _ :: _ => rfl
  | _ => rfl
def kFo (g : D → Rho → Option Rho) (b : Rho → SO) (N : Rho → Prop) (Z : SO → Prop) (ds : List D) (r : Rho) : Prop := WS (loopD g b ds r) N Z
@[simp] theorem kFo_ap {g : D → Rho → Option Rho} {b : Rho → SO} {ds : List D} : kFo g b N Z ds r = WS (loopD g b ds r) N Z := (rfl)
@[simp ↓ high] theorem WS_for {fi : Rho → R (List D)} {g : D → Rho → Option Rho} {b : Rho → SO} : WS (dFor fi g b r) N Z = WR (fi r) (kFo g b N Z) (kX Z) := by
  rw [ap_dFor, WS_then]; rfl
def kSx2 (i : Nat) (d : D) (N : Rho → Prop) (dj : D) (r : Rho) : Prop := WS (setGo i d dj r) N (fun _ => False)
def kSx (i : Nat) (fj : Rho → R D) (N : Rho → Prop) (Z : SO → Prop) (d : D) (r : Rho) : Prop := if isLst (rget r i) = true then WR (fj r) (kSx2 i d N) (kX Z) else False
@[simp] theorem kSx2_ap {i : Nat} {d dj : D} : kSx2 i d N dj r = WS (setGo i d dj r) N (fun _ => False) := (rfl)
@[simp] theorem kSx_ap {i : Nat} {fj : Rho → R D} {d : D} : kSx i fj N Z d r = if isLst (rget r i) = true then WR (fj r) (kSx2 i d N) (kX Z) else False := (rfl)
theorem setGo_end {i : Nat} {d dj : D} {Z' : SO → Prop} : WS (setGo i d dj r) N Z = WS (setGo i d dj r) N Z' := by
  unfold setGo
  cases rget r i with
  | none => rfl
  | some x =>
    cases x with
    | lst ds =>
      cases dj with
      | int j =>
        simp only
        cases L2.ixN ds.length j <;> rfl
      | _ => rfl
    | _ => rfl
@[simp ↓ high] theorem WS_setIx {i : Nat} {fe fj : Rho → R D} : WS (dSetIx i fe fj r) N Z = WR (fe r) (kSx i fj N Z) (kX Z) := by
  rw [ap_dSetIx, WS_then]
  cases fe r with
  | ok d r1 =>
    show WS (if isLst (rget r1 i) = true then _ else _) N Z = if isLst (rget r1 i) = true then _ else False
    by_cases h : isLst (rget r1 i) = true
    · rw [if_pos h, if_pos h, WS_then]
      cases fj r1 with
      | ok dj r2 => exact setGo_end
      | _ => rfl
    · rw [if_neg h, if_neg h]; rfl
  | _ => rfl
/-! defs -/
def kN (Q : D → Option D → Prop) (_ : Rho) : Prop := Q .non none
def kR (Q : D → Option D → Prop) (d : D) (_ : Rho) : Prop := Q d none
def kXn (Y : Str → D → Option D → Prop) (n : Str) (d : D) (_ : Rho) : Prop := Y n d none
@[simp] theorem kN_ap : kN Q r = Q .non none := (rfl)
@[simp] theorem kR_ap {d : D} : kR Q d r = Q d none := (rfl)
@[simp] theorem kXn_ap {n : Str} {d : D} : kXn Y n d r = Y n d none := (rfl)
@[simp ↓ high] theorem WD_runF {nN np : Nat} {f : Rho → SO} {ds : List D} : WD (runF none nN np f ds) Q Y = if ds.length = np then WS (f (ds.map some ++ List.replicate (nN - np) none)) (kN Q) (ZF (kR Q) (kXn Y)) else False := by
  unfold runF
  by_cases h : ds.length = np
  · rw [if_pos h, if_pos h]; cases f (ds.map some ++ List.replicate (nN - np) none) <;> rfl
  · rw [if_neg h, if_neg h]; rfl
def kS (Q : D → Option D → Prop) (d d0 : D) : Prop := Q d (some d0)
@[simp] theorem kS_ap {d d0 : D} : kS Q d d0 = Q d (some d0) := (rfl)
def kNi (Q : D → Option D → Prop) (r : Rho) : Prop := WO (rget r 0) (kS Q .non)
def kRi (Q : D → Option D → Prop) (d : D) (r : Rho) : Prop := WO (rget r 0) (kS Q d)
def kXi (Y : Str → D → Option D → Prop) (n : Str) (d : D) (r : Rho) : Prop := WO (rget r 0) (kS (Y n) d)
@[simp] theorem kNi_ap : kNi Q r = WO (rget r 0) (kS Q .non) := (rfl)
@[simp] theorem kRi_ap {d : D} : kRi Q d r = WO (rget r 0) (kS Q d) := (rfl)
@[simp] theorem kXi_ap {n : Str} {d : D} : kXi Y n d r = WO (rget r 0) (kS (Y n) d) := (rfl)
@[simp ↓ high] theorem WD_runI {m nN np : Nat} {f : Rho → SO} {ds : List D} : WD (runF (some m) nN np f ds) Q Y = if ds.length = np then WS (f (ds.map some ++ List.replicate (nN - np) none)) (kNi Q) (ZF (kRi Q) (kXi Y)) else False := by
  unfold runF
  by_cases h : ds.length = np
  · rw [if_pos h, if_pos h]
    cases f (ds.map some ++ List.replicate (nN - np) none) with
    | rt d r => show WD (match rget r 0 with | some d0 => .ok d (some d0) | none => .no) Q Y = WO (rget r 0) (kS Q d); cases rget r 0 <;> rfl
    | nx r => show WD (match rget r 0 with | some d0 => .ok .non (some d0) | none => .no) Q Y = WO (rget r 0) (kS Q .non); cases rget r 0 <;> rfl
    | ex n d r => show WD (match rget r 0 with | some d0 => .ex n d (some d0) | none => .no) Q Y = WO (rget r 0) (kS (Y n) d); cases rget r 0 <;> rfl
    | _ => rfl
  · rw [if_neg h, if_neg h]; rfl
theorem WD.eq {x : DR} {d : D} {o : Option D} (h : WD x (fun d' o' => d' = d ∧ o' = o) yF) : x = .ok d o := by
  cases x with
  | ok d o => obtain ⟨rfl, rfl⟩ := h; rfl
  | ex n d o => exact h.elim
  | no => exact h.elim
theorem WD.of {x : DR} {P : D → Option D → Prop} (h : WD x P yF) : ∃ d o, x = .ok d o ∧ P d o := by
  cases x with
  | ok d o => exact ⟨d, o, rfl, h⟩
  | ex n d o => exact h.elim
  | no => exact h.elim
/-- a call whose end is known -/
theorem WD.use {x : DR} {P : D → Option D → Prop} (h : WD x P yF) (g : ∀ d o, P d o → Q d o) : WD x Q Y := by
  obtain ⟨d, o, rfl, h⟩ := h.of
  exact g d o h
/-! loops -/
theorem WS_loop {g : D → Rho → Option Rho} {b : Rho → SO} {ds : List D} (P : Nat → Rho → Prop) (h0 : P 0 r)
    (step : ∀ i d r, ds[i]? = some d → P i r → WO (g d r) (kSeq b (P (i + 1)) (ZL (P (i + 1)) N Z))) (hend : ∀ r, P ds.length r → N r) : WS (loopD g b ds r) N Z := by
  have gen : ∀ (ds : List D) (k : Nat) (r : Rho), P k r → (∀ i d r, ds[i]? = some d → P (k + i) r → WO (g d r) (kSeq b (P (k + i + 1)) (ZL (P (k + i + 1)) N Z))) → (∀ r, P (k + ds.length) r → N r) → WS (loopD g b ds r) N Z := by
    intro ds
    induction ds with
    | nil => intro k r h _ he; exact he r h
    | cons d ds ih =>
      intro k r h st he
      have q := st 0 d r rfl h
      have next : ∀ r2, P (k + 1) r2 → WS (loopD g b ds r2) N Z := fun r2 h2 => ih (k + 1) r2 h2 (fun i d r hd hp => by
        have q := st (i + 1) d r hd (by rw [show k + (i + 1) = k + 1 + i by omega]; exact hp)
        rw [show k + (i + 1) + 1 = k + 1 + i + 1 by omega] at q
        exact q) (fun r hr => he r (by rw [List.length_cons, show k + (ds.length + 1) = k + 1 + ds.length by omega]; exact hr))
      unfold loopD
      cases eg : g d r with
      | none => rw [eg] at q; exact q.elim
      | some r1 =>
        rw [eg] at q
        have q' : WS (b r1) (P (k + 1)) (ZL (P (k + 1)) N Z) := q
        simp only
        cases eb : b r1 with
        | nx r2 => rw [eb] at q'; exact next r2 q'
        | ct r2 => rw [eb] at q'; exact next r2 q'
        | bk r2 => rw [eb] at q'; exact q'
        | rt d r2 => rw [eb] at q'; exact q'
        | ex n d r2 => rw [eb] at q'; exact q'
        | no => rw [eb] at q'; exact q'.elim
  refine gen ds 0 r h0 (fun i d r hd hp => ?_) (fun r hr => hend r (by rw [Nat.zero_add] at hr; exact hr))
  rw [Nat.zero_add] at hp ⊢
  exact step i d r hd hp
/-- over items made of others -/
theorem WS_loopM {α : Type} {F : α → D} {g : D → Rho → Option Rho} {b : Rho → SO} {xs : List α} (P : Nat → Rho → Prop) (h0 : P 0 r)
    (step : ∀ i x r, xs[i]? = some x → P i r → WO (g (F x) r) (kSeq b (P (i + 1)) (ZL (P (i + 1)) N Z))) (hend : ∀ r, P xs.length r → N r) : WS (loopD g b (xs.map F) r) N Z := by
  refine WS_loop P h0 (fun i d r hd hp => ?_) (fun r hr => hend r (by rw [List.length_map] at hr; exact hr))
  rw [List.getElem?_map] at hd
  cases e : xs[i]? with
  | none => rw [e] at hd; cases hd
  | some x => rw [e] at hd; cases hd; exact step i x r e hp
theorem WS_loopR {lo : Int} {n : Nat} {g : D → Rho → Option Rho} {b : Rho → SO} (P : Nat → Rho → Prop) (h0 : P 0 r)
    (step : ∀ i r, i < n → P i r → WO (g (.int (lo + (i : Nat))) r) (kSeq b (P (i + 1)) (ZL (P (i + 1)) N Z))) (hend : ∀ r, P n r → N r) : WS (loopD g b (rngD lo n) r) N Z := by
  refine WS_loop P h0 (fun i d r hd hp => ?_) (fun r hr => hend r (by rw [rngD_len] at hr; exact hr))
  have hi : i < n := by have := (List.getElem?_eq_some_iff.mp hd).1; rwa [rngD_len] at this
  rw [rngD_get hd]
  exact step i r hi hp
/-! comprehensions -/
def kCe (vs : List Nat) (P : List D → Rho → Prop) (acc : List D) (e : D) (r : Rho) : Prop := P (acc ++ [e]) (wipeR r vs)
@[simp] theorem kCe_ap {vs : List Nat} {P : List D → Rho → Prop} {acc : List D} {e : D} : kCe vs P acc e r = P (acc ++ [e]) (wipeR r vs) := (rfl)
def kCt (vs : List Nat) (fe : Rho → R D) (P : List D → Rho → Prop) (acc : List D) (t : Bool) (r : Rho) : Prop := if t = true then WR (fe r) (kCe vs P acc) xF else P acc (wipeR r vs)
@[simp] theorem kCt_ap {vs : List Nat} {fe : Rho → R D} {P : List D → Rho → Prop} {acc : List D} {t : Bool} : kCt vs fe P acc t r = if t = true then WR (fe r) (kCe vs P acc) xF else P acc (wipeR r vs) := (rfl)
def kCs (vs : List Nat) (ts : Rho → R Bool) (fe : Rho → R D) (P : List D → Rho → Prop) (acc : List D) (r : Rho) : Prop := WR (ts r) (kCt vs fe P acc) xF
@[simp] theorem kCs_ap {vs : List Nat} {ts : Rho → R Bool} {fe : Rho → R D} {P : List D → Rho → Prop} {acc : List D} : kCs vs ts fe P acc r = WR (ts r) (kCt vs fe P acc) xF := (rfl)
theorem WR_comp {vs : List Nat} {g : D → Rho → Option Rho} {ts : Rho → R Bool} {fe : Rho → R D} {ds acc : List D} (P : Nat → List D → Rho → Prop) (h0 : P 0 acc r)
    (step : ∀ i d acc r, ds[i]? = some d → P i acc r → WO (g d r) (kCs vs ts fe (P (i + 1)) acc)) (hend : ∀ acc r, P ds.length acc r → QL acc r) :
    WR (compD vs g ts fe ds acc r) QL X := by
  have gen : ∀ (ds : List D) (k : Nat) (acc : List D) (r : Rho), P k acc r → (∀ i d acc r, ds[i]? = some d → P (k + i) acc r → WO (g d r) (kCs vs ts fe (P (k + i + 1)) acc)) → (∀ acc r, P (k + ds.length) acc r → QL acc r) →
      WR (compD vs g ts fe ds acc r) QL X := by
    intro ds
    induction ds with
    | nil => intro k acc r h _ he; exact he acc r h
    | cons d ds ih =>
      intro k acc r h st he
      have q := st 0 d acc r rfl h
      have next : ∀ acc r2, P (k + 1) acc r2 → WR (compD vs g ts fe ds acc r2) QL X := fun acc r2 h2 => ih (k + 1) acc r2 h2 (fun i d acc r hd hp => by
        have q := st (i + 1) d acc r hd (by rw [show k + (i + 1) = k + 1 + i by omega]; exact hp)
        rw [show k + (i + 1) + 1 = k + 1 + i + 1 by omega] at q
        exact q) (fun acc r hr => he acc r (by rw [List.length_cons, show k + (ds.length + 1) = k + 1 + ds.length by omega]; exact hr))
      unfold compD
      cases eg : g d r with
      | none => rw [eg] at q; exact q.elim
      | some r1 =>
        rw [eg] at q
        simp only
        have q1 : WR (ts r1) (kCt vs fe (P (k + 1)) acc) xF := q
        cases et : ts r1 with
        | no => rw [et] at q1; exact q1.elim
        | ex n x r2 => rw [et] at q1; exact q1.elim
        | ok t r2 =>
          rw [et] at q1
          cases t with
          | false => exact next _ _ (by simpa using q1)
          | true =>
            have q2 : WR (fe r2) (kCe vs (P (k + 1)) acc) xF := by simpa using q1
            cases ee : fe r2 with
            | no => rw [ee] at q2; exact q2.elim
            | ex n x r3 => rw [ee] at q2; exact q2.elim
            | ok e r3 => rw [ee] at q2; simp only [ee]; exact next _ _ q2
  refine gen ds 0 acc r h0 (fun i d acc r hd hp => ?_) (fun acc r hr => hend acc r (by rw [Nat.zero_add] at hr; exact hr))
  rw [Nat.zero_add] at hp ⊢
  exact step i d acc r hd hp
theorem WR_compM {α : Type} {F : α → D} {vs : List Nat} {g : D → Rho → Option Rho} {ts : Rho → R Bool} {fe : Rho → R D} {xs : List α} {acc : List D} (P : Nat → List D → Rho → Prop) (h0 : P 0 acc r)
    (step : ∀ i x acc r, xs[i]? = some x → P i acc r → WO (g (F x) r) (kCs vs ts fe (P (i + 1)) acc)) (hend : ∀ acc r, P xs.length acc r → QL acc r) :
    WR (compD vs g ts fe (xs.map F) acc r) QL X := by
  refine WR_comp P h0 (fun i d acc r hd hp => ?_) (fun acc r hr => hend acc r (by rw [List.length_map] at hr; exact hr))
  rw [List.getElem?_map] at hd
  cases e : xs[i]? with
  | none => rw [e] at hd; cases hd
  | some x => rw [e] at hd; cases hd; exact step i x acc r e hp
theorem WR_compR {lo : Int} {n : Nat} {vs : List Nat} {g : D → Rho → Option Rho} {ts : Rho → R Bool} {fe : Rho → R D} {acc : List D} (P : Nat → List D → Rho → Prop) (h0 : P 0 acc r)
    (step : ∀ i acc r, i < n → P i acc r → WO (g (.int (lo + (i : Nat))) r) (kCs vs ts fe (P (i + 1)) acc)) (hend : ∀ acc r, P n acc r → QL acc r) :
    WR (compD vs g ts fe (rngD lo n) acc r) QL X := by
  refine WR_comp P h0 (fun i d acc r hd hp => ?_) (fun acc r hr => hend acc r (by rw [rngD_len] at hr; exact hr))
  have hi : i < n := by have := (List.getElem?_eq_some_iff.mp hd).1; rwa [rngD_len] at this
  rw [rngD_get hd]
  exact step i acc r hi hp
/-- a pure comprehension: each item's value is known, the slots stay -/
def kP (vs : List Nat) (fe : Rho → R D) (v : D) (r0 : Rho) (t : Bool) (r : Rho) : Prop := t = true ∧ WR (fe r) (fun e r3 => e = v ∧ wipeR r3 vs = r0) xF
@[simp] theorem kP_ap {vs : List Nat} {fe : Rho → R D} {v : D} {r0 : Rho} {t : Bool} : kP vs fe v r0 t r = (t = true ∧ WR (fe r) (fun e r3 => e = v ∧ wipeR r3 vs = r0) xF) := (rfl)
def kPs (vs : List Nat) (ts : Rho → R Bool) (fe : Rho → R D) (v : D) (r0 : Rho) (r : Rho) : Prop := WR (ts r) (kP vs fe v r0) xF
@[simp] theorem kPs_ap {vs : List Nat} {ts : Rho → R Bool} {fe : Rho → R D} {v : D} {r0 : Rho} : kPs vs ts fe v r0 r = WR (ts r) (kP vs fe v r0) xF := (rfl)
theorem WR_compF {α : Type} {F : α → D} (v : α → D) {vs : List Nat} {g : D → Rho → Option Rho} {ts : Rho → R Bool} {fe : Rho → R D} {xs : List α}
    (step : ∀ (i : Nat) (x : α), xs[i]? = some x → WO (g (F x) r) (kPs vs ts fe (v x) r)) (hend : QL (xs.map v) r) :
    WR (compD vs g ts fe (xs.map F) [] r) QL X := by
  refine WR_compM (fun i acc r' => acc = (xs.take i).map v ∧ r' = r) ⟨rfl, rfl⟩ ?_ ?_
  · rintro i x acc r' hx ⟨rfl, rfl⟩
    have q := step i x hx
    cases eg : g (F x) r' with
    | none => rw [eg] at q; exact q.elim
    | some r1 =>
      rw [eg] at q
      have q1 : WR (ts r1) (kP vs fe (v x) r') xF := q
      show WR (ts r1) _ xF
      cases et : ts r1 with
      | no => rw [et] at q1; exact q1.elim
      | ex n z r2 => rw [et] at q1; exact q1.elim
      | ok t r2 =>
        rw [et] at q1
        obtain ⟨rfl, q2⟩ := q1
        rw [WR_ok, kCt_ap, if_pos rfl]
        cases ee : fe r2 with
        | no => rw [ee] at q2; exact q2.elim
        | ex n z r3 => rw [ee] at q2; exact q2.elim
        | ok e r3 =>
          rw [ee] at q2
          obtain ⟨rfl, q3⟩ := q2
          refine ⟨?_, q3⟩
          rw [List.take_add_one, hx, List.map_append]
          rfl
  · rintro acc r' ⟨rfl, rfl⟩
    rw [List.take_length]
    exact hend
theorem rngD_map (lo : Int) (n : Nat) : rngD lo n = (List.range n).map fun i => D.int (lo + (i : Nat)) := (rfl)
theorem WR_compG {lo : Int} {n : Nat} (v : Nat → D) {vs : List Nat} {g : D → Rho → Option Rho} {ts : Rho → R Bool} {fe : Rho → R D}
    (step : ∀ i, i < n → WO (g (.int (lo + (i : Nat))) r) (kPs vs ts fe (v i) r)) (hend : QL ((List.range n).map v) r) :
    WR (compD vs g ts fe (rngD lo n) [] r) QL X := by
  rw [rngD_map]
  exact WR_compF v (fun i x hx => step x (List.mem_range.mp (List.mem_of_getElem? hx))) hend
/-! while: a measure -/
def kWh2 (N : Rho → Prop) (B : Rho → Prop) (Z : SO → Prop) : SO → Prop := ZL N B Z
def kWh (b : Rho → SO) (P : Rho → Prop) (N : Rho → Prop) (Z : SO → Prop) (t : Bool) (r : Rho) : Prop := if t = true then WS (b r) P (ZL P N Z) else N r
@[simp] theorem kWh_ap {b : Rho → SO} {P : Rho → Prop} {t : Bool} : kWh b P N Z t r = if t = true then WS (b r) P (ZL P N Z) else N r := (rfl)
theorem WS_while {c : Rho → R Bool} {b : Rho → SO} (P : Nat → Rho → Prop) {m n : Nat} (hn : m < n) (h0 : P m r)
    (step : ∀ k r, P k r → WR (c r) (kWh b (fun r => ∃ j, j < k ∧ P j r) N Z) (kX Z)) : WS (whileD c b n r) N Z := by
  induction n generalizing m r with
  | zero => omega
  | succ n ih =>
    have q := step m r h0
    unfold whileD
    rw [WS_then]
    cases ec : c r with
    | no => rw [ec] at q; exact q
    | ex nn d r1 => rw [ec] at q; exact q
    | ok t r1 =>
      rw [ec] at q
      cases t with
      | false => simpa using q
      | true =>
        have q2 : WS (b r1) (fun r => ∃ j, j < m ∧ P j r) (ZL (fun r => ∃ j, j < m ∧ P j r) N Z) := by simpa using q
        show WS (if true = true then _ else _) N Z
        rw [if_pos rfl]
        cases eb : b r1 with
        | nx r2 => rw [eb] at q2; obtain ⟨j, hj, hp⟩ := q2; exact ih (by omega) hp
        | ct r2 => rw [eb] at q2; obtain ⟨j, hj, hp⟩ := q2; exact ih (by omega) hp
        | bk r2 => rw [eb] at q2; exact q2
        | rt d r2 => rw [eb] at q2; exact q2
        | ex nn d r2 => rw [eb] at q2; exact q2
        | no => rw [eb] at q2; exact q2
end
end VL

/-! VLW2: as VLW, of VL20 and VL21 -/
namespace VL
open PySem PySem.Spec
section
variable {QD : D → Rho → Prop} {X : Str → D → Rho → Prop} {r : Rho}
def kT4 (d : D) (lo hi : Option Int) (Q : D → Rho → Prop) (z : D) (r : Rho) : Prop := WO (pSlS d lo hi z) (kO Q r)
def kT3 (d : D) (lo : Option Int) (fs : Rho → R D) (Q : D → Rho → Prop) (X : Str → D → Rho → Prop) (hi : Option Int) (r : Rho) : Prop := WR (fs r) (kT4 d lo hi Q) X
def kT2 (d : D) (fh : Rho → R (Option Int)) (fs : Rho → R D) (Q : D → Rho → Prop) (X : Str → D → Rho → Prop) (lo : Option Int) (r : Rho) : Prop := WR (fh r) (kT3 d lo fs Q X) X
def kT1 (fl fh : Rho → R (Option Int)) (fs : Rho → R D) (Q : D → Rho → Prop) (X : Str → D → Rho → Prop) (d : D) (r : Rho) : Prop := WR (fl r) (kT2 d fh fs Q X) X
@[simp] theorem kT4_ap {d z : D} {lo hi : Option Int} : kT4 d lo hi QD z r = WO (pSlS d lo hi z) (kO QD r) := (rfl)
@[simp] theorem kT3_ap {d : D} {lo hi : Option Int} {fs : Rho → R D} : kT3 d lo fs QD X hi r = WR (fs r) (kT4 d lo hi QD) X := (rfl)
@[simp] theorem kT2_ap {d : D} {fh : Rho → R (Option Int)} {fs : Rho → R D} {lo : Option Int} : kT2 d fh fs QD X lo r = WR (fh r) (kT3 d lo fs QD X) X := (rfl)
@[simp] theorem kT1_ap {d : D} {fl fh : Rho → R (Option Int)} {fs : Rho → R D} : kT1 fl fh fs QD X d r = WR (fl r) (kT2 d fh fs QD X) X := (rfl)
@[simp ↓ high] theorem W_dSlS {fe : Rho → R D} {fl fh : Rho → R (Option Int)} {fs : Rho → R D} : WR (dSlS fe fl fh fs r) QD X = WR (fe r) (kT1 fl fh fs QD X) X := by
  unfold dSlS
  rw [WR_bind]
  cases fe r with
  | ok d r1 =>
    show WR ((fl r1).bind _) QD X = WR (fl r1) _ X
    rw [WR_bind]
    cases fl r1 with
    | ok lo r2 =>
      show WR ((fh r2).bind _) QD X = WR (fh r2) _ X
      rw [WR_bind]
      cases fh r2 with
      | ok hi r3 =>
        show WR ((fs r3).bind _) QD X = WR (fs r3) _ X
        rw [WR_bind]
        cases fs r3 with
        | ok z r4 => exact WR_lift
        | _ => rfl
      | _ => rfl
    | _ => rfl
  | _ => rfl
end
@[simp] theorem enumD1_ap {ds : List D} : enumD1 [.lst ds, .int 1] = some (enumL 1 ds) := (rfl)
theorem enum1_at {i : Nat} {F : α → D} {xs : List α} {d : D} (h : (enumL 1 (xs.map F))[i]? = some d) : ∃ x, xs[i]? = some x ∧ d = .tup [.int ((i + 1 : Nat) : Int), F x] := by
  obtain ⟨y, hy, rfl⟩ := enumL_get _ _ _ _ h
  rw [List.getElem?_map] at hy
  cases e : xs[i]? with
  | none => rw [e] at hy; cases hy
  | some x => rw [e] at hy; cases hy; exact ⟨x, rfl, by rw [Nat.add_comm]⟩
theorem enum0_at {i : Nat} {F : α → D} {xs : List α} {d : D} (h : (enumL 0 (xs.map F))[i]? = some d) : ∃ x, xs[i]? = some x ∧ d = .tup [.int (i : Int), F x] := by
  obtain ⟨y, hy, rfl⟩ := enumL_get _ _ _ _ h
  rw [List.getElem?_map] at hy
  cases e : xs[i]? with
  | none => rw [e] at hy; cases hy
  | some x => rw [e] at hy; cases hy; exact ⟨x, rfl, by rw [Nat.zero_add]⟩
@[simp] theorem pMax1_ints {n : Int} {ns : List Int} : pMax1 [.lst (.int n :: ns.map D.int)] = some (.int (ns.foldl max n)) := by
  show (intsD ((n :: ns).map D.int)).bind (topI max) = _
  rw [intsD_map]; rfl
@[simp] theorem pMin1_ints {n : Int} {ns : List Int} : pMin1 [.lst (.int n :: ns.map D.int)] = some (.int (ns.foldl min n)) := by
  show (intsD ((n :: ns).map D.int)).bind (topI min) = _
  rw [intsD_map]; rfl
theorem all_ints : ∀ ns : List Int, (ns.map D.int).all flatQ = true
  | [] => rfl
  | n :: ns => by rw [List.map_cons, List.all_cons, all_ints ns]; rfl
theorem any_ints (i : Int) : ∀ ns : List Int, ((ns.map D.int).any fun z => eqD z (.int i)) = decide (i ∈ ns)
  | [] => rfl
  | n :: ns => by
    rw [List.map_cons, List.any_cons, any_ints i ns]
    by_cases h : n = i
    · subst h; simp [eqD]
    · have h' : ¬ i = n := fun z => h z.symm
      simp [eqD, h, h']
theorem pIn_ints (neg : Bool) (i : Int) (ns : List Int) : pIn neg (.int i) (iL ns) = some (.bl (if neg then !decide (i ∈ ns) else decide (i ∈ ns))) := by
  show (if flatQ (.int i) = true ∧ (ns.map D.int).all flatQ = true then some (D.bl (if neg then !(ns.map D.int).any (fun z => eqD z (.int i)) else (ns.map D.int).any (fun z => eqD z (.int i)))) else none) = _
  rw [if_pos ⟨rfl, all_ints ns⟩, any_ints]
end VL

/-! VLW3: as VLW, of VL22 -/
namespace VL
open PySem PySem.Spec
section
variable {N : Rho → Prop} {Z : SO → Prop} {r : Rho}
def kPa3 (i j l : Nat) (N : Rho → Prop) (ds : List D) (r : Rho) : Prop := WS (par3 i j l ds r) N (fun _ => False)
@[simp] theorem kPa3_ap {i j l : Nat} {d e f : D} : kPa3 i j l N [d, e, f] r = N (((r.set i (some d)).set j (some e)).set l (some f)) := (rfl)
@[simp ↓ high] theorem WS_par3 {i j l : Nat} {f : Rho → R (List D)} : WS (dPar3 i j l f r) N Z = WR (f r) (kPa3 i j l N) (kX Z) := by
  unfold dPar3
  rw [WS_then]
  cases f r with
  | ok ds r1 =>
    show WS (par3 i j l ds r1) N Z = WS (par3 i j l ds r1) N _
    match ds with
    | [] => rfl
    | [_] => rfl
    | [_, _] => rfl
    | [_, _, _] => rfl
    | _ :: _ :: _ :: _ :: _ => rfl
  | _ => rfl
end
end VL

/-! VL29: dicts whose keys are ints and texts -/
namespace VL
open PySem PySem.Spec PyProof.Rows L2

def dDct0 : Rho → R D := fun r => .ok (.dct []) r
def keyD : D → Option Key
  | .int i => some (.inl i)
  | .str x => some (.inr x)
  | _ => none
def dlk : List (Key × D) → Key → Option D
  | [], _ => none
  | p :: r, k => if p.1 = k then some p.2 else dlk r k
def dput : List (Key × D) → Key → D → List (Key × D)
  | [], k, d => [(k, d)]
  | p :: r, k, d => if p.1 = k then (p.1, d) :: r else p :: dput r k d
def ndK (ks : List (Key × D)) : Bool := decide (ks.map (·.1)).Nodup
theorem rep_key {K : PySem.W.Frag} {H : Hp} {n : Nat} {d : D} {v : V} {c s : Cnt} (r : Rep K H n d v c s) {k : Key} (h : keyD d = some k) : v = kV k ∧ c = z0 ∧ s = z0 := by
  cases r <;> first | (cases h; exact ⟨rfl, rfl, rfl⟩) | cases h
theorem dlk_val {K : PySem.W.Frag} {H : Hp} {n : Nat} : ∀ {ks : List (Key × D)} {kvs : List (Key × V)} {c s : Cnt}, kvs.map (·.1) = ks.map (·.1) → Reps K H n (ks.map (·.2)) (kvs.map (·.2)) c s → ∀ k : Key,
    (dlk ks k = none → valV kvs k = none) ∧ ∀ d, dlk ks k = some d → ∃ v ci si, valV kvs k = some v ∧ Rep K H n d v ci si ∧ (∀ a, ci a ≤ c a) ∧ ∀ a, si a ≤ s a
  | [], [], _, _, _, _, k => ⟨fun _ => rfl, fun d h => by cases h⟩
  | [], _ :: _, _, _, e, _, _ => by cases e
  | _ :: _, [], _, _, e, _, _ => by cases e
  | p :: ks, q :: kvs, c, s, e, r, k => by
    rw [List.map_cons, List.map_cons] at e r
    injection e with e1 e2
    cases r with
    | cons ra rb =>
      obtain ⟨h1, h2⟩ := dlk_val e2 rb k
      by_cases h : p.1 = k
      · have h' : q.1 = k := e1.trans h
        refine ⟨fun z => ?_, fun d z => ?_⟩
        · unfold dlk at z; rw [if_pos h] at z; cases z
        · unfold dlk at z; rw [if_pos h] at z; cases z
          exact ⟨q.2, _, _, valV_pos h', ra, fun a => by simp only [add_at]; omega, fun a => by simp only [add_at]; omega⟩
      · have h' : ¬ q.1 = k := fun z => h (e1.symm.trans z)
        refine ⟨fun z => ?_, fun d z => ?_⟩
        · unfold dlk at z; rw [if_neg h] at z; rw [valV_neg h']; exact h1 z
        · unfold dlk at z; rw [if_neg h] at z
          obtain ⟨v, ci, si, ev, rv, a1, a2⟩ := h2 d z
          exact ⟨v, ci, si, by rw [valV_neg h']; exact ev, rv, fun a => by have := a1 a; simp only [add_at]; omega, fun a => by have := a2 a; simp only [add_at]; omega⟩
theorem Reps.uncons {K : PySem.W.Frag} {H : Hp} {n : Nat} {d : D} {ds : List D} {v : V} {vs : List V} {c s : Cnt} (r : Reps K H n (d :: ds) (v :: vs) c s) : ∃ ca sa cb sb, Rep K H n d v ca sa ∧ Reps K H n ds vs cb sb ∧ c = add ca cb ∧ s = add sa sb := by
  cases r with
  | cons a b => exact ⟨_, _, _, _, a, b, rfl, rfl⟩
theorem putK_hit {q : Key × V} {r : List (Key × V)} {k : Key} {v : V} (h : q.1 = k) (hn : ¬ k ∈ r.map (·.1)) : putK (q :: r) k v = (q.1, v) :: r := by
  unfold putK
  rw [if_pos (by rw [List.any_cons, decide_eq_true h]; rfl), List.map_cons, if_pos h]
  congr 1
  have gen : ∀ l : List (Key × V), (∀ p ∈ l, ¬ p.1 = k) → l.map (fun kv => if kv.1 = k then (kv.1, v) else kv) = l := by
    intro l
    induction l with
    | nil => intro _; rfl
    | cons p l ih =>
      intro hl
      rw [List.map_cons, if_neg (hl p List.mem_cons_self), ih fun z hz => hl z (List.mem_cons_of_mem _ hz)]
  exact gen r fun p hp e => hn (List.mem_map.mpr ⟨p, hp, e⟩)
theorem putK_miss {q : Key × V} {r : List (Key × V)} {k : Key} {v : V} (h : ¬ q.1 = k) : putK (q :: r) k v = q :: putK r k v := by
  unfold putK
  rw [List.any_cons, decide_eq_false h, Bool.false_or]
  by_cases e : (r.any fun kv => decide (kv.1 = k)) = true
  · rw [if_pos e, if_pos e, List.map_cons, if_neg h]
  · rw [if_neg e, if_neg e, List.cons_append]
theorem dput_keys_in : ∀ (ks : List (Key × D)) (k : Key) (d : D) (x : Key), x ∈ (dput ks k d).map (·.1) ↔ x ∈ ks.map (·.1) ∨ x = k
  | [], k, d, x => by simp [dput]
  | p :: r, k, d, x => by
    unfold dput
    by_cases h : p.1 = k
    · rw [if_pos h, List.map_cons, List.map_cons]
      refine ⟨fun z => .inl z, fun z => ?_⟩
      rcases z with z | z
      · exact z
      · exact List.mem_cons.mpr (.inl (z.trans h.symm))
    · rw [if_neg h, List.map_cons, List.map_cons, List.mem_cons, List.mem_cons, dput_keys_in r k d x, or_assoc]
theorem nd_dput : ∀ {ks : List (Key × D)} {k : Key} {d : D}, (ks.map (·.1)).Nodup → ((dput ks k d).map (·.1)).Nodup
  | [], k, d, _ => by simp [dput]
  | p :: r, k, d, h => by
    rw [List.map_cons, List.nodup_cons] at h
    unfold dput
    by_cases e : p.1 = k
    · rw [if_pos e, List.map_cons, List.nodup_cons]; exact h
    · rw [if_neg e, List.map_cons, List.nodup_cons]
      refine ⟨fun z => ?_, nd_dput h.2⟩
      rcases (dput_keys_in r k d p.1).mp z with z | z
      · exact h.1 z
      · exact e z
theorem ndK_dput {ks : List (Key × D)} {k : Key} {d : D} (h : ndK ks = true) : ndK (dput ks k d) = true := decide_eq_true (nd_dput (of_decide_eq_true h))
/-- an entry's value replaced, or a new entry -/
theorem put_reps {K : PySem.W.Frag} {H : Hp} {n : Nat} : ∀ {ks : List (Key × D)} {kvs : List (Key × V)} {c s : Cnt}, kvs.map (·.1) = ks.map (·.1) → Reps K H n (ks.map (·.2)) (kvs.map (·.2)) c s → (ks.map (·.1)).Nodup → ∀ k : Key,
    ∃ c1 s1 c2 s2, c = add c1 c2 ∧ s = add s1 s2 ∧ ∀ d v c' s', Rep K H n d v c' s' → (putK kvs k v).map (·.1) = (dput ks k d).map (·.1) ∧ Reps K H n ((dput ks k d).map (·.2)) ((putK kvs k v).map (·.2)) (add c' c2) (add s' s2)
  | [], [], _, _, _, r, _, k => by
    obtain ⟨_, rfl, rfl⟩ := r.inv0
    exact ⟨z0, z0, z0, z0, by rw [add_z], by rw [add_z], fun d v c' s' rv => ⟨rfl, .cons rv .nil⟩⟩
  | [], _ :: _, _, _, e, _, _, _ => by cases e
  | _ :: _, [], _, _, e, _, _, _ => by cases e
  | p :: ks, q :: kvs, c, s, e, r, nd, k => by
    rw [List.map_cons, List.map_cons] at e r
    rw [List.map_cons, List.nodup_cons] at nd
    injection e with e1 e2
    obtain ⟨ca, sa, cb, sb, ra, rb, rfl, rfl⟩ := r.uncons
    · by_cases h : p.1 = k
      · have h' : q.1 = k := e1.trans h
        refine ⟨ca, sa, cb, sb, rfl, rfl, fun d v c' s' rv => ?_⟩
        rw [putK_hit h' (by rw [e2, ← h]; exact nd.1)]
        unfold dput
        rw [if_pos h]
        exact ⟨by rw [List.map_cons, List.map_cons]; show q.1 :: _ = p.1 :: _; rw [e1, e2], .cons rv rb⟩
      · have h' : ¬ q.1 = k := fun z => h (e1.symm.trans z)
        obtain ⟨c1, s1, c2, s2, rfl, rfl, f⟩ := put_reps e2 rb nd.2 k
        refine ⟨c1, s1, add ca c2, add sa s2, by rw [add_left_comm'], by rw [add_left_comm'], fun d v c' s' rv => ?_⟩
        obtain ⟨f1, f2⟩ := f d v c' s' rv
        rw [putK_miss h']
        unfold dput
        rw [if_neg h]
        refine ⟨by rw [List.map_cons, List.map_cons, f1, e1], ?_⟩
        rw [add_left_comm' c', add_left_comm' s']
        exact .cons ra f2
/-- an entry's value changed in place -/
theorem foc_reps {K : PySem.W.Frag} {H : Hp} {n : Nat} : ∀ {ks : List (Key × D)} {kvs : List (Key × V)} {c s : Cnt}, kvs.map (·.1) = ks.map (·.1) → Reps K H n (ks.map (·.2)) (kvs.map (·.2)) c s → ∀ (k : Key) (d : D), dlk ks k = some d →
    ∃ v c1 s1 c2 s2, valV kvs k = some v ∧ Rep K H n d v c1 s1 ∧ c = add c1 c2 ∧ s = add s1 s2 ∧ Dom c2 s2 H ∧
      ∀ d', ((dput ks k d').map (·.1) = ks.map (·.1)) ∧ ∀ H' c1' s1', Kp c2 s2 H H' → Rep K H' n d' v c1' s1' → Reps K H' n ((dput ks k d').map (·.2)) (kvs.map (·.2)) (add c1' c2) (add s1' s2)
  | [], _, _, _, _, _, _, _, h => by cases h
  | _ :: _, [], _, _, e, _, _, _, _ => by cases e
  | p :: ks, q :: kvs, c, s, e, r, k, d, hd => by
    rw [List.map_cons, List.map_cons] at e r
    injection e with e1 e2
    obtain ⟨ca, sa, cb, sb, ra, rb, rfl, rfl⟩ := r.uncons
    · by_cases h : p.1 = k
      · have h' : q.1 = k := e1.trans h
        unfold dlk at hd
        rw [if_pos h] at hd
        cases hd
        refine ⟨q.2, ca, sa, cb, sb, valV_pos h', ra, rfl, rfl, rb.dom, fun d' => ?_⟩
        unfold dput
        rw [if_pos h]
        exact ⟨rfl, fun H' c1' s1' kp rv => .cons rv (rb.keep kp)⟩
      · have h' : ¬ q.1 = k := fun z => h (e1.symm.trans z)
        unfold dlk at hd
        rw [if_neg h] at hd
        obtain ⟨v, c1, s1, c2, s2, ev, rv, rfl, rfl, dm, f⟩ := foc_reps e2 rb k d hd
        refine ⟨v, c1, s1, add ca c2, add sa s2, by rw [valV_neg h']; exact ev, rv, by rw [add_left_comm'], by rw [add_left_comm'], ra.dom.add dm, fun d' => ?_⟩
        obtain ⟨f1, f2⟩ := f d'
        unfold dput
        rw [if_neg h]
        refine ⟨by rw [List.map_cons, List.map_cons, f1], fun H' c1' s1' kp rv => ?_⟩
        rw [add_left_comm' c1', add_left_comm' s1']
        exact .cons (ra.keep kp.left) (f2 H' c1' s1' kp.right rv)
theorem rep_dct0 {K : PySem.W.Frag} {H : Hp} {ks : List (Key × D)} {v : V} {c s : Cnt} (r : Rep K H 0 (.dct ks) v c s) : ∃ a kvs s', v = .ref a ∧ H a = some (.dK kvs) ∧ kvs.map (·.1) = ks.map (·.1) ∧ Reps K H 0 (ks.map (·.2)) (kvs.map (·.2)) z0 s' ∧ s = add (one a) s' ∧ c = z0 := by
  have z := r.zero
  cases r with
  | dct0 h e1 e2 e3 r => subst z; subst e1; subst e3; exact ⟨_, _, _, rfl, h, e2, r, rfl, rfl⟩
theorem rep_dctS {K : PySem.W.Frag} {H : Hp} {n : Nat} {ks : List (Key × D)} {v : V} {c s : Cnt} (r : Rep K H (n + 1) (.dct ks) v c s) : ∃ a kvs c', v = .ref a ∧ H a = some (.dK kvs) ∧ kvs.map (·.1) = ks.map (·.1) ∧ Reps K H n (ks.map (·.2)) (kvs.map (·.2)) c' s ∧ c = add (one a) c' := by
  cases r with
  | dctS h e1 e2 e3 r => subst e1; subst e3; exact ⟨_, _, _, rfl, h, e2, r, rfl⟩
theorem rep_dct {K : PySem.W.Frag} {H : Hp} {n : Nat} {ks : List (Key × D)} {v : V} {c s : Cnt} (r : Rep K H n (.dct ks) v c s) : ∃ a kvs, v = .ref a ∧ H a = some (.dK kvs) := by
  cases r with
  | dct0 h e1 e2 e3 r => exact ⟨_, _, rfl, h⟩
  | dctS h e1 e2 e3 r => exact ⟨_, _, rfl, h⟩
def isDct : D → Bool
  | .dct _ => true
  | _ => false
def isDctO : Option D → Bool
  | some (.dct _) => true
  | _ => false
theorem isDctO_of {o : Option D} (h : isDctO o = true) : ∃ ks, o = some (.dct ks) := by
  cases o with
  | none => cases h
  | some d => cases d <;> first | exact ⟨_, rfl⟩ | cases h

/-! ### reading -/
def rDGet : R2 := fun x y H Q => ∃ a v, x = .ref a ∧ DGet H a y (some v) ∧ Q v H
def pDGet (x y : D) : Option D := match x with
  | .dct ks => (keyD y).bind (dlk ks)
  | _ => none
def rDIn (neg : Bool) : R2 := fun y x H Q => ∃ a o, x = .ref a ∧ DGet H a y o ∧ Q (.bl (if neg then !o.isSome else o.isSome)) H
def pDIn (neg : Bool) (y x : D) : Option D := match x with
  | .dct ks => (keyD y).map fun k => .bl (if neg then !(dlk ks k).isSome else (dlk ks k).isSome)
  | _ => none
def pDGetD (x y z : D) : Option D := match x with
  | .dct ks => (keyD y).map fun k => (dlk ks k).getD z
  | _ => none
section
variable {X : Cx} {F : Fx} {G G1 G2 G3 G4 G' Gt Gs Gn : List Nat} {k k1 k2 k3 kr lv n : Nat} {e a b o i tg iter elt : Expr} {es ifs : List Expr} {pos p apos cpos : Pos} {st : Stmt} {sts : List Stmt}
theorem p_dget : P2 X rDGet 0 pDGet := by
  intro da db d hd x y H sa sb Q ra rb hq
  unfold pDGet at hd
  split at hd
  · rename_i ks
    cases ek : keyD db with
    | none => rw [ek] at hd; cases hd
    | some kk =>
      rw [ek] at hd
      have hd : dlk ks kk = some d := hd
      obtain ⟨rfl, _, _⟩ := rep_key rb ek
      obtain ⟨a, kvs, s', rfl, ha, ek2, rs, es, _⟩ := rep_dct0 ra
      obtain ⟨v, ci, si, ev, rv, h1, h2⟩ := (dlk_val ek2 rs kk).2 d hd
      have zz := rv.zero
      subst zz
      refine ⟨a, v, rfl, .inl ⟨kvs, kk, .inl ha, rfl, ev.symm⟩, hq v H z0 si rv (.part fun z hz => ?_)⟩
      have := h2 z
      simp only [es, add_at]
      omega
  · cases hd
theorem p_din (neg : Bool) : P2 X (rDIn neg) k (pDIn neg) := by
  intro db da d hd y x H sb sa Q rb ra hq
  unfold pDIn at hd
  split at hd
  · rename_i ks
    cases ek : keyD db with
    | none => rw [ek] at hd; cases hd
    | some kk =>
      rw [ek] at hd
      cases hd
      obtain ⟨rfl, _, _⟩ := rep_key rb ek
      obtain ⟨a, kvs, s', rfl, ha, ek2, rs, es, _⟩ := rep_dct0 ra
      obtain ⟨h1, h2⟩ := dlk_val ek2 rs kk
      refine ⟨a, valV kvs kk, rfl, .inl ⟨kvs, kk, .inl ha, rfl, rfl⟩, ?_⟩
      have e : (valV kvs kk).isSome = (dlk ks kk).isSome := by
        cases q : dlk ks kk with
        | none => rw [h1 q]; rfl
        | some d => obtain ⟨v, _, _, ev, _⟩ := h2 d q; rw [ev]; rfl
      rw [e]
      exact hq _ H z0 z0 (.bl _) .flat
  · cases hd
/-- d[k] -/
theorem v_dget {fa fb : Rho → R D} (hu : X.A.units + 1 < cLine) (A : PV X F G G1 k1 o fa) (B : PV X F G1 G2 k2 i fb) (hs : NoSl i := by exact fun _ _ => rfl) : PV X F G G2 0 (.Subscript o i pos) (d2 pDGet fa fb) := by
  obtain ⟨ta, tb, ha, hb, q⟩ := two_r A B p_dget
  exact ⟨_, pe_dget hu ha hb hs, q⟩
theorem v_din {fa fb : Rho → R D} (hu : X.A.units + 1 < cLine) (A : PV X F G G1 k1 i fa) (B : PV X F G1 G2 k2 o fb) (h1 : behindInMarks .In o = false := by first | exact nobehind _ (by decide) (by decide) | rfl) : PV X F G G2 k (.Compare i [.In] [o] pos) (d2 (pDIn false) fa fb) := by
  obtain ⟨ta, tb, ha, hb, q⟩ := two_r A B (p_din (k := k) false)
  exact ⟨_, pe_cmp (pc_din hu ha hb) h1, q⟩
/-- d.get(k, e) -/
def dDGetD (fa fb fc : Rho → R D) : Rho → R D := fun r => (fa r).bind fun da r1 => if isDct da = true then (fb r1).bind fun db r2 => (fc r2).bind fun dc r3 => lift (pDGetD da db dc) r3 else .no
theorem v_dgetD {fa fb fc : Rho → R D} (hu : X.A.units + 1 < cLine) (A0 : PV X F G G1 k1 o fa) (B0 : PV X F G1 G2 k2 a fb) (C0 : PV X F G2 G3 k3 b fc) (m : M2 X o "get" apos a b cpos := by exact ⟨by rfl, by rfl, by rfl, by rfl⟩) :
    PV X F G G3 0 (.Call (.Attribute o "get" apos) [a, b] [] cpos) (dDGetD fa fb fc) := by
  obtain ⟨ta, ha, qa⟩ := (A0.weak (Nat.zero_le k1)).go
  obtain ⟨tb, hb, qb⟩ := (B0.weak (Nat.zero_le k2)).go
  obtain ⟨tc, hc, qc⟩ := (C0.weak (Nat.zero_le k3)).go
  refine ⟨_, pe_dget2 hu ha hb hc m, fun σ H r c s Q sr ok h => qa σ H r c s _ sr ok (h.bind.mono fun da r1 h1 => ?_)⟩
  intro x H1 c1 s1 ca sa sr1 rpa st
  have z := rpa.zero
  subst z
  simp only [add_z] at st
  by_cases hd : isDct da = true
  case neg => rw [if_neg hd] at h1; exact False.elim h1
  rw [if_pos hd] at h1
  cases da with
  | dct ks =>
    obtain ⟨l, kvs0, rfl, hl0⟩ := rep_dct rpa
    refine ⟨l, rfl, .inl ⟨kvs0, .inl hl0⟩, ?_⟩
    have ok1 : Ok c1 s1 := fun z => by have := st.ok z; simp only [add_at] at this; omega
    have okF : Ok (add c1 z0) (add s1 sa) := by rw [add_z]; exact st.ok
    have st1 : Step c s H c1 s1 H1 := st.less (fun z => Nat.le_refl _) (fun z hz => by simp only [add_at]; omega)
    refine qb σ H1 r1 c1 s1 _ sr1 ok1 (h1.bind.imp st1 fun db r2 h2 => ?_)
    intro y H2 c2 s2 cb sb sr2 rpb st2
    have z := rpb.zero
    subst z
    simp only [add_z] at st2
    have fr2 := st2.frame okF rpa.dom
    have rpa2 := rpa.keep (st2.aside okF)
    simp only [add_z] at fr2
    have st2' : Step c s H c2 (add (add s2 sb) sa) H2 := st.trans fr2
    have ok2 : Ok c2 s2 := fun z => by have := st2'.ok z; simp only [add_at] at this; omega
    have okF2 : Ok (add c2 z0) (add s2 (add sb sa)) := fun z => by have := st2'.ok z; simp only [add_at, z_at] at this ⊢; omega
    have st21 : Step c s H c2 s2 H2 := st2'.less (fun z => Nat.le_refl _) (fun z hz => by simp only [add_at]; omega)
    refine qc σ H2 r2 c2 s2 _ sr2 ok2 (h2.bind1.imp st21 fun dc r3 h3 => ?_)
    obtain ⟨d, hd, h3⟩ := h3
    intro w H3 c3 s3 cc sc sr3 rpc st3
    have z := rpc.zero
    subst z
    simp only [add_z] at st3
    have dmF : Dom z0 (add sb sa) H2 := by have q := rpb.dom.add rpa2.dom; rw [add_z] at q; exact q
    have fr3 := st3.frame (cf := z0) (sf := add sb sa) okF2 dmF
    have asd := st3.aside (cf := z0) (sf := add sb sa) okF2
    simp only [add_z] at fr3
    have rpb3 := rpb.keep fun a o e z => asd a o e (by simp only [add_at]; rcases z with z | z | z; exact .inl z; exact .inr (.inl (by omega)); exact .inr (.inr z))
    have rpa3 := rpa2.keep fun a o e z => asd a o e (by simp only [add_at]; rcases z with z | z | z; exact .inl z; exact .inr (.inl (by omega)); exact .inr (.inr z))
    have e0 : add s2 (add sb sa) = add (add s2 sb) sa := (add_assoc' _ _ _).symm
    rw [e0] at fr3
    have st3' : Step c s H c3 (add (add s3 sc) (add sb sa)) H3 := st2'.trans fr3
    unfold pDGetD at hd
    simp only at hd
    cases ek : keyD db with
    | none => rw [ek] at hd; cases hd
    | some kk =>
      rw [ek] at hd
      cases hd
      obtain ⟨rfl, _, rfl⟩ := rep_key rpb3 ek
      obtain ⟨l', kvs, s', e, ha, ek2, rs, es, _⟩ := rep_dct0 rpa3
      cases e
      obtain ⟨g1, g2⟩ := dlk_val ek2 rs kk
      refine ⟨valV kvs kk, .inl ⟨kvs, kk, .inl ha, rfl, rfl⟩, ?_⟩
      have h3 : OkE X G3 0 c s H σ Q ((dlk ks kk).getD dc) r3 := h3
      cases q : dlk ks kk with
      | none =>
        rw [q] at h3
        have h3 : OkE X G3 0 c s H σ Q dc r3 := h3
        rw [g1 q]
        refine h3 w H3 c3 s3 z0 sc sr3 rpc (st3'.less (fun z => by simp only [add_at, z_at]; omega) (fun z hz => by simp only [add_at] at hz ⊢; omega))
      | some d =>
        rw [q] at h3
        obtain ⟨v, ci, si, ev, rv, a1, a2⟩ := g2 d q
        have zz := rv.zero
        subst zz
        rw [ev]
        have h3 : OkE X G3 0 c s H σ Q d r3 := h3
        refine h3 v H3 c3 s3 z0 si sr3 rv ?_
        refine ⟨fun z hz => st3'.own z (by simp only [add_at, z_at] at hz; omega), fun z hz => st3'.sh z ?_, st3'.keep, st3'.dom, fun z => ?_⟩
        · have := a2 z; simp only [es, add_at] at hz ⊢; omega
        · have h5 := st3'.ok z; have := a2 z; simp only [es, add_at, z_at] at h5 ⊢; omega
  | _ => cases hd
/-! ### {} -/
theorem v_dnew : PV X F G G (k + 1) (.Dict [] [] pos) dDct0 := by
  refine ⟨_, pe_dnewK, fun σ H r c s Q sr ok h => ?_⟩
  intro l hl
  have ke := ex_upd (o := .dK []) hl
  refine h (.ref l) _ c s (add (one l) z0) z0 (sr.keep (ex_kp ke)) (.dctS upd_same rfl rfl rfl .nil) ?_
  have nl : c l = 0 ∧ s l = 0 := by
    have dm := sr.dom l
    refine ⟨?_, ?_⟩
    · by_cases q : 0 < c l
      · obtain ⟨o, e, _⟩ := dm.1 q; rw [hl] at e; cases e
      · omega
    · by_cases q : 0 < s l
      · obtain ⟨o, e, _⟩ := dm.2 q; rw [hl] at e; cases e
      · omega
  refine ⟨fun a ha => ?_, fun a ha => ?_, fun a o e z => ke a o e, fun a ha => ?_, fun a => ?_⟩
  · simp only [add_at, z_at] at ha
    by_cases q : a = l
    · subst q; exact .inr hl
    · rw [one_ne q] at ha; exact .inl (by omega)
  · simp only [add_at, z_at] at ha; exact .inr (.inl (by omega))
  · by_cases q : a = l
    · subst q; rw [upd_same]; exact fun z => nomatch z
    · rw [upd_ne q]; exact ha
  · have h1 := ok a
    simp only [add_at, z_at]
    by_cases q : a = l
    · subst q; rw [one_same]; omega
    · rw [one_ne q]; omega
/-! ### storing -/
def setDGo (i : Nat) (d dk : D) (r : Rho) : SO := match rget r i, keyD dk with
  | some (.dct ks), some k => if ndK ks = true ∧ ks.length < 100000 then .nx (r.set i (some (.dct (dput ks k d)))) else .no
  | _, _ => .no
def dSetD (i : Nat) (fe fj : Rho → R D) : Rho → SO := fun r => (fe r).then fun d r1 => if isDctO (rget r1 i) = true then (fj r1).then fun dj r2 => setDGo i d dj r2 else .no
/-- x[j] = e, x the name of slot i, a dict that is owned -/
theorem s_setD (i n : Nat) {y : Str} {py ps : Pos} {fe fj : Rho → R D} (hu : X.A.units + 1 < cLine) (A : PV X F G G1 n e fe) (B0 : PV X F G1 G2 k2 b fj) (hmm : gget G2 i = n + 1 := by rfl) (hN : X.N[i]? = some y := by rfl) (hv : Vis X.env.scope y := by first | exact Or.inl rfl | exact Or.inr (Or.inl rfl) | exact Or.inr (Or.inr rfl))
    (hd : (y == ("__debug__" : Str)) = false := by decide) (hcd : (y == ("__classdict__" : Str)) = false := by decide)
    (hs : swapsWith e (some (.Subscript (.Name y py) b ps)) pos.line X.env = pure false := by rfl) :
    PSt X F G G2 (.Assign [.Subscript (.Name y py) b ps] e pos) (dSetD i fe fj) := by
  have B := B0.weak (Nat.zero_le k2)
  obtain ⟨t, ht, q⟩ := A.go
  obtain ⟨u, hu2, q2⟩ := B.go
  refine ⟨_, ps_dput hu (pv i hN hv hd hcd) hu2 ht hs, fun v0 σ H r c s Dn sr ok pr h => q σ H r c s _ sr ok (OutS.useX pr h fun d r1 h2 => ?_)⟩
  intro v0'' H1 c1 s1 ca sa x rp st
  by_cases hi : isDctO (rget r1 i) = true
  case neg => rw [if_neg hi] at h2; exact False.elim h2
  rw [if_pos hi] at h2
  obtain ⟨ks0, e0⟩ := isDctO_of hi
  obtain ⟨v0', _, _, _, _, ev0, rp0, _⟩ := x.out e0
  obtain ⟨l, kvs0, rfl, hl0⟩ := rep_dct rp0
  have ok1 : Ok c1 s1 := fun z => by have := st.ok z; simp only [add_at] at this; omega
  have st1 : Step c s H c1 s1 H1 := st.less (fun z => by simp only [add_at]; omega) (fun z hz => by simp only [add_at]; omega)
  refine ⟨.ref l, ev0, q2 σ H1 r1 c1 s1 _ x ok1 ?_⟩
  cases ej : fj r1 with
  | no => rw [ej] at h2; exact False.elim h2
  | ex nn dd r2 => rw [ej] at h2; exact fun cls dx H' G c1 s1 e gg sr4 z => h2 cls dx σ H' G c1 s1 e gg sr4 pr (st1.trans z)
  | ok dj r2 =>
  rw [ej] at h2
  have h3 : OutS X F v0 G2 c s H Dn (setDGo i d dj r2) := h2
  intro vj H2 c2 s2 cj sj x2 rj st2
  have zj := rj.zero
  subst zj
  unfold setDGo at h3
  cases e1 : rget r2 i with
  | none => rw [e1] at h3; exact False.elim h3
  | some d0 =>
    rw [e1] at h3
    cases d0 with
    | dct ks =>
      cases ek : keyD dj with
      | none => simp only [ek] at h3; exact False.elim h3
      | some kk =>
        simp only [ek] at h3
        by_cases hb : ndK ks = true ∧ ks.length < 100000
        case neg => rw [if_neg hb] at h3; exact False.elim h3
        rw [if_pos hb] at h3
        obtain ⟨rfl, _, rfl⟩ := rep_key rj ek
        simp only [add_z] at st2
        obtain ⟨v, c3, s3, c4, s4, ev, rr, x', ec, es'⟩ := x2.out e1
        rw [ev0] at ev
        cases ev
        rw [hmm] at rr
        have hlt := rget_lt e1
        obtain ⟨l', kvs, cc, e, hl, ek2, rs, rfl⟩ := rep_dctS rr
        cases e
        subst ec; subst es'
        obtain ⟨c5, s5, c6, s6, rfl, rfl, put⟩ := put_reps ek2 rs (of_decide_eq_true hb.1) kk
        have stf := st2.frame (cf := ca) (sf := sa) st.ok rp.dom
        have rp2 := rp.keep (st2.aside st.ok)
        obtain ⟨pk, rs2⟩ := put d v0'' ca sa rp2
        have okl := stf.ok l
        simp only [add_at, one_same] at okl
        have kp : ∀ {c s : Cnt}, c l = 0 → s l = 0 → Kp c s H2 (L2.upd H2 l (.dK (putK kvs kk v0''))) := fun {c s} e1 e2 => Kp.upd hl (fun z => z) e1 e2
        have hlen : kvs.length = ks.length := by have := congrArg List.length ek2; simpa using this
        refine ⟨l, _, rfl, .inl ⟨kvs, kk, hl, rfl, by rw [hlen]; exact line6 hb.2, rfl⟩, ?_⟩
        have xk := x'.keep (kp (by omega) (by omega))
        have rk := rs2.keep (kp (by simp only [add_at]; omega) (by simp only [add_at]; omega))
        have xu := xk.upd (by rw [List.length_set]; exact hlt) (rget_set_none r2 i) ev0 (.dctS upd_same rfl pk rfl rk)
        rw [set_set, ← hmm, gset_same] at xu
        refine h3 σ _ _ _ xu pr ?_
        exact (st.trans stf).mut (by simp only [add_at, one_same]; omega) hl (fun z => z) (fun a => by simp only [add_at]; omega) (fun a ha => by simp only [add_at] at ha ⊢; omega)
    | _ => exact False.elim h3
end
end VL

/-! VL30: more of dicts: d[k] op= e, a method of an entry, displays, values() of a dict that is not used again -/
namespace VL
open PySem PySem.Spec PyProof.Rows L2
section
variable {X : Cx} {F : Fx} {G G1 G2 G3 G4 G' Gt Gs Gn : List Nat} {k k1 k2 k3 kr lv n : Nat} {e a b o i tg iter elt kx : Expr} {es ifs : List Expr} {pos p apos cpos : Pos} {st : Stmt} {sts : List Stmt}
def augDGo (i : Nat) (key : Key) (o : Option D) (r : Rho) : SO := match o, rget r i with
  | some z, some (.dct ks) => if (ndK ks = true ∧ ks.length < 100000) ∧ flat z = true then .nx (r.set i (some (.dct (dput ks key z)))) else .no
  | _, _ => .no
def dAugD (i : Nat) (key : Key) (g : D → D → Option D) (f : Rho → R D) : Rho → SO := fun r => match rget r i with
  | some (.dct ks) => (match dlk ks key with
    | some x => if flat x = true then (f r).then fun d r1 => augDGo i key (g x d) r1 else .no
    | none => .no)
  | _ => .no
/-- x[k] op= e, k written, x the name of slot i -/
theorem s_augD (i n : Nat) (key : Key) {y : Str} {py tpos : Pos} {op : Operator} {r2 : R2} {g : D → D → Option D} {f : Rho → R D} (hu : X.A.units + 1 < cLine) (hk : PE X kx (tC (kV key))) (A0 : PV X F G G1 k e f) (ho : OpR X (inplaceOp op) r2) (p2 : P2 X r2 0 g) (hmm : gget G1 i = n + 1 := by rfl) (hN : X.N[i]? = some y := by rfl)
    (hv : Vis X.env.scope y := by first | exact Or.inl rfl | exact Or.inr (Or.inl rfl) | exact Or.inr (Or.inr rfl)) (hd : (y == ("__debug__" : Str)) = false := by decide) (hcd : (y == ("__classdict__" : Str)) = false := by decide)
    (ha : ∀ ov iv new, augStore kx ov iv new = (do holding [new, ov, iv] (setItem ov iv new); release [new, ov, iv] []; pure .next) := by intro _ _ _; rfl) :
    PSt X F G G1 (.AugAssign (.Subscript (.Name y py) kx tpos) op e pos) (dAugD i key g f) := by
  have A := A0.weak (Nat.zero_le k)
  obtain ⟨t, ht, q⟩ := A.go
  refine ⟨_, ps_daug (rd := r2) hu (pv i hN hv hd hcd) hk ht ho ha, fun v0 σ H r c s Dn sr ok pr h => ?_⟩
  unfold dAugD at h
  cases ex : rget r i with
  | none => rw [ex] at h; exact False.elim h
  | some dd =>
    rw [ex] at h
    cases dd with
    | dct ks0 =>
      have h : OutS X F v0 G1 c s H Dn (match dlk ks0 key with
        | some x => if flat x = true then (f r).then fun d r1 => augDGo i key (g x d) r1 else .no
        | none => .no) := h
      cases el : dlk ks0 key with
      | none => rw [el] at h; exact False.elim h
      | some dx =>
        rw [el] at h
        have h : OutS X F v0 G1 c s H Dn (if flat dx = true then (f r).then fun d r1 => augDGo i key (g dx d) r1 else .no) := h
        by_cases hfl : flat dx = true
        case neg => rw [if_neg hfl] at h; exact False.elim h
        rw [if_pos hfl] at h
        obtain ⟨vx, c3, s3, c4, s4, ev, rpx, _, _, _⟩ := sr.out ex
        have lk : ∃ l kvs v, vx = .ref l ∧ H l = some (.dK kvs) ∧ valV kvs key = some v ∧ ∀ H', Rep X.K H' 0 dx v z0 z0 := by
          revert rpx
          generalize gget G i = gi
          intro rpx
          cases rpx with
          | dct0 h e1 e2 e3 r =>
            subst e1; subst e3
            obtain ⟨v, ci, si, e, rv, _⟩ := (dlk_val e2 r key).2 dx el
            exact ⟨_, _, v, rfl, h, e, fun H' => rv.flatZ hfl⟩
          | dctS h e1 e2 e3 r =>
            subst e1; subst e3
            obtain ⟨v, ci, si, e, rv, _⟩ := (dlk_val e2 r key).2 dx el
            exact ⟨_, _, v, rfl, h, e, fun H' => rv.flatZ hfl⟩
        obtain ⟨l, kvs0, vv, rfl, hl0, evv, rvv⟩ := lk
        refine ⟨.ref l, ev, l, vv, rfl, .inl ⟨kvs0, key, .inl hl0, rfl, evv.symm⟩, q σ H r c s _ sr ok (OutS.useX pr h fun d r1 h2 => ?_)⟩
        intro v H' c1 s1 cr sr' x rp y
        have ez := rp.zero
        subst ez
        simp only [add_z] at y
        cases eg : g dx d with
        | none => rw [eg] at h2; exact False.elim h2
        | some dy =>
          rw [eg] at h2
          unfold augDGo at h2
          cases e1 : rget r1 i with
          | none => rw [e1] at h2; exact False.elim h2
          | some d0 =>
            rw [e1] at h2
            cases d0 with
            | dct ks =>
              have h2 : OutS X F v0 G1 c s H Dn (if (ndK ks = true ∧ ks.length < 100000) ∧ flat dy = true then .nx (r1.set i (some (.dct (dput ks key dy)))) else .no) := h2
              by_cases hb : (ndK ks = true ∧ ks.length < 100000) ∧ flat dy = true
              case neg => rw [if_neg hb] at h2; exact False.elim h2
              rw [if_pos hb] at h2
              refine p2 dx d dy eg vv v H' z0 sr' _ (rvv H') rp fun w H2 cw sw rpw nw => ?_
              obtain ⟨v', c5, s5, c6, s6, ev', rr, x', ec, es'⟩ := x.out e1
              rw [ev] at ev'
              cases ev'
              rw [hmm] at rr
              have hlt := rget_lt e1
              obtain ⟨l', kvs, cc, e, hl, ek2, rs, rfl⟩ := rep_dctS rr
              cases e
              subst ec; subst es'
              have kn : ∀ {c s : Cnt}, Kp c s H' H2 := ex_kp nw.keep
              have hl2 := nw.keep _ _ hl
              obtain ⟨c7, s7, c8, s8, rfl, rfl, put⟩ := put_reps ek2 (rs.keep kn) (of_decide_eq_true hb.1.1) key
              obtain ⟨pk, rs2⟩ := put dy w z0 z0 (rpw.flatZ hb.2)
              have st2 : Step c s H (add (add (one l) (add c7 c8)) c6) (add (add s7 s8) s6) H2 := (y.less (fun z => Nat.le_refl _) (fun z hz => by simp only [add_at] at hz ⊢; omega)).ext nw.keep
              have okl := st2.ok l
              simp only [add_at, one_same] at okl
              have kp : ∀ {c s : Cnt}, c l = 0 → s l = 0 → Kp c s H2 (L2.upd H2 l (.dK (putK kvs key w))) := fun {c s} e1 e2 => Kp.upd hl2 (fun z => z) e1 e2
              have hlen : kvs.length = ks.length := by have := congrArg List.length ek2; simpa using this
              refine ⟨_, .inl ⟨kvs, key, hl2, rfl, by rw [hlen]; exact line6 hb.1.2, rfl⟩, ?_⟩
              have xk := (x'.keep kn).keep (kp (by omega) (by omega))
              have rk := rs2.keep (kp (by simp only [add_at, z_at]; omega) (by simp only [add_at, z_at]; omega))
              have xu := xk.upd (by rw [List.length_set]; exact hlt) (rget_set_none r1 i) ev (.dctS upd_same rfl pk rfl rk)
              rw [set_set, ← hmm, gset_same] at xu
              refine h2 σ _ _ _ xu pr ?_
              exact st2.mut (by simp only [add_at, one_same]; omega) hl2 (fun z => z) (fun a => by simp only [add_at, z_at]; omega) (fun a ha => by simp only [add_at, z_at] at ha ⊢; omega)
            | _ => exact False.elim h2
    | _ => exact False.elim h
/-! ### x[k].m(..) -/
def atK (o : Option D) (key : Key) : Option (List (Key × D) × List D) := match o with
  | some (.dct ks) => (match dlk ks key with
    | some (.lst es) => some (ks, es)
    | _ => none)
  | _ => none
theorem atK_of {o : Option D} {key : Key} {ks : List (Key × D)} {es : List D} (h : atK o key = some (ks, es)) : o = some (.dct ks) ∧ dlk ks key = some (.lst es) := by
  unfold atK at h
  split at h
  · split at h
    · rename_i he
      cases h
      exact ⟨rfl, he⟩
    · cases h
  · cases h
def muD (i : Nat) (key : Key) (ks : List (Key × D)) (o : Option (D × List D)) (r1 : Rho) : R D := match o with
  | some (d, es') => if i < r1.length ∧ rget r1 i = none then .ok d (r1.set i (some (.dct (dput ks key (.lst es'))))) else .no
  | none => .no
def dMutD (i : Nat) (key : Key) (h : List D → List D → Option (D × List D)) (fa : Rho → R (List D)) : Rho → R D := fun r => match atK (rget r i) key with
  | some (ks, es) => (match fa (r.set i none) with
    | .ok as r1 => muD i key ks (h es as) r1
    | _ => .no)
  | none => .no
theorem mtd_run {i : Nat} {key : Key} {r0 : V → List V → Hp → VK → Prop} {h : List D → List D → Option (D × List D)} {fa : Rho → R (List D)} {t : TA} (mu : MuOk X r0 n kr h) (hmm : gget G1 i = n + 2) (hmG : gget G i = n + 2)
    (q : ∀ σ H r c s Q, SR X.K H G r σ c s → Ok c s → OutX X F c s H σ (OkL X G1 n c s H σ Q) (fa r) → t σ H Q) :
    ∀ σ H r c s (Q : VK), SR X.K H G r σ c s → Ok c s → OutX X F c s H σ (OkE X G1 kr c s H σ Q) (dMutD i key h fa r) → tDGet (tVar i) (tC (kV key)) σ H fun x H1 => tyV X.K "list" x H1 ∧ t σ H1 fun us H2 => r0 x us H2 Q := by
  intro σ H r c s Q sr ok h0
  unfold dMutD at h0
  cases ea : atK (rget r i) key with
  | none => simp only [ea] at h0; exact False.elim h0
  | some tr =>
    obtain ⟨ks, es⟩ := tr
    simp only [ea] at h0
    obtain ⟨e0, hes⟩ := atK_of ea
    obtain ⟨v, c1, s1, c2, s2, ev, rp, x', ec, es2⟩ := sr.out e0
    rw [hmG] at rp
    obtain ⟨l0, kvs, cc, rfl, hl0, ek2, rs, rfl⟩ := rep_dctS rp
    subst ec; subst es2
    obtain ⟨w, cw, sw, cr, sr', ew, rw', rfl, rfl, dmR, put⟩ := foc_reps ek2 rs key _ hes
    cases rw' with
    | @lstS _ l ws _ cl sl hl rl =>
      refine ⟨.ref l0, ev, l0, .ref l, rfl, .inl ⟨kvs, key, .inl hl0, rfl, ew.symm⟩, ?_⟩
      refine ⟨.inl ⟨rfl, ws, SqL.of hl⟩, ?_⟩
      have ok2 : Ok c2 s2 := fun z => by have := ok z; simp only [add_at] at this; omega
      refine q σ H (r.set i none) c2 s2 _ x' ok2 ?_
      cases ef : fa (r.set i none) with
      | no => simp only [ef] at h0; exact False.elim h0
      | ex nn d r1 => simp only [ef] at h0; exact False.elim h0
      | ok as r1 =>
        simp only [ef] at h0
        intro us H1 c3 s3 ca sa x3 ra st
        cases eh : h es as with
        | none => rw [eh] at h0; exact False.elim h0
        | some pr =>
          obtain ⟨d, es'⟩ := pr
          rw [eh] at h0
          unfold muD at h0
          by_cases hr1 : i < r1.length ∧ rget r1 i = none
          case neg => simp only [if_neg hr1] at h0; exact False.elim h0
          simp only [if_pos hr1] at h0
          have okF : Ok (add c2 (add (one l0) (add (add (one l) cl) cr))) (add s2 (add sw sr')) := fun z => by
            have := ok z; simp only [add_at] at this ⊢; omega
          have domF : Dom (add (one l0) (add (add (one l) cl) cr)) (add sw sr') H := Dom.addC hl0 trivial rs.dom
          have asd := st.aside okF
          have stf := st.frame okF domF
          have okf := stf.ok
          have hl1 : H1 l = some (.lst ws) := asd l _ hl (.inl (by simp only [add_at, one_same]; omega))
          have hl01 : H1 l0 = some (.dK kvs) := asd l0 _ hl0 (.inl (by simp only [add_at, one_same]; omega))
          have rl1 : Reps X.K H1 n es ws cl sw := rl.keep fun a o e z => asd a o e (by simp only [add_at]; rcases z with z | z | z; exact .inl (by omega); exact .inr (.inl (by omega)); exact .inr (.inr z))
          refine mu es as d es' eh l ws us H1 cl sw ca sa Q hl1 rl1 ra fun vs' v' c' s' cv sv rs' rv hc hs => ?_
          have okl := okf l
          have okl0 := okf l0
          simp only [add_at, one_same] at okl okl0
          have hcl := hc l
          have hsl : s' l = 0 ∧ sv l = 0 := by have := hs l; omega
          have ne : l0 ≠ l := fun z => by
            subst z
            simp only [one_same] at okl
            omega
          have kp : ∀ {c s : Cnt}, c l = 0 → s l = 0 → Kp c s H1 (L2.upd H1 l (.lst vs')) := fun {c s} e1 e2 => Kp.upd hl1 (fun z => z) e1 e2
          have kpR : Kp cr sr' H (L2.upd H1 l (.lst vs')) := fun a o e z => by
            have q1 := asd a o e (by simp only [add_at]; rcases z with z | z | z; exact .inl (by omega); exact .inr (.inl (by omega)); exact .inr (.inr z))
            exact kp (c := cr) (s := sr') (by omega) (by omega) a o q1 z
          obtain ⟨pk, put⟩ := put (.lst es')
          have r2 := put (L2.upd H1 l (.lst vs')) (add (one l) c') s' kpR (.lstS upd_same (rs'.keep (kp (by omega) hsl.1)))
          have hl02 : (L2.upd H1 l (.lst vs')) l0 = some (.dK kvs) := by rw [upd_ne ne]; exact hl01
          have x4 := x3.keep (kp (by omega) (by omega))
          have rfin : Rep X.K (L2.upd H1 l (.lst vs')) (n + 2) (.dct (dput ks key (.lst es'))) (.ref l0) (add (one l0) (add (add (one l) c') cr)) (add s' sr') := .dctS hl02 rfl (by rw [pk]; exact ek2) rfl r2
          have xu := x4.upd hr1.1 hr1.2 ev rfin
          rw [← hmm, gset_same] at xu
          refine h0 v' _ _ _ cv sv xu (rv.keep (kp (by omega) hsl.2)) ?_
          rw [add_comm' (add (one l0) (add (add (one l) cl) cr)) c2, add_comm' (add sw sr') s2]
          refine stf.mut (l := l) (by simp only [add_at, one_same]; omega) hl1 (fun z => z) (fun a => ?_) (fun a ha => ?_)
          · have := hc a
            simp only [add_at]; omega
          · have := hs a
            simp only [add_at] at ha ⊢; omega
theorem v_mtD (i n : Nat) (key : Key) {y name : Str} {py sp : Pos} {id : String} {r0 : V → List V → Hp → VK → Prop} {h : List D → List D → Option (D × List D)} {fa : Rho → R (List D)} (hu : X.A.units + 1 < cLine) (hk : PE X kx (tC (kV key))) (slot : Slot "list" name id) (hty : typeOf (.builtin id) = pure (.type "method_descriptor")) (hmt : MtR X id r0) (mu : MuOk X r0 n kr h)
    (A : PL X F G G1 n (e :: es) fa) (hmG : gget G i = n + 2 := by rfl) (hmm : gget G1 i = n + 2 := by rfl) (hN : X.N[i]? = some y := by rfl) (hv : Vis X.env.scope y := by first | exact Or.inl rfl | exact Or.inr (Or.inl rfl) | exact Or.inr (Or.inr rfl))
    (hd : (y == ("__debug__" : Str)) = false := by decide) (hcd : (y == ("__classdict__" : Str)) = false := by decide) (hs1 : NoSl kx := by exact fun _ _ => rfl)
    (hbase : attributeBase (.Subscript (.Name y py) kx sp) name X.env (eval (.Subscript (.Name y py) kx sp) X.env) = eval (.Subscript (.Name y py) kx sp) X.env := by rfl)
    (hfew : ((backTo cpos (starEach (e :: es) X.env)).all (fun x => !x.1) && (backToKw cpos (keywordEach [] X.env)).all (fun x => x.1.isSome)
      && decide ((e :: es).length + ([] : List Keyword).length + (if ([] : List Keyword).isEmpty then 0 else 1) < 30)) = true := by rfl)
    (hline : (apos.endLine == cpos.line) = true := by rfl) (hs : starEach (e :: es) X.env = (false, eval e X.env) :: starEach es X.env := by rfl) (hplain : (backTo cpos (starEach es X.env)).any (·.1) = false := by rfl) :
    PV X F G G1 kr (.Call (.Attribute (.Subscript (.Name y py) kx sp) name apos) (e :: es) [] cpos) (dMutD i key h fa) := by
  obtain ⟨t, ht, q⟩ := A.go
  exact ⟨_, pe_bm PySem.F.plainAttrs_list slot hty hmt (pe_dget hu (pv i hN hv hd hcd) hk hs1) ht hbase hfew hline hs hplain, fun σ H r c s Q sr ok h0 => mtd_run (key := key) mu hmm hmG q σ H r c s Q sr ok h0⟩
/-! ### displays -/
theorem mergeK_nd : ∀ {more acc : List (Key × V)}, ((acc ++ more).map (·.1)).Nodup → mergeK acc more = acc ++ more
  | [], acc, _ => by show acc = _; rw [List.append_nil]
  | q :: more, acc, h => by
    show mergeK (putK acc q.1 q.2) more = _
    have hn : valV acc q.1 = none := by
      cases z : valV acc q.1 with
      | none => rfl
      | some v =>
        have m := valV_in z
        rw [List.map_append, List.map_cons, List.nodup_append] at h
        exact absurd rfl (h.2.2 _ m q.1 List.mem_cons_self)
    rw [putK_new q.2 hn, mergeK_nd (by rw [List.append_assoc]; exact h), List.append_assoc]
    rfl
structure PDs (X : Cx) (F : Fx) (G G' : List Nat) (k : Nat) (pos : Pos) (ks : List Key) (keys : List (Option Expr)) (values : List Expr) (f : Rho → R (List D)) : Prop where
  go : ∃ trs, PPs X pos keys values trs ∧ ∀ σ H r c s (Q : List (V × V) → Hp → Prop), SR X.K H G r σ c s → Ok c s →
    OutX X F c s H σ (fun ds r1 => ∀ vs H' c1 s1 cr sr, SR X.K H' G' r1 σ c1 s1 → Reps X.K H' k ds vs cr sr → vs.length = ks.length → Step c s H (add c1 cr) (add s1 sr) H' → Q ((ks.zip vs).map fun kv => (kV kv.1, kv.2)) H') (f r) → tPairs trs σ H Q
theorem ds_nil : PDs X F G G k pos [] [] [] dNil := ⟨[], pps_nil, fun σ H r c s Q sr ok h => h [] H c s z0 z0 sr .nil rfl (by simp only [add_z]; exact .refl ok)⟩
theorem ds_cons (kk : Key) {ks : List Key} {keys : List (Option Expr)} {values : List Expr} {f : Rho → R D} {g : Rho → R (List D)} (hk : PE X kx (tC (kV kk))) (A : PV X F G G1 k e f) (B : PDs X F G1 G2 k pos ks keys values g) :
    PDs X F G G2 k pos (kk :: ks) (some kx :: keys) (e :: values) (dCons f g) := by
  obtain ⟨ta, ha, qa⟩ := A.go
  obtain ⟨tb, hb, qb⟩ := B.go
  refine ⟨_, pps_cons hk ha hb, fun σ H r c s Q sr ok h => qa σ H r c s _ sr ok (h.bind.mono fun d r1 h1 => ?_)⟩
  intro x H1 c1 s1 ca sa sr1 rpa st
  have ok1 : Ok c1 s1 := fun z => by have := st.ok z; simp only [add_at] at this; omega
  have st1 : Step c s H c1 s1 H1 := st.less (fun z => by simp only [add_at]; omega) (fun z hz => by simp only [add_at]; omega)
  refine qb σ H1 r1 c1 s1 _ sr1 ok1 (h1.bind.imp st1 fun ds r2 h2 => ?_)
  intro xs H2 c2 s2 cb sb sr2 rpb hl st2
  refine h2 (x :: xs) H2 c2 s2 (add ca cb) (add sa sb) sr2 (.cons (rpa.keep (st2.aside st.ok)) rpb) (by rw [List.length_cons, List.length_cons, hl]) ?_
  have q := st.trans (st2.frame st.ok rpa.dom)
  rw [add_assoc', add_assoc', add_comm' cb ca, add_comm' sb sa] at q
  exact q
theorem zip_snd {α β : Type} : ∀ {l : List α} {m : List β}, m.length = l.length → (l.zip m).map (·.2) = m
  | [], [], _ => rfl
  | [], _ :: _, h => by cases h
  | _ :: _, [], h => by cases h
  | a :: l, b :: m, h => by rw [List.zip_cons_cons, List.map_cons, zip_snd (Nat.succ.inj h)]
theorem zip_fst {α β : Type} : ∀ {l : List α} {m : List β}, m.length = l.length → (l.zip m).map (·.1) = l
  | [], [], _ => rfl
  | [], _ :: _, h => by cases h
  | _ :: _, [], h => by cases h
  | a :: l, b :: m, h => by rw [List.zip_cons_cons, List.map_cons, zip_fst (Nat.succ.inj h)]
def dDisp (ks : List Key) (f : Rho → R (List D)) : Rho → R D := fun r => (f r).bind fun ds r1 => if ds.length = ks.length then .ok (.dct (ks.zip ds)) r1 else .no
/-- {k: e, ..}, the keys written -/
theorem v_disp {ks : List Key} {keys : List (Option Expr)} {values : List Expr} {f : Rho → R (List D)} (A : PDs X F G G1 k pos ks keys values f) (nd : ks.Nodup := by decide) (hall : keys.all (·.isSome) = true := by rfl) (hl : keys.length = values.length := by rfl) (h0 : keys ≠ [] := by exact fun z => nomatch z)
    (h15 : keys.length ≤ 15 := by decide) (hk15 : ks.length ≤ 15 := by decide) : PV X F G G1 (k + 1) (.Dict keys values pos) (dDisp ks f) := by
  obtain ⟨trs, ht, q⟩ := A.go
  refine ⟨_, pe_disp ht hall hl h0 h15, fun σ H r c s Q sr ok h => ?_⟩
  intro l hl0
  have ke := ex_upd (o := .dK []) hl0
  have nl : c l = 0 ∧ s l = 0 := by
    have dm := sr.dom l
    refine ⟨?_, ?_⟩
    · by_cases q : 0 < c l
      · obtain ⟨o, e, _⟩ := dm.1 q; rw [hl0] at e; cases e
      · omega
    · by_cases q : 0 < s l
      · obtain ⟨o, e, _⟩ := dm.2 q; rw [hl0] at e; cases e
      · omega
  have okF : Ok (add c (one l)) (add s z0) := fun a => by
    have h1 := ok a
    simp only [add_at, z_at]
    by_cases q : a = l
    · subst q; rw [one_same]; omega
    · rw [one_ne q]; omega
  have st0 : Step c s H (add c (one l)) (add s z0) (L2.upd H l (.dK [])) := by
    refine ⟨fun a ha => ?_, fun a ha => ?_, fun a o e z => ke a o e, fun a ha => ?_, okF⟩
    · simp only [add_at] at ha
      by_cases q : a = l
      · subst q; exact .inr hl0
      · rw [one_ne q] at ha; exact .inl (by omega)
    · simp only [add_at, z_at] at ha; exact .inr (.inl (by omega))
    · by_cases q : a = l
      · subst q; rw [upd_same]; exact fun z => nomatch z
      · rw [upd_ne q]; exact ha
  have domF : Dom (one l) z0 (L2.upd H l (.dK [])) := Dom.oneC upd_same trivial
  refine q σ (L2.upd H l (.dK [])) r c s _ (sr.keep (ex_kp ke)) ok ?_
  have st00 : Step c s H c s (L2.upd H l (.dK [])) := st0.less (fun z => by simp only [add_at]; omega) (fun z hz => by simp only [add_at]; omega)
  refine h.bind.imp st00 fun ds r1 h1 => ?_
  intro vs H2 c1 s1 cr sr' x rp hvl st
  have fr := st.frame okF domF
  have hl2 := st.aside okF l _ upd_same (.inl (by rw [one_same]; exact Nat.one_pos))
  have hdl : ds.length = ks.length := by rw [rp.length, hvl]
  rw [if_pos hdl] at h1
  refine ⟨hl2, ks.zip vs, rfl, by rw [List.length_zip, hvl, Nat.min_self]; exact hk15, ?_⟩
  rw [mergeK_nd (by rw [List.nil_append, zip_fst hvl]; exact nd), List.nil_append]
  have st2 := st0.trans fr
  have okl := st2.ok l
  simp only [add_at, one_same, z_at] at okl
  have kp : ∀ {c s : Cnt}, c l = 0 → s l = 0 → Kp c s H2 (L2.upd H2 l (.dK (ks.zip vs))) := fun {c s} e1 e2 => Kp.upd hl2 (fun z => z) e1 e2
  refine h1 (.ref l) _ c1 s1 (add (one l) cr) sr' (x.keep (kp (by omega) (by omega))) (.dctS upd_same rfl (by rw [zip_fst hvl, zip_fst hdl]) rfl (by rw [zip_snd hdl, zip_snd hvl]; exact rp.keep (kp (by omega) (by omega)))) ?_
  exact st2.mut (by simp only [add_at, one_same]; omega) hl2 (fun z => z) (fun a => by simp only [add_at, z_at]; omega) (fun a ha => by simp only [add_at, z_at] at ha ⊢; omega)
end
end VL

/-! VL31: values() of a dict that is not used again -/
namespace VL
open PySem PySem.Spec PyProof.Rows L2
section
variable {X : Cx} {F : Fx} {G G1 G2 G3 G4 G' Gt Gs Gn : List Nat} {k k1 k2 k3 kr lv n : Nat} {e a b o i tg iter elt kx : Expr} {es ifs : List Expr} {pos p apos cpos : Pos} {st : Stmt} {sts : List Stmt}
def tLockV (i : Nat) : TE := fun σ H Q => ∃ (d : Addr) (kvs : List (Key × V)), σ[i]? = some (some (.ref d)) ∧ H d = some (.dK kvs) ∧ ∀ od, Q (.ref d) (L2.upd H d (.frz od (.dK kvs)))
theorem pe_lockV (i : Nat) {y : Str} {py : Pos} (hN : X.N[i]? = some y) (hv : Vis X.env.scope y) (hd : (y == ("__debug__" : Str)) = false := by decide) (hcd : (y == ("__classdict__" : Str)) = false := by decide) : PE X (.Name y py) (tLockV i) := by
  refine ⟨fun pins s σ H Q I h => ?_⟩
  obtain ⟨d, kvs, e, hD, q⟩ := h
  refine thn ((pv i hN hv hd hcd : PE X (.Name y py) (tVar i)).run pins s σ H (fun x H1 => x = .ref d ∧ H1 = H) I ⟨.ref d, e, rfl, rfl⟩) fun u s1 ⟨x, H1, I1, r1, ex, eH⟩ => ?_
  subst ex; subst eH
  obtain ⟨od, J⟩ := I1.lock hD trivial
  exact ⟨.ref d, _, J, r1, q od⟩
def dItVals (i : Nat) : Rho → R (List D) := fun r => match rget r i with
  | some (.dct ks) => .ok (ks.map (·.2)) (r.set i none)
  | _ => .no
/-- x.values(), x the name of slot i: the slot is given up -/
theorem it_vals (i n : Nat) {y : Str} {py : Pos} (hmm : gget G i = n + 1 := by rfl) (hN : X.N[i]? = some y := by rfl) (hv : Vis X.env.scope y := by first | exact Or.inl rfl | exact Or.inr (Or.inl rfl) | exact Or.inr (Or.inr rfl))
    (hd : (y == ("__debug__" : Str)) = false := by decide) (hcd : (y == ("__classdict__" : Str)) = false := by decide)
    (hbase : attributeBase (.Name y py) "values" X.env (eval (.Name y py) X.env) = eval (.Name y py) X.env := by rfl) (hline : (apos.endLine == cpos.line) = true := by rfl) :
    PIt X F G G tg (.Call (.Attribute (.Name y py) "values" apos) [] [] cpos) (dItVals i) := by
  refine ⟨_, pi_values (pe_lockV i hN hv hd hcd) hbase hline, fun σ H r c s Rr sr ok h => ?_⟩
  unfold dItVals at h
  cases e0 : rget r i with
  | none => rw [e0] at h; exact False.elim h
  | some d0 =>
    rw [e0] at h
    cases d0 with
    | dct ks =>
      obtain ⟨v, c1, s1, c2, s2, ev, rr, x', ec, es'⟩ := sr.out e0
      rw [hmm] at rr
      obtain ⟨l, kvs, cc, rfl, hl, ek2, rs, rfl⟩ := rep_dctS rr
      subst ec; subst es'
      obtain ⟨cz, s0, rs0, wk⟩ := rs.wk 0 (Nat.zero_le _)
      have zz := rs0.zero
      subst zz
      refine ⟨l, kvs, ev, hl, fun od => ⟨l, od, kvs, rfl, upd_same, ?_⟩⟩
      have okl := ok l
      simp only [add_at, one_same] at okl
      have wl := wk.sum l
      simp only [z_at] at wl
      have kp : ∀ {c s : Cnt}, c l = 0 → s l = 0 → Kp c s H (L2.upd H l (.frz od (.dK kvs))) := fun {c s} e1 e2 => Kp.upd hl (fun z => z) e1 e2
      have xk := x'.keep (kp (c := c2) (s := s2) (by omega) (by omega))
      have rk := rs0.keep (kp (c := z0) (s := s0) rfl (by omega))
      have hlen : kvs.length = ks.length := by have := congrArg List.length ek2; simpa using this
      refine h (Itd l od kvs) _ c2 s2 (add (one l) s0) (fun H => H l = some (.frz od (.dK kvs)) ∧ Reps X.K H 0 (ks.map (·.2)) (kvs.map (·.2)) z0 s0) xk ⟨fun Ha Hb w kk => ?_, fun Ha w => ?_, fun Ha j w hj => ?_, fun Ha j x Hb d w hd hy => ?_, fun Ha w => ?_⟩ ⟨upd_same, rk⟩ ?_
      · exact ⟨kk l _ w.1 (.inr (.inl (one_add_pos _ _))), w.2.keep kk.rS⟩
      · exact .addS w.1 (fun z => z) w.2.dom
      · exact ⟨w.1, by rw [List.length_map] at hj; omega⟩
      · obtain ⟨rfl, kk, hk⟩ := hy
        obtain ⟨v, ci, si, ev2, rv, h1, h2⟩ := w.2.get hd
        have e3 : (kvs.map (·.2))[j]? = some x := by rw [List.getElem?_map, hk]; rfl
        rw [ev2] at e3
        cases e3
        have z := rv.zero
        subst z
        exact ⟨si, rv, fun a ha => by have := h2 a; simp only [add_at]; omega, fun _ _ h => h⟩
      · exact ⟨w.1, by rw [List.length_map]; omega⟩
      · refine ⟨fun a ha => .inl (by simp only [add_at]; omega), fun a ha => ?_, fun a u e z => ?_, fun a ha => ?_, fun a => ?_⟩
        · have := wk.sum a
          simp only [add_at, z_at] at ha this ⊢
          by_cases q : 0 < one l a
          · exact .inl (by omega)
          · by_cases q2 : 0 < cc a
            · exact .inl (by omega)
            · exact .inr (.inl (by omega))
        · by_cases q : a = l
          · subst q
            rw [hl] at e
            cases e
            simp only [add_at, one_same] at z
            rcases z with z | z
            · omega
            · exact z.elim
          · rw [upd_ne q]; exact e
        · by_cases q : a = l
          · subst q; rw [upd_same]; exact fun z => nomatch z
          · rw [upd_ne q]; exact ha
        · have h1 := ok a; have h2 := wk.sum a
          simp only [add_at, z_at] at h1 h2 ⊢
          omega
    | _ => exact False.elim h
/-- return x, x owned: it moves out -/
theorem s_retVar (i : Nat) (A : PSt X F G G' st (dRet (dMv i))) (hp : F.io = none ∨ i ≠ 0 := by first | exact Or.inl rfl | exact Or.inr (by decide)) : PSt X F G G' st (dRet (dVar i)) := by
  obtain ⟨t, ht, q⟩ := A.go
  refine ⟨t, ht, fun v0 σ H r c s Dn sr ok pr h => q v0 σ H r c s Dn sr ok pr ?_⟩
  have h : OutS X F v0 G' c s H Dn ((lift (rget r i) r).then fun d r1 => .rt d r1) := h
  show OutS X F v0 G' c s H Dn ((lift (rget r i) (r.set i none)).then fun d r1 => .rt d r1)
  cases e : rget r i with
  | none => rw [e] at h; exact h
  | some d =>
    rw [e] at h
    intro v H' cr sr' c0 s0 rp io y
    refine h v H' cr sr' c0 s0 rp ?_ y
    rcases hp with z | z
    · rw [z] at io ⊢; exact io
    · have e0 : rget (r.set i none) 0 = rget r 0 := by
        cases r with
        | nil => rfl
        | cons a r =>
          cases i with
          | zero => exact absurd rfl z
          | succ i => rfl
      rw [e0] at io
      exact io
end
end VL

/-! VLW4: as VLW, of VL24 -/
namespace VL
open PySem PySem.Spec
section
variable {N : Rho → Prop} {Z : SO → Prop} {r : Rho}
def kY4 (i : Nat) (es : List D) (a b : Int) (N : Rho → Prop) (r : Rho) : D → Prop
  | .lst ds => (0 ≤ a ∧ a ≤ b ∧ b ≤ ds.length ∧ ds.length + es.length ≤ 100000) ∧ N (r.set i (some (.lst (ds.take a.toNat ++ es ++ ds.drop b.toNat))))
  | _ => False
def kY3 (i : Nat) (d : D) (lo : Option Int) (N : Rho → Prop) (hi : Option Int) (r : Rho) : Prop := WS (setSlGo i d lo hi r) N (fun _ => False)
def kY2 (i : Nat) (fh : Rho → R (Option Int)) (d : D) (N : Rho → Prop) (Z : SO → Prop) (lo : Option Int) (r : Rho) : Prop := WR (fh r) (kY3 i d lo N) (kX Z)
def kY1 (i : Nat) (fl fh : Rho → R (Option Int)) (N : Rho → Prop) (Z : SO → Prop) (d : D) (r : Rho) : Prop := if isLst (rget r i) = true then WR (fl r) (kY2 i fh d N Z) (kX Z) else False
@[simp] theorem kY4_ap {i : Nat} {es ds : List D} {a b : Int} : kY4 i es a b N r (.lst ds) = ((0 ≤ a ∧ a ≤ b ∧ b ≤ ds.length ∧ ds.length + es.length ≤ 100000) ∧ N (r.set i (some (.lst (ds.take a.toNat ++ es ++ ds.drop b.toNat))))) := (rfl)
@[simp] theorem kY3_ap {i : Nat} {es : List D} {a b : Int} : kY3 i (.lst es) (some a) N (some b) r = WO (rget r i) (kY4 i es a b N r) := by
  unfold kY3 setSlGo WO
  cases rget r i with
  | none => rfl
  | some x =>
    cases x with
    | lst ds =>
      show WS (if _ then _ else _) _ _ = ((0 ≤ a ∧ a ≤ b ∧ b ≤ ds.length ∧ ds.length + es.length ≤ 100000) ∧ N (r.set i (some (.lst (ds.take a.toNat ++ es ++ ds.drop b.toNat)))))
      by_cases h : 0 ≤ a ∧ a ≤ b ∧ b ≤ ds.length ∧ ds.length + es.length ≤ 100000
      · rw [if_pos h]
        exact propext ⟨fun z => ⟨h, z⟩, fun z => z.2⟩
      · rw [if_neg h]
        exact propext ⟨fun z => z.elim, fun z => h z.1⟩
    | _ => rfl
@[simp] theorem kY2_ap {i : Nat} {fh : Rho → R (Option Int)} {d : D} {lo : Option Int} : kY2 i fh d N Z lo r = WR (fh r) (kY3 i d lo N) (kX Z) := (rfl)
@[simp] theorem kY1_ap {i : Nat} {fl fh : Rho → R (Option Int)} {d : D} : kY1 i fl fh N Z d r = if isLst (rget r i) = true then WR (fl r) (kY2 i fh d N Z) (kX Z) else False := (rfl)
theorem setSl_end {i : Nat} {d : D} {lo hi : Option Int} {Z' : SO → Prop} : WS (setSlGo i d lo hi r) N Z = WS (setSlGo i d lo hi r) N Z' := by
  unfold setSlGo
  split
  · split <;> rfl
  · rfl
@[simp ↓ high] theorem WS_setSl {i : Nat} {fe : Rho → R D} {fl fh : Rho → R (Option Int)} : WS (dSetSl i fe fl fh r) N Z = WR (fe r) (kY1 i fl fh N Z) (kX Z) := by
  unfold dSetSl
  rw [WS_then]
  cases fe r with
  | ok d r1 =>
    show WS (if isLst (rget r1 i) = true then _ else _) N Z = if isLst (rget r1 i) = true then _ else False
    by_cases h : isLst (rget r1 i) = true
    · rw [if_pos h, if_pos h, WS_then]
      cases fl r1 with
      | ok lo r2 =>
        show WS ((fh r2).then fun hi r3 => setSlGo i d lo hi r3) N Z = WR (fh r2) (kY3 i d lo N) (kX Z)
        rw [WS_then]
        cases fh r2 with
        | ok hi r3 => exact setSl_end
        | _ => rfl
      | _ => rfl
    · rw [if_neg h, if_neg h]; rfl
  | _ => rfl
@[simp] theorem pIsB_bl {x y : Bool} : pIsB (.bl x) (.bl y) = some (.bl (decide (x = y))) := (rfl)
end
end VL

/-! VLW5: as VLW, of VL29 .. VL31 -/
namespace VL
open PySem PySem.Spec
section
variable {QD : D → Rho → Prop} {QL : List D → Rho → Prop} {X : Str → D → Rho → Prop} {N : Rho → Prop} {Z : SO → Prop} {r : Rho}
@[simp ↓ high] theorem W_dDct0 : WR (dDct0 r) QD X = QD (.dct []) r := (rfl)
@[simp] theorem keyD_int {i : Int} : keyD (.int i) = some (.inl i) := (rfl)
@[simp] theorem keyD_str {x : Str} : keyD (.str x) = some (.inr x) := (rfl)
@[simp] theorem isDct_dct {ks : List (L2.Key × D)} : isDct (.dct ks) = true := (rfl)
@[simp] theorem isDctO_dct {ks : List (L2.Key × D)} : isDctO (some (.dct ks)) = true := (rfl)
@[simp] theorem pDGet_int {ks : List (L2.Key × D)} {i : Int} : pDGet (.dct ks) (.int i) = dlk ks (.inl i) := (rfl)
@[simp] theorem pDGet_str {ks : List (L2.Key × D)} {x : Str} : pDGet (.dct ks) (.str x) = dlk ks (.inr x) := (rfl)
@[simp] theorem pDGetD_int {ks : List (L2.Key × D)} {i : Int} {z : D} : pDGetD (.dct ks) (.int i) z = some ((dlk ks (.inl i)).getD z) := (rfl)
@[simp] theorem pDGetD_str {ks : List (L2.Key × D)} {i : Str} {z : D} : pDGetD (.dct ks) (.str i) z = some ((dlk ks (.inr i)).getD z) := (rfl)
@[simp] theorem pDIn_int {ks : List (L2.Key × D)} {i : Int} : pDIn false (.int i) (.dct ks) = some (.bl (dlk ks (.inl i)).isSome) := (rfl)
@[simp] theorem pDIn_str {ks : List (L2.Key × D)} {i : Str} : pDIn false (.str i) (.dct ks) = some (.bl (dlk ks (.inr i)).isSome) := (rfl)
def kE3 (da db : D) (Q : D → Rho → Prop) (dc : D) (r : Rho) : Prop := WO (pDGetD da db dc) (kO Q r)
def kE2 (da : D) (fc : Rho → R D) (Q : D → Rho → Prop) (X : Str → D → Rho → Prop) (db : D) (r : Rho) : Prop := WR (fc r) (kE3 da db Q) X
def kE1 (fb fc : Rho → R D) (Q : D → Rho → Prop) (X : Str → D → Rho → Prop) (da : D) (r : Rho) : Prop := if isDct da = true then WR (fb r) (kE2 da fc Q X) X else False
@[simp] theorem kE3_ap {da db dc : D} : kE3 da db QD dc r = WO (pDGetD da db dc) (kO QD r) := (rfl)
@[simp] theorem kE2_ap {da db : D} {fc : Rho → R D} : kE2 da fc QD X db r = WR (fc r) (kE3 da db QD) X := (rfl)
@[simp] theorem kE1_ap {da : D} {fb fc : Rho → R D} : kE1 fb fc QD X da r = if isDct da = true then WR (fb r) (kE2 da fc QD X) X else False := (rfl)
@[simp ↓ high] theorem W_dDGetD {fa fb fc : Rho → R D} : WR (dDGetD fa fb fc r) QD X = WR (fa r) (kE1 fb fc QD X) X := by
  unfold dDGetD
  rw [WR_bind]
  cases fa r with
  | ok da r1 =>
    show WR (if isDct da = true then (fb r1).bind fun db r2 => (fc r2).bind fun dc r3 => lift (pDGetD da db dc) r3 else .no) QD X = if isDct da = true then WR (fb r1) (kE2 da fc QD X) X else False
    by_cases h : isDct da = true
    · rw [if_pos h, if_pos h, WR_bind]
      cases fb r1 with
      | ok db r2 =>
        show WR ((fc r2).bind _) QD X = WR (fc r2) (kE3 da db QD) X
        rw [WR_bind]
        cases fc r2 with
        | ok dc r3 => exact WR_lift
        | _ => rfl
      | _ => rfl
    · rw [if_neg h, if_neg h]; rfl
  | _ => rfl
def kZ3 (i : Nat) (key : L2.Key) (d : D) (N : Rho → Prop) (r : Rho) : D → Prop
  | .dct ks => (ndK ks = true ∧ ks.length < 100000) ∧ N (r.set i (some (.dct (dput ks key d))))
  | _ => False
@[simp] theorem kZ3_ap {i : Nat} {key : L2.Key} {d : D} {ks : List (L2.Key × D)} : kZ3 i key d N r (.dct ks) = ((ndK ks = true ∧ ks.length < 100000) ∧ N (r.set i (some (.dct (dput ks key d))))) := (rfl)
def kZ2 (i : Nat) (d : D) (N : Rho → Prop) (dj : D) (r : Rho) : Prop := WS (setDGo i d dj r) N (fun _ => False)
def kZ1 (i : Nat) (fj : Rho → R D) (N : Rho → Prop) (Z : SO → Prop) (d : D) (r : Rho) : Prop := if isDctO (rget r i) = true then WR (fj r) (kZ2 i d N) (kX Z) else False
theorem setD_ap {i : Nat} {d dj : D} {key : L2.Key} (hk : keyD dj = some key) {Z' : SO → Prop} : WS (setDGo i d dj r) N Z' = WO (rget r i) (kZ3 i key d N r) := by
  unfold setDGo
  rw [hk]
  cases rget r i with
  | none => rfl
  | some x =>
    cases x with
    | dct ks =>
      show WS (if ndK ks = true ∧ ks.length < 100000 then .nx _ else .no) N Z' = ((ndK ks = true ∧ ks.length < 100000) ∧ _)
      by_cases h : ndK ks = true ∧ ks.length < 100000
      · rw [if_pos h]; exact propext ⟨fun z => ⟨h, z⟩, fun z => z.2⟩
      · rw [if_neg h]; exact propext ⟨fun z => z.elim, fun z => h z.1⟩
    | _ => rfl
@[simp] theorem kZ2_int {i : Nat} {d : D} {j : Int} : kZ2 i d N (.int j) r = WO (rget r i) (kZ3 i (.inl j) d N r) := setD_ap rfl
@[simp] theorem kZ2_str {i : Nat} {d : D} {j : Str} : kZ2 i d N (.str j) r = WO (rget r i) (kZ3 i (.inr j) d N r) := setD_ap rfl
@[simp] theorem kZ1_ap {i : Nat} {fj : Rho → R D} {d : D} : kZ1 i fj N Z d r = if isDctO (rget r i) = true then WR (fj r) (kZ2 i d N) (kX Z) else False := (rfl)
@[simp ↓ high] theorem WS_setD {i : Nat} {fe fj : Rho → R D} : WS (dSetD i fe fj r) N Z = WR (fe r) (kZ1 i fj N Z) (kX Z) := by
  unfold dSetD
  rw [WS_then]
  cases fe r with
  | ok d r1 =>
    show WS (if isDctO (rget r1 i) = true then (fj r1).then fun dj r2 => setDGo i d dj r2 else .no) N Z = if isDctO (rget r1 i) = true then WR (fj r1) (kZ2 i d N) (kX Z) else False
    by_cases h : isDctO (rget r1 i) = true
    · rw [if_pos h, if_pos h, WS_then]
      cases fj r1 with
      | ok dj r2 =>
        show WS (setDGo i d dj r2) N Z = WS (setDGo i d dj r2) N (fun _ => False)
        cases ek : keyD dj with
        | none =>
          unfold setDGo
          rw [ek]
          cases rget r2 i with
          | none => rfl
          | some x => cases x <;> rfl
        | some kk => rw [setD_ap ek, setD_ap ek]
      | _ => rfl
    · rw [if_neg h, if_neg h]; rfl
  | _ => rfl
def kU5 (i : Nat) (key : L2.Key) (N : Rho → Prop) (r : Rho) (z : D) : D → Prop
  | .dct ks => ((ndK ks = true ∧ ks.length < 100000) ∧ flat z = true) ∧ N (r.set i (some (.dct (dput ks key z))))
  | _ => False
@[simp] theorem kU5_ap {i : Nat} {key : L2.Key} {z : D} {ks : List (L2.Key × D)} : kU5 i key N r z (.dct ks) = (((ndK ks = true ∧ ks.length < 100000) ∧ flat z = true) ∧ N (r.set i (some (.dct (dput ks key z))))) := (rfl)
def kU4 (i : Nat) (key : L2.Key) (N : Rho → Prop) (r : Rho) (z : D) : Prop := WO (rget r i) (kU5 i key N r z)
@[simp] theorem kU4_ap {i : Nat} {key : L2.Key} {z : D} : kU4 i key N r z = WO (rget r i) (kU5 i key N r z) := (rfl)
def kU3 (i : Nat) (key : L2.Key) (g : D → D → Option D) (x : D) (N : Rho → Prop) (d : D) (r : Rho) : Prop := WO (g x d) (kU4 i key N r)
@[simp] theorem kU3_ap {i : Nat} {key : L2.Key} {g : D → D → Option D} {x d : D} : kU3 i key g x N d r = WO (g x d) (kU4 i key N r) := (rfl)
def kU2 (i : Nat) (key : L2.Key) (g : D → D → Option D) (f : Rho → R D) (N : Rho → Prop) (Z : SO → Prop) (r : Rho) (x : D) : Prop := if flat x = true then WR (f r) (kU3 i key g x N) (kX Z) else False
@[simp] theorem kU2_ap {i : Nat} {key : L2.Key} {g : D → D → Option D} {f : Rho → R D} {x : D} : kU2 i key g f N Z r x = if flat x = true then WR (f r) (kU3 i key g x N) (kX Z) else False := (rfl)
def kU1 (i : Nat) (key : L2.Key) (g : D → D → Option D) (f : Rho → R D) (N : Rho → Prop) (Z : SO → Prop) (r : Rho) : D → Prop
  | .dct ks => WO (dlk ks key) (kU2 i key g f N Z r)
  | _ => False
@[simp] theorem kU1_ap {i : Nat} {key : L2.Key} {g : D → D → Option D} {f : Rho → R D} {ks : List (L2.Key × D)} : kU1 i key g f N Z r (.dct ks) = WO (dlk ks key) (kU2 i key g f N Z r) := (rfl)
theorem augD_ap {i : Nat} {key : L2.Key} {o : Option D} : WS (augDGo i key o r) N Z = WO o (kU4 i key N r) := by
  unfold augDGo
  cases o with
  | none => rfl
  | some z =>
    show WS (match some z, rget r i with | some z, some (.dct ks) => _ | _, _ => _) N Z = WO (rget r i) (kU5 i key N r z)
    cases rget r i with
    | none => rfl
    | some x =>
      cases x with
      | dct ks =>
        show WS (if (ndK ks = true ∧ ks.length < 100000) ∧ flat z = true then .nx _ else .no) N Z = (((ndK ks = true ∧ ks.length < 100000) ∧ flat z = true) ∧ _)
        by_cases h : (ndK ks = true ∧ ks.length < 100000) ∧ flat z = true
        · rw [if_pos h]; exact propext ⟨fun z => ⟨h, z⟩, fun z => z.2⟩
        · rw [if_neg h]; exact propext ⟨fun z => z.elim, fun z => h z.1⟩
      | _ => rfl
@[simp ↓ high] theorem WS_augD {i : Nat} {key : L2.Key} {g : D → D → Option D} {f : Rho → R D} : WS (dAugD i key g f r) N Z = WO (rget r i) (kU1 i key g f N Z r) := by
  unfold dAugD
  cases rget r i with
  | none => rfl
  | some dd =>
    cases dd with
    | dct ks =>
      show WS (match dlk ks key with | some x => if flat x = true then (f r).then fun d r1 => augDGo i key (g x d) r1 else .no | none => .no) N Z = WO (dlk ks key) (kU2 i key g f N Z r)
      cases dlk ks key with
      | none => rfl
      | some x =>
        show WS (if flat x = true then (f r).then fun d r1 => augDGo i key (g x d) r1 else .no) N Z = if flat x = true then _ else False
        by_cases h : flat x = true
        · rw [if_pos h, if_pos h, WS_then]
          cases f r with
          | ok d r1 => exact augD_ap
          | _ => rfl
        · rw [if_neg h, if_neg h]; rfl
    | _ => rfl
def kMd2 (i : Nat) (key : L2.Key) (ks : List (L2.Key × D)) (h : List D → List D → Option (D × List D)) (es : List D) (Q : D → Rho → Prop) (as : List D) (r1 : Rho) : Prop := WR (muD i key ks (h es as) r1) Q xF
def kMd (i : Nat) (key : L2.Key) (h : List D → List D → Option (D × List D)) (fa : Rho → R (List D)) (r : Rho) (Q : D → Rho → Prop) (t : List (L2.Key × D) × List D) : Prop := WR (fa (r.set i none)) (kMd2 i key t.1 h t.2 Q) xF
@[simp] theorem kMd2_ap {i : Nat} {key : L2.Key} {ks : List (L2.Key × D)} {h : List D → List D → Option (D × List D)} {es as : List D} : kMd2 i key ks h es QD as r = WR (muD i key ks (h es as) r) QD xF := (rfl)
@[simp] theorem kMd_ap {i : Nat} {key : L2.Key} {h : List D → List D → Option (D × List D)} {fa : Rho → R (List D)} {ks : List (L2.Key × D)} {es : List D} : kMd i key h fa r QD (ks, es) = WR (fa (r.set i none)) (kMd2 i key ks h es QD) xF := (rfl)
@[simp ↓ high] theorem W_dMutD {i : Nat} {key : L2.Key} {h : List D → List D → Option (D × List D)} {fa : Rho → R (List D)} : WR (dMutD i key h fa r) QD X = WO (atK (rget r i) key) (kMd i key h fa r QD) := by
  unfold dMutD
  cases atK (rget r i) key with
  | none => rfl
  | some t =>
    obtain ⟨ks, es⟩ := t
    show WR (match fa (r.set i none) with | .ok as r1 => muD i key ks (h es as) r1 | _ => .no) QD X = WR (fa (r.set i none)) (kMd2 i key ks h es QD) xF
    cases fa (r.set i none) with
    | ok as r1 =>
      show WR (muD i key ks (h es as) r1) QD X = WR (muD i key ks (h es as) r1) QD xF
      unfold muD
      cases h es as with
      | none => rfl
      | some p =>
        obtain ⟨d, es'⟩ := p
        show WR (if i < r1.length ∧ rget r1 i = none then _ else _) QD X = WR (if i < r1.length ∧ rget r1 i = none then _ else _) QD xF
        by_cases z : i < r1.length ∧ rget r1 i = none
        · rw [if_pos z]; rfl
        · rw [if_neg z]; rfl
    | _ => rfl
@[simp] theorem muD_some {i : Nat} {key : L2.Key} {ks : List (L2.Key × D)} {d : D} {es : List D} {r1 : Rho} : muD i key ks (some (d, es)) r1 = if i < r1.length ∧ rget r1 i = none then .ok d (r1.set i (some (.dct (dput ks key (.lst es))))) else .no := (rfl)
def kDi (ks : List L2.Key) (Q : D → Rho → Prop) (ds : List D) (r : Rho) : Prop := if ds.length = ks.length then Q (.dct (ks.zip ds)) r else False
@[simp] theorem kDi_ap {ks : List L2.Key} {ds : List D} : kDi ks QD ds r = if ds.length = ks.length then QD (.dct (ks.zip ds)) r else False := (rfl)
@[simp ↓ high] theorem W_dDisp {ks : List L2.Key} {f : Rho → R (List D)} : WR (dDisp ks f r) QD X = WR (f r) (kDi ks QD) X := by
  unfold dDisp
  rw [WR_bind]
  cases f r with
  | ok ds r1 =>
    show WR (if ds.length = ks.length then .ok (.dct (ks.zip ds)) r1 else .no) QD X = if ds.length = ks.length then _ else False
    by_cases h : ds.length = ks.length
    · rw [if_pos h, if_pos h]; rfl
    · rw [if_neg h, if_neg h]; rfl
  | _ => rfl
def kVa (i : Nat) (Q : List D → Rho → Prop) (r : Rho) : D → Prop
  | .dct ks => Q (ks.map (·.2)) (r.set i none)
  | _ => False
@[simp] theorem kVa_ap {i : Nat} {ks : List (L2.Key × D)} : kVa i QL r (.dct ks) = QL (ks.map (·.2)) (r.set i none) := (rfl)
@[simp ↓ high] theorem W_dItVals {i : Nat} : WR (dItVals i r) QL X = WO (rget r i) (kVa i QL r) := by
  unfold dItVals
  cases rget r i with
  | none => rfl
  | some x => cases x <;> rfl
end
@[simp] theorem dlk_nil {k : L2.Key} : dlk [] k = none := (rfl)
theorem dlk_cons {p : L2.Key × D} {r : List (L2.Key × D)} {k : L2.Key} : dlk (p :: r) k = if p.1 = k then some p.2 else dlk r k := (rfl)
@[simp] theorem dput_nil {k : L2.Key} {d : D} : dput [] k d = [(k, d)] := (rfl)
theorem dput_cons {p : L2.Key × D} {r : List (L2.Key × D)} {k : L2.Key} {d : D} : dput (p :: r) k d = if p.1 = k then (p.1, d) :: r else p :: dput r k d := (rfl)
theorem dlk_mem {k : L2.Key} {d : D} : ∀ {ks : List (L2.Key × D)}, dlk ks k = some d → (k, d) ∈ ks
  | [], h => by cases h
  | p :: r, h => by
    rw [dlk_cons] at h
    by_cases e : p.1 = k
    · rw [if_pos e] at h; cases h; rw [← e]; exact List.mem_cons_self
    · rw [if_neg e] at h; exact List.mem_cons_of_mem _ (dlk_mem h)
theorem dlk_none {k : L2.Key} : ∀ {ks : List (L2.Key × D)}, dlk ks k = none → ∀ p ∈ ks, p.1 ≠ k
  | [], _, p, hp => nomatch hp
  | q :: r, h, p, hp => by
    rw [dlk_cons] at h
    by_cases e : q.1 = k
    · rw [if_pos e] at h; cases h
    · rw [if_neg e] at h
      rcases List.mem_cons.mp hp with z | z
      · rw [z]; exact e
      · exact dlk_none h p z
theorem dlk_some {ks : List (L2.Key × D)} {k : L2.Key} {d : D} (nd : ndK ks = true) (h : (k, d) ∈ ks) : dlk ks k = some d := by
  have nd := of_decide_eq_true nd
  induction ks with
  | nil => cases h
  | cons q r ih =>
    rw [List.map_cons, List.nodup_cons] at nd
    rw [dlk_cons]
    rcases List.mem_cons.mp h with z | z
    · rw [← z, if_pos rfl]
    · rw [if_neg (fun e => nd.1 (by rw [e]; exact List.mem_map.mpr ⟨_, z, rfl⟩))]
      exact ih (decide_eq_true nd.2) z nd.2
theorem mem_dput {k : L2.Key} {d : D} : ∀ {ks : List (L2.Key × D)} {p : L2.Key × D}, p ∈ dput ks k d → p = (k, d) ∨ p ∈ ks
  | [], p, h => by rw [dput_nil] at h; exact .inl (List.mem_singleton.mp h)
  | q :: r, p, h => by
    rw [dput_cons] at h
    by_cases e : q.1 = k
    · rw [if_pos e] at h
      rcases List.mem_cons.mp h with z | z
      · rw [z, e]; exact .inl rfl
      · exact .inr (List.mem_cons_of_mem _ z)
    · rw [if_neg e] at h
      rcases List.mem_cons.mp h with z | z
      · rw [z]; exact .inr List.mem_cons_self
      · rcases mem_dput z with y | y
        · exact .inl y
        · exact .inr (List.mem_cons_of_mem _ y)
theorem dput_len {k : L2.Key} {d : D} : ∀ {ks : List (L2.Key × D)}, (dput ks k d).length ≤ ks.length + 1
  | [] => Nat.le_refl _
  | q :: r => by
    rw [dput_cons]
    by_cases e : q.1 = k
    · rw [if_pos e]; simp
    · rw [if_neg e, List.length_cons, List.length_cons]; have := dput_len (k := k) (d := d) (ks := r); omega
theorem dlk_dput_same {k : L2.Key} {d : D} : ∀ {ks : List (L2.Key × D)}, dlk (dput ks k d) k = some d
  | [] => by rw [dput_nil, dlk_cons, if_pos rfl]
  | q :: r => by
    rw [dput_cons]
    by_cases e : q.1 = k
    · rw [if_pos e, dlk_cons, if_pos e]
    · rw [if_neg e, dlk_cons, if_neg e]; exact dlk_dput_same
theorem dlk_dput_ne {k j : L2.Key} {d : D} (h : j ≠ k) : ∀ {ks : List (L2.Key × D)}, dlk (dput ks k d) j = dlk ks j
  | [] => by rw [dput_nil, dlk_cons, if_neg (fun z => h z.symm)]
  | q :: r => by
    rw [dput_cons]
    by_cases e : q.1 = k
    · rw [if_pos e, dlk_cons, dlk_cons, if_neg (fun z => h (z.symm.trans e)), if_neg (fun z => h (z.symm.trans e))]
    · rw [if_neg e, dlk_cons, dlk_cons, dlk_dput_ne h]
end VL

/-! VX1: own error classes below an own base class: their __init__, raise. -/
namespace VL
open PySem PySem.Spec PyProof.Rows L2
abbrev veMro : List Value := [.type "ValueError", .type "Exception", .type "BaseException", .type "object"]
/-- the errors' base class, at B -/
structure OwnB (K : PySem.W.Frag) (mg : Str → Option Value) (x : Str) (B : Addr) : Prop where
  g : mg x = some (.ref B)
  sg : PySem.W.specialIn K (.ref B) "__getattribute__" = some (some (.builtin "type.__getattribute__"))
  rd : PySem.W.readsIn K B (.type "type") = true
  vi : PySem.W.findCls K (.ref B) (.type "type") "__init__" = some (.val (.builtin "ValueError.__init__"))
  tyC : PySem.W.typeIn K (.ref B) = some (.type "type")
  cls : ∃ q N bs sn sub ab col dd k0 k1 k2 k3 k5, K.lookup B = some (excClassObj x q B N bs veMro true sn sub ab col dd k0 k1 k2 k3 k5 "ValueError.__new__")
/-- the texts of the classes' __init__ -/
def iniB (bx m : Str) (j : Nat) (p1 p2 p3 p4 p5 p6 q1 q2 q3 q4 : Pos) : List Stmt :=
  [.Expr (.Call (.Attribute (.Name bx p1) "__init__" p2) [.Name "self" p3, .Constant (.str m) j p4] [] p5) p6, .Assign [.Attribute (.Name "self" q1) "value" q2] (.Name "value" q3) q4]
def iniS (bx : Str) : Scope := { kind := .function, names := [("self", .local), ("value", .local), (bx, .globalImplicit)], isGenerator := false, isCoroutine := false, more := [] }
/-- what depends on the places in the text alone -/
structure IniP (bx m : Str) (j : Nat) (p1 p2 p3 p4 p5 p6 q1 q2 q3 q4 : Pos) : Prop where
  hc : ∀ (ql : Str) (L fI : Addr) (cdv : Value), ∃ pl : Sem Bool, eval (.Call (.Attribute (.Name bx p1) "__init__" p2) [.Name "self" p3, .Constant (.str m) j p4] [] p5) (envOfC ql (iniS bx) L fI cdv) = (do
      let ov ← eval (.Name bx p1) (envOfC ql (iniS bx) L fI cdv)
      standAt p2.atName
      let (f, first) ← holding [ov] (getMethod ov "__init__" pl)
      callWith p5 f first (backTo p5 (starEach [.Name "self" p3, .Constant (.str m) j p4] (envOfC ql (iniS bx) L fI cdv))) (backToKw p5 (keywordEach [] (envOfC ql (iniS bx) L fI cdv))))
  h1 : ∀ (ql : Str) (L fI : Addr) (cdv : Value), swapsWith (.Call (.Attribute (.Name bx p1) "__init__" p2) [.Name "self" p3, .Constant (.str m) j p4] [] p5) none p6.line (envOfC ql (iniS bx) L fI cdv) = pure false
  h2 : ∀ (ql : Str) (L fI : Addr) (cdv : Value), swapsWith (.Name "value" q3) (some (.Attribute (.Name "self" q1) "value" q2)) q4.line (envOfC ql (iniS bx) L fI cdv) = pure false
/-- what the written part says of a class over it, at C -/
structure OwnE (K : PySem.W.Frag) (mg : Str → Option Value) (bx : Str) (B : Addr) (x : Str) (C : Addr) : Prop where
  g : mg x = some (.ref C)
  cls : ∃ q N bs sn sub ab col dd k0 k1 k2 k3 k5, K.lookup C = some (excClassObj x q C N bs (.ref B :: veMro) true sn sub ab col dd k0 k1 k2 k3 k5 "ValueError.__new__")
  sa : PySem.W.findIn K (.ref C) "__setattr__" = some (some (.builtin "object.__setattr__"))
  ga : PySem.W.findIn K (.ref C) "__getattribute__" = some (some (.builtin "BaseException.__getattribute__"))
  gg : PySem.W.findIn K (.ref C) "__getattr__" = some none
  noV : PySem.W.findIn K (.ref C) "value" = some none
  ha : PySem.W.findIn K (.ref C) "__class__" = some (some (.builtin "object.__class__"))
  kC : PySem.W.keepIn K (.ref C) = true
  tyC : PySem.W.typeIn K (.ref C) = some (.type "type")
  ini : ∃ (fI : Addr) (fd : FuncData) (st : Stmt) (qual : Str), Fun K "__init__" qual st fI fd ∧ PySem.W.findIn K (.ref C) "__init__" = some (some (.ref fI)) ∧ PySem.W.typeIn K (.ref fI) = some (.type "function") ∧ Binds K fd ["self", "value"] [] ∧
    defScope st = iniS bx ∧ ∃ m j p1 p2 p3 p4 p5 p6 q1 q2 q3 q4, defBody st = iniB bx m j p1 p2 p3 p4 p5 p6 q1 q2 q3 q4 ∧ IniP bx m j p1 p2 p3 p4 p5 p6 q1 q2 q3 q4
section
variable {K : PySem.W.Frag} {mg : Str → Option Value} {bx x : Str} {B C : Addr}
theorem OwnE.clsIn (T : OwnE K mg bx B x C) : ∃ cd : ClassData, PySem.W.clsIn K C = some cd ∧ cd.mro = .ref C :: .ref B :: veMro ∧ cd.hasDict = true ∧ cd.name = x := by
  obtain ⟨q, N, bs, sn, sub, ab, col, dd, k0, k1, k2, k3, k5, hC⟩ := T.cls
  refine ⟨_, by unfold PySem.W.clsIn; rw [hC] <;> rfl, rfl, rfl, rfl⟩
theorem OwnE.mro (T : OwnE K mg bx B x C) (v : Value) : PySem.W.subIn K (.ref C) v = some ((Value.ref C :: Value.ref B :: veMro).contains v) := by
  obtain ⟨cd, h1, h2, _⟩ := T.clsIn
  show PySem.W.mroIn K C v = _
  unfold PySem.W.mroIn
  rw [h1, Option.bind_some, h2]
  rfl
theorem OwnE.exC (T : OwnE K mg bx B x C) : PySem.W.subIn K (.ref C) (.type "BaseException") = some true := by
  rw [T.mro]
  refine congrArg some ?_
  simp
theorem OwnE.hd (T : OwnE K mg bx B x C) : PySem.W.hasDictIn K C = true := by
  obtain ⟨cd, h1, h2, h3, _⟩ := T.clsIn
  unfold PySem.W.hasDictIn
  rw [h1]
  exact h3
theorem OwnE.oex (T : OwnE K mg bx B x C) : OexC K C := by
  obtain ⟨q, N, bs, sn, sub, ab, col, dd, k0, k1, k2, k3, k5, hC⟩ := T.cls
  exact ⟨⟨_, _, _, _, _, _, _, _, _, _, _, _, _, _, _, hC, by simp [PySem.HandSPX.refsVE, PySem.HandSPX.veTail]⟩, T.sa, T.exC, T.tyC, T.kC⟩
/-- two classes of different names are different -/
theorem OwnE.ne {x' : Str} {C' : Addr} (T : OwnE K mg bx B x C) (T' : OwnE K mg bx B x' C') (h : x ≠ x') : C ≠ C' := fun e => by
  obtain ⟨cd, h1, _, _, h4⟩ := T.clsIn
  obtain ⟨cd', h1', _, _, h4'⟩ := T'.clsIn
  rw [e, h1'] at h1
  cases h1
  exact h (h4.symm.trans h4')
theorem OwnB.clsIn (T : OwnB K mg bx B) : ∃ cd : ClassData, PySem.W.clsIn K B = some cd ∧ cd.mro = .ref B :: veMro ∧ cd.hasDict = true ∧ cd.name = bx := by
  obtain ⟨q, N, bs, sn, sub, ab, col, dd, k0, k1, k2, k3, k5, hC⟩ := T.cls
  refine ⟨_, by unfold PySem.W.clsIn; rw [hC] <;> rfl, rfl, rfl, rfl⟩
theorem OwnB.exC (T : OwnB K mg bx B) : PySem.W.subIn K (.ref B) (.type "BaseException") = some true := by
  obtain ⟨cd, h1, h2, _⟩ := T.clsIn
  show PySem.W.mroIn K B _ = _
  unfold PySem.W.mroIn
  rw [h1, Option.bind_some, h2]
  refine congrArg some ?_
  simp
theorem OwnB.hd (T : OwnB K mg bx B) : PySem.W.hasDictIn K B = true := by
  obtain ⟨cd, h1, h2, h3, _⟩ := T.clsIn
  unfold PySem.W.hasDictIn
  rw [h1]
  exact h3
theorem OwnE.neB (T : OwnE K mg bx B x C) (T' : OwnB K mg bx B) (h : x ≠ bx) : C ≠ B := fun e => by
  obtain ⟨cd, h1, _, _, h4⟩ := T.clsIn
  obtain ⟨cd', h1', _, _, h4'⟩ := T'.clsIn
  rw [e, h1'] at h1
  cases h1
  exact h (h4.symm.trans h4')
end
section
variable {X : Cx} {bx : Str} {B : Addr} {e : Expr} {es : List Expr} {ta : TA} {p1 p2 pos : Pos}
/-- Base.__init__(self, ..), Base an own class that has ValueError's -/
theorem pe_bini {pl : Sem Bool} (T : OwnB X.K X.mg bx B) (hg : Gl X bx) (ha : PA X (e :: es) ta) (hdb : (bx == ("__debug__" : Str)) = false)
    (hc : eval (.Call (.Attribute (.Name bx p1) "__init__" p2) (e :: es) [] pos) X.env = (do
      let ov ← eval (.Name bx p1) X.env
      standAt p2.atName
      let (f, first) ← holding [ov] (getMethod ov "__init__" pl)
      callWith pos f first (backTo pos (starEach (e :: es) X.env)) (backToKw pos (keywordEach [] X.env))) := by rfl)
    (he : starEach (e :: es) X.env = (false, eval e X.env) :: starEach es X.env := by rfl) (hpl : (backTo pos (starEach es X.env)).any (·.1) = false := by rfl) :
    PE X (.Call (.Attribute (.Name bx p1) "__init__" p2) (e :: es) [] pos) (tVeI X.K ta) := by
  refine ⟨fun pins s σ H Q I h => ?_⟩
  refine PySem.W.methodCall_KW (ld_glob I hg T.g ?_ hdb) hc
  refine PySem.W.method_cls I.kIn T.sg (PySem.W.cls_value I.kIn T.rd T.vi (by decide +kernel) ?_)
  show wpAny _ _ (callWith pos (Value.builtin "ValueError.__init__") [] (backTo pos (starEach (e :: es) X.env)) []) _ _ _
  refine PyProof.Rows.callWith_method1 (thn (ha.run pos pins _ σ H _ (I.tok _) h) fun us s1 hh => ?_) he hpl
  obtain ⟨vs, H1, I1, r1, a, C, ws, ev, hl, Te, ea, q⟩ := hh
  subst ev
  cases r1 with
  | @cons _ u0 _ ur ra rw' =>
    obtain rfl : u0 = Value.ref a := ra
    have hlen : ur.length ≤ sizeLine := by
      rw [← Paired.length rw', sizeLine_eq]
      omega
    exact oinit_ok Te I1 ea hlen fun s' J => ⟨.non, H1, J, rfl, q⟩
end
/-- what __init__ does to a fresh exception of the class at C -/
def spIni (K : PySem.W.Frag) (C : Addr) : Sp := fun vs H Q _ => ∃ a y, vs = [.ref a, y] ∧ OexC K C ∧ PySem.W.findIn K (.ref C) "value" = some none ∧ H a = some (exo a C none) ∧
  ∀ dx, H dx = none → dx ≠ a → Q .non (upd (upd H dx (exd dx [(("value" : Str), y)])) a (exo a C (some dx)))
section
variable {P : Program} {w : World} {K : PySem.W.Frag} {mg : Str → Option Value} {base : Heap}
theorem ini_ok {B C fI : Addr} {fd : FuncData} {st : Stmt} {qual : Str} (TB : OwnB K mg "RetryError" B) (F : Fun K "__init__" qual st fI fd) (hs : defScope st = iniS "RetryError") {m : Str} {j : Nat} {p1 p2 p3 p4 p5 p6 q1 q2 q3 q4 : Pos} (hb : defBody st = iniB "RetryError" m j p1 p2 p3 p4 p5 p6 q1 q2 q3 q4) (hp : IniP "RetryError" m j p1 p2 p3 p4 p5 p6 q1 q2 q3 q4) :
    FnOk P w K mg base (L2.CX P w) 1 fI fd ["self", "value"] (spIni K C) := by
  have S : FnScope ["self", "value"] ["self", "value"] (defScope st) := by
    rw [hs]
    exact ⟨rfl, rfl, rfl, by decide +kernel, rfl, by decide +kernel, by decide +kernel⟩
  refine F.okX S (fun vs H Q E h => ?_) (fun cdv A outer s H vs Q E hr h => ?_)
  · obtain ⟨a, y, rfl, _⟩ := h
    rfl
  · obtain ⟨a, y, rfl, T, hno, ea, q⟩ := h
    clear hr
    rw [hs, hb]
    obtain ⟨pl, hc⟩ := hp.hc qual s.heap.objs.size fI cdv
    refine ⟨_, pss_cons (ps_expr (pe_bini TB (by rfl) (pa_cons (pe_var (i := 0) (by rfl) (.inl rfl)) (pa_cons pe_str pa_nil)) (by decide) hc) (hp.h1 _ _ _ _)) (pss_cons (ps_ost (pe_var (i := 0) (by rfl) (.inl rfl)) (pe_var (i := 1) (by rfl) (.inl rfl)) (hp.h2 _ _ _ _)) pss_nil), ?_⟩
    refine (⟨.ref a, rfl, a, C, [.str m], rfl, by simp, T, ea, ?_⟩ : tVeI K (tCons (tVar 0) (tCons (tC (.str m)) tNil)) (start ["self", "value"] [.ref a, y]) H fun _ H1 => tSeq (tOst K "value" (tVar 0) (tVar 1)) tNext { nx := fun _ H' => Q .non H', rt := Q } (start ["self", "value"] [.ref a, y]) H1)
    exact ⟨_, rfl, _, rfl, a, C, rfl, T, hno, .inl ⟨ea, fun dx n ne => q dx n ne⟩⟩
end
/-- what is raised here is taken by what stands around -/
abbrev Tk (X : Cx) (F : Fx) : Prop := Takes X F.W
theorem vOf_rep {K : PySem.W.Frag} {H : Hp} {n : Nat} {d : D} {v x : V} {c s : Cnt} (r : Rep K H n d x c s) (h : vOf d = some v) : x = v ∧ c = z0 ∧ s = z0 := by
  cases r <;> first | (cases h; exact ⟨rfl, rfl, rfl⟩) | cases h
def dRaise (n : Str) (f : Rho → R D) : Rho → SO := fun r => (f r).then fun d r1 => if (vOf d).isSome = true then .ex n d r1 else .no
section
variable {X : Cx} {F : Fx} {G G1 : List Nat} {k : Nat} {e : Expr} {B C : Addr} {x : Str} {p pos pos2 : Pos}
/-- raise C(e) -/
theorem s_raise {G' : List Nat} {f : Rho → R D} (A0 : PV X F G G1 k e f) (TB : OwnB X.K X.mg "RetryError" B) (T : OwnE X.K X.mg "RetryError" B x C) (hr : Room 2 X.A) (tk : Tk X F) (hc : X.calm = true := by rfl) (hg : Gl X x := by rfl) (hio : IoG F G1 := by first | exact io_none rfl | exact io_some rfl rfl)
    (hdb : (x == ("__debug__" : Str)) = false := by decide) (hs1 : starEach [e] X.env = [(false, eval e X.env)] := by rfl) (he : starEach (e :: []) X.env = (false, eval e X.env) :: starEach [] X.env := by rfl) (hpl : (backTo pos (starEach [] X.env)).any (·.1) = false := by rfl) :
    PSt X F G G' (.Raise (some (.Call (.Name x p) [e] [] pos)) none pos2) (dRaise x f) := by
  obtain ⟨t, ht, q⟩ := (A0.weak (Nat.zero_le k)).go
  obtain ⟨fI, fd, st, qual, Fu, iC, tI, hb, hsc, m, j, p1, p2, p3, p4, p5, p6, q1, q2, q3, q4, hbd, hip⟩ := T.ini
  refine ⟨_, ps_raise hc tk (pmk_oex T.oex iC tI (ini_ok (C := C) TB Fu hsc hbd hip) hr hb (dvs := []) .nil passL hg T.g (pa_cons ht pa_nil he) hdb he hpl), fun v0 σ H r c s Dn sr ok pr h => ?_⟩
  refine q σ H r c s _ sr ok (OutS.useX pr h fun d r1 h2 => ?_)
  intro v H1 c1 s1 ca sa xx rp st1
  by_cases hv : (vOf d).isSome = true
  case neg => rw [if_neg hv] at h2; exact False.elim h2
  rw [if_pos hv] at h2
  obtain ⟨v', hv'⟩ := Option.isSome_iff_exists.mp hv
  obtain ⟨rfl, rfl, rfl⟩ := vOf_rep rp hv'
  simp only [add_z] at st1
  refine ⟨by simp, fun a ha => ⟨a, v, rfl, T.oex, T.noV, upd_same, fun dx hdx hne => ⟨rfl, dx, [(("value" : Str), v)], upd_same, ?_, ?_, ?_⟩⟩⟩
  · rw [upd_ne hne, upd_same]
  · rw [upd_ne hne] at hdx; exact hdx
  · rw [upd_ne hne] at hdx
    have e1 : upd (del (upd (upd (upd H1 a (exo a C none)) dx (exd dx [(("value" : Str), v)])) a (exo a C (some dx))) a) dx (.xd [(("value" : Str), v)]) = upd H1 dx (.xd [(("value" : Str), v)]) := by
      funext b
      by_cases hb : b = dx
      · subst hb; rw [upd_same, upd_same]
      · rw [upd_ne hb, upd_ne hb]
        by_cases hb2 : b = a
        · subst hb2; rw [del_same, ha]
        · rw [del_ne hb2, upd_ne hb2, upd_ne hb, upd_ne hb2]
    rw [e1]
    have ke := ex_upd (o := .xd [(("value" : Str), v)]) hdx
    exact h2 (.ref C) (some dx) σ _ G1 c1 s1 ⟨C, dx, v, rfl, T.g, rfl, upd_same, hv'⟩ hio (xx.keep (ex_kp ke)) pr (st1.ext ke)
end
end VL

/-! VX2: an except suite: the caught error's value, its class. -/
namespace VL
open PySem PySem.Spec PyProof.Rows L2
/-- the suite has the error at a in hand: of the class named n, with the value x -/
structure EvA (X : Cx) (a : Addr) (B : Addr) (n : Str) (x : D) : Prop where
  ex : ∃ (oe od : Obj) (C dd : Addr) (vs : Array Value) (v : V) (u : Value), (a, oe) ∈ X.pn ∧ (dd, od) ∈ X.pn ∧ OwnE X.K X.mg "RetryError" B n C ∧ oe.cls = .ref C ∧ oe.dict = some dd ∧ oe.data = .fields vs ∧ vOf x = some v ∧ RelV v u ∧ PySem.W.lookIn "value" od = some (some u)
section
variable {X : Cx} {F : Fx} {G : List Nat} {k : Nat} {a B : Addr} {n : Str} {x : D}
theorem EvA.inst (ev : EvA X a B n x) {pins : List (Addr × Obj)} {σ : L2.St} {H : Hp} {s : Shared} (I : Inv X pins σ H s) :
    ∃ (oe od : Obj) (C : Addr) (v : V) (u : Value), OwnE X.K X.mg "RetryError" B n C ∧ PySem.W.InstAt s.heap a oe C (some od) ∧ vOf x = some v ∧ RelV v u ∧ PySem.W.lookIn "value" od = some (some u) := by
  obtain ⟨oe, od, C, dd, vs, v, u, pa, pd, T, h1, h2, h3, h4, h5, h6⟩ := ev.ex
  refine ⟨oe, od, C, v, u, T, ⟨(I.pin _ (List.mem_append_left _ pa)).1, h1, by unfold PySem.W.notCls; rw [h3] <;> rfl, ?_⟩, h4, h5, h6⟩
  rw [h2]
  exact (I.pin _ (List.mem_append_left _ pd)).1
/-- the slot that holds it -/
def hasE (a : Addr) (i : Nat) (r : Rho) : Bool := match rget r i with
  | some (.fn b) => b == a
  | _ => false
theorem hasE_val {H : Hp} {r : Rho} {σ : L2.St} {c s : Cnt} {i : Nat} (sr : SR X.K H G r σ c s) (h : hasE a i r = true) : σ[i]? = some (some (.ref a)) := by
  unfold hasE at h
  split at h
  · rename_i b hb
    obtain ⟨v, c1, s1, c2, s2, e, rp, _⟩ := sr.out hb
    have eb : b = a := by simpa using h
    subst eb
    obtain ⟨ev, _, _⟩ := vOf_rep rp (rfl : vOf (.fn b) = some (.ref b))
    rw [e, ev]
  · cases h
def dExv (a : Addr) (i : Nat) (x : D) : Rho → R D := fun r => if hasE a i r = true then .ok x r else .no
theorem rep_vOf {K : PySem.W.Frag} {H : Hp} {d : D} {v : V} (h : vOf d = some v) : Rep K H k d v z0 z0 := by
  cases d <;> first | (cases h; constructor) | cases h
/-- e.value -/
theorem v_exv (i : Nat) {y : Str} {p pos : Pos} (ev : EvA X a B n x) (hi : X.N[i]? = some y := by rfl) (hv : Vis X.env.scope y := by first | exact Or.inl rfl | exact Or.inr (Or.inl rfl)) (hdb : (y == ("__debug__" : Str)) = false := by decide) (hcd : (y == ("__classdict__" : Str)) = false := by decide)
    (hb : attributeBase (.Name y p) "value" X.env (eval (.Name y p) X.env) = eval (.Name y p) X.env := by rfl) : PV X F G G k (.Attribute (.Name y p) "value" pos) (dExv a i x) := by
  refine ⟨fun σ H Q => σ[i]? = some (some (.ref a)) ∧ ∀ v, vOf x = some v → Q v H, ⟨fun pins s σ H Q I h => ?_⟩, fun σ H r c s Q sr ok h => ?_⟩
  · refine attr_of hb (thn ((pe_var hi hv hdb hcd).run pins s σ H (fun w H1 => w = .ref a ∧ ∀ v, vOf x = some v → Q v H1) I ⟨.ref a, h.1, rfl, h.2⟩) fun u s1 hh => ?_)
    obtain ⟨w, H1, I1, rx, ex, q⟩ := hh
    subst ex
    obtain rfl : u = Value.ref a := rx
    obtain ⟨oe, od, C, v, u, T, J, h4, h5, h6⟩ := ev.inst I1
    exact HandSPX.exc_get I1.kIn J T.ga T.gg T.exC (PySem.W.findObj_own T.hd T.noV rfl h6) (handed_of h5) ⟨v, H1, I1.tok _, h5, q v h4⟩
  · unfold dExv at h
    by_cases he : hasE a i r = true
    · rw [if_pos he] at h
      exact ⟨hasE_val sr he, fun v hv => flat_ok sr ok (rep_vOf hv) h⟩
    · rw [if_neg he] at h
      exact False.elim h
/-- a class's name, asked of an error named n -/
structure CN (X : Cx) (B : Addr) (n : Str) (e : Expr) (b : Bool) : Prop where
  go : ∀ C, OwnE X.K X.mg "RetryError" B n C → ∃ v u, PE X e (tC v) ∧ ClsV v u ∧ PySem.W.kitOne X.K (.ref C) u = some b
structure CNs (X : Cx) (B : Addr) (n : Str) (es : List Expr) (b : Bool) : Prop where
  go : ∀ C, OwnE X.K X.mg "RetryError" B n C → ∃ vs us, PA X es (fun _ H Q => Q vs H) ∧ Paired ClsV vs us ∧ PySem.W.kitAny X.K (.ref C) us = some b ∧ vs.length = es.length
theorem kit_own {K : PySem.W.Frag} {mg : Str → Option Value} {B C C' : Addr} {y : Str} (T : OwnE K mg "RetryError" B n C) (T' : OwnE K mg "RetryError" B y C') (TB : OwnB K mg "RetryError" B) (h : y ≠ "RetryError") : PySem.W.kitOne K (.ref C) (.ref C') = some (decide (n = y)) := by
  unfold PySem.W.kitOne
  by_cases e : n = y
  · subst e
    have e2 : C = C' := by
      have z := T.g.symm.trans T'.g
      cases z
      rfl
    subst e2
    simp
  · have ne := T.ne T' e
    have neB := T'.neB TB h
    have e1 : ((Value.ref C == Value.ref C') = true) = False := by
      simp [ne]
    rw [if_neg (by rw [e1]; exact id)]
    unfold PySem.W.kitCls
    obtain ⟨cd, hc, _⟩ := T'.clsIn
    show (if ((PySem.W.clsIn K C').isSome && PySem.W.typeIn K (.ref C') == some (.type "type")) = true then PySem.W.subIn K (.ref C) (.ref C') else none) = _
    rw [if_pos (by rw [hc, T'.tyC]; rfl), T.mro]
    have ne' : C' ≠ C := fun z => ne z.symm
    simp [ne', neB, e]
theorem kit_base {K : PySem.W.Frag} {mg : Str → Option Value} {B C : Addr} (T : OwnE K mg "RetryError" B n C) (TB : OwnB K mg "RetryError" B) : PySem.W.kitOne K (.ref C) (.ref B) = some true := by
  unfold PySem.W.kitOne
  by_cases e : (Value.ref C == Value.ref B) = true
  · rw [if_pos e]
  · rw [if_neg e]
    unfold PySem.W.kitCls
    obtain ⟨cd, hc, _⟩ := TB.clsIn
    show (if ((PySem.W.clsIn K B).isSome && PySem.W.typeIn K (.ref B) == some (.type "type")) = true then PySem.W.subIn K (.ref C) (.ref B) else none) = _
    rw [if_pos (by rw [hc, TB.tyC]; rfl), T.mro]
    simp
theorem kit_ve {K : PySem.W.Frag} {mg : Str → Option Value} {B C : Addr} (T : OwnE K mg "RetryError" B n C) : PySem.W.kitOne K (.ref C) (.type "ValueError") = some true := by
  unfold PySem.W.kitOne
  rw [if_neg (by simp)]
  unfold PySem.W.kitCls
  show (if PySem.W.kitMeta "ValueError" = true then PySem.W.subIn K (.ref C) (.type "ValueError") else none) = _
  rw [if_pos (by decide +kernel), T.mro]
  simp
theorem cn_own {y : Str} {C' : Addr} {p : Pos} (T' : OwnE X.K X.mg "RetryError" B y C') (TB : OwnB X.K X.mg "RetryError" B) (h : y ≠ "RetryError" := by decide) (hg : Gl X y := by rfl) (hdb : (y == ("__debug__" : Str)) = false := by decide) : CN X B n (.Name y p) (decide (n = y)) :=
  ⟨fun C T => ⟨.ref C', .ref C', pe_glob hg T'.g rfl hdb, .own C', kit_own T T' TB h⟩⟩
theorem cn_base {p : Pos} (TB : OwnB X.K X.mg "RetryError" B) (hg : Gl X "RetryError" := by rfl) : CN X B n (.Name "RetryError" p) true :=
  ⟨fun C T => ⟨.ref B, .ref B, pe_glob hg TB.g rfl (by decide), .own B, kit_base T TB⟩⟩
theorem cn_ve {p : Pos} (hm : X.mg "ValueError" = none) (hg : Gl X "ValueError" := by rfl) : CN X B n (.Name "ValueError" p) true :=
  ⟨fun C T => ⟨.ty "ValueError", .type "ValueError", pe_bltn hg hm PyProof.Rows.Boot.«ValueError» rfl (by decide) (by decide), .ty _, kit_ve T⟩⟩
theorem cns_nil : CNs X B n [] false := ⟨fun C T => ⟨[], [], pa_nil, .nil, rfl, rfl⟩⟩
theorem cns_cons {e : Expr} {es : List Expr} {b1 b2 : Bool} (A : CN X B n e b1) (As : CNs X B n es b2) (hs : starEach (e :: es) X.env = (false, eval e X.env) :: starEach es X.env := by rfl) : CNs X B n (e :: es) (b1 || b2) :=
  ⟨fun C T => by
    obtain ⟨v, u, h1, h2, h3⟩ := A.go C T
    obtain ⟨vs, us, g1, g2, g3, g4⟩ := As.go C T
    refine ⟨v :: vs, u :: us, pa_cons h1 g1 hs, .cons h2 g2, kitAny_cons h3 (fun z => by rw [z]; exact g3) (fun z => by rw [z]; rfl), by simp [g4]⟩⟩
/-- isinstance(e, ..), as the suite's rules ask it -/
def rIsX (a : Addr) (K : PySem.W.Frag) (C : Addr) : List V → Hp → VK → Prop := fun xs H Q =>
  (∃ (c : V) (u : Value) (b : Bool), xs = [.ref a, c] ∧ ClsV c u ∧ PySem.W.kitOne K (.ref C) u = some b ∧ Q (.bl b) H) ∨
  ∃ (tp : Addr) (cs : List V) (us : List Value) (b : Bool), xs = [.ref a, .ref tp] ∧ H tp = some (.tup cs) ∧ Paired ClsV cs us ∧ PySem.W.kitAny K (.ref C) us = some b ∧ Q (.bl b) H
theorem kitX_own {K : PySem.W.Frag} {mg : Str → Option Value} {B C : Addr} {oe od : Obj} (T : OwnE K mg "RetryError" B n C) : PySem.W.KitX K (.ref a) (.ref C) (fun h => PySem.W.InstAt h a oe C (some od)) := by
  obtain ⟨cd, hc, hm, _⟩ := T.clsIn
  refine PySem.W.kitx_exc (by rw [hc]; rfl) T.ga T.gg T.exC T.ha (by rfl) (by rfl) ?_
  have z := T.mro (.type "object")
  have z2 : PySem.W.subIn K (.ref C) (.type "object") = PySem.W.mroIn K C (.type "object") := rfl
  rw [← z2, z]
  refine congrArg some ?_
  simp
theorem call_isX (ev : EvA X a B n x) {C : Addr} (T : OwnE X.K X.mg "RetryError" B n C) : CallR X (.builtin "isinstance") (rIsX a X.K C) := by
  intro pins s σ H xs us Q I r h
  obtain ⟨oe, od, C', v, u', T', J, _⟩ := ev.inst I
  have e2 : C' = C := by
    have z := T'.g.symm.trans T.g
    cases z
    rfl
  subst e2
  rcases h with ⟨c, u, b, rfl, hcv, e, q⟩ | ⟨tp, cs, ws, b, rfl, hT, hk, e, q⟩
  · obtain ⟨u1, u2, rfl, r1, r2⟩ := vals2 r
    cases (show u1 = Value.ref a from r1)
    have e2 := hcv.eq r2
    subst e2
    exact PySem.W.kia_one (kitX_own T) I.kIn J e (fun z => nomatch z) fun tk => ⟨.bl b, H, I.tok tk, rfl, q⟩
  · obtain ⟨u1, u2, rfl, r1, r2⟩ := vals2 r
    cases (show u1 = Value.ref a from r1)
    cases (show u2 = Value.ref tp from r2)
    obtain ⟨_, its, rv, o, h1, h2, m, h3⟩ := (show ObjOk X.prog X.w H s.heap tp (.tup cs) from I.hok tp _ hT)
    have e3 := ClsV.all hk rv
    subst e3
    obtain ⟨oc, od', dt, sl⟩ := o
    simp only at h2 h3
    subst h2 h3
    exact PySem.W.kia_tup (kitX_own T) I.kIn J h1 e (fun z => nomatch z) fun tk => ⟨.bl b, H, I.tok tk, rfl, q⟩
def dIsE (a : Addr) (i : Nat) (b : Bool) : Rho → R D := fun r => if hasE a i r = true then .ok (.bl b) r else .no
theorem EvA.own (ev : EvA X a B n x) : ∃ C, OwnE X.K X.mg "RetryError" B n C := by
  obtain ⟨oe, od, C, dd, vs, v, u, pa, pd, T, _⟩ := ev.ex
  exact ⟨C, T⟩
/-- isinstance(e, C) -/
theorem v_isE (i : Nat) {y : Str} {e : Expr} {b : Bool} {p0 p pos : Pos} (ev : EvA X a B n x) (A : CN X B n e b) (hm : X.mg "isinstance" = none) (hg : Gl X "isinstance" := by rfl) (hi : X.N[i]? = some y := by rfl) (hv : Vis X.env.scope y := by first | exact Or.inl rfl | exact Or.inr (Or.inl rfl))
    (hdb : (y == ("__debug__" : Str)) = false := by decide) (hcd : (y == ("__classdict__" : Str)) = false := by decide)
    (hs1 : starEach [.Name y p, e] X.env = (false, eval (.Name y p) X.env) :: starEach [e] X.env := by rfl) (hs2 : starEach [e] X.env = (false, eval e X.env) :: starEach [] X.env := by rfl) (hpl : (backTo pos (starEach [e] X.env)).any (·.1) = false := by rfl) :
    PV X F G G k (.Call (.Name "isinstance" p0) [.Name y p, e] [] pos) (dIsE a i b) := by
  obtain ⟨C, T⟩ := ev.own
  obtain ⟨v, u, h1, h2, h3⟩ := A.go C T
  refine ⟨_, pe_callB (call_isX ev T) hg hm PyProof.Rows.boot_isinstance (pa_cons (pe_var hi hv hdb hcd) (pa_cons h1 pa_nil hs2) hs1) (by decide) (by decide) hs1 hpl, fun σ H r c s Q sr ok h => ?_⟩
  unfold dIsE at h
  by_cases he : hasE a i r = true
  · rw [if_pos he] at h
    exact ⟨.ref a, hasE_val sr he, .inl ⟨v, u, b, rfl, h2, h3, flat_ok sr ok (.bl b) h⟩⟩
  · rw [if_neg he] at h
    exact False.elim h
/-- isinstance(e, (C, ..)) -/
theorem v_isET (i : Nat) {y : Str} {es : List Expr} {b : Bool} {x1 : Nat} {p0 p pt pos : Pos} (ev : EvA X a B n x) (A : CNs X B n es b) (hm : X.mg "isinstance" = none) (hl : es.length ≤ 1000 := by decide) (hg : Gl X "isinstance" := by rfl) (hi : X.N[i]? = some y := by rfl) (hv : Vis X.env.scope y := by first | exact Or.inl rfl | exact Or.inr (Or.inl rfl))
    (hdb : (y == ("__debug__" : Str)) = false := by decide) (hcd : (y == ("__classdict__" : Str)) = false := by decide)
    (hs1 : starEach [.Name y p, .Tuple es x1 pt] X.env = (false, eval (.Name y p) X.env) :: starEach [.Tuple es x1 pt] X.env := by rfl) (hs2 : starEach [.Tuple es x1 pt] X.env = (false, eval (.Tuple es x1 pt) X.env) :: starEach [] X.env := by rfl) (hpl : (backTo pos (starEach [.Tuple es x1 pt] X.env)).any (·.1) = false := by rfl) :
    PV X F G G k (.Call (.Name "isinstance" p0) [.Name y p, .Tuple es x1 pt] [] pos) (dIsE a i b) := by
  obtain ⟨C, T⟩ := ev.own
  obtain ⟨vs, us, h1, h2, h3, h4⟩ := A.go C T
  refine ⟨_, pe_callB (call_isX ev T) hg hm PyProof.Rows.boot_isinstance (pa_cons (pe_var hi hv hdb hcd) (pa_cons (pe_tup h1) pa_nil hs2) hs1) (by decide) (by decide) hs1 hpl, fun σ H r c s Q sr ok h => ?_⟩
  unfold dIsE at h
  by_cases he : hasE a i r = true
  · rw [if_pos he] at h
    refine ⟨.ref a, hasE_val sr he, by rw [h4]; exact line5 (Nat.le_trans hl (by decide)), fun tp htp => .inr ⟨tp, vs, us, b, rfl, upd_same, h2, h3, ?_⟩⟩
    have ke := ex_upd (o := .tup vs) htp
    exact h (.bl b) _ c s z0 z0 (sr.keep (ex_kp ke)) (.bl b) (by simp only [add_z]; exact (Step.refl ok).ext ke)
  · rw [if_neg he] at h
    exact False.elim h
end
end VL

/-! VX3: try: body / except C as e: suite. -/
namespace VL
open PySem PySem.Spec PyProof.Rows L2
/-! ### the dict of the error is put aside while the suite runs -/
section
variable {K : PySem.W.Frag} {H : Hp} {dd : Addr} {fs : List (Str × V)}
mutual
theorem Rep.noXd : ∀ {n : Nat} {d : D} {v : V} {c s : Cnt}, Rep K H n d v c s → H dd = some (.xd fs) → c dd = 0 ∧ s dd = 0
  | _, _, _, _, _, .non, _ => ⟨rfl, rfl⟩
  | _, _, _, _, _, .bl b, _ => ⟨rfl, rfl⟩
  | _, _, _, _, _, .int i, _ => ⟨rfl, rfl⟩
  | _, _, _, _, _, .str x, _ => ⟨rfl, rfl⟩
  | _, _, _, _, _, .ty x, _ => ⟨rfl, rfl⟩
  | _, _, _, _, _, .fn a, _ => ⟨rfl, rfl⟩
  | _, _, _, _, _, .lst0 (a := a) h r, e => by
    obtain ⟨h1, h2⟩ := Reps.noXd r e
    have ne : dd ≠ a := fun z => by rw [z, h] at e; cases e
    exact ⟨h1, by simp only [add_at, one_ne ne, h2]⟩
  | _, _, _, _, _, .scr (a := a) o h, e => by
    have ne : dd ≠ a := fun z => by rw [z, h] at e; cases e
    exact ⟨rfl, one_ne ne⟩
  | _, _, _, _, _, .scrK h, _ => ⟨rfl, rfl⟩
  | _, _, _, _, _, .lstS (a := a) h r, e => by
    obtain ⟨h1, h2⟩ := Reps.noXd r e
    have ne : dd ≠ a := fun z => by rw [z, h] at e; cases e
    exact ⟨by simp only [add_at, one_ne ne, h1], h2⟩
  | _, _, _, _, _, .tup h r, e => Reps.noXd r e
  | _, _, _, _, _, .dct0 (a := a) h e1 e2 e3 r, e => by
    obtain ⟨h1, h2⟩ := Reps.noXd r e
    have ne : dd ≠ a := fun z => by rw [z, h] at e; cases e
    exact ⟨h1, by simp only [add_at, one_ne ne, h2]⟩
  | _, _, _, _, _, .dctS (a := a) h e1 e2 e3 r, e => by
    obtain ⟨h1, h2⟩ := Reps.noXd r e
    have ne : dd ≠ a := fun z => by rw [z, h] at e; cases e
    exact ⟨by simp only [add_at, one_ne ne, h1], h2⟩
theorem Reps.noXd : ∀ {n : Nat} {ds : List D} {vs : List V} {c s : Cnt}, Reps K H n ds vs c s → H dd = some (.xd fs) → c dd = 0 ∧ s dd = 0
  | _, _, _, _, _, .nil, _ => ⟨rfl, rfl⟩
  | _, _, _, _, _, .cons a b, e => by
    obtain ⟨h1, h2⟩ := Rep.noXd a e
    obtain ⟨h3, h4⟩ := Reps.noXd b e
    exact ⟨by simp only [add_at]; omega, by simp only [add_at]; omega⟩
end
theorem SR.noXd : ∀ {G r σ c s}, SR K H G r σ c s → H dd = some (.xd fs) → c dd = 0 ∧ s dd = 0
  | _, _, _, _, _, .nil, _ => ⟨rfl, rfl⟩
  | _, _, _, _, _, .no x, e => SR.noXd x e
  | _, _, _, _, _, .yes a x, e => by
    obtain ⟨h1, h2⟩ := a.noXd e
    obtain ⟨h3, h4⟩ := SR.noXd x e
    exact ⟨by simp only [add_at]; omega, by simp only [add_at]; omega⟩
theorem SR.lose {G r σ c s} (x : SR K H G r σ c s) (e : H dd = some (.xd fs)) : SR K (L2.del H dd) G r σ c s := by
  obtain ⟨h1, h2⟩ := x.noXd e
  refine x.keep fun a o ha hz => ?_
  have ne : a ≠ dd := fun z => by
    subst z
    rcases hz with hz | hz | hz
    · omega
    · omega
    · rw [e] at ha; cases ha; exact hz
  rw [del_ne ne]
  exact ha
theorem Step.found {c s c' s' : Cnt} {H' : Hp} (x : Step c s (L2.del H dd) c' s' H') (e : H dd = some (.xd fs)) (n : H' dd = none) (dm : Dom c' s' H') : Step c s H c' s' (upd H' dd (.xd fs)) where
  own := fun a h => by
    rcases x.own a h with z | z
    · exact .inl z
    · by_cases ha : a = dd
      · subst ha
        obtain ⟨o, ho, _⟩ := (dm a).1 h
        rw [n] at ho; cases ho
      · rw [del_ne ha] at z; exact .inr z
  sh := fun a h => by
    rcases x.sh a h with z | z | z
    · exact .inl z
    · exact .inr (.inl z)
    · by_cases ha : a = dd
      · subst ha
        obtain ⟨o, ho, _⟩ := (dm a).2 h
        rw [n] at ho; cases ho
      · rw [del_ne ha] at z; exact .inr (.inr z)
  keep := fun a o ha hz => by
    by_cases hd : a = dd
    · subst hd; rw [upd_same, ← e]; exact ha
    · rw [upd_ne hd]; exact x.keep a o (by rw [del_ne hd]; exact ha) hz
  dom := fun a ha => by
    by_cases hd : a = dd
    · subst hd; rw [upd_same]; exact fun z => nomatch z
    · rw [upd_ne hd]; exact x.dom a (by rw [del_ne hd]; exact ha)
  ok := x.ok
end
section
variable {X : Cx} {a : Addr} {p : Addr × Obj} {pn pins : List (Addr × Obj)} {σ : L2.St} {H : Hp} {s : Shared} {dd : Addr} {od : Obj} {fs : List (Str × V)}
theorem Inv.outF (I : Inv X pins σ H s) : ∀ b ∈ X.fs, H b = none := fun b hb => by
  obtain ⟨_, o, ho, _⟩ := I.ok.funs.mem hb
  exact I.base.free b o ho (I.ok.frf b hb) fun z => I.ok.exfs b z hb
theorem ne_xd {o : HO} {b : Addr} (h : H b = some o) (e : H dd = some (.xd fs)) (k : ∀ fs, o ≠ .xd fs) : b ≠ dd := fun z => by
  rw [z, e] at h
  exact k _ (Option.some.inj h).symm
theorem no_xd {b : Addr} (h : H b = none) (e : H dd = some (.xd fs)) : b ≠ dd := fun z => by
  rw [z, e] at h
  cases h
theorem del_none {b : Addr} (h : H b = none) : L2.del H dd b = none := by
  by_cases z : b = dd
  · rw [z]; exact del_same
  · rw [del_ne z]; exact h
/-- an error's dict is pinned -/
theorem Inv.pinD (I : Inv (X.suite a (p :: pn)) pins σ H s) (e : H dd = some (.xd fs)) (ho : s.heap.get? dd = some od) (hd : ∀ v, od.data ≠ .cell v) : Inv (X.suite a ((dd, od) :: p :: pn)) pins σ (L2.del H dd) s := by
  have nF : dd ∉ X.fs := fun hm => by
    have z := VL.Inv.outF I dd hm
    rw [e] at z; cases z
  refine ⟨I.ok.suite _ _, I.os, I.bare, ⟨I.base.keep, I.base.slot, fun b o h1 h2 h3 => del_none (I.base.free b o h1 h2 h3), I.base.there, fun b xs h1 => ?_, fun b o xs h1 => ?_, fun b ps h1 => ?_⟩, I.loc, I.cell, del_none I.free, fun x c h => del_none (I.freeC x c h), fun q hq => ?_, fun b o hb => ?_, I.len⟩
  · have z := I.base.tups b xs h1
    rw [del_ne (ne_xd z e fun _ y => nomatch y)]; exact z
  · have z := I.base.frzs b o xs h1
    rw [del_ne (ne_xd z e fun _ y => nomatch y)]; exact z
  · obtain ⟨more, z⟩ := I.base.tbls b ps h1
    exact ⟨more, by rw [del_ne (ne_xd z e fun _ y => nomatch y)]; exact z⟩
  · have hq' : q ∈ (dd, od) :: (p :: pn ++ pins) := hq
    rcases List.mem_cons.mp hq' with z | z
    · subst z
      exact ⟨ho, del_same, fun z => no_xd I.free e z.symm, nF, hd⟩
    · obtain ⟨h1, h2, h3, h4, h5⟩ := I.pin q z
      exact ⟨h1, del_none h2, h3, h4, h5⟩
  · have hbd : b ≠ dd := fun z => by
      rw [z, del_same] at hb; cases hb
    rw [del_ne hbd] at hb
    exact (I.hok b o hb).stay (fun _ _ _ r => r) (fun c hc => by rw [del_ne (ne_xd hc e fun _ y => nomatch y)]; exact hc) (fun c xs hc => by rw [del_ne (ne_xd hc e fun _ y => nomatch y)]; exact hc)
/-- .. and let go -/
theorem Inv.unpinD {σ' : L2.St} {H' : Hp} {s' : Shared} (I : Inv (X.suite a (p :: pn)) pins σ H s) (e : H dd = some (.xd fs)) (ho : s.heap.get? dd = some od) (J : Inv (X.suite a ((dd, od) :: p :: pn)) pins σ' H' s') :
    H' dd = none ∧ Inv (X.suite a (p :: pn)) pins σ' (upd H' dd (.xd fs)) s' := by
  obtain ⟨g1, g2, g3, g4, g5⟩ := J.pin (dd, od) (List.mem_append_left _ List.mem_cons_self)
  have key : ∀ {b : Addr}, H' b = none → b ≠ dd → upd H' dd (.xd fs) b = none := fun {b} h n => by rw [upd_ne n]; exact h
  refine ⟨g2, I.ok.suite _ _, J.os, J.bare, ⟨J.base.keep, J.base.slot, fun b o h1 h2 h3 => key (J.base.free b o h1 h2 h3) (no_xd (I.base.free b o h1 h2 h3) e), J.base.there, fun b xs h1 => ?_, fun b o xs h1 => ?_, fun b ps h1 => ?_⟩, J.loc, J.cell, key J.free (no_xd I.free e), fun x c h => key (J.freeC x c h) (no_xd (I.freeC x c h) e), fun q hq => ?_, fun b o hb => ?_, J.len⟩
  · have z := J.base.tups b xs h1
    exact ex_upd g2 _ _ z
  · have z := J.base.frzs b o xs h1
    exact ex_upd g2 _ _ z
  · obtain ⟨more, z⟩ := J.base.tbls b ps h1
    exact ⟨more, ex_upd g2 _ _ z⟩
  · obtain ⟨h1, h2, h3, h4, h5⟩ := J.pin q (List.mem_cons_of_mem _ hq)
    exact ⟨h1, key h2 (no_xd (I.pin q hq).2.1 e), h3, h4, h5⟩
  · by_cases hbd : b = dd
    · subst hbd
      rw [upd_same] at hb
      cases hb
      obtain ⟨mA, hns, hr⟩ := (show ObjOk X.prog X.w H s.heap b (.xd fs) from I.hok b _ e)
      exact ⟨mA, hns.at (fun o q => by rw [ho] at q; cases q; exact g1), hr⟩
    · rw [upd_ne hbd] at hb
      exact (J.hok b o hb).stay (fun _ _ _ r => r) (fun c hc => ex_upd g2 _ _ hc) (fun c xs hc => ex_upd g2 _ _ hc)
end
/-! ### the reading of a try -/
/-- what a suite says, whatever the error's address -/
noncomputable def pick (g : Addr → SO) : SO := open Classical in if h : ∃ o, ∀ a, g a = o then h.choose else .no
theorem pick_eq {g : Addr → SO} {o : SO} (h : ∀ a, g a = o) : pick g = o := by
  unfold pick
  have hh : ∃ o, ∀ a, g a = o := ⟨o, h⟩
  rw [dif_pos hh]
  exact (hh.choose_spec 0).symm.trans (h 0)
theorem pick_at {g : Addr → SO} (a : Addr) (h : pick g ≠ .no) : g a = pick g := by
  unfold pick at h ⊢
  by_cases hh : ∃ o, ∀ a, g a = o
  · rw [dif_pos hh]
    exact hh.choose_spec a
  · rw [dif_neg hh] at h
    exact absurd rfl h
/-- behind the suite the name is gone -/
def clr (i : Nat) : SO → SO
  | .nx r => .nx (r.set i none)
  | .bk r => .bk (r.set i none)
  | .ct r => .ct (r.set i none)
  | .rt d r => .rt d (r.set i none)
  | _ => .no
noncomputable def dTry (i : Nat) (names : List Str) (caught : Str → Bool) (fb : Rho → SO) (fs : Addr → Str → D → Rho → SO) : Rho → SO := fun r => match fb r with
  | .ex n x r1 => if n ∈ names then (if caught n = true then pick fun a => clr i (fs a n x (r1.set i (some (.fn a)))) else .ex n x r1) else .no
  | o => o
def rdS (X : Cx) (F : Fx) (G G' : List Nat) (f : Rho → SO) : TS := fun Dn σ H => ∃ v0 r c s, SR X.K H G r σ c s ∧ Ok c s ∧ Pr F v0 σ ∧ OutS X F v0 G' c s H Dn (f r)
def mk0 (io : Option Nat) (n : Nat) : List Nat := match io with
  | none => List.replicate n 0
  | some m => m :: List.replicate (n - 1) 0
def NoEx : SO → Prop
  | .ex _ _ _ => False
  | _ => True
abbrev Fx.noW (F : Fx) : Fx := { F with W := fun _ _ _ _ => False }
section
variable {X : Cx} {F : Fx} {G G1 G2 G3 : List Nat}
theorem PBk.pss {sts : List Stmt} {f : Rho → SO} (A : PBk X F G G1 sts f) : PSs X sts (rdS X F G G1 f) := by
  obtain ⟨t, ht, q⟩ := A.go
  refine ⟨fun pins s σ H D I h => ?_⟩
  obtain ⟨v0, r, c, s', sr, ok, pr, o⟩ := h
  exact ht.run pins s σ H D I (q v0 σ H r c s' D sr ok pr o)
theorem LeG.zeros : ∀ {G : List Nat} {n : Nat}, G.length = n → LeG (List.replicate n 0) G
  | [], _, h => by cases h; exact .nil
  | g :: G, 0, h => by cases h
  | g :: G, n + 1, h => by
    rw [List.replicate_succ]
    exact .cons (Nat.zero_le _) (LeG.zeros (Nat.succ.inj h))
theorem LeG.mk0 {n : Nat} (h : G.length = n) (g : IoG F G) (hn : F.io = none ∨ 0 < n) : LeG (VL.mk0 F.io n) G := by
  unfold VL.mk0
  cases e : F.io with
  | none => exact LeG.zeros h
  | some m =>
    have g0 := g m e
    cases G with
    | nil =>
      rcases hn with z | z
      · rw [e] at z; cases z
      · simp at h; omega
    | cons g1 G =>
      have g2 : g1 = m := g0
      subst g2
      exact .cons (Nat.le_refl _) (LeG.zeros (by simp at h; omega))
theorem SR.any {K : PySem.W.Frag} {H : Hp} : ∀ {G r σ c s}, SR K H G r σ c s → ∀ {i o}, rget r i = none → SR K H G r (σ.set i o) c s
  | _, _, _, _, _, .nil, _, _, _ => .nil
  | _, _, _, _, _, .no x, 0, _, _ => .no x
  | _, _, _, _, _, .no x, i + 1, _, h => .no (SR.any x (i := i) h)
  | _, _, _, _, _, .yes a x, 0, _, h => by cases h
  | _, _, _, _, _, .yes a x, i + 1, _, h => .yes a (SR.any x (i := i) h)
theorem SR.hide {K : PySem.W.Frag} {H : Hp} {r : Rho} {σ : L2.St} {c s : Cnt} (x : SR K H G r σ c s) (i : Nat) : ∃ c2 s2, SR K H G (r.set i none) (σ.set i none) c2 s2 ∧ (∀ a, c2 a ≤ c a) ∧ ∀ a, s2 a ≤ s a := by
  obtain ⟨c2, s2, x2, h1, h2⟩ := x.del i
  exact ⟨c2, s2, x2.any (rget_set_none r i), h1, h2⟩
theorem SR.fillF {K : PySem.W.Frag} {H : Hp} {r : Rho} {σ : L2.St} {c s : Cnt} {d : D} {v : V} (x : SR K H G r σ c s) (i : Nat) (rp : Rep K H 0 d v z0 z0) :
    ∃ c2 s2, SR K H (G.set i 0) (r.set i (some d)) (σ.set i (some v)) c2 s2 ∧ (∀ a, c2 a ≤ c a) ∧ ∀ a, s2 a ≤ s a := by
  by_cases h : i < r.length
  · obtain ⟨c2, s2, x2, h1, h2⟩ := x.fill h rp
    rw [z_add, z_add] at x2
    exact ⟨c2, s2, x2, h1, h2⟩
  · have e1 := x.lenG; have e2 := x.lenS
    rw [List.set_eq_of_length_le (by omega), List.set_eq_of_length_le (by omega), List.set_eq_of_length_le (by omega)]
    exact ⟨c, s, x, fun _ => Nat.le_refl _, fun _ => Nat.le_refl _⟩
theorem rget_ne : ∀ {r : Rho} {i : Nat} {o : Option D}, i ≠ 0 → rget (r.set i o) 0 = rget r 0
  | [], _, _, _ => rfl
  | _ :: _, 0, _, h => absurd rfl h
  | _ :: _, i + 1, _, _ => rfl
theorem IoP.set {K : PySem.W.Frag} {H : Hp} {io : Option Nat} {r : Rho} {v0 : V} {c0 s0 : Cnt} {i : Nat} {o : Option D} (hp : io = none ∨ i ≠ 0) (h : IoP K H io (rget r 0) v0 c0 s0) : IoP K H io (rget (r.set i o) 0) v0 c0 s0 := by
  rcases hp with rfl | z
  · exact h
  · rw [rget_ne z]; exact h
theorem Step.less' {c s c1 s1 c2 s2 : Cnt} {H H1 : Hp} (x : Step c s H c1 s1 H1) (hc : ∀ a, c2 a ≤ c1 a) (hs : ∀ a, s2 a ≤ s1 a) : Step c s H c2 s2 H1 := x.less hc fun a ha => Nat.lt_of_lt_of_le ha (hs a)
/-- from what the whole wants to what the suite must say -/
theorem OutS.unclr {v0 : V} {c s c1 s1 : Cnt} {H H1 : Hp} {Dn : Ends} {i : Nat} {o : SO} (hp : Fr F i) (le : LeG G2 G3) (h : OutS X F v0 G2 c s H Dn (clr i o)) (st : Step c s H c1 s1 H1) :
    NoEx o ∧ OutS X F.noW v0 G3 c1 s1 H1 { nx := fun σ' H' => Dn.nx (σ'.set i none) H', rt := Dn.rt, bk := fun σ' H' => Dn.bk (σ'.set i none) H', ct := fun σ' H' => Dn.ct (σ'.set i none) H' } o := by
  cases o with
  | nx r =>
    refine ⟨trivial, fun σ' H' c' s' x p y => ?_⟩
    obtain ⟨c2, s2, x2, w⟩ := x.wk le
    obtain ⟨c3, s3, x3, h1, h2⟩ := x2.hide i
    exact h (σ'.set i none) H' c3 s3 x3 (Pr.set (F := F) p hp) (((st.trans y).wk w).less' h1 h2)
  | bk r =>
    refine ⟨trivial, fun σ' H' c' s' x p y => ?_⟩
    obtain ⟨c3, s3, x3, h1, h2⟩ := SR.hide x i
    exact h (σ'.set i none) H' c3 s3 x3 (Pr.set (F := F) p hp) ((st.trans y).less' h1 h2)
  | ct r =>
    refine ⟨trivial, fun σ' H' c' s' x p y => ?_⟩
    obtain ⟨c3, s3, x3, h1, h2⟩ := SR.hide x i
    exact h (σ'.set i none) H' c3 s3 x3 (Pr.set (F := F) p hp) ((st.trans y).less' h1 h2)
  | rt d r => exact ⟨trivial, fun v H' cr sr c0 s0 rp q y => h v H' cr sr c0 s0 rp (IoP.set hp.1 q) (st.trans y)⟩
  | ex n d r => exact False.elim h
  | no => exact False.elim h
theorem IoP.keep {K : PySem.W.Frag} {H H' : Hp} {io : Option Nat} {o : Option D} {v0 : V} {c0 s0 : Cnt} (h : IoP K H io o v0 c0 s0) (k : ∀ a o, H a = some o → H' a = some o) : IoP K H' io o v0 c0 s0 := by
  unfold IoP at h ⊢
  split at h
  · exact h.keep (ex_kp k)
  · exact h
theorem IoP.dom {K : PySem.W.Frag} {H : Hp} {io : Option Nat} {o : Option D} {v0 : V} {c0 s0 : Cnt} (h : IoP K H io o v0 c0 s0) : Dom c0 s0 H := by
  unfold IoP at h
  split at h
  · exact h.dom
  · obtain ⟨rfl, rfl⟩ := h
    exact Dom.z
theorem OutS.found {v0 : V} {c s c2 s2 : Cnt} {H : Hp} {Dn : Ends} {dd : Addr} {fs : List (Str × V)} {o : SO} (no : NoEx o) (h : OutS X F v0 G3 c s H Dn o) (e : H dd = some (.xd fs)) (ok : Ok c s) (w : Wk c s c2 s2) :
    OutS X F v0 G3 c2 s2 (L2.del H dd) { nx := fun σ' H' => H' dd = none → Dn.nx σ' (upd H' dd (.xd fs)), rt := fun v H' => H' dd = none → Dn.rt v (upd H' dd (.xd fs)), bk := fun σ' H' => H' dd = none → Dn.bk σ' (upd H' dd (.xd fs)), ct := fun σ' H' => H' dd = none → Dn.ct σ' (upd H' dd (.xd fs)) } o := by
  cases o with
  | nx r => exact fun σ' H' c' s' x p y n => h σ' _ c' s' (x.keep (ex_kp (ex_upd n))) p (((Step.refl ok).wk w).trans (y.found e n x.dom))
  | bk r => exact fun σ' H' c' s' x p y n => h σ' _ c' s' (x.keep (ex_kp (ex_upd n))) p (((Step.refl ok).wk w).trans (y.found e n x.dom))
  | ct r => exact fun σ' H' c' s' x p y n => h σ' _ c' s' (x.keep (ex_kp (ex_upd n))) p (((Step.refl ok).wk w).trans (y.found e n x.dom))
  | rt d r => exact fun v H' cr sr c0 s0 rp q y n => h v _ cr sr c0 s0 (rp.keep (ex_kp (ex_upd n))) (q.keep (ex_upd n)) (((Step.refl ok).wk w).trans (y.found e n (q.dom.add rp.dom)))
  | ex n d r => exact False.elim no
  | no => exact False.elim h
end
section
variable {X : Cx} {F : Fx} {G G0 G1 G2 G3 : List Nat} {body suite : List Stmt} {b₀ : Stmt} {B : Addr} {x n : Str} {c : Value} {np pos pos' : Pos}
/-- try: body / except C as n: suite -/
theorem s_try (i : Nat) (names : List Str) (caught : Str → Bool) {fb : Rho → SO} {fs : Addr → Str → D → Rho → SO} (nd : X.N.Nodup) (hc : Names X x c) (tk : Tk X F) (TE : ∀ n ∈ names, ∃ C, OwnE X.K X.mg "RetryError" B n C)
    (hx : ∀ n ∈ names, ∀ C, OwnE X.K X.mg "RetryError" B n C → PySem.W.exmOne X.K (.ref C) c = some (caught n))
    (Bd : ∀ (W : WX) (pn : List (Addr × Obj)) (xe : Value → Shared → Prop), Tk (X.tr pn xe) { F with W := W } → PassesOwn (model X.prog X.w) X.A X.env xe → PBk (X.tr pn xe) { F with W := W } G G1 body fb)
    (S : ∀ (a : Addr) (pn : List (Addr × Obj)) (n : Str) (y : D), n ∈ names → EvA (X.suite a pn) a B n y → PBk (X.suite a pn) F.noW G0 G3 (b₀ :: suite) (fs a n y))
    (h1 : leG G2 G1 = true := by rfl) (h3 : leG G2 G3 = true := by rfl) (hG0 : mk0 F.io X.N.length = G0 := by rfl) (hi : X.N[i]? = some n := by rfl) (hln : X.env.kindOf n = some .local := by rfl) (hs : X.stack = X.env :: X.outer := by rfl) (hf : X.env.frame = some X.env.locals := by rfl)
    (hp : Fr F i := by first | exact ⟨Or.inl rfl, rfl⟩ | exact ⟨Or.inr (by decide), rfl⟩) (hN : F.io = none ∨ 0 < X.N.length := by first | exact Or.inl rfl | exact Or.inr (by decide)) :
    PSt X F G G2 (.Try body [.ExceptHandler (some (.Name x np)) (some n) (b₀ :: suite) pos'] [] [] pos) (dTry i names caught fb fs) := by
  let ts : Addr → Value → Option Addr → TS := fun a cls d Dn σ H => ∃ n y C dd v r G c s v0, n ∈ names ∧ cls = .ref C ∧ OwnE X.K X.mg "RetryError" B n C ∧ d = some dd ∧ H dd = some (.xd [(("value" : Str), v)]) ∧ vOf y = some v ∧
    SR X.K H G r σ c s ∧ IoG F G ∧ Ok c s ∧ Pr F v0 σ ∧ NoEx (fs a n y r) ∧ OutS X F.noW v0 G3 c s H Dn (fs a n y r)
  refine ⟨_, ps_try_as (tb := fun W => rdS X { F with W := W } G G1 fb) (ts := ts) hs hf nd hi hln hc tk (fun W pn xe tkW po => (Bd W pn xe tkW po).pss) (fun a oe cls d pn hz hd => ⟨fun pins s σ H Dn I h => ?_⟩), fun v0 σ H r c' s Dn sr ok pr h => ⟨v0, r, c', s, sr, ok, pr, ?_⟩⟩
  · obtain ⟨m, y, C, dd, v, r, G', c', s', v0, hm, rfl, T, rfl, e, hv, sr, gg, ok, pr, no, o⟩ := h
    obtain ⟨mA, hns, hr⟩ := (show ObjOk X.prog X.w H s.heap dd (.xd [(("value" : Str), v)]) from I.hok dd _ e)
    obtain ⟨od, ho, hl⟩ := lookIn_ns hns
    obtain ⟨u, hu, ru⟩ := RelO.some_of (v := v) (o := mA "value") (hr "value")
    obtain ⟨vs, hdat⟩ := hd
    have hcell : ∀ v, od.data ≠ .cell v := fun v z => by
      obtain ⟨o2, es, ep, e1, e2, _⟩ := hns
      rw [ho] at e1
      cases e1
      rw [z] at e2
      cases e2
    have I2 := VL.Inv.pinD I e ho hcell
    have ev : EvA (X.suite a ((dd, od) :: (a, oe) :: pn)) a B m y := ⟨oe, od, C, dd, vs, v, u, List.mem_cons_of_mem _ List.mem_cons_self, List.mem_cons_self, T, hz.1, hz.2, hdat, hv, ru, by rw [hl, hu]⟩
    obtain ⟨t, ht, q⟩ := (S a ((dd, od) :: (a, oe) :: pn) m y hm ev).go
    have hlen : G'.length = X.N.length := by
      have e1 := sr.lenG; have e2 := sr.lenS
      have e3 : σ.length = X.N.length := I.len
      omega
    have le : LeG G0 G' := by rw [← hG0]; exact LeG.mk0 hlen gg hN
    obtain ⟨c2, s2, sr2, w⟩ := sr.wk le
    refine wpAny_mono (ht.run pins s σ (L2.del H dd) _ I2 (q v0 σ _ r c2 s2 _ (sr2.lose e) (ok.wk w) pr (o.found no e ok w))) (fun f s1 hsp => ?_) (fun _ _ z => z)
    cases f with
    | next =>
      obtain ⟨σ', H', J, qq⟩ := hsp
      obtain ⟨n', J'⟩ := VL.Inv.unpinD I e ho J
      exact ⟨σ', _, J', qq n'⟩
    | brk =>
      obtain ⟨σ', H', J, qq⟩ := hsp
      obtain ⟨n', J'⟩ := VL.Inv.unpinD I e ho J
      exact ⟨σ', _, J', qq n'⟩
    | cont =>
      obtain ⟨σ', H', J, qq⟩ := hsp
      obtain ⟨n', J'⟩ := VL.Inv.unpinD I e ho J
      exact ⟨σ', _, J', qq n'⟩
    | ret u =>
      obtain ⟨v1, σ', H', J, rl, qq⟩ := hsp
      obtain ⟨n', J'⟩ := VL.Inv.unpinD I e ho J
      exact ⟨v1, σ', _, J', rl, qq n'⟩
  · unfold dTry at h
    cases efb : fb r with
    | nx r1 => rw [efb] at h; exact OutS.weakG (X := X) (F := F) (G' := G2) h (LeG.of h1)
    | bk r1 => rw [efb] at h; exact h
    | ct r1 => rw [efb] at h; exact h
    | rt d r1 => rw [efb] at h; exact h
    | no => rw [efb] at h; exact False.elim h
    | ex m y r1 =>
      rw [efb] at h
      dsimp only at h
      by_cases hm : m ∈ names
      case neg => rw [if_neg hm] at h; exact False.elim h
      rw [if_pos hm] at h
      intro cls dx σ' H' G' c1 s1 e gg sr' pr' st
      obtain ⟨C, T⟩ := TE m hm
      obtain ⟨C', d, v, rfl, hg, rfl, hd, hv⟩ := id e
      have eC : C' = C := by
        have z := hg.symm.trans T.g
        cases z
        rfl
      subst eC
      refine ⟨caught m, hx m hm C' T, fun hcn a na => ?_, fun hcn => ?_⟩
      · rw [if_pos hcn] at h
        have np : pick (fun a => clr i (fs a m y (r1.set i (some (.fn a))))) ≠ .no := fun z => by rw [z] at h; exact h
        rw [← pick_at a np] at h
        obtain ⟨c2, s2, sr2, hc2, hs2⟩ := sr'.fillF i (.fn a)
        have st2 := st.less' hc2 hs2
        obtain ⟨no, o⟩ := OutS.unclr hp (LeG.of h3) h st2
        refine ⟨m, y, C', d, v, _, G'.set i 0, c2, s2, v0, hm, rfl, T, rfl, hd, hv, sr2, fun mm hmm => ?_, st2.ok, Pr.set (F := F) pr' hp, no, o⟩
        rcases hp.1 with z | z
        · rw [z] at hmm; cases hmm
        · have g0 := gg mm hmm
          cases G' with
          | nil => exact g0
          | cons g1 G' =>
            cases i with
            | zero => exact absurd rfl z
            | succ i => exact g0
      · rw [if_neg (by rw [hcn]; exact Bool.false_ne_true)] at h
        exact h (.ref C') (some d) σ' H' G' c1 s1 e gg sr' pr' st
end
end VL

/-! VX4: the errors' facts put together. -/
namespace VL
open PySem PySem.Spec PyProof.Rows L2
/-- a class's __init__, its text -/
def iniOf (s : Stmt) : Stmt := match s with
  | .ClassDef _ _ _ b _ _ _ _ _ _ _ => b.getD 0 (.Pass ⟨0, 0, 0, 0⟩)
  | _ => .Pass ⟨0, 0, 0, 0⟩
theorem all_nil {P : Str → Prop} : ∀ n ∈ ([] : List Str), P n := fun _ h => by simp at h
theorem all_cons {P : Str → Prop} {a : Str} {l : List Str} (h : P a) (t : ∀ n ∈ l, P n) : ∀ n ∈ a :: l, P n := fun n hn => by
  rcases List.mem_cons.mp hn with z | z
  · rw [z]; exact h
  · exact t n z
theorem passW {X : Cx} {F : Fx} : Pf X F.noW := fun σ pins H s e s' I h => by
  obtain ⟨_, _, _, _, _, _, _, _, _, _, _, _, z⟩ := h
  exact z.elim
theorem ex_base {K : PySem.W.Frag} {mg : Str → Option Value} {B : Addr} {names : List Str} (TB : OwnB K mg "RetryError" B) : ∀ n ∈ names, ∀ C, OwnE K mg "RetryError" B n C → PySem.W.exmOne K (.ref C) (.ref B) = some true := fun n _ C T =>
  PySem.W.exm_ref TB.exC TB.hd TB.tyC (by rw [T.mro]; simp)
theorem ex_own {K : PySem.W.Frag} {mg : Str → Option Value} {B C' : Addr} {y : Str} {names : List Str} (T' : OwnE K mg "RetryError" B y C') (TB : OwnB K mg "RetryError" B) (h : y ≠ "RetryError" := by decide) : ∀ n ∈ names, ∀ C, OwnE K mg "RetryError" B n C → PySem.W.exmOne K (.ref C) (.ref C') = some (decide (n = y)) := fun n _ C T =>
  PySem.W.exm_ref T'.exC T'.hd T'.tyC (by
    have neB := T'.neB TB h
    rw [T.mro]
    by_cases e : n = y
    · subst e
      have e2 : C = C' := by
        have z := T.g.symm.trans T'.g
        cases z
        rfl
      subst e2
      simp
    · have ne := T.ne T' e
      have ne' : C' ≠ C := fun z => ne z.symm
      simp [ne', neB, e])
section
variable {K : PySem.W.Frag} {h : Heap} {mg : Str → Option Value} {bx x : Str}
theorem ownB_mk {B N : Addr} {q : Str} {bs sub : List Value} {sn : List Str} {ab : Bool} {col : Option Bool} {dd : Option Addr} {k0 k1 k2 k3 k5 : Option Value} (X : K.In h) (G : h.Ns mainGlobals mg)
    (a : PySem.W.nsIn K mainGlobals bx = some (some (.ref B))) (l : K.lookup B = some (excClassObj bx q B N bs [.type "ValueError", .type "Exception", .type "BaseException", .type "object"] true sn sub ab col dd k0 k1 k2 k3 k5 "ValueError.__new__"))
    (sg : PySem.W.specialIn K (.ref B) "__getattribute__" = some (some (.builtin "type.__getattribute__"))) (rd : PySem.W.readsIn K B (.type "type") = true)
    (vi : PySem.W.findCls K (.ref B) (.type "type") "__init__" = some (.val (.builtin "ValueError.__init__"))) (ty : PySem.W.typeIn K (.ref B) = some (.type "type")) : OwnB K mg bx B :=
  ⟨PySem.W.mg_of X G a, sg, rd, vi, ty, ⟨_, _, _, _, _, _, _, _, _, _, _, _, _, l⟩⟩
theorem ownE_mk {B C N f : Addr} {q qual : Str} {bs sub : List Value} {sn : List Str} {ab : Bool} {col : Option Bool} {dd : Option Addr} {k0 k1 k2 k3 k5 : Option Value} {st : Stmt} {od an : Option Addr} {sl : Array (Option Value)} {oc kV dc pm cd ct : Value} (X : K.In h) (G : h.Ns mainGlobals mg)
    (a : PySem.W.nsIn K mainGlobals x = some (some (.ref C))) (l : K.lookup C = some (excClassObj x q C N bs [.ref B, .type "ValueError", .type "Exception", .type "BaseException", .type "object"] true sn sub ab col dd k0 k1 k2 k3 k5 "ValueError.__new__"))
    (sa : PySem.W.findIn K (.ref C) "__setattr__" = some (some (.builtin "object.__setattr__"))) (ga : PySem.W.findIn K (.ref C) "__getattribute__" = some (some (.builtin "BaseException.__getattribute__"))) (gg : PySem.W.findIn K (.ref C) "__getattr__" = some none) (nv : PySem.W.findIn K (.ref C) "value" = some none)
    (ha : PySem.W.findIn K (.ref C) "__class__" = some (some (.builtin "object.__class__"))) (kC : PySem.W.keepIn K (.ref C) = true) (ty : PySem.W.typeIn K (.ref C) = some (.type "type"))
    (i : PySem.W.findIn K (.ref C) "__init__" = some (some (.ref f))) (ti : PySem.W.typeIn K (.ref f) = some (.type "function"))
    (lf : K.lookup f = some ⟨oc, od, .func (PySem.W.fnOf "__init__" qual (defArgs st) (defBody st) (defScope st) .none kV dc pm an cd ct), sl⟩) (cf : PySem.W.codeIn K cd qual = true) (kf : PySem.W.keepIn K (.ref f) = true)
    (hb : ∀ (kV doc pm : Value) (an : Option Addr) (cdv ct : Value) (us : List Value), us.length = (["self", "value"] : List Str).length → bindArgs (PySem.W.fnOf "__init__" qual (defArgs st) (defBody st) (defScope st) .none kV doc pm an cdv ct) ⟨us, []⟩ = pure ((["self", "value"] : List Str).zip us))
    (hs : defScope st = iniS bx) {m : Str} {j : Nat} {p1 p2 p3 p4 p5 p6 q1 q2 q3 q4 : Pos} (hbd : defBody st = iniB bx m j p1 p2 p3 p4 p5 p6 q1 q2 q3 q4) (hp : IniP bx m j p1 p2 p3 p4 p5 p6 q1 q2 q3 q4) : OwnE K mg bx B x C :=
  ⟨PySem.W.mg_of X G a, ⟨_, _, _, _, _, _, _, _, _, _, _, _, _, l⟩, sa, ga, gg, nv, ha, kC, ty, f, _, st, qual, fun_mk lf cf kf, i, ti, (fun_mk (st := st) lf cf kf).binds hb, hs, m, j, p1, p2, p3, p4, p5, p6, q1, q2, q3, q4, hbd, hp⟩
end
section
variable {P : Program} {w : World} {K : PySem.W.Frag} {mg : Str → Option Value} {base : Heap}
/-- fnv_mk, for a def that raises or catches -/
theorem fnv_mkX {x qual : Str} {st : Stmt} {f : Addr} {fd : FuncData} {N ps : List Str} {k : Nat} {io : Option Nat} {kr : Nat} {body : Rho → SO} (nN np : Nat) (G0 G' : List Nat) (F : Fun K x qual st f fd) (S : FnScope N ps (defScope st)) (hN : N.length = nN) (hP : ps.length = np)
    (hG0 : gam io np ++ List.replicate (nN - np) 0 = G0) (hio : io = none ∨ 0 < np) (hps : np ≤ nN)
    (Bd : ∀ (X : Cx) (EX : XK), (∃ (cdv : Value) (A : Around) (outer : List Env) (s : Shared) (H : Hp), X = cxOf (L2.CX P w) P w K mg base N qual (defScope st) f cdv A outer s H EX) → X.A.guards = some [] → Room k X.A → Tk X (fxOf EX io kr) → Pf X (fxOf EX io kr) → PassesOwn (model X.prog X.w) X.A X.env X.xe → PBk X (fxOf EX io kr) G0 G' (defBody st) body)
    (hG : ∀ m, io = some m → gget G' 0 = m) :
    FnV P w K mg base (k + 1) f fd ps io kr (runF io nN np body) := by
  subst hN; subst hP; subst hG0
  exact fnv_of F S hio hps (fun cdv A outer s H E gd hr => Bd _ E ⟨cdv, A, outer, s, H, rfl⟩ gd hr (takes_of rfl rfl rfl rfl) (passAt (takes_of rfl rfl rfl rfl)) (passes_of rfl)) hG
end
end VL

/-! VX5: dict comprehensions whose keys are all new. -/
namespace VL
open PySem PySem.Spec L2
section
variable {X : Cx} {F : Fx} {G G1 G2 G3 G4 G' Gt Gs Gk Gn : List Nat} {k k1 k2 : Nat} {e a b tg iter elt kx vx : Expr} {es ifs : List Expr} {pos p : Pos} {st : Stmt} {sts : List Stmt}
theorem dct_fresh {c s c1 s1 cr sr : Cnt} {H H' : Hp} {p : Addr} {xs : List (Key × V)} (st : Step c s H (add c1 cr) (add s1 sr) H') (dm : Dom (add c1 cr) (add s1 sr) H') (hp : H' p = none) :
    Step c s H (add c1 (add (one p) cr)) (add s1 sr) (L2.upd H' p (.dK xs)) := by
  have nz : ∀ {n : Cnt}, (∀ a, n a ≤ add c1 cr a) ∨ (∀ a, n a ≤ add s1 sr a) → n p = 0 := fun {n} h => by
    have d := dm p
    rcases h with h | h
    · by_cases q : 0 < n p
      · obtain ⟨o, e, _⟩ := d.1 (Nat.lt_of_lt_of_le q (h p))
        rw [hp] at e; cases e
      · omega
    · by_cases q : 0 < n p
      · obtain ⟨o, e, _⟩ := d.2 (Nat.lt_of_lt_of_le q (h p))
        rw [hp] at e; cases e
      · omega
  have e1 : add c1 cr p = 0 := nz (.inl fun _ => Nat.le_refl _)
  have e2 : add s1 sr p = 0 := nz (.inr fun _ => Nat.le_refl _)
  have hH : H p = none := by
    cases e : H p with
    | none => rfl
    | some o => exact absurd hp (st.dom p (by rw [e]; exact fun z => nomatch z))
  refine ⟨fun a h => ?_, fun a h => st.sh a h, fun a o e h => ?_, fun a h => ?_, fun a => ?_⟩
  · by_cases q : a = p
    · subst q; exact .inr hH
    · refine st.own a ?_
      simp only [add_at, one_ne q] at h ⊢
      omega
  · rw [upd_ne (ne_of_none e hH)]
    exact st.keep a o e h
  · by_cases q : a = p
    · subst q; exact absurd hH h
    · rw [upd_ne q]; exact st.dom a h
  · have := st.ok a
    by_cases q : a = p
    · subst q
      simp only [add_at, one_same] at this e1 e2 ⊢
      omega
    · simp only [add_at, one_ne q] at this ⊢
      omega
def dcD (vs : List Nat) (g : D → Rho → Option Rho) (ts : Rho → R Bool) (fk fe : Rho → R D) : List D → List (Key × D) → Rho → R (List (Key × D))
  | [], acc, r => .ok acc r
  | d :: ds, acc, r => match g d r with
    | none => .no
    | some r1 => match ts r1 with
      | .ok true r2 => (match fk r2 with
        | .ok kd r3 => (match keyD kd with
          | some key => (match dlk acc key with
            | none => (match fe r3 with
              | .ok e r4 => dcD vs g ts fk fe ds (acc ++ [(key, e)]) (wipeR r4 vs)
              | _ => .no)
            | some _ => .no)
          | none => .no)
        | _ => .no)
      | .ok false r2 => dcD vs g ts fk fe ds acc (wipeR r2 vs)
      | _ => .no
def dcomp (vs : List Nat) (fi : Rho → R (List D)) (g : D → Rho → Option Rho) (ts : Rho → R Bool) (fk fe : Rho → R D) : Rho → R D := fun r =>
  (fi r).bind fun ds r1 => if ds.length ≤ 100000 then (dcD vs g ts fk fe ds [] (wipeR r1 vs)).bind fun out r2 => .ok (.dct out) r2 else .no
theorem dc_read (G2 : List Nat) {vs : List Nat} {fi : Rho → R (List D)} {g : D → Rho → Option Rho} {ts : Rho → R Bool} {fk fe : Rho → R D} (I : PIt X F G G1 tg iter fi)
    (h1 : leG G2 G1 = true) (h2 : leG G2 Gn = true) (h3 : leG G2 Gs = true) :
    ∃ wi, PI X tg iter wi ∧ ∀ σ H r c s Q, SR X.K H G r σ c s → Ok c s → OutX X F c s H σ (OkE X G2 (k + 1) c s H σ Q) (dcomp vs fi g ts fk fe r) → tDc wi (rdG X G2 Gt vs g) (rdT X F.nox Gt Gs ts) (rdE X F.nox Gs Gk 0 fk) (rdE X F.nox Gk Gn k fe) vs σ H Q := by
  obtain ⟨wi, hwi, qi⟩ := I.go
  refine ⟨_, hwi, ?_⟩
  intro σ H r c s Q sr ok h
  unfold dcomp at h
  refine qi σ H r c s _ sr ok (h.bind.mono fun ds r1 h4 => ?_)
  by_cases hl : ds.length ≤ 100000
  case neg => rw [if_neg hl] at h4; exact fun J H1 c1 s1 sI W x wk w1 st => False.elim h4
  rw [if_pos hl] at h4
  intro J H1 c1 s1 sI W x wk w1 st D0 hD
  refine ⟨fun i m H' => m = ds.length - i ∧ i ≤ ds.length ∧ ∃ (r' : Rho) (c' s' : Cnt) (acc : List (Key × D)) (va : List (Key × V)) (cA sA : Cnt), acc.length ≤ i ∧ SR X.K H' G2 (wipeR r' vs) (L2.wipe σ vs) c' s' ∧ W H' ∧ H' D0 = some (.dK va) ∧ va.map (·.1) = acc.map (·.1) ∧ Reps X.K H' k (acc.map (·.2)) (va.map (·.2)) cA sA ∧ Step c s H (add c' (add (one D0) cA)) (add (add s' sA) sI) H' ∧
    OutX X F c s H σ (OkE X G2 (k + 1) c s H σ Q) ((dcD vs g ts fk fe (ds.drop i) acc (wipeR r' vs)).bind fun out r2 => .ok (.dct out) r2), ?_, ?_⟩
  · obtain ⟨c', s', x', w⟩ := x.wk (LeG.of h1)
    obtain ⟨c2, s2, x2, hc2, hs2⟩ := x'.wipe vs
    have ke := ex_upd (o := .dK []) hD
    refine ⟨ds.length, by simp, Nat.zero_le _, r1, c2, s2, [], [], z0, z0, Nat.zero_le _, x2.keep (ex_kp ke), wk.keep _ _ w1 (ex_kp ke), upd_same, rfl, .nil, ?_, h4⟩
    have st' : Step c s H c' (add s' sI) H1 := st.wk (by have q := w.add (Wk.refl z0 sI); rw [add_z, add_z] at q; exact q)
    have st2 : Step c s H (add c2 z0) (add s2 sI) H1 := by
      rw [add_z]
      exact st'.less hc2 (fun a ha => by have := hs2 a; simp only [add_at] at ha ⊢; omega)
    have dm : Dom (add c2 z0) (add s2 sI) H1 := x2.dom.add (wk.dom H1 w1)
    have q := dct_fresh (xs := []) st2 dm hD
    rw [add_z (s2)]
    exact q
  · rintro i m H' ⟨rfl, hi, r', c', s', acc, va, cA, sA, hacc, x', w', hD', hkk, ra, st', o⟩
    by_cases hlt : i < ds.length
    · have hd : ds[i]? = some ds[i] := List.getElem?_eq_getElem hlt
      rw [List.drop_eq_getElem_cons hlt] at o
      unfold dcD at o
      cases eg : g ds[i] (wipeR r' vs) with
      | none => simp only [eg] at o; exact False.elim o
      | some r2 =>
        simp only [eg] at o
        refine .inr ⟨wk.go H' i w' hlt, fun H' => ∃ (r' : Rho) (c' s' : Cnt) (acc : List (Key × D)) (va : List (Key × V)) (cA sA : Cnt), acc.length ≤ i + 1 ∧ SR X.K H' G2 (wipeR r' vs) (L2.wipe σ vs) c' s' ∧ W H' ∧ H' D0 = some (.dK va) ∧ va.map (·.1) = acc.map (·.1) ∧ Reps X.K H' k (acc.map (·.2)) (va.map (·.2)) cA sA ∧ Step c s H (add c' (add (one D0) cA)) (add (add s' sA) sI) H' ∧
          OutX X F c s H σ (OkE X G2 (k + 1) c s H σ Q) ((dcD vs g ts fk fe (ds.drop (i + 1)) acc (wipeR r' vs)).bind fun out r2 => .ok (.dct out) r2), fun H2 hN => ⟨ds.length - (i + 1), by omega, rfl, hlt, hN⟩, fun y H2 hy => ?_⟩
        obtain ⟨si, ry, hsi, hk⟩ := wk.yld H' i y H2 ds[i] w' hd hy
        have x2 := x'.keep (ex_kp hk)
        have w2 := wk.keep H' H2 w' (ex_kp hk)
        have ra2 := ra.keep (ex_kp hk)
        have hD2 := hk _ _ hD'
        -- what is put aside: the list that grows, what is walked
        have st2 : Step c s H (add (add c' (add (one D0) cA)) z0) (add (add (add s' si) sA) sI) H2 := by
          have q := (st'.ext hk).dup hsi
          rw [add_z]
          have e : add (add (add s' sA) si) sI = add (add (add s' si) sA) sI := by rw [add_assoc' s' sA si, add_comm' sA si, ← add_assoc']
          rw [← e]
          exact q
        have okk : Ok c' (add s' si) := fun z => by have := st2.ok z; simp only [add_at] at this ⊢; omega
        have okF : Ok (add c' (add (one D0) cA)) (add (add s' si) (add sA sI)) := fun z => by have := st2.ok z; simp only [add_at, z_at] at this ⊢; omega
        have domF : Dom (add (one D0) cA) (add sA sI) H2 := by
          have d1 : Dom (add (one D0) cA) sA H2 := Dom.addC hD2 trivial ra2.dom
          have q := d1.add (wk.dom H2 w2)
          rw [add_z] at q
          exact q
        refine ⟨wipeR r' vs, c', s', ds[i], si, r2, x2, okk, ry, eg, fun σ3 c3 s3 x3 hw3 st3 => ?_⟩
        have hw3' : L2.wipe σ3 vs = L2.wipe σ vs := hw3.trans (wipe_wipe_set σ vs)
        have back : ∀ {c4 s4 H4}, Step c3 s3 H2 c4 s4 H4 → Step c s H (add c4 (add (one D0) cA)) (add s4 (add sA sI)) H4 := fun {c4 s4 H4} z => by
          have q := (st3.trans z).frame okF domF
          have st2' : Step c s H (add c' (add (one D0) cA)) (add (add s' si) (add sA sI)) H2 := by
            have e : add (add (add s' si) sA) sI = add (add s' si) (add sA sI) := add_assoc' _ _ _
            rw [add_z, e] at st2
            exact st2
          exact st2'.trans q
        have aside : ∀ {c4 s4 H4}, Step c3 s3 H2 c4 s4 H4 → Kp (add (one D0) cA) (add sA sI) H2 H4 := fun {c4 s4 H4} z => (st3.trans z).aside okF
        have kD : ∀ {H4}, Kp (add (one D0) cA) (add sA sI) H2 H4 → H4 D0 = some (.dK va) ∧ Reps X.K H4 k (acc.map (·.2)) (va.map (·.2)) cA sA ∧ W H4 := fun {H4} kp =>
          ⟨kp D0 _ hD2 (.inl (one_add_pos _ _)), ra2.keep (fun a o e z => kp a o e (by simp only [add_at]; rcases z with z | z | z; exact .inl (by omega); exact .inr (.inl (by omega)); exact .inr (.inr z))), wk.keep H2 H4 w2 (fun a o e z => kp a o e (by simp only [add_at, z_at] at z ⊢; rcases z with z | z | z; exact absurd z (Nat.lt_irrefl 0); exact .inr (.inl (by omega)); exact .inr (.inr z)))⟩
        refine ⟨hw3', r2, c3, s3, x3, st3.ok, ?_⟩
        cases et : ts r2 with
        | no => simp only [et] at o; exact False.elim o
        | ex n d r3 => simp only [et] at o; exact False.elim o
        | ok bb r3 =>
          intro H4 c4 s4 x4 z4
          cases bb with
          | false =>
            simp only [et] at o
            show if false = true then _ else _
            rw [if_neg Bool.false_ne_true]
            obtain ⟨c5, s5, x5, w5⟩ := x4.wk (LeG.of h3)
            obtain ⟨c6, s6, x6, hc6, hs6⟩ := x5.wipe vs
            rw [hw3'] at x6
            obtain ⟨d1, d2, d3⟩ := kD (aside z4)
            refine ⟨r3, c6, s6, acc, va, cA, sA, by omega, x6, d3, d1, hkk, d2, ?_, o⟩
            have q := (back z4).wk ((w5.add (Wk.refl (add (one D0) cA) (add sA sI))))
            rw [← add_assoc'] at q
            exact q.less (fun a => by have := hc6 a; simp only [add_at]; omega) (fun a ha => by have := hs6 a; simp only [add_at] at ha ⊢; omega)
          | true =>
            simp only [et] at o
            show if true = true then _ else _
            rw [if_pos rfl]
            cases ek : fk r3 with
            | no => simp only [ek] at o; exact False.elim o
            | ex n d r4 => simp only [ek] at o; exact False.elim o
            | ok kd r4 =>
            simp only [ek] at o
            cases ekd : keyD kd with
            | none => simp only [ekd] at o; exact False.elim o
            | some key =>
            simp only [ekd] at o
            cases elk : dlk acc key with
            | some _ => simp only [elk] at o; exact False.elim o
            | none =>
            simp only [elk] at o
            cases ef : fe r4 with
            | no => simp only [ef] at o; exact False.elim o
            | ex n d r5 => simp only [ef] at o; exact False.elim o
            | ok d r5 =>
              simp only [ef] at o
              refine ⟨r3, c4, s4, x4, z4.ok, ?_⟩
              rw [ek]
              intro vk H5 c5 s5 crk srk x5 rpk z5
              obtain ⟨rfl, rfl, rfl⟩ := rep_key rpk ekd
              simp only [add_z] at z5
              refine ⟨r4, c5, s5, x5, z5.ok, ?_⟩
              rw [ef]
              intro v H6 c6 s6 cr srr x6 rp z6
              have zz := (z4.trans z5).trans z6
              obtain ⟨d1, d2, d3⟩ := kD (aside zz)
              have hlen : acc.length = va.length := by
                have z := congrArg List.length hkk
                rw [List.length_map, List.length_map] at z
                exact z.symm
              refine ⟨va, key, rfl, d1, by rw [← hlen]; exact Nat.lt_of_le_of_lt (Nat.le_trans hacc (Nat.le_trans hi hl)) (by decide), ?_⟩
              have hput : putK va key v = va ++ [(key, v)] := putK_new v ((dlk_val hkk d2 key).1 elk)
              rw [hput]
              obtain ⟨c7, s7, x7, w7⟩ := x6.wk (LeG.of h2)
              obtain ⟨c8, s8, x8, hc8, hs8⟩ := x7.wipe vs
              rw [hw3'] at x8
              have q0 := back zz
              have e0 : ∀ x y z u : Cnt, add (add x y) (add z u) = add x (add z (add u y)) := fun x y z u => by funext a; simp only [add]; omega
              rw [e0, e0] at q0
              have q := q0.wk (w7.add (Wk.refl (add (one D0) (add cA cr)) (add sA (add sI srr))))
              have okq := q.ok D0
              have kp : ∀ {c s : Cnt}, c D0 = 0 → s D0 = 0 → Kp c s H6 (L2.upd H6 D0 (.dK (va ++ [(key, v)]))) := fun {c s} e1 e2 a o e z => by
                by_cases ha : a = D0
                · subst ha
                  rcases z with z | z | z
                  · omega
                  · omega
                  · rw [d1] at e; cases e; exact z.elim
                · rw [upd_ne ha]; exact e
              simp only [add_at, one_same] at okq
              have hc8' := hc8 D0; have hs8' := hs8 D0
              refine ⟨r5, c8, s8, acc ++ [(key, d)], va ++ [(key, v)], add cA cr, add sA srr, by rw [List.length_append]; show acc.length + 1 ≤ _; omega, x8.keep (kp (by omega) (by omega)), wk.keep _ _ d3 (kp rfl (by omega)), upd_same, by rw [List.map_append, List.map_append, hkk]; rfl, ?_, ?_, o⟩
              · rw [List.map_append, List.map_append]
                exact Reps.snoc (rp.keep (kp (by omega) (by omega))) (d2.keep (kp (by omega) (by omega)))
              have nH : ∀ a o, H a = some o → c a = 0 ∨ tupO o → a ≠ D0 := fun a o e z ha => by
                subst ha
                have := q.keep a o e z
                rw [d1] at this
                cases this
                rcases z with z | z
                · rcases q.own a (by simp only [add_at, one_same]; omega) with z2 | z2
                  · omega
                  · rw [e] at z2; cases z2
                · exact z.elim
              refine ⟨fun a ha => q.own a ?_, fun a ha => q.sh a ?_, fun a o e z => ?_, fun a ha => ?_, fun a => ?_⟩
              · have := hc8 a
                simp only [add_at] at ha ⊢; omega
              · have h7 := hs8 a
                simp only [add_at] at ha ⊢; omega
              · rw [upd_ne (nH a o e z)]
                exact q.keep a o e z
              · by_cases hz : a = D0
                · subst hz; rw [upd_same]; exact fun z => nomatch z
                · rw [upd_ne hz]; exact q.dom a ha
              · have h6 := q.ok a; have h7 := hs8 a; have h10 := hc8 a
                simp only [add_at] at h6 ⊢
                omega
    · obtain rfl : i = ds.length := by omega
      rw [List.drop_length] at o
      refine .inl ⟨wk.stop H' w', ?_⟩
      exact o (.ref D0) H' c' s' (add (one D0) cA) sA x'.unwipe (.dctS hD' rfl hkk rfl ra) (st'.less (fun _ => Nat.le_refl _) (fun a ha => by simp only [add_at] at ha ⊢; omega))
/-- {k: v for tg in iter if ..} -/
theorem v_dc (G2 : List Nat) (own : List (Str × Nat)) {scope : Scope} {fi : Rho → R (List D)} {g : D → Rho → Option Rho} {ts : Rho → R Bool} {fk fe : Rho → R D} (hc : X.calm = true) (nd : X.N.Nodup) (I : PIt X F G G1 tg iter fi) (okb : BlkOk X.N X.env.scope scope own)
    (T : ∀ (s : Shared) (H : Hp) (C : Addr) (cl : List (Str × Addr)) (fp : List Addr), PTo (X.blk s H scope (compEnvC scope cl C X.env) fp) F.nox G2 Gt (own.map (·.2)) tg g)
    (Ts : ∀ (s : Shared) (H : Hp) (C : Addr) (cl : List (Str × Addr)) (fp : List Addr), PTst (X.blk s H scope (compEnvC scope cl C X.env) fp) F.nox Gt Gs ifs ts)
    (Ek : ∀ (s : Shared) (H : Hp) (C : Addr) (cl : List (Str × Addr)) (fp : List Addr), PV (X.blk s H scope (compEnvC scope cl C X.env) fp) F.nox Gs Gk 0 kx fk)
    (E : ∀ (s : Shared) (H : Hp) (C : Addr) (cl : List (Str × Addr)) (fp : List Addr), PV (X.blk s H scope (compEnvC scope cl C X.env) fp) F.nox Gk Gn k vx fe)
    (h1 : leG G2 G1 = true := by rfl) (h2 : leG G2 Gn = true := by rfl) (h3 : leG G2 Gs = true := by rfl) (hs : ∀ x, foldedSetIterable iter X.env x = pure x := by intro _; rfl) :
    PV X F G G2 (k + 1) (.DictComp kx vx [⟨tg, iter, ifs, 0⟩] scope pos) (dcomp (own.map (·.2)) fi g ts fk fe) := by
  obtain ⟨wi, hwi, q⟩ := dc_read (k := k) (Gt := Gt) (Gs := Gs) (Gk := Gk) (vs := own.map (·.2)) (g := g) (ts := ts) (fk := fk) (fe := fe) G2 I h1 h2 h3
  exact ⟨_, pe_dc hc nd hwi okb (g := rdG X G2 Gt (List.map (fun p : Str × Nat => p.2) own) g) (tt := rdT X F.nox Gt Gs ts) (tk := rdE X F.nox Gs Gk 0 fk) (tv := rdE X F.nox Gk Gn k fe) (fun s H C cl fp => (T s H C cl fp).pg) (fun s H C cl fp => (Ts s H C cl fp).pt) (fun s H C cl fp => (Ek s H C cl fp).pe) (fun s H C cl fp => (E s H C cl fp).pe) hs, q⟩
/-- y = {k: v for tg in iter if ..} on one line, y a local name -/
theorem s_setDc (i : Nat) (G2 : List Nat) (own : List (Str × Nat)) {scope : Scope} {y : Str} {py spos : Pos} {fi : Rho → R (List D)} {g : D → Rho → Option Rho} {ts : Rho → R Bool} {fk fe : Rho → R D} (hc : X.calm = true) (nd : X.N.Nodup) (I : PIt X F G G1 tg iter fi) (okb : BlkOk X.N X.env.scope scope own)
    (T : ∀ (s : Shared) (H : Hp) (C : Addr) (cl : List (Str × Addr)) (fp : List Addr), PTo (X.blk s H scope (compEnvC scope cl C X.env) fp) F.nox G2 Gt (own.map (·.2)) tg g)
    (Ts : ∀ (s : Shared) (H : Hp) (C : Addr) (cl : List (Str × Addr)) (fp : List Addr), PTst (X.blk s H scope (compEnvC scope cl C X.env) fp) F.nox Gt Gs ifs ts)
    (Ek : ∀ (s : Shared) (H : Hp) (C : Addr) (cl : List (Str × Addr)) (fp : List Addr), PV (X.blk s H scope (compEnvC scope cl C X.env) fp) F.nox Gs Gk 0 kx fk)
    (E : ∀ (s : Shared) (H : Hp) (C : Addr) (cl : List (Str × Addr)) (fp : List Addr), PV (X.blk s H scope (compEnvC scope cl C X.env) fp) F.nox Gk Gn k vx fe)
    (hi : X.N[i]? = some y) (hyl : X.env.scope.names.lookup y = some .local) (hsw : swapsWith (.DictComp kx vx [⟨tg, iter, ifs, 0⟩] scope pos) (some (.Name y py)) spos.line X.env = pure true)
    (hp : Fr F i := by first | exact ⟨Or.inl rfl, rfl⟩ | exact ⟨Or.inr (by decide), rfl⟩) (hl : i < G.length := by decide)
    (h1 : leG G2 G1 = true := by rfl) (h2 : leG G2 Gn = true := by rfl) (h3 : leG G2 Gs = true := by rfl) (hs : ∀ x, foldedSetIterable iter X.env x = pure x := by intro _; rfl) :
    PSt X F G (G2.set i (k + 1)) (.Assign [.Name y py] (.DictComp kx vx [⟨tg, iter, ifs, 0⟩] scope pos) spos) (dSet i (dcomp (own.map (·.2)) fi g ts fk fe)) := by
  obtain ⟨wi, hwi, q⟩ := dc_read (k := k) (Gt := Gt) (Gs := Gs) (Gk := Gk) (vs := own.map (·.2)) (g := g) (ts := ts) (fk := fk) (fe := fe) G2 I h1 h2 h3
  refine ⟨fun Dn σ H => tDc wi (rdG X G2 Gt (List.map (fun p : Str × Nat => p.2) own) g) (rdT X F.nox Gt Gs ts) (rdE X F.nox Gs Gk 0 fk) (rdE X F.nox Gk Gn k fe) (own.map (·.2)) σ H fun x H1 => Dn.nx (σ.set i (some x)) H1, ⟨fun pins s σ H Dn J want => ?_⟩, fun v0 σ H r c s Dn sr ok pr h => q σ H r c s _ sr ok (OutS.useX pr h fun d r1 h2 => ?_)⟩
  · rw [exec_Assign_Name_used _ _ _ _ hsw]
    refine wpAny_bind (wpAny_standAt (wpAny_bind ?_))
    refine wpAny_bind (wpAny_mono (dc_core (use := some (assign (.Name y py) X.env)) (Qf := fun _ s1 => SP X pins Dn .next s1) hc nd J hwi okb (g := rdG X G2 Gt (List.map (fun p : Str × Nat => p.2) own) g) (tt := rdT X F.nox Gt Gs ts) (tk := rdE X F.nox Gs Gk 0 fk) (tv := rdE X F.nox Gk Gn k fe)
      (fun s H C cl fp => (T s H C cl fp).pg) (fun s H C cl fp => (Ts s H C cl fp).pt) (fun s H C cl fp => (Ek s H C cl fp).pe) (fun s H C cl fp => (E s H C cl fp).pe) hs want fun L C s1 m H1 J1 nxt hn fpo => ?_) (fun _ _ done => wpAny_pure (wpAny_pure done)) fun _ _ z => z)
    show wpAny _ _ (assign (.Name y py) X.env (.ref L)) _ _ _
    refine wpAny_assign_Name (store_ok2 (v := V.ref L) J1 nd hi (.inl hyl) rfl (fun s2 J2 left => ?_) (.inr hyl))
    obtain ⟨a, sb, ha⟩ := left
    obtain ⟨g0, g1, g2, g3, g4, g5⟩ := fpo
    have far : C ≠ a := by
      rcases ha with z | z
      · intro e
        exact g1 (e.trans z)
      · intro e
        exact g4 y a z e.symm
    exact ⟨m, hn.sameBut sb far, fun h3 sb3 => ⟨_, H1, J2.turned (t' := s2.toks) (fun b o hb e => (sb3.2 b hb).trans e) g0 g1 g3 g4 g5, nxt⟩⟩
  · intro v H' c1 s1 cr sr' x rp y
    have hlen : i < r1.length := by
      have e1 := x.lenS
      have e2 := sr.lenS
      have e3 := sr.lenG
      omega
    obtain ⟨c2, s2, x2, hc, hs2⟩ := x.fill hlen rp
    exact h2 (σ.set i (some v)) H' _ _ x2 (pr.set hp) (y.less (fun z => by have := hc z; simp only [add_at]; omega) (fun z hz => by have := hs2 z; simp only [add_at] at hz ⊢; omega))
end
end VL

/-! VLW6: as VLW, of VX1 .. VX5 -/
namespace VL
open PySem PySem.Spec
section
variable {QD : D → Rho → Prop} {QL : List D → Rho → Prop} {QK : List (L2.Key × D) → Rho → Prop} {X : Str → D → Rho → Prop} {N : Rho → Prop} {Z : SO → Prop} {r : Rho}
@[simp] theorem vOf_int {i : Int} : vOf (.int i) = some (.int i) := (rfl)
@[simp] theorem vOf_str {x : Str} : vOf (.str x) = some (.str x) := (rfl)
def kRz (n : Str) (Z : SO → Prop) (d : D) (r : Rho) : Prop := if (vOf d).isSome = true then Z (.ex n d r) else False
@[simp] theorem kRz_ap {n : Str} {d : D} : kRz n Z d r = if (vOf d).isSome = true then Z (.ex n d r) else False := (rfl)
@[simp ↓ high] theorem WS_raise {n : Str} {f : Rho → R D} : WS (dRaise n f r) N Z = WR (f r) (kRz n Z) (kX Z) := by
  unfold dRaise
  rw [WS_then]
  cases f r with
  | ok d r1 =>
    show WS (if (vOf d).isSome = true then .ex n d r1 else .no) N Z = if (vOf d).isSome = true then Z (.ex n d r1) else False
    by_cases h : (vOf d).isSome = true
    · rw [if_pos h, if_pos h]; rfl
    · rw [if_neg h, if_neg h]; rfl
  | _ => rfl
def tZ (i : Nat) (names : List Str) (caught : Str → Bool) (fs : Addr → Str → D → Rho → SO) (N : Rho → Prop) (Z : SO → Prop) : SO → Prop
  | .ex n x r1 => n ∈ names ∧ if caught n = true then WS (pick fun a => clr i (fs a n x (r1.set i (some (.fn a))))) N Z else Z (.ex n x r1)
  | o => Z o
section
variable {i : Nat} {names : List Str} {caught : Str → Bool} {fs : Addr → Str → D → Rho → SO}
@[simp] theorem tZ_rt {d : D} : tZ i names caught fs N Z (.rt d r) = Z (.rt d r) := (rfl)
@[simp] theorem tZ_bk : tZ i names caught fs N Z (.bk r) = Z (.bk r) := (rfl)
@[simp] theorem tZ_ct : tZ i names caught fs N Z (.ct r) = Z (.ct r) := (rfl)
@[simp] theorem tZ_ex {n : Str} {x : D} : tZ i names caught fs N Z (.ex n x r) = (n ∈ names ∧ if caught n = true then WS (pick fun a => clr i (fs a n x (r.set i (some (.fn a))))) N Z else Z (.ex n x r)) := (rfl)
@[simp ↓ high] theorem WS_try {fb : Rho → SO} : WS (dTry i names caught fb fs r) N Z = WS (fb r) N (tZ i names caught fs N Z) := by
  unfold dTry
  cases fb r with
  | ex n x r1 =>
    show WS (if n ∈ names then (if caught n = true then pick fun a => clr i (fs a n x (r1.set i (some (.fn a)))) else .ex n x r1) else .no) N Z = (n ∈ names ∧ _)
    by_cases h : n ∈ names
    · rw [if_pos h]
      by_cases h2 : caught n = true
      · rw [if_pos h2, if_pos h2]; exact propext ⟨fun z => ⟨h, z⟩, fun z => z.2⟩
      · rw [if_neg h2, if_neg h2]; exact propext ⟨fun z => ⟨h, z⟩, fun z => z.2⟩
    · rw [if_neg h]; exact propext ⟨fun z => z.elim, fun z => h z.1⟩
  | _ => rfl
end
/-- a suite that says the same whatever the error's address -/
theorem WS_pick {f : Addr → SO} {i : Nat} (o : SO) (h : ∀ a, WS (f a) (fun r => o = .nx (r.set i none)) (fun o' => clr i o' = o)) (ho : WS o N Z) : WS (pick fun a => clr i (f a)) N Z := by
  rw [pick_eq (o := o) fun a => ?_]
  · exact ho
  · have q := h a
    cases e : f a with
    | nx r => rw [e] at q; exact (show o = .nx (r.set i none) from q).symm
    | no => rw [e] at q; exact q.elim
    | rt d r => rw [e] at q; exact q
    | bk r => rw [e] at q; exact q
    | ct r => rw [e] at q; exact q
    | ex n d r => rw [e] at q; exact q
def hasO (a : Addr) : Option D → Bool
  | some (.fn b) => b == a
  | _ => false
@[simp] theorem hasE_ap {a : Addr} {i : Nat} : hasE a i r = hasO a (rget r i) := (rfl)
@[simp] theorem hasO_fn {a : Addr} : hasO a (some (.fn a)) = true := by simp [hasO]
@[simp] theorem clr_rt {i : Nat} {d : D} : clr i (.rt d r) = .rt d (r.set i none) := (rfl)
@[simp] theorem clr_nx {i : Nat} : clr i (.nx r) = .nx (r.set i none) := (rfl)
@[simp ↓ high] theorem W_dIsE {a : Addr} {i : Nat} {b : Bool} : WR (dIsE a i b r) QD X = if hasE a i r = true then QD (.bl b) r else False := by
  unfold dIsE
  by_cases h : hasE a i r = true
  · rw [if_pos h, if_pos h]; rfl
  · rw [if_neg h, if_neg h]; rfl
@[simp ↓ high] theorem W_dExv {a : Addr} {i : Nat} {y : D} : WR (dExv a i y r) QD X = if hasE a i r = true then QD y r else False := by
  unfold dExv
  by_cases h : hasE a i r = true
  · rw [if_pos h, if_pos h]; rfl
  · rw [if_neg h, if_neg h]; rfl
/-! dict comprehensions -/
def kDc1 (Q : D → Rho → Prop) (ks : List (L2.Key × D)) (r : Rho) : Prop := Q (.dct ks) r
@[simp] theorem kDc1_ap {ks : List (L2.Key × D)} : kDc1 QD ks r = QD (.dct ks) r := (rfl)
def kDc (vs : List Nat) (g : D → Rho → Option Rho) (ts : Rho → R Bool) (fk fe : Rho → R D) (Q : D → Rho → Prop) (X : Str → D → Rho → Prop) (ds : List D) (r : Rho) : Prop := ds.length ≤ 100000 ∧ WR (dcD vs g ts fk fe ds [] (wipeR r vs)) (kDc1 Q) X
section
variable {vs : List Nat} {g : D → Rho → Option Rho} {ts : Rho → R Bool} {fk fe : Rho → R D}
@[simp] theorem kDc_ap {ds : List D} : kDc vs g ts fk fe QD X ds r = (ds.length ≤ 100000 ∧ WR (dcD vs g ts fk fe ds [] (wipeR r vs)) (kDc1 QD) X) := (rfl)
@[simp ↓ high] theorem W_dcomp {fi : Rho → R (List D)} : WR (dcomp vs fi g ts fk fe r) QD X = WR (fi r) (kDc vs g ts fk fe QD X) X := by
  unfold dcomp
  rw [WR_bind]
  cases fi r with
  | ok ds r1 =>
    show WR (if ds.length ≤ 100000 then (dcD vs g ts fk fe ds [] (wipeR r1 vs)).bind (fun out r2 => .ok (.dct out) r2) else .no) QD X = (ds.length ≤ 100000 ∧ _)
    by_cases h : ds.length ≤ 100000
    · rw [if_pos h, WR_bind]; exact propext ⟨fun z => ⟨h, z⟩, fun z => z.2⟩
    · rw [if_neg h]; exact propext ⟨fun z => z.elim, fun z => h z.1⟩
  | _ => rfl
def kDe (vs : List Nat) (v : D) (r0 : Rho) (e : D) (r3 : Rho) : Prop := e = v ∧ wipeR r3 vs = r0
@[simp] theorem kDe_ap {v : D} {r0 : Rho} {e : D} : kDe vs v r0 e r = (e = v ∧ wipeR r vs = r0) := (rfl)
def kDk (vs : List Nat) (fe : Rho → R D) (x : Int) (v : D) (r0 : Rho) (kd : D) (r : Rho) : Prop := kd = .int x ∧ WR (fe r) (kDe vs v r0) xF
@[simp] theorem kDk_ap {x : Int} {v : D} {r0 : Rho} {kd : D} : kDk vs fe x v r0 kd r = (kd = .int x ∧ WR (fe r) (kDe vs v r0) xF) := (rfl)
def kDt (vs : List Nat) (fk fe : Rho → R D) (x : Int) (v : D) (r0 : Rho) (t : Bool) (r : Rho) : Prop := t = true ∧ WR (fk r) (kDk vs fe x v r0) xF
@[simp] theorem kDt_ap {x : Int} {v : D} {r0 : Rho} {t : Bool} : kDt vs fk fe x v r0 t r = (t = true ∧ WR (fk r) (kDk vs fe x v r0) xF) := (rfl)
def kDs (vs : List Nat) (ts : Rho → R Bool) (fk fe : Rho → R D) (x : Int) (v : D) (r0 : Rho) (r : Rho) : Prop := WR (ts r) (kDt vs fk fe x v r0) xF
@[simp] theorem kDs_ap {x : Int} {v : D} {r0 : Rho} : kDs vs ts fk fe x v r0 r = WR (ts r) (kDt vs fk fe x v r0) xF := (rfl)
theorem dlk_ints {v : Int → D} {x : Int} : ∀ {ys : List Int}, x ∉ ys → dlk (ys.map fun y => (Sum.inl y, v y)) (.inl x) = none
  | [], _ => rfl
  | y :: ys, h => by
    rw [List.map_cons, dlk_cons, if_neg (fun z => h (by cases z; exact List.mem_cons_self))]
    exact dlk_ints fun z => h (List.mem_cons_of_mem _ z)
theorem WR_dcA (v : Int → D) : ∀ (xs ys : List Int), (ys ++ xs).Nodup → (∀ x ∈ xs, WO (g (.int x) r) (kDs vs ts fk fe x (v x) r)) → QK ((ys ++ xs).map fun x => (.inl x, v x)) r →
    WR (dcD vs g ts fk fe (xs.map D.int) (ys.map fun y => (.inl y, v y)) r) QK X
  | [], ys, _, _, hend => by rw [List.append_nil] at hend; exact hend
  | x :: xs, ys, nd, step, hend => by
    have q := step x List.mem_cons_self
    have nx : x ∉ ys := fun h => by
      rw [List.nodup_append] at nd
      exact nd.2.2 x h x List.mem_cons_self rfl
    rw [List.map_cons]
    unfold dcD
    cases eg : g (.int x) r with
    | none => rw [eg] at q; exact q.elim
    | some r1 =>
      rw [eg] at q
      have q : WR (ts r1) (kDt vs fk fe x (v x) r) xF := q
      dsimp only
      cases et : ts r1 with
      | no => rw [et] at q; exact q.elim
      | ex n d r2 => rw [et] at q; exact q.elim
      | ok t r2 =>
        rw [et] at q
        obtain ⟨ht, q2⟩ : t = true ∧ WR (fk r2) (kDk vs fe x (v x) r) xF := q
        subst ht
        dsimp only
        cases ek : fk r2 with
        | no => rw [ek] at q2; exact q2.elim
        | ex n d r3 => rw [ek] at q2; exact q2.elim
        | ok kd r3 =>
          rw [ek] at q2
          obtain ⟨hk, q3⟩ : kd = .int x ∧ WR (fe r3) (kDe vs (v x) r) xF := q2
          subst hk
          simp only [keyD_int, dlk_ints nx]
          cases ef : fe r3 with
          | no => rw [ef] at q3; exact q3.elim
          | ex n d r4 => rw [ef] at q3; exact q3.elim
          | ok e r4 =>
            rw [ef] at q3
            obtain ⟨he, hw⟩ : e = v x ∧ wipeR r4 vs = r := q3
            subst he
            dsimp only
            rw [hw]
            have z := WR_dcA v xs (ys ++ [x]) (by rw [List.append_assoc]; exact nd) (fun y hy => step y (List.mem_cons_of_mem _ hy)) (by rw [List.append_assoc]; exact hend)
            rw [List.map_append] at z
            exact z
theorem WR_dcF (v : Int → D) {xs : List Int} (nd : xs.Nodup) (step : ∀ x ∈ xs, WO (g (.int x) r) (kDs vs ts fk fe x (v x) r)) (hend : QK (xs.map fun x => (.inl x, v x)) r) :
    WR (dcD vs g ts fk fe (xs.map D.int) [] r) QK X := WR_dcA v xs [] nd step hend
end
/-! a comprehension that picks items and keeps the slots -/
section
variable {vs : List Nat} {g : D → Rho → Option Rho} {ts : Rho → R Bool} {fe : Rho → R D}
def kQ (vs : List Nat) (fe : Rho → R D) (b : Bool) (v : D) (r0 : Rho) (t : Bool) (r : Rho) : Prop := t = b ∧ if b = true then WR (fe r) (kDe vs v r0) xF else wipeR r vs = r0
@[simp] theorem kQ_ap {b : Bool} {v : D} {r0 : Rho} {t : Bool} : kQ vs fe b v r0 t r = (t = b ∧ if b = true then WR (fe r) (kDe vs v r0) xF else wipeR r vs = r0) := (rfl)
def kQs (vs : List Nat) (ts : Rho → R Bool) (fe : Rho → R D) (b : Bool) (v : D) (r0 : Rho) (r : Rho) : Prop := WR (ts r) (kQ vs fe b v r0) xF
@[simp] theorem kQs_ap {b : Bool} {v : D} {r0 : Rho} : kQs vs ts fe b v r0 r = WR (ts r) (kQ vs fe b v r0) xF := (rfl)
theorem WR_compQA {α : Type} {F : α → D} (p : α → Bool) (v : α → D) : ∀ (xs : List α) (acc : List D), (∀ x ∈ xs, WO (g (F x) r) (kQs vs ts fe (p x) (v x) r)) → QL (acc ++ (xs.filter p).map v) r →
    WR (compD vs g ts fe (xs.map F) acc r) QL X
  | [], acc, _, hend => by rw [List.filter_nil, List.map_nil, List.append_nil] at hend; exact hend
  | x :: xs, acc, step, hend => by
    have q := step x List.mem_cons_self
    rw [List.map_cons]
    unfold compD
    cases eg : g (F x) r with
    | none => rw [eg] at q; exact q.elim
    | some r1 =>
      rw [eg] at q
      have q : WR (ts r1) (kQ vs fe (p x) (v x) r) xF := q
      dsimp only
      cases et : ts r1 with
      | no => rw [et] at q; exact q.elim
      | ex n d r2 => rw [et] at q; exact q.elim
      | ok t r2 =>
        rw [et] at q
        obtain ⟨ht, q2⟩ : t = p x ∧ if p x = true then WR (fe r2) (kDe vs (v x) r) xF else wipeR r2 vs = r := q
        subst ht
        cases hp : p x with
        | true =>
          rw [hp, if_pos rfl] at q2
          dsimp only
          cases ef : fe r2 with
          | no => rw [ef] at q2; exact q2.elim
          | ex n d r4 => rw [ef] at q2; exact q2.elim
          | ok e r4 =>
            rw [ef] at q2
            obtain ⟨he, hw⟩ : e = v x ∧ wipeR r4 vs = r := q2
            subst he
            dsimp only
            rw [hw]
            refine WR_compQA p v xs (acc ++ [v x]) (fun y hy => step y (List.mem_cons_of_mem _ hy)) ?_
            rw [List.filter_cons, if_pos hp, List.map_cons] at hend
            rw [List.append_assoc]
            exact hend
        | false =>
          rw [hp, if_neg Bool.false_ne_true] at q2
          dsimp only
          rw [q2]
          refine WR_compQA p v xs acc (fun y hy => step y (List.mem_cons_of_mem _ hy)) ?_
          rw [List.filter_cons, if_neg (by rw [hp]; exact Bool.false_ne_true)] at hend
          exact hend
theorem WR_compQ {α : Type} {F : α → D} (p : α → Bool) (v : α → D) {xs : List α} (step : ∀ x ∈ xs, WO (g (F x) r) (kQs vs ts fe (p x) (v x) r)) (hend : QL ((xs.filter p).map v) r) :
    WR (compD vs g ts fe (xs.map F) [] r) QL X := WR_compQA p v xs [] step hend
end
end
end VL

/-! VX6: methods of a list that lies in a tuple; list(range(..)); count and index of a list. -/
namespace VL
open PySem PySem.Spec L2
section
variable {X : Cx} {F : Fx} {G G1 G2 G3 G4 G' Gt Gs Gn : List Nat} {k k1 k2 k3 kr lv n : Nat} {e a b c tg iter elt : Expr} {es ifs : List Expr} {pos p tpos apos cpos : Pos} {st : Stmt} {sts : List Stmt}
def atT (o : Option D) (j : Int) : Option (List D × Nat × List D) := match o with
  | some (.tup ds) => (match ixN ds.length j with
    | some m => (match ds[m]? with
      | some (.lst es) => some (ds, m, es)
      | _ => none)
    | none => none)
  | _ => none
theorem atT_of {o : Option D} {j : Int} {ds es : List D} {m : Nat} (h : atT o j = some (ds, m, es)) : o = some (.tup ds) ∧ ixN ds.length j = some m ∧ ds[m]? = some (.lst es) := by
  unfold atT at h
  split at h
  · split at h
    · rename_i hk
      split at h
      · rename_i he
        cases h
        exact ⟨rfl, hk, he⟩
      · cases h
    · cases h
  · cases h
def muTp (i : Nat) (ds : List D) (m : Nat) (o : Option (D × List D)) (r1 : Rho) : R D := match o with
  | some (d, es') => if i < r1.length ∧ rget r1 i = none then .ok d (r1.set i (some (.tup (ds.set m (.lst es'))))) else .no
  | none => .no
/-- x[j].m(args), x a tuple whose lists are owned -/
def dMutTp (i : Nat) (j : Int) (h : List D → List D → Option (D × List D)) (fa : Rho → R (List D)) : Rho → R D := fun r => match atT (rget r i) j with
  | some (ds, m, es) => (match fa (r.set i none) with
    | .ok as r1 => muTp i ds m (h es as) r1
    | _ => .no)
  | none => .no
theorem mttp_run {i : Nat} {j : Int} {r0 : V → List V → Hp → VK → Prop} {h : List D → List D → Option (D × List D)} {fa : Rho → R (List D)} {t : TA} {to : TE} (mu : MuOk X r0 n kr h) (hmm : gget G1 i = n + 1) (hmG : gget G i = n + 1)
    (hto : ∀ σ H (Q : VK) v y, σ[i]? = some (some v) → rIx X.K v (.int j) H (fun z H' => z = y ∧ H' = H) → Q y H → to σ H Q)
    (q : ∀ σ H r c s Q, SR X.K H G r σ c s → Ok c s → OutX X F c s H σ (OkL X G1 n c s H σ Q) (fa r) → t σ H Q) :
    ∀ σ H r c s (Q : VK), SR X.K H G r σ c s → Ok c s → OutX X F c s H σ (OkE X G1 kr c s H σ Q) (dMutTp i j h fa r) → to σ H fun x H1 => tyV X.K "list" x H1 ∧ t σ H1 fun us H2 => r0 x us H2 Q := by
  intro σ H r c s Q sr ok h0
  unfold dMutTp at h0
  cases ea : atT (rget r i) j with
  | none => simp only [ea] at h0; exact False.elim h0
  | some tr =>
    obtain ⟨ds, m, es⟩ := tr
    simp only [ea] at h0
    obtain ⟨e0, hk, hes⟩ := atT_of ea
    obtain ⟨v, c1, s1, c2, s2, ev, rp, x', ec, es2⟩ := sr.out e0
    rw [hmG] at rp
    obtain ⟨h1, h2, h3, h4⟩ := ixN_seq hk
    cases rp with
    | @tup _ l0 vs _ cc ss hl0 rs =>
      subst ec; subst es2
      obtain ⟨w, cw, sw, cr, sr', ew, rw', e1, e2, dmR, put⟩ := rs.focus hes
      subst e1; subst e2
      cases rw' with
      | @lstS _ l ws _ cl sl hl rl =>
        refine hto σ H _ (.ref l0) (.ref l) ev (.inr (.inl ⟨l0, vs, j, .ref l, rfl, rfl, SqT.of hl0, ?_, rfl, rfl⟩)) ?_
        · unfold atI
          rw [← rs.length, hk]
          exact ew
        refine ⟨.inl ⟨rfl, ws, SqL.of hl⟩, ?_⟩
        have ok2 : Ok c2 s2 := fun z => by have := ok z; simp only [add_at] at this; omega
        refine q σ H (r.set i none) c2 s2 _ x' ok2 ?_
        cases ef : fa (r.set i none) with
        | no => simp only [ef] at h0; exact False.elim h0
        | ex nn d r1 => simp only [ef] at h0; exact False.elim h0
        | ok as r1 =>
          simp only [ef] at h0
          intro us H1 c3 s3 ca sa x3 ra st
          cases eh : h es as with
          | none => rw [eh] at h0; exact False.elim h0
          | some pr =>
            obtain ⟨d, es'⟩ := pr
            rw [eh] at h0
            unfold muTp at h0
            by_cases hr1 : i < r1.length ∧ rget r1 i = none
            case neg => simp only [if_neg hr1] at h0; exact False.elim h0
            simp only [if_pos hr1] at h0
            have okF : Ok (add c2 (add (add (one l) cl) cr)) (add s2 (add sw sr')) := fun z => by
              have := ok z; simp only [add_at] at this ⊢; omega
            have domF : Dom (add (add (one l) cl) cr) (add sw sr') H := rs.dom
            have asd := st.aside okF
            have stf := st.frame okF domF
            have okf := stf.ok
            have hl1 : H1 l = some (.lst ws) := asd l _ hl (.inl (by simp only [add_at, one_same]; omega))
            have hl01 : H1 l0 = some (.tup vs) := asd l0 _ hl0 (.inr (.inr trivial))
            have rl1 : Reps X.K H1 n es ws cl sw := rl.keep fun a o e z => asd a o e (by simp only [add_at]; rcases z with z | z | z; exact .inl (by omega); exact .inr (.inl (by omega)); exact .inr (.inr z))
            refine mu es as d es' eh l ws us H1 cl sw ca sa Q hl1 rl1 ra fun vs' v' c' s' cv sv rs' rv hc hs => ?_
            have okl := okf l
            simp only [add_at, one_same] at okl
            have hcl := hc l
            have hsl : s' l = 0 ∧ sv l = 0 := by have := hs l; omega
            have ne : l0 ≠ l := fun z => by
              rw [z, hl1] at hl01
              cases hl01
            have kp : ∀ {c s : Cnt}, c l = 0 → s l = 0 → Kp c s H1 (L2.upd H1 l (.lst vs')) := fun {c s} e1 e2 => Kp.upd hl1 (fun z => z) e1 e2
            have kpR : Kp cr sr' H (L2.upd H1 l (.lst vs')) := fun a o e z => by
              have q1 := asd a o e (by simp only [add_at]; rcases z with z | z | z; exact .inl (by omega); exact .inr (.inl (by omega)); exact .inr (.inr z))
              exact kp (c := cr) (s := sr') (by omega) (by omega) a o q1 z
            have r2 := put (L2.upd H1 l (.lst vs')) (.lst es') (add (one l) c') s' kpR (.lstS upd_same (rs'.keep (kp (by omega) hsl.1)))
            have hl02 : (L2.upd H1 l (.lst vs')) l0 = some (.tup vs) := by rw [upd_ne ne]; exact hl01
            have x4 := x3.keep (kp (by omega) (by omega))
            have rfin : Rep X.K (L2.upd H1 l (.lst vs')) (n + 1) (.tup (ds.set m (.lst es'))) (.ref l0) (add (add (one l) c') cr) (add s' sr') := .tup hl02 r2
            have xu := x4.upd hr1.1 hr1.2 ev rfin
            rw [← hmm, gset_same] at xu
            refine h0 v' _ _ _ cv sv xu (rv.keep (kp (by omega) hsl.2)) ?_
            rw [add_comm' (add (add (one l) cl) cr) c2, add_comm' (add sw sr') s2]
            refine stf.mut (l := l) (by simp only [add_at, one_same]; omega) hl1 (fun z => z) (fun a => ?_) (fun a ha => ?_)
            · have := hc a
              simp only [add_at]; omega
            · have := hs a
              simp only [add_at] at ha ⊢; omega
theorem v_mtTp (i n : Nat) {y name : Str} {py jp sp : Pos} {j : Int} {jj : Nat} {id : String} {r0 : V → List V → Hp → VK → Prop} {h : List D → List D → Option (D × List D)} {fa : Rho → R (List D)} (slot : Slot "list" name id) (hty : typeOf (.builtin id) = pure (.type "method_descriptor")) (hmt : MtR X id r0) (mu : MuOk X r0 n kr h)
    (A : PL X F G G1 n (e :: es) fa) (hmG : gget G i = n + 1 := by rfl) (hmm : gget G1 i = n + 1 := by rfl) (hN : X.N[i]? = some y := by rfl) (hv : Vis X.env.scope y := by first | exact Or.inl rfl | exact Or.inr (Or.inl rfl) | exact Or.inr (Or.inr rfl))
    (hd : (y == ("__debug__" : Str)) = false := by decide) (hcd : (y == ("__classdict__" : Str)) = false := by decide)
    (hbase : attributeBase (.Subscript (.Name y py) (.Constant (.int j) jj jp) sp) name X.env (eval (.Subscript (.Name y py) (.Constant (.int j) jj jp) sp) X.env) = eval (.Subscript (.Name y py) (.Constant (.int j) jj jp) sp) X.env := by rfl)
    (hfew : ((backTo cpos (starEach (e :: es) X.env)).all (fun x => !x.1) && (backToKw cpos (keywordEach [] X.env)).all (fun x => x.1.isSome)
      && decide ((e :: es).length + ([] : List Keyword).length + (if ([] : List Keyword).isEmpty then 0 else 1) < 30)) = true := by rfl)
    (hline : (apos.endLine == cpos.line) = true := by rfl) (hs : starEach (e :: es) X.env = (false, eval e X.env) :: starEach es X.env := by rfl) (hplain : (backTo cpos (starEach es X.env)).any (·.1) = false := by rfl) :
    PV X F G G1 kr (.Call (.Attribute (.Subscript (.Name y py) (.Constant (.int j) jj jp) sp) name apos) (e :: es) [] cpos) (dMutTp i j h fa) := by
  obtain ⟨t, ht, q⟩ := A.go
  exact ⟨_, pe_bm PySem.F.plainAttrs_list slot hty hmt (pe_ix ix_seq (pv i hN hv hd hcd) pe_int (fun _ _ => rfl)) ht hbase hfew hline hs hplain, fun σ H r c s Q sr ok h0 =>
    mttp_run (to := tOp (rIx X.K) (tVar i) (tC (.int j))) mu hmm hmG (fun σ H Q v y ev hr hq => ⟨v, ev, by
      rcases hr with ⟨p, xs, i', z, e1, e2, e3, e4, e5, _⟩ | ⟨p, xs, i', z, e1, e2, e3, e4, e5, _⟩ | ⟨z, i', c', e1, e2, e3, e4, e5, _⟩
      · subst e5; exact .inl ⟨p, xs, i', z, e1, e2, e3, e4, hq⟩
      · subst e5; exact .inr (.inl ⟨p, xs, i', z, e1, e2, e3, e4, hq⟩)
      · subst e5; exact .inr (.inr ⟨z, i', c', e1, e2, e3, e4, hq⟩)⟩) q σ H r c s Q sr ok h0⟩

def lrg (da db : D) : Option D := match da, db with
  | .int i, .int j => if -1000000 ≤ i ∧ i ≤ 1000000 ∧ -1000000 ≤ j ∧ j ≤ 1000000 ∧ (j - i).toNat ≤ 100000 then some (.lst (rngD i (j - i).toNat)) else none
  | _, _ => none
theorem reps_ints0 {K : PySem.W.Frag} {H : Hp} (f : Nat → Int) : ∀ l : List Nat, Reps K H 0 (l.map fun i => D.int (f i)) (l.map fun i => V.int (f i)) z0 z0
  | [] => .nil
  | x :: l => by
    have q : Reps K H 0 (.int (f x) :: l.map fun i => D.int (f i)) (.int (f x) :: l.map fun i => V.int (f i)) (add z0 z0) (add z0 z0) := .cons (.int _) (reps_ints0 f l)
    rw [add_z] at q
    exact q
/-- list(range(a, b)) -/
theorem v_listRg {q pos2 : Pos} {fa fb : Rho → R D} (A : PV X F G G1 k1 a fa) (B : PV X F G1 G2 k2 b fb) (hm : X.mg "list" = none) (hm2 : X.mg "range" = none) (hc : X.calm = true := by rfl) (hg : Gl X "list" := by rfl) (hg2 : Gl X "range" := by rfl)
    (na : starEach [a, b] X.env = (false, eval a X.env) :: starEach [b] X.env := by rfl) (nb : starEach [b] X.env = (false, eval b X.env) :: starEach [] X.env := by rfl) (hp : (backTo pos2 (starEach [b] X.env)).any (·.1) = false := by rfl)
    (nc : starEach [.Call (.Name "range" q) [a, b] [] pos2] X.env = (false, eval (.Call (.Name "range" q) [a, b] [] pos2) X.env) :: starEach [] X.env := by rfl) :
    PV X F G G2 1 (.Call (.Name "list" p) [.Call (.Name "range" q) [a, b] [] pos2] [] pos) (d2 lrg fa fb) := by
  obtain ⟨t, ht, q1⟩ := (A.weak (Nat.zero_le k1)).go
  obtain ⟨u, hu, q2⟩ := (B.weak (Nat.zero_le k2)).go
  refine ⟨_, pe_listRg hc hg hm (prg_2 hg2 hm2 ht hu na nb hp) nc, fun σ H r c s Q sr ok h => q1 σ H r c s _ sr ok (h.bind.mono fun da r1 h2 => ?_)⟩
  intro v H1 c1 s1 ca sa x rp st
  have z := rp.zero
  subst z
  simp only [add_z] at st
  have ok1 : Ok c1 s1 := fun z => by have := st.ok z; simp only [add_at] at this; omega
  refine q2 σ H1 r1 c1 s1 _ x ok1 ((OutX.imp h2.bind1 (st.less (fun _ => Nat.le_refl _) fun a ha => by simp only [add_at]; omega) fun _ _ z => z).mono fun db r2 h3 => ?_)
  obtain ⟨d, hd, h3⟩ := h3
  intro w H2 c2 s2 cb sb x2 rp2 st2
  have z := rp2.zero
  subst z
  simp only [add_z] at st2
  unfold lrg at hd
  split at hd
  · rename_i i j
    split at hd
    · rename_i hb
      cases hd
      cases rp
      cases rp2
      simp only [add_z] at st st2
      refine ⟨i, j, rfl, rfl, ⟨by omega, by omega, by omega, by omega, by omega⟩, fun l hl => ?_⟩
      have ke := ex_upd (o := .lst (rgV i j)) hl
      have rr : Reps X.K (L2.upd H2 l (.lst (rgV i j))) 0 (rngD i (j - i).toNat) (rgV i j) z0 z0 := reps_ints0 (fun m => i + (m : Nat)) _
      have stt := st.trans st2
      have fr := lst_fresh (cr := z0) (sr := z0) (xs := rgV i j) (by simp only [add_z]; exact stt) (by simp only [add_z]; exact x2.dom) hl
      exact h3 (.ref l) _ c2 s2 (add (one l) z0) z0 (x2.keep (ex_kp ke)) (.lstS upd_same rr) fr
    · cases hd
  · cases hd
end
end VL

/-! VX7: count and index of a list of bools; a call of one of two defs, [f, g][i](e). -/
namespace VL
open PySem PySem.Spec PyProof.Rows L2
section
variable {X : Cx} {F : Fx} {G G1 G2 G3 G4 G' Gt Gs Gn : List Nat} {k k1 k2 k3 kr lv n : Nat}
/-- l.count(y), flat data -/
def rCnt (K : PySem.W.Frag) : V → List V → Hp → VK → Prop := fun x xs H Q => ∃ (a : Addr) (ys : List V) (y : V), x = .ref a ∧ xs = [y] ∧ SqL K H a ys ∧ flatV y = true ∧ ys.all flatV = true ∧ Q (.int ((ys.countP fun z => eqV z y : Nat) : Int)) H
theorem countP_rel {y : V} : ∀ {ys : List V} {us : List Value}, Vals ys us → ys.all flatV = true → us.countP (eqU y) = ys.countP fun z => eqV z y
  | _, _, .nil, _ => rfl
  | z :: ys, u :: us, .cons r t, f => by
    rw [List.all_cons, Bool.and_eq_true] at f
    rw [List.countP_cons, List.countP_cons, countP_rel t f.2, eqU_of r f.1]
theorem mt_cnt : MtR X "list.count" (rCnt X.K) := by
  intro pins s σ H x xs v us Q I rx rxs h
  obtain ⟨a, ys, y, rfl, rfl, hs, fy, fys, q⟩ := h
  cases rx
  obtain ⟨uy, rfl, ry⟩ := rxs.one
  obtain ⟨its, rv, ⟨⟨ocls, odd, odat, osl⟩, n, ho, hcl, hdn, hda⟩, _⟩ := I.list hs
  simp only at hcl hda
  subst hcl hda
  have ec : its.toArray.toList.countP (eqU y) = ys.countP fun z => eqV z y := countP_rel rv fys
  refine call_meets PySem.F.slot_list_count ⟨_, ho, rfl⟩ PySem.F.entry_list_count (PySem.F.args_list_count_2 _ _) (SeqAt.list_countAt a its.toArray n odd osl uy (eqU y)) ⟨ho, fun w hw => mem_eqAt ry fy rv fys w (by simpa using hw), ?_⟩
  exact ⟨.int ((ys.countP fun z => eqV z y : Nat) : Int), H, I.tok _, ⟨s.toks, by rw [ec]⟩, q⟩
theorem upd_id {H : Hp} {l : Addr} {o : HO} (h : H l = some o) : L2.upd H l o = H := by
  funext b
  by_cases hb : b = l
  · rw [hb, upd_same, h]
  · rw [upd_ne hb]
theorem reps_blV {K : PySem.W.Frag} {H : Hp} {n : Nat} : ∀ {ds : List D} {vs : List V} {c s : Cnt}, Reps K H n ds vs c s → ∀ {bs : List Bool}, ds = bs.map D.bl → vs = bs.map V.bl
  | _, _, _, _, .nil, [], _ => rfl
  | _, _, _, _, .nil, _ :: _, h => by cases h
  | _, _, _, _, .cons a b, [], h => by cases h
  | _, _, _, _, .cons a b, t :: bs, h => by
    rw [List.map_cons] at h
    obtain ⟨h1, h2⟩ := List.cons.inj h
    subst h1
    cases a
    rw [List.map_cons, reps_blV b h2]
theorem flat_bls (bs : List Bool) : (bs.map V.bl).all flatV = true := by
  rw [List.all_eq_true]
  intro x hx
  obtain ⟨b, _, rfl⟩ := List.mem_map.mp hx
  rfl
def hCountB : List D → List D → Option (D × List D) := fun ds as => match as with
  | [.bl t] => (blsD ds).map fun bs => (.int ((bs.count t : Nat) : Int), ds)
  | _ => none
theorem blsD_of : ∀ {ds : List D} {bs : List Bool}, blsD ds = some bs → ds = bs.map D.bl
  | [], bs, h => by cases h; rfl
  | .bl b :: ds, bs, h => by
    have h : (blsD ds).map (b :: ·) = some bs := h
    cases e : blsD ds with
    | none => rw [e] at h; cases h
    | some cs => rw [e] at h; cases h; rw [List.map_cons, ← blsD_of e]
  | .non :: _, _, h => by cases h
  | .int _ :: _, _, h => by cases h
  | .str _ :: _, _, h => by cases h
  | .ty _ :: _, _, h => by cases h
  | .fn _ :: _, _, h => by cases h
  | .lst _ :: _, _, h => by cases h
  | .tup _ :: _, _, h => by cases h
  | .dct _ :: _, _, h => by cases h
  | .scr _ :: _, _, h => by cases h
theorem mu_countB : MuOk X (rCnt X.K) n kr hCountB := by
  intro ds as d ds' hh l vs us H c s ca sa Q hl rs ra hq
  unfold hCountB at hh
  split at hh
  · rename_i t
    cases e : blsD ds with
    | none => rw [e] at hh; cases hh
    | some bs =>
      rw [e] at hh
      cases hh
      obtain ⟨v, _, c1, s1, c2, s2, rfl, rx, rn, rfl, rfl⟩ := ra.inv1
      obtain ⟨rfl, rfl, rfl⟩ := rn.inv0
      cases rx
      have ev := reps_blV rs (blsD_of e)
      have q := hq vs (.int ((bs.count t : Nat) : Int)) c s z0 z0 rs (.int _) (fun a => by simp only [add_at, z_at]; omega) (fun a h => by simp only [add_at, z_at] at h ⊢; omega)
      rw [upd_id hl] at q
      refine ⟨l, vs, .bl t, rfl, rfl, SqL.of hl, rfl, by rw [ev]; exact flat_bls bs, ?_⟩
      have ec : (vs.countP fun z => eqV z (.bl t)) = bs.count t := by
        rw [ev, List.countP_map, List.count]
        rfl
      rw [ec]
      exact q
  · cases hh
def hIndexB : List D → List D → Option (D × List D) := fun ds as => match as with
  | [.bl t] => (match blsD ds with
    | some bs => if bs.idxOf t < bs.length then some (.int ((bs.idxOf t : Nat) : Int), ds) else none
    | none => none)
  | _ => none
theorem mu_indexB : MuOk X (rIndex X.K) n kr hIndexB := by
  intro ds as d ds' hh l vs us H c s ca sa Q hl rs ra hq
  unfold hIndexB at hh
  split at hh
  · rename_i t
    cases e : blsD ds with
    | none => rw [e] at hh; cases hh
    | some bs =>
      rw [e] at hh
      dsimp only at hh
      by_cases hi : bs.idxOf t < bs.length
      case neg => rw [if_neg hi] at hh; cases hh
      rw [if_pos hi] at hh
      cases hh
      obtain ⟨v, _, c1, s1, c2, s2, rfl, rx, rn, rfl, rfl⟩ := ra.inv1
      obtain ⟨rfl, rfl, rfl⟩ := rn.inv0
      cases rx
      have ev := reps_blV rs (blsD_of e)
      have q := hq vs (.int ((bs.idxOf t : Nat) : Int)) c s z0 z0 rs (.int _) (fun a => by simp only [add_at, z_at]; omega) (fun a h => by simp only [add_at, z_at] at h ⊢; omega)
      rw [upd_id hl] at q
      have et : bs[bs.idxOf t]? = some t := by
        rw [List.getElem?_eq_getElem hi, List.getElem_idxOf hi]
      refine ⟨l, vs, .bl t, bs.idxOf t, .bl t, rfl, rfl, SqL.of hl, rfl, by rw [ev]; exact flat_bls bs, ?_, by simp [eqV], fun m z' hm hz => ?_, q⟩
      · rw [ev, List.getElem?_map, et]
        rfl
      · rw [ev, List.getElem?_map] at hz
        cases eb : bs[m]? with
        | none => rw [eb] at hz; cases hz
        | some b =>
          rw [eb] at hz
          cases hz
          have nb := List.not_of_lt_findIdx (p := (· == t)) (xs := bs) (i := m) hm
          obtain ⟨hlt, hbm⟩ := List.getElem?_eq_some_iff.mp eb
          rw [hbm] at nb
          show (b == t) = false
          exact nb
  · cases hh
/-! ### [f, g][i](e) -/
def dCallD (n1 : Nat) (g1 : List D → DR) (n2 : Nat) (g2 : List D → DR) (fi : Rho → R D) (fa : Rho → R (List D)) : Rho → R D := fun r => (fi r).bind fun di r1 => match di with
  | .int i => if i = 0 then (fa r1).bind fun ds r2 => if ds.length = n1 then ofDR (g1 ds) r2 else .no
      else if i = 1 then (fa r1).bind fun ds r2 => if ds.length = n2 then ofDR (g2 ds) r2 else .no else .no
  | _ => .no
theorem v_callD {x1 x2 : Str} {f1 f2 : Addr} {fd1 fd2 : FuncData} {ps1 ps2 : List Str} {g1 g2 : List D → DR} {lv1 lv2 n1 n2 : Nat} {e ie : Expr} {es : List Expr} {p1 p2 lp sp pos : Pos} {fi : Rho → R D} {fa : Rho → R (List D)}
    (F1 : FnV X.prog X.w X.K X.mg X.base lv1 f1 fd1 ps1 none 0 g1) (F2 : FnV X.prog X.w X.K X.mg X.base lv2 f2 fd2 ps2 none 0 g2) (gd : X.A.guards = some []) (hr1 : Room lv1 X.A) (hr2 : Room lv2 X.A) (hm1 : X.mg x1 = some (.ref f1)) (hm2 : X.mg x2 = some (.ref f2))
    (hk1 : PySem.W.keepIn X.K (.ref f1) = true) (hk2 : PySem.W.keepIn X.K (.ref f2) = true) (hb1 : Binds X.K fd1 ps1 []) (hb2 : Binds X.K fd2 ps2 []) (pf : Pf X F) (I : PV X F G G1 k1 ie fi) (A : PL X F G1 G2 k (e :: es) fa)
    (hl1 : ps1.length = n1 := by rfl) (hl2 : ps2.length = n2 := by rfl) (hg1 : Gl X x1 := by rfl) (hg2 : Gl X x2 := by rfl) (hio : IoG F G2 := by first | exact io_none rfl | exact io_some rfl rfl) (hd1 : (x1 == ("__debug__" : Str)) = false := by decide) (hd2 : (x2 == ("__debug__" : Str)) = false := by decide)
    (hns : PlainIx ie := by exact fun _ _ => rfl) (hst1 : starEach [.Name x1 p1, .Name x2 p2] X.env = (false, eval (.Name x1 p1) X.env) :: starEach [.Name x2 p2] X.env := by rfl) (hst2 : starEach [.Name x2 p2] X.env = (false, eval (.Name x2 p2) X.env) :: starEach [] X.env := by rfl)
    (he : starEach (e :: es) X.env = (false, eval e X.env) :: starEach es X.env := by rfl) (hpl : (backTo pos (starEach es X.env)).any (·.1) = false := by rfl) :
    PV X F G G2 0 (.Call (.Subscript (.List [.Name x1 p1, .Name x2 p2] lp) ie sp) (e :: es) [] pos) (dCallD n1 g1 n2 g2 fi fa) := by
  subst hl1; subst hl2
  have FP : PV X F G G1 0 (.Subscript (.List [.Name x1 p1, .Name x2 p2] lp) ie sp) _ := v_ix (v_lst (l_cons (v_glob (k := 0) (d := .fn f1) (v := .ref f1) hg1 hm1 rfl (fun _ => .fn f1) hd1) (l_cons (v_glob (k := 0) (d := .fn f2) (v := .ref f2) hg2 hm2 rfl (fun _ => .fn f2) hd2) (l_nil (k := 0)) hst2) hst1)) I ix_seq p_ix hns
  obtain ⟨tf, htf, qf⟩ := FP.go
  obtain ⟨ta, hta, qa⟩ := (l_weak A).go
  refine ⟨fun σ H Q => tf σ H fun v H1 => (v = .ref f1 ∧ ta σ H1 fun vs H2 => SpD X.K X.mg none ps1.length 0 g1 vs H2 Q (WE F.W σ)) ∨ (v = .ref f2 ∧ ta σ H1 fun vs H2 => SpD X.K X.mg none ps2.length 0 g2 vs H2 Q (WE F.W σ)), ⟨fun pins s σ H Q J want => ?_⟩, fun σ H r c s Q sr ok h => ?_⟩
  · rw [show eval (.Call (.Subscript (.List [.Name x1 p1, .Name x2 p2] lp) ie sp) (e :: es) [] pos) X.env = (do callWith pos (← eval (.Subscript (.List [.Name x1 p1, .Name x2 p2] lp) ie sp) X.env) [] (backTo pos (starEach (e :: es) X.env)) (backToKw pos (keywordEach [] X.env))) from rfl]
    refine wpAny_bind (thn (htf.run pins s σ H _ J want) fun u s1 got => ?_)
    obtain ⟨v, H1, J1, rv, q⟩ := got
    rcases q with ⟨rfl, q⟩ | ⟨rfl, q⟩
    · cases (show u = Value.ref f1 from rv)
      refine PySem.W.callWith_K (h₀ := X.base) J1.ok.mod.kin hk1 (thn (hta.run pos pins s1 σ H1 _ J1 q) fun us s2 got2 => ?_) he hpl
      obtain ⟨vs, H2, J2, rvs, q2⟩ := got2
      exact ⟨J2.kIn, wp_of_code (fng_step F1 gd hr1 (fun hl => by
        have bb := hb1 s2 us J2.kIn (by rw [List.append_nil]; exact hl)
        rw [List.append_nil] at bb
        exact bb) (pf σ) J2 rvs q2)⟩
    · cases (show u = Value.ref f2 from rv)
      refine PySem.W.callWith_K (h₀ := X.base) J1.ok.mod.kin hk2 (thn (hta.run pos pins s1 σ H1 _ J1 q) fun us s2 got2 => ?_) he hpl
      obtain ⟨vs, H2, J2, rvs, q2⟩ := got2
      exact ⟨J2.kIn, wp_of_code (fng_step F2 gd hr2 (fun hl => by
        have bb := hb2 s2 us J2.kIn (by rw [List.append_nil]; exact hl)
        rw [List.append_nil] at bb
        exact bb) (pf σ) J2 rvs q2)⟩
  · refine qf σ H r c s _ sr ok ?_
    unfold dCallD at h
    show OutX X F c s H σ _ ((R.bind (R.ok (D.lst [.fn f1, .fn f2]) r) fun da r1 => (fi r1).bind fun db r2 => lift (pIx da db) r2))
    show OutX X F c s H σ _ ((fi r).bind fun db r2 => lift (pIx (.lst [.fn f1, .fn f2]) db) r2)
    cases ei : fi r with
    | no => rw [ei] at h; exact False.elim h
    | ex n d r1 => rw [ei] at h; exact h
    | ok di r1 =>
      rw [ei] at h
      dsimp only [R.bind_ok] at h ⊢
      cases di with
      | int i =>
        dsimp only at h
        have fin : ∀ {f : Addr} {nn : Nat} {g : List D → DR} {v : V} {H1 : Hp} {c1 s1 cr sr1 : Cnt}, OutX X F c s H σ (OkE X G2 0 c s H σ Q) ((fa r1).bind fun ds r2 => if ds.length = nn then ofDR (g ds) r2 else .no) → SR X.K H1 G1 r1 σ c1 s1 → Rep X.K H1 0 (.fn f) v cr sr1 → Step c s H (add c1 cr) (add s1 sr1) H1 →
            v = .ref f ∧ ta σ H1 fun vs H2 => SpD X.K X.mg none nn 0 g vs H2 Q (WE F.W σ) := fun {f nn g v H1 c1 s1 cr sr1} h x rp st => by
          obtain ⟨ev, rfl, rfl⟩ := vOf_rep rp (rfl : vOf (.fn f) = some (.ref f))
          simp only [add_z] at st
          refine ⟨ev, qa σ H1 r1 c1 s1 _ x st.ok ((OutX.imp h.bind st fun _ _ z => z).mono fun ds r2 h2 => ?_)⟩
          intro vs H2 c2 s2 ca sa x2 rp2 st2
          have z := rp2.zero
          subst z
          simp only [add_z] at st2
          by_cases hl : ds.length = nn
          · rw [if_pos hl] at h2
            exact call_end hio x2 rp2 (st.trans st2) hl h2
          · rw [if_neg hl] at h2
            exact False.elim h2
        by_cases h0 : i = 0
        · subst h0
          rw [if_pos rfl] at h
          intro v H1 c1 s1 cr sr1 x rp st
          exact .inl (fin h x rp st)
        · rw [if_neg h0] at h
          by_cases h1 : i = 1
          · subst h1
            rw [if_pos rfl] at h
            intro v H1 c1 s1 cr sr1 x rp st
            exact .inr (fin h x rp st)
          · rw [if_neg h1] at h
            exact False.elim h
      | _ => exact False.elim h
end
/-- == and != in a suite -/
theorem o_eqS {X : Cx} {A : Around} {lv : Nat} (hr : Room lv A) (e : X.A.units = A.units) : OpR X (compareOp .Eq) (rQEq X.K) := op_eq.or (op_eqD (by have := hr.un; rw [e]; omega))
theorem o_neS {X : Cx} {A : Around} {lv : Nat} (hr : Room lv A) (e : X.A.units = A.units) : OpR X (compareOp .NotEq) (rQNe X.K) := op_ne.or (op_neD (by have := hr.un; rw [e]; omega))
end VL

/-! VX8: k in d as a test. -/
namespace VL
open PySem PySem.Spec PyProof.Rows L2
section
variable {X : Cx} {F : Fx} {G G1 G2 G3 G4 G' Gt Gs Gn : List Nat} {k k1 k2 k3 kr lv n : Nat} {i o : Expr} {pos : Pos}
theorem b_din {fa fb : Rho → R D} (hu : X.A.units + 1 < cLine) (A : PV X F G G1 k1 i fa) (B : PV X F G1 G2 k2 o fb) (h1 : behindInMarks .In o = false := by first | exact nobehind _ (by decide) (by decide) | rfl) : PB X F G G2 (.Compare i [.In] [o] pos) (dB (d2 (pDIn false) fa fb)) := by
  obtain ⟨ta, tb, ha, hb, q⟩ := two_r A B (p_din (k := 0) false)
  exact ⟨_, pt_cmp (pc_din hu ha hb) h1, fun σ H r c s Q sr ok h => q σ H r c s _ sr ok (okE_b h)⟩
end
end VL

/-! VO1: owned targets, loops that move the elements, dict(list of pairs) -/
namespace VL
open PySem PySem.Spec L2
section
variable {X : Cx} {F : Fx} {G G1 G2 G3 G4 G' Gt Gn : List Nat} {k k1 k2 : Nat} {e a b tg iter : Expr} {es : List Expr} {pos p tpos : Pos} {st : Stmt} {sts : List Stmt}
structure PTgK (X : Cx) (F : Fx) (G G' : List Nat) (k : Nat) (tg : Expr) (g : D → Rho → Option Rho) : Prop where
  go : ∃ t, PG X tg t ∧ ∀ v0 σ H r c s d x cx sx Q r1, SR X.K H G r σ c s → Ok (add c cx) (add s sx) → Rep X.K H k d x cx sx → Pr F v0 σ → g d r = some r1 →
    (∀ σ' c' s', SR X.K H G' r1 σ' c' s' → Pr F v0 σ' → Step (add c cx) (add s sx) H c' s' H → Q σ' H) → t x σ H Q
structure PTgsK (X : Cx) (F : Fx) (G G' : List Nat) (k : Nat) (tgs : List Expr) (g : List D → Rho → Option Rho) : Prop where
  go : ∃ t, PGs X tgs t ∧ ∀ v0 σ H r c s ds xs cx sx Q r1, SR X.K H G r σ c s → Ok (add c cx) (add s sx) → Reps X.K H k ds xs cx sx → Pr F v0 σ → g ds r = some r1 →
    (∀ σ' c' s', SR X.K H G' r1 σ' c' s' → Pr F v0 σ' → Step (add c cx) (add s sx) H c' s' H → Q σ' H) → t xs σ H Q
theorem g_nameK (i : Nat) {x : Str} (nd : X.N.Nodup) (hi : X.N[i]? = some x := by rfl) (hx : Loc X.env.scope x := by first | exact Or.inl rfl | exact Or.inr rfl) (hp : Fr F i := by first | exact ⟨Or.inl rfl, rfl⟩ | exact ⟨Or.inr (by decide), rfl⟩) (hl : i < G.length := by decide)
    (hf : X.fn x = true ∨ X.env.scope.names.lookup x = some .local := by first | exact .inl rfl | exact .inr rfl) : PTgK X F G (G.set i k) k (.Name x pos) (gSet i) := by
  refine ⟨_, pg_name nd hi hx hf, fun v0 σ H r c s d x cx sx Q r1 sr ok rp pr hg h => ?_⟩
  cases hg
  have hlen : i < r.length := by
    have e3 := sr.lenG
    omega
  obtain ⟨c2, s2, x2, hc, hs2⟩ := sr.fill hlen rp
  refine h (σ.set i (some x)) _ _ x2 (pr.set hp) ((Step.refl ok).less (fun z => by have := hc z; simp only [add_at]; omega) (fun z hz => by have := hs2 z; simp only [add_at] at hz ⊢; omega))
theorem gs_nilK : PTgsK X F G G k [] gNil' := by
  refine ⟨_, pgs_nil, fun v0 σ H r c s ds xs cx sx Q r1 sr ok rp pr hg h => ?_⟩
  cases ds with
  | nil =>
    cases hg
    obtain ⟨rfl, rfl, rfl⟩ := rp.inv0
    exact ⟨rfl, h σ c s sr pr (by rw [add_z, add_z]; exact .refl (by rw [add_z, add_z] at ok; exact ok))⟩
  | cons a b => cases hg
theorem gs_consK {g : D → Rho → Option Rho} {gs : List D → Rho → Option Rho} (A : PTgK X F G G1 k e g) (B : PTgsK X F G1 G2 k es gs) (hs : (assignEach (e :: es) X.env).map (·.2) = assign e X.env :: (assignEach es X.env).map (·.2) := by rfl) :
    PTgsK X F G G2 k (e :: es) (gCons' g gs) := by
  obtain ⟨t, ht, q⟩ := A.go
  obtain ⟨u, hu, q2⟩ := B.go
  refine ⟨_, pgs_cons ht hu hs, fun v0 σ H r c s ds xs cx sx Q r1 sr ok rp pr hg h => ?_⟩
  cases ds with
  | nil => cases hg
  | cons d ds =>
    obtain ⟨v, vs, ca, sa, cb, sb, rfl, ra, rb, rfl, rfl⟩ := rp.inv1
    unfold gCons' at hg
    cases e1 : g d r with
    | none => simp only [e1] at hg; cases hg
    | some r2 =>
      simp only [e1, Option.bind_some] at hg
      refine ⟨v, vs, rfl, q v0 σ H r c s d v ca sa _ r2 sr (fun z => by have := ok z; simp only [add_at] at this ⊢; omega) ra pr e1 fun σ' c' s' sr' pr' st => ?_⟩
      have st2 : Step (add c (add ca cb)) (add s (add sa sb)) H (add c' cb) (add s' sb) H := by
        have hf : Ok (add (add c ca) cb) (add (add s sa) sb) := by rw [add_assoc', add_assoc']; exact ok
        have q := st.frame (cf := cb) (sf := sb) hf rb.dom
        rw [add_assoc', add_assoc'] at q
        exact q
      exact q2 v0 σ' H r2 c' s' ds vs cb sb Q r1 sr' st2.ok rb pr' hg fun σ2 c2 s2 sr2 pr2 st3 => h σ2 c2 s2 sr2 pr2 (st2.trans st3)
theorem g_tupK {kk : Nat} {gs : List D → Rho → Option Rho} {n : Nat} (hc : X.calm = true) (A : PTgsK X F G G1 k es gs) (hn : (assignEach es X.env).length = n := by rfl) (hst : (assignEach es X.env).findIdx? (·.1) = none := by rfl) :
    PTgK X F G G1 k (.Tuple es kk pos) (gTup n gs) := by
  obtain ⟨t, ht, q⟩ := A.go
  refine ⟨_, pg_tup hc ht hn hst, fun v0 σ H r c s d x cx sx Q r1 sr ok rp pr hg h => ?_⟩
  cases d with
  | tup ds =>
    obtain ⟨a, vs, rfl, ha, rs⟩ := rep_tup rp
    have hg : (if ds.length = n then gs ds r else none) = some r1 := hg
    by_cases hl : ds.length = n
    · rw [if_pos hl] at hg
      exact ⟨a, vs, rfl, SqT.of ha, by rw [← rs.length]; exact hl, q v0 σ H r c s ds vs cx sx Q r1 sr ok rs pr hg h⟩
    · rw [if_neg hl] at hg
      cases hg
  | _ => cases hg
/-- a, b = e (a tuple with owned parts) -/
theorem s_asgK {f : Rho → R D} {g : D → Rho → Option Rho} (A0 : PV X F G G1 k e f) (T : PTgK X F G1 G2 k tg g) (hs : swapsWithSole [tg] e pos.line X.env = pure false := by rfl) (hw : swappedStores [tg] e X.env = pure none := by rfl)
    (h1 : (assignEach [tg] X.env).map (·.2) = [assign tg X.env] := by rfl) : PSt X F G G2 (.Assign [tg] e pos) (dAsg g f) := by
  obtain ⟨t, ht, q⟩ := A0.go
  obtain ⟨u, hu, q2⟩ := T.go
  refine ⟨_, ps_asg ht hu hs hw h1, fun v0 σ H r c s Dn sr ok pr h => q σ H r c s _ sr ok (OutS.useX pr h fun d r1 h2 => ?_)⟩
  intro v H' c1 s1 cr sr' x rp y
  cases eg : g d r1 with
  | none => simp only [eg] at h2; exact False.elim h2
  | some r2 =>
    simp only [eg] at h2
    exact q2 v0 σ H' r1 c1 s1 d v cr sr' _ r2 x y.ok rp pr eg fun σ' c' s' sr2 pr2 st => h2 σ' H' c' s' sr2 pr2 (y.trans st)
/-! ### dict(a list of pairs of ints) -/
def prI : List D → Option (List (Int × Int))
  | [] => some []
  | .tup [.int k, .int v] :: ds => (prI ds).map ((k, v) :: ·)
  | _ => none
def pDict : List D → Option D
  | [.lst ds] => match prI ds with
    | some ps => if (ps.map (·.1)).Nodup then some (.dct (ps.map fun p => (.inl p.1, .int p.2))) else none
    | none => none
  | _ => none
theorem prI_ok : ∀ ps : List (Int × Int), prI (ps.map fun p => .tup [.int p.1, .int p.2]) = some ps
  | [] => rfl
  | p :: ps => by
    show (prI (ps.map fun p => .tup [.int p.1, .int p.2])).map ((p.1, p.2) :: ·) = _
    rw [prI_ok ps]; rfl
theorem prI_reps {K : PySem.W.Frag} {H : Hp} : ∀ {ds : List D} {ps : List (Int × Int)} {vs : List V} {c s : Cnt}, prI ds = some ps → Reps K H 0 ds vs c s → ∃ as : List Addr, vs = as.map V.ref ∧ Paired (fun p (kv : Key × V) => SqT K H p [kV kv.1, kv.2]) as (ps.map fun p => ((.inl p.1 : Key), V.int p.2)) ∧ s = z0
  | [], ps, vs, c, s, h, r => by
    cases h
    obtain ⟨rfl, _, rfl⟩ := r.inv0
    exact ⟨[], rfl, .nil, rfl⟩
  | d :: ds, ps, vs, c, s, h, r => by
    obtain ⟨v, vs', c1, s1, c2, s2, rfl, r1, r2, rfl, rfl⟩ := r.inv1
    unfold prI at h
    split at h
    · rename_i e; cases e
    · rename_i k v' ds' e
      cases e
      cases e2 : prI ds with
      | none => rw [e2] at h; cases h
      | some qs =>
        rw [e2] at h
        cases h
        obtain ⟨as, rfl, pr, rfl⟩ := prI_reps e2 r2
        obtain ⟨a, ws, rfl, ha, rs⟩ := rep_tup r1
        cases rs with
        | cons ra rb =>
          cases ra
          cases rb with
          | cons rc rd =>
            cases rc
            cases rd
            exact ⟨a :: as, rfl, .cons (SqT.of ha) pr, by simp only [add_z]⟩
    · cases h
theorem putK_new {κ : Type} [DecidableEq κ] {kvs : List (κ × V)} {k : κ} {v : V} (h : k ∉ kvs.map (·.1)) : putK kvs k v = kvs ++ [(k, v)] := by
  unfold putK
  rw [if_neg]
  intro z
  obtain ⟨p, hp, e⟩ := List.any_eq_true.mp z
  exact h (List.mem_map.mpr ⟨p, hp, of_decide_eq_true e⟩)
theorem mergeK_new : ∀ {more kvs : List (Key × V)}, (kvs.map (·.1) ++ more.map (·.1)).Nodup → mergeK kvs more = kvs ++ more
  | [], kvs, _ => by show kvs = _; rw [List.append_nil]
  | p :: more, kvs, h => by
    have hn : p.1 ∉ kvs.map (·.1) := fun z => by
      rw [List.nodup_append] at h
      exact h.2.2 _ z _ List.mem_cons_self rfl
    show mergeK (putK kvs p.1 p.2) more = _
    rw [putK_new hn, mergeK_new]
    · simp
    · simpa using h
theorem reps_int {K : PySem.W.Frag} {H : Hp} {n : Nat} : ∀ ps : List (Int × Int), Reps K H n (ps.map fun p => D.int p.2) (ps.map fun p => V.int p.2) z0 z0
  | [] => .nil
  | p :: ps => by
    have q : Reps K H n (D.int p.2 :: ps.map fun p => D.int p.2) (V.int p.2 :: ps.map fun p => V.int p.2) (add z0 z0) (add z0 z0) := .cons (.int _) (reps_int ps)
    rw [add_z] at q
    exact q
theorem n_dict : PN X (fun xs H Q => ∃ (a : Addr) (ps : List Addr) (kvs : List (Key × V)), xs = [.ref a] ∧ SqL X.K H a (ps.map V.ref) ∧ Paired (fun p kv => SqT X.K H p [kV kv.1, kv.2]) ps kvs ∧
    ∀ p, H p = none → Q (.ref p) (L2.upd H p (.dK (mergeK [] kvs)))) 1 pDict := by
  intro ds d hd xs H sa Q ra hq
  unfold pDict at hd
  split at hd
  · rename_i ds'
    cases e : prI ds' with
    | none => rw [e] at hd; cases hd
    | some ps =>
      rw [e] at hd
      simp only at hd
      split at hd
      · rename_i nd
        cases hd
        obtain ⟨v, s1, c1, rfl, r1, rfl, rfl⟩ := inv_1 ra
        obtain ⟨a, vs, s', rfl, ha, rs, es, _⟩ := rep_lst0 r1
        obtain ⟨as, rfl, pr, rfl⟩ := prI_reps e rs
        refine ⟨a, as, _, rfl, SqL.of ha, pr, fun p hp => ?_⟩
        have ek : (ps.map fun p => ((Sum.inl p.1 : Key), V.int p.2)).map (·.1) = (ps.map (·.1)).map Sum.inl := by rw [List.map_map, List.map_map]; rfl
        rw [mergeK_new (by rw [List.map_nil, List.nil_append, ek]; exact List.Pairwise.map _ (fun a b h z => h (Sum.inl.inj z)) nd), List.nil_append]
        have ke := ex_upd (o := HO.dK (ps.map fun p => ((Sum.inl p.1 : Key), V.int p.2))) hp
        have rr : Rep X.K (L2.upd H p (.dK (ps.map fun p => ((Sum.inl p.1 : Key), V.int p.2)))) 1 (.dct (ps.map fun p => (.inl p.1, .int p.2))) (.ref p) (add (one p) z0) z0 :=
          .dctS (vs := ps.map fun p => V.int p.2) (ds := ps.map fun p => D.int p.2) upd_same (by rw [List.map_map]; rfl) (by rw [List.map_map, List.map_map]; rfl) (by rw [List.map_map]; rfl) (reps_int ps)
        rw [add_z] at rr
        refine hq _ _ _ _ rr ⟨fun a ha => ?_, fun a ha => absurd ha (Nat.lt_irrefl 0), ke, fun a => ⟨?_, .inr rfl⟩⟩
        · by_cases z : a = p
          · subst z; exact hp
          · rw [one_ne z] at ha; exact absurd ha (Nat.lt_irrefl 0)
        · rw [one_at]; split <;> omega
      · cases hd
  · cases hd
end
end VL

/-! VO2: loops that move the elements -/
namespace VL
open PySem PySem.Spec L2
section
variable {X : Cx} {F : Fx} {G G1 G2 G3 G4 G' Gt Gn : List Nat} {k k1 k2 : Nat} {e a b tg iter : Expr} {es : List Expr} {pos p tpos : Pos} {st : Stmt} {sts : List Stmt}
/-! ### loops that move the elements -/
structure WalkK (K : PySem.W.Frag) (J : It) (ds : List D) (k : Nat) (W : Nat → Cnt → Cnt → Hp → Prop) : Prop where
  keep : ∀ i c s H H', W i c s H → Kp c s H H' → W i c s H'
  dom : ∀ i c s H, W i c s H → Dom c s H
  go : ∀ i c s H, W i c s H → i < ds.length → J.go i H
  yld : ∀ i c s H x H' d, W i c s H → ds[i]? = some d → J.yld i H x H' → ∃ ci si c' s', Rep K H' k d x ci si ∧ W (i + 1) c' s' H' ∧ c = add ci c' ∧ s = add si s' ∧ ∀ a o, H a = some o → H' a = some o
  stop : ∀ c s H, W ds.length c s H → J.stop ds.length H
structure PItK (X : Cx) (F : Fx) (G G' : List Nat) (k : Nat) (tg iter : Expr) (f : Rho → R (List D)) : Prop where
  go : ∃ wi, PI X tg iter wi ∧ ∀ σ H r c s (Rr : It → Hp → Prop), SR X.K H G r σ c s → Ok c s →
    OutX X F c s H σ (fun ds r1 => ∀ J H1 c1 s1 cI sI W, SR X.K H1 G' r1 σ c1 s1 → WalkK X.K J ds k W → W 0 cI sI H1 → Step c s H (add c1 cI) (add s1 sI) H1 → Rr J H1) (f r) → wi σ H Rr
theorem rep_lstS {K : PySem.W.Frag} {H : Hp} {n : Nat} {ds : List D} {v : V} {c s : Cnt} (r : Rep K H (n + 1) (.lst ds) v c s) : ∃ a vs c', v = .ref a ∧ H a = some (.lst vs) ∧ Reps K H n ds vs c' s ∧ c = add (one a) c' := by
  cases r with
  | lstS h r => exact ⟨_, _, _, rfl, h, r, rfl⟩
theorem Reps.drop1 {K : PySem.W.Frag} {H : Hp} {n : Nat} {ds : List D} {vs : List V} {c s : Cnt} {i : Nat} {d : D} (r : Reps K H n (ds.drop i) (vs.drop i) c s) (h : ds[i]? = some d) :
    ∃ v ci si c' s', vs[i]? = some v ∧ Rep K H n d v ci si ∧ Reps K H n (ds.drop (i + 1)) (vs.drop (i + 1)) c' s' ∧ c = add ci c' ∧ s = add si s' := by
  obtain ⟨hi, ei⟩ := List.getElem?_eq_some_iff.mp h
  rw [List.drop_eq_getElem_cons hi, ei] at r
  obtain ⟨v, vs', c1, s1, c2, s2, e, r1, r2, rfl, rfl⟩ := r.inv1
  have hv : vs[i]? = some v := by
    have := congrArg (fun l => l[0]?) e
    simpa using this
  obtain ⟨hj, ej⟩ := List.getElem?_eq_some_iff.mp hv
  rw [List.drop_eq_getElem_cons hj] at e
  have e2 := (List.cons.inj e).2
  rw [← e2] at r2
  exact ⟨v, c1, s1, c2, s2, hv, r1, r2, rfl, rfl⟩
/-- the state of a walk over an owned list -/
def WL (K : PySem.W.Frag) (k : Nat) (a : Addr) (ds : List D) (i : Nat) (c s : Cnt) (H : Hp) : Prop := ∃ vs cr, H a = some (.lst vs) ∧ vs.length = ds.length ∧ Reps K H k (ds.drop i) (vs.drop i) cr s ∧ c = add (one a) cr
theorem WL.keep {K : PySem.W.Frag} {a : Addr} {ds : List D} {i : Nat} {c s : Cnt} {H H' : Hp} (w : WL K k a ds i c s H) (q : Kp c s H H') : WL K k a ds i c s H' := by
  obtain ⟨vs, cr, h, hl, r, rfl⟩ := w
  exact ⟨vs, cr, q a _ h (.inl (one_add_pos _ _)), hl, r.keep q.rC, rfl⟩
theorem WL.dom {K : PySem.W.Frag} {a : Addr} {ds : List D} {i : Nat} {c s : Cnt} {H : Hp} (w : WL K k a ds i c s H) : Dom c s H := by
  obtain ⟨vs, cr, h, hl, r, rfl⟩ := w
  exact .addC h trivial r.dom
theorem WL.step {K : PySem.W.Frag} {a : Addr} {ds : List D} {i : Nat} {c s : Cnt} {H : Hp} {d : D} {x : V} (w : WL K k a ds i c s H) (hd : ds[i]? = some d) (hx : ∀ vs, SqL K H a vs → vs[i]? = some x) : ∃ ci si c' s', Rep K H k d x ci si ∧ WL K k a ds (i + 1) c' s' H ∧ c = add ci c' ∧ s = add si s' := by
  obtain ⟨vs, cr, h, hl, r, rfl⟩ := w
  obtain ⟨v, ci, si, c', s', ev, rv, r', rfl, rfl⟩ := r.drop1 hd
  have e2 := hx vs (SqL.of h)
  rw [ev] at e2
  cases e2
  exact ⟨ci, si, add (one a) c', s', rv, ⟨vs, c', h, hl, r', rfl⟩, add_left_comm' _ _ _, rfl⟩
theorem WL.start {K : PySem.W.Frag} {H : Hp} {ds : List D} {a : Addr} {c s : Cnt} (r : Rep K H (k + 1) (.lst ds) (.ref a) c s) : WL K k a ds 0 c s H := by
  obtain ⟨b, vs, c', e, h, rs, rfl⟩ := rep_lstS r
  cases e
  exact ⟨vs, c', h, rs.length.symm, rs, rfl⟩
theorem rep_scrS {K : PySem.W.Frag} {H : Hp} {n : Nat} {ns : List Int} {v : V} {c s : Cnt} (r : Rep K H n (.scr ns) v c s) : ∃ a, v = .ref a ∧ SqL K H a (ns.map V.int) ∧ c = z0 := by
  cases r with
  | scr o h => exact ⟨_, rfl, SqL.scr h, rfl⟩
  | scrK h => exact ⟨_, rfl, h H, rfl⟩
theorem it_listK {f : Rho → R D} (A : PV X F G G1 (k + 1) iter f) : PItK X F G G1 k tg iter (dItL f) := by
  obtain ⟨t, ht, q⟩ := A.go
  refine ⟨_, pi_list ht, fun σ H r c s Rr sr ok h => q σ H r c s _ sr ok (h.bind1.mono fun d r1 h2 => ?_)⟩
  obtain ⟨ds, hd, h2⟩ := h2
  intro v H1 c1 s1 cr sI x rp st
  cases d with
  | lst ds' =>
    cases hd
    obtain ⟨a, vs, c', rfl, ha, rs, ec⟩ := rep_lstS rp
    refine ⟨a, rfl, ⟨vs, SqL.of ha⟩, h2 _ H1 c1 s1 cr sI (WL X.K k a ds) x ⟨fun i c s H H' w q => w.keep q, fun i c s H w => w.dom, fun i c s H w hi => ?_, fun i c s H y H' d w hd hy => ?_, fun c s H w => ?_⟩ (WL.start rp) st⟩
    · obtain ⟨vs', cr, h, hl, r, _⟩ := w
      have h1 : i < vs'.length := by omega
      exact ⟨vs', vs'[i], SqL.of h, List.getElem?_eq_getElem h1⟩
    · obtain ⟨rfl, hy⟩ := hy
      obtain ⟨ci, si, c', s', rv, w', e1, e2⟩ := w.step hd hy
      exact ⟨ci, si, c', s', rv, w', e1, e2, fun _ _ h => h⟩
    · obtain ⟨vs', cr, h, hl, r, _⟩ := w
      exact ⟨vs', SqL.of h, by rw [hl]; exact Nat.le_refl _⟩
  | scr ns =>
    cases hd
    obtain ⟨a, rfl, hq, ec⟩ := rep_scrS rp
    subst ec
    refine ⟨a, rfl, ⟨_, hq⟩, h2 _ H1 c1 s1 z0 sI (fun _ c s H => c = z0 ∧ Rep X.K H (k + 1) (.scr ns) (.ref a) z0 s) x ⟨fun i c s H H' w q => ⟨w.1, w.2.keep (by rw [w.1] at q; exact q)⟩, fun i c s H w => by rw [w.1]; exact w.2.dom, fun i c s H w hi => ?_, fun i c s H y H' d w hd hy => ?_, fun c s H w => ?_⟩ ⟨rfl, rp⟩ st⟩
    · obtain ⟨a', e, hq', _⟩ := rep_scrS w.2
      cases e
      rw [List.length_map] at hi
      exact ⟨_, .int (ns[i]'hi), hq', by rw [List.getElem?_map, List.getElem?_eq_getElem hi]; rfl⟩
    · obtain ⟨a', e, hq', _⟩ := rep_scrS w.2
      cases e
      obtain ⟨rfl, hy⟩ := hy
      have e2 := hy _ hq'
      rw [List.getElem?_map] at hd e2
      cases e3 : ns[i]? with
      | none => rw [e3] at hd; cases hd
      | some m =>
        rw [e3] at hd e2
        cases hd
        cases e2
        exact ⟨z0, z0, c, s, .int m, w, by rw [z_add], by rw [z_add], fun _ _ h => h⟩
    · obtain ⟨a', e, hq', _⟩ := rep_scrS w.2
      cases e
      exact ⟨_, hq', by rw [List.length_map, List.length_map]; exact Nat.le_refl _⟩
  | _ => cases hd
theorem tup2_newK {K : PySem.W.Frag} {H : Hp} {T : Addr} {n : Nat} {d e : D} {x y : V} {c1 s1 c2 s2 : Cnt} (hT : H T = none) (r1 : Rep K H n d x c1 s1) (r2 : Rep K H n e y c2 s2) : Rep K (L2.upd H T (.tup [x, y])) n (.tup [d, e]) (.ref T) (add c1 c2) (add s1 s2) := by
  have ke := ex_upd (o := .tup [x, y]) hT
  have rr : Reps K H n [d, e] [x, y] (add c1 (add c2 z0)) (add s1 (add s2 z0)) := .cons r1 (.cons r2 .nil)
  simp only [add_z] at rr
  exact .tup upd_same (rr.keep (ex_kp ke))
/-- for a, b in zip(x, y): the elements of both are moved -/
theorem it_zipK {elts : List Expr} {kk : Nat} {f : Rho → R (List D)} (A0 : PL X F G G1 (k + 1) [a, b] f) (hg : Gl X "zip") (hm : X.mg "zip" = none) (hs : starEach [a, b] X.env = (false, eval a X.env) :: starEach [b] X.env := by rfl) (hpl : (backTo pos (starEach [b] X.env)).any (·.1) = false := by rfl) :
    PItK X F G G1 k (.Tuple elts kk tpos) (.Call (.Name "zip" p) [a, b] [] pos) (dIt zipD f) := by
  obtain ⟨t, ht, q⟩ := A0.go
  refine ⟨_, pi_zip hg hm ht hs hpl, fun σ H r c s Rr sr ok h => q σ H r c s _ sr ok (h.bind1.mono fun ds r1 h2 => ?_)⟩
  obtain ⟨is, hd, h2⟩ := h2
  intro vs H1 c1 s1 cr sI x rp st
  unfold zipD at hd
  split at hd
  · rename_i xs ys
    cases hd
    obtain ⟨v, u, ca, sa, cb, sb, rfl, ra, rb, rfl, rfl⟩ := inv_2 rp
    obtain ⟨a, vs, ca', rfl, ha, rs, ea⟩ := rep_lstS ra
    obtain ⟨b, us, cb', rfl, hb, rt, eb⟩ := rep_lstS rb
    refine ⟨a, b, vs, us, rfl, SqL.of ha, SqL.of hb, h2 _ H1 c1 s1 (add ca cb) (add sa sb) (fun i c s H => ∃ c1 s1 c2 s2, WL X.K k a xs i c1 s1 H ∧ WL X.K k b ys i c2 s2 H ∧ c = add c1 c2 ∧ s = add s1 s2) x
      ⟨fun i c s H H' w q => ?_, fun i c s H w => ?_, fun i c s H w hi => ?_, fun i c s H y H' d w hd hy => ?_, fun c s H w => ?_⟩ ⟨ca, sa, cb, sb, WL.start ra, WL.start rb, rfl, rfl⟩ st⟩
    · obtain ⟨c1, s1, c2, s2, w1, w2, rfl, rfl⟩ := w
      exact ⟨c1, s1, c2, s2, w1.keep q.left, w2.keep q.right, rfl, rfl⟩
    · obtain ⟨c1, s1, c2, s2, w1, w2, rfl, rfl⟩ := w
      exact w1.dom.add w2.dom
    · obtain ⟨c1, s1, c2, s2, w1, w2, rfl, rfl⟩ := w
      obtain ⟨vs', cr, h, hl, r, _⟩ := w1
      obtain ⟨us', cr2, h2, hl2, r2, _⟩ := w2
      rw [List.length_zipWith] at hi
      have h3 : i < vs'.length := by omega
      have h4 : i < us'.length := by omega
      exact ⟨vs', us', vs'[i], us'[i], SqL.of h, SqL.of h2, List.getElem?_eq_getElem h3, List.getElem?_eq_getElem h4⟩
    · obtain ⟨c1, s1, c2, s2, w1, w2, rfl, rfl⟩ := w
      obtain ⟨d1, d2, hd1, hd2, rfl⟩ := zip_get hd
      obtain ⟨T, x', y', rfl, hT, rfl, hx, hy⟩ := hy
      obtain ⟨ci, si, c1', s1', rv, w1', e1, e2⟩ := w1.step hd1 hx
      obtain ⟨cj, sj, c2', s2', ru, w2', e3, e4⟩ := w2.step hd2 hy
      have ke := ex_upd (o := .tup [x', y']) hT
      refine ⟨add ci cj, add si sj, add c1' c2', add s1' s2', tup2_newK hT rv ru, ⟨c1', s1', c2', s2', w1'.keep (ex_kp ke), w2'.keep (ex_kp ke), rfl, rfl⟩, ?_, ?_, ke⟩
      · rw [e1, e3]; funext z; simp only [add_at]; omega
      · rw [e2, e4]; funext z; simp only [add_at]; omega
    · obtain ⟨c1, s1, c2, s2, w1, w2, rfl, rfl⟩ := w
      obtain ⟨vs', cr, h, hl, r, _⟩ := w1
      obtain ⟨us', cr2, h2, hl2, r2, _⟩ := w2
      refine ⟨vs', us', SqL.of h, SqL.of h2, ?_⟩
      rw [List.length_zipWith, hl, hl2]
      omega
  · cases hd
/-- for tg in iter: body; the elements are moved into the target -/
theorem s_forK (G2 : List Nat) {body : List Stmt} {fi : Rho → R (List D)} {g : D → Rho → Option Rho} {b : Rho → SO} (hp : PassesOwn (model X.prog X.w) X.A X.env X.xe) (hc : X.calm = true) (I : PItK X F G G1 k tg iter fi) (T : PTgK X F G2 Gt k tg g) (B : PBk X (F.at G2 G2) Gt Gn body b)
    (h1 : leG G2 G1 = true := by rfl) (h2 : leG G2 Gn = true := by rfl) (hs : ∀ x, foldedSetIterable iter X.env x = pure x := by intro _; rfl) :
    PSt X F G G2 (.For tg iter body [] pos) (dFor fi g b) := by
  obtain ⟨wi, hwi, qi⟩ := I.go
  obtain ⟨tt, htt, qt⟩ := T.go
  obtain ⟨tb, htb, qb⟩ := B.go
  refine ⟨_, ps_for hp hc hwi htt htb hs, fun v0 σ H r c s Dn sr ok pr h => qi σ H r c s _ sr ok (OutS.useX pr h fun ds r1 h3 => ?_)⟩
  intro J H1 c1 s1 cI sI W x wk w1 st
  refine ⟨fun i m σ' H' => m = ds.length - i ∧ i ≤ ds.length ∧ ∃ r' c' s' ci si, SR X.K H' G2 r' σ' c' s' ∧ W i ci si H' ∧ Pr F v0 σ' ∧ Step c s H (add c' ci) (add s' si) H' ∧ OutS X F v0 G2 c s H Dn (loopD g b (ds.drop i) r'), ?_, ?_⟩
  · obtain ⟨c', s', x', w⟩ := x.wk (LeG.of h1)
    exact ⟨ds.length, by simp, Nat.zero_le _, r1, c', s', cI, sI, x', w1, pr, st.wk (w.add (Wk.refl cI sI)), h3⟩
  · rintro i m σ' H' ⟨rfl, hi, r', c', s', ci, si, x', w', pr', st', o⟩
    by_cases hlt : i < ds.length
    · have hd : ds[i]? = some ds[i] := List.getElem?_eq_getElem hlt
      rw [List.drop_eq_getElem_cons hlt] at o
      unfold loopD at o
      cases eg : g ds[i] r' with
      | none => simp only [eg] at o; exact False.elim o
      | some r2 =>
        simp only [eg] at o
        refine .inr ⟨wk.go i ci si H' w' hlt, fun σ' H' => ∃ r' c' s' ci si, SR X.K H' G2 r' σ' c' s' ∧ W (i + 1) ci si H' ∧ Pr F v0 σ' ∧ Step c s H (add c' ci) (add s' si) H' ∧ OutS X F v0 G2 c s H Dn (loopD g b (ds.drop (i + 1)) r'), fun σ2 H2 hN => ⟨ds.length - (i + 1), by omega, rfl, hlt, hN⟩, fun y H2 hy => ?_⟩
        obtain ⟨ce, se, cn, sn, ry, w2, e1, e2, hk⟩ := wk.yld i ci si H' y H2 ds[i] w' hd hy
        have x2 := x'.keep (ex_kp hk)
        have st2 : Step c s H (add (add c' ce) cn) (add (add s' se) sn) H2 := by
          have q := st'.ext hk
          rw [e1, e2, ← add_assoc', ← add_assoc'] at q
          exact q
        have okk : Ok (add c' ce) (add s' se) := fun z => by have := st2.ok z; simp only [add_at] at this ⊢; omega
        refine qt v0 σ' H2 r' c' s' ds[i] y ce se _ r2 x2 okk ry pr' eg fun σ3 c3 s3 x3 pr3 st3 => ?_
        have fr := fun {c4 s4 H4} (z : Step c3 s3 H2 c4 s4 H4) => ((st3.trans z).frame (cf := cn) (sf := sn) st2.ok (wk.dom (i + 1) cn sn H2 w2))
        have aside : ∀ {c4 s4 H4}, Step c3 s3 H2 c4 s4 H4 → Kp cn sn H2 H4 := fun {c4 s4 H4} z => (st3.trans z).aside (cf := cn) (sf := sn) st2.ok
        have again : ∀ {σ4 H4 c4 s4 r4}, SR X.K H4 G2 r4 σ4 c4 s4 → Pr F v0 σ4 → Step c3 s3 H2 c4 s4 H4 → OutS X F v0 G2 c s H Dn (loopD g b (ds.drop (i + 1)) r4) →
            ∃ r' c' s' ci si, SR X.K H4 G2 r' σ4 c' s' ∧ W (i + 1) ci si H4 ∧ Pr F v0 σ4 ∧ Step c s H (add c' ci) (add s' si) H4 ∧ OutS X F v0 G2 c s H Dn (loopD g b (ds.drop (i + 1)) r') := fun {σ4 H4 c4 s4 r4} sr4 pr4 z o4 =>
          ⟨r4, c4, s4, cn, sn, sr4, wk.keep _ _ _ H2 H4 w2 (aside z), pr4, st2.trans (fr z), o4⟩
        have back : ∀ {c4 s4 H4}, Step c3 s3 H2 c4 s4 H4 → Step c s H c4 s4 H4 := fun {c4 s4 H4} z => (st2.trans (fr z)).less (fun a => by simp only [add_at]; omega) (fun a ha => by simp only [add_at]; omega)
        refine qb v0 σ3 H2 r2 c3 s3 _ x3 st3.ok pr3 ?_
        cases eb : b r2 with
        | nx r3 =>
          simp only [eb] at o
          intro σ4 H4 c4 s4 sr4 pr4 z
          obtain ⟨c5, s5, sr5, w5⟩ := sr4.wk (LeG.of h2)
          exact again sr5 pr4 (z.wk w5) o
        | ct r3 =>
          simp only [eb] at o
          exact fun σ4 H4 c4 s4 sr4 pr4 z => again sr4 pr4 z o
        | bk r3 =>
          simp only [eb] at o
          exact fun σ4 H4 c4 s4 sr4 pr4 z => o σ4 H4 c4 s4 sr4 pr4 (back z)
        | rt d r3 =>
          simp only [eb] at o
          intro v H4 cr sr c0 s0 rp i z
          have q := st2.trans (fr z)
          exact o v H4 cr sr c0 s0 rp i (q.less (fun a => by simp only [add_at]; omega) (fun a ha => by simp only [add_at] at ha ⊢; omega))
        | ex n d r3 =>
          simp only [eb] at o
          exact fun cls dx σ4 H4 G4 c4 s4 e gg sr4 pr4 z => o cls dx σ4 H4 G4 c4 s4 e gg sr4 pr4 (back z)
        | no =>
          simp only [eb] at o
          exact False.elim o
    · obtain rfl : i = ds.length := by omega
      rw [List.drop_length] at o
      exact .inl ⟨wk.stop ci si H' w', o σ' H' c' s' x' pr' (st'.less (fun a => by simp only [add_at]; omega) (fun a ha => by simp only [add_at]; omega))⟩
end
end VL

/-! VO3: flat tuples raised, lists with owned elements put together, x[j].m(..), moved arguments -/
namespace VL
open PySem PySem.Spec L2
/-! ### a flat thing, or a tuple of flat things -/
def flatL : List D → Bool
  | [] => true
  | d :: ds => flat d && flatL ds
def flatT : D → Bool
  | .tup ds => flatL ds
  | d => flat d
theorem Reps.flatUp {K : PySem.W.Frag} {H : Hp} {n m : Nat} : ∀ {ds : List D} {vs : List V} {c s : Cnt}, Reps K H n ds vs c s → flatL ds = true → Reps K H m ds vs c s
  | _, _, _, _, .nil, _ => .nil
  | _, _, _, _, .cons (d := d) (ds := ds) a b, h => by
    have h : (flat d && flatL ds) = true := h
    rw [Bool.and_eq_true] at h
    exact .cons (a.flatUp h.1) (Reps.flatUp b h.2)
theorem Rep.flatTUp {K : PySem.W.Frag} {H : Hp} {n m : Nat} {d : D} {v : V} {c s : Cnt} (r : Rep K H n d v c s) (h : flatT d = true) : Rep K H m d v c s := by
  cases d with
  | tup ds =>
    obtain ⟨a, vs, rfl, ha, rs⟩ := rep_tup r
    exact .tup ha (rs.flatUp h)
  | _ => exact r.flatUp h
def dUpT (f : Rho → R D) : Rho → R D := fun r => (f r).bind fun d r1 => if flatT d = true then .ok d r1 else .no
section
variable {X : Cx} {F : Fx} {G G1 G2 G3 G4 G' Gt Gn : List Nat} {k k1 k2 ka kr lv n : Nat} {e a b tg iter : Expr} {es : List Expr} {pos p tpos apos cpos : Pos} {st : Stmt} {sts : List Stmt}
theorem v_upT {f : Rho → R D} (A : PV X F G G1 k1 e f) : PV X F G G1 k e (dUpT f) := by
  obtain ⟨t, ht, q⟩ := A.go
  refine ⟨t, ht, fun σ H r c s Q sr ok h => q σ H r c s _ sr ok (h.bind.mono fun d r1 h2 => ?_)⟩
  intro v H' c1 s1 cr sr' x rp st
  by_cases hf : flatT d = true
  · rw [if_pos hf] at h2
    exact h2 v H' c1 s1 cr sr' x (rp.flatTUp hf) st
  · rw [if_neg hf] at h2
    exact False.elim h2
/-! ### a + b, both with owned elements -/
theorem v_catK {fa fb : Rho → R D} (A : PV X F G G1 (k + 1) a fa) (B : PV X F G1 G2 (k + 1) b fb) : PV X F G G2 (k + 1) (.BinOp a .Add b pos) (d2 pCat fa fb) := by
  obtain ⟨ta, tb, ha, hb, q⟩ := two A B
  refine ⟨_, pe_op op_cat ha hb, fun σ H r c s Q sr ok h => q σ H r c s _ sr ok (h.bind2.mono fun ⟨da, db⟩ rr h2 => ?_)⟩
  obtain ⟨d, hd, h2⟩ := h2
  intro x y H2 c2 s2 ca sa cb sb srx rpa rpb st
  have rpa : Rep X.K H2 (k + 1) da x ca sa := rpa
  have rpb : Rep X.K H2 (k + 1) db y cb sb := rpb
  cases da with
  | lst xs =>
    cases db with
    | lst ys =>
      have hd : (if xs.length + ys.length ≤ 100000 then some (D.lst (xs ++ ys)) else none) = some d := hd
      by_cases hl : xs.length + ys.length ≤ 100000
      · rw [if_pos hl] at hd
        cases hd
        obtain ⟨l1, vs, c1', rfl, h1, rs, e1⟩ := rep_lstS rpa
        obtain ⟨l2, us, c2', rfl, hh2, rt, e2⟩ := rep_lstS rpb
        refine ⟨l1, l2, vs, us, rfl, rfl, h1, hh2, by rw [← rs.length, ← rt.length]; exact line5 hl, fun p hp => ?_⟩
        have q0 := rt.app rs
        have st1 : Step c s H (add c2 (add c1' c2')) (add s2 (add sa sb)) H2 := st.less (fun z => by subst e1; subst e2; simp only [add_at]; omega) (fun z hz => by simp only [add_at] at hz ⊢; omega)
        have dm : Dom (add c2 (add c1' c2')) (add s2 (add sa sb)) H2 := srx.dom.add (rs.dom.add rt.dom)
        have ke := ex_upd (o := .lst (vs ++ us)) hp
        exact h2 _ _ c2 s2 _ _ (srx.keep (ex_kp ke)) (.lstS upd_same (q0.keep (ex_kp ke))) (lst_fresh st1 dm hp)
      · rw [if_neg hl] at hd; cases hd
    | _ => cases hd
  | _ => cases db <;> cases hd
/-! ### methods whose arguments own other levels than the list -/
def MuOkA (X : Cx) (r : V → List V → Hp → VK → Prop) (n ka kr : Nat) (h : List D → List D → Option (D × List D)) : Prop :=
  ∀ ds as d ds', h ds as = some (d, ds') → ∀ l vs us H c s ca sa (Q : VK), H l = some (.lst vs) → Reps X.K H n ds vs c s → Reps X.K H ka as us ca sa →
    (∀ vs' v c' s' cr sr, Reps X.K H n ds' vs' c' s' → Rep X.K H kr d v cr sr → (∀ a, c' a + cr a ≤ c a + ca a) → (∀ a, 0 < s' a + sr a → 0 < s a + sa a) → Q v (L2.upd H l (.lst vs'))) → r (.ref l) us H Q
theorem mu_endA {i : Nat} {h : List D → List D → Option (D × List D)} {r0 : V → List V → Hp → VK → Prop} (mu : MuOkA X r0 n ka kr h) {c s c1 s1 ca sa : Cnt} {H H1 : Hp} {σ : St} {Q : VK} {as : List D} {us : List V} {r1 : Rho} {l : Addr} (hm : gget G1 i = n + 1) (x : SR X.K H1 G1 r1 σ c1 s1) (rp : Reps X.K H1 ka as us ca sa)
    (st : Step c s H (add c1 ca) (add s1 sa) H1) (ev0 : σ[i]? = some (some (.ref l))) (hh : OutX X F c s H σ (OkE X G1 kr c s H σ Q) (muGo i h as r1)) : r0 (.ref l) us H1 Q := by
  unfold muGo at hh
  cases e1 : rget r1 i with
  | none => rw [e1] at hh; exact False.elim hh
  | some d0 =>
    rw [e1] at hh
    cases d0 with
    | lst ds =>
      cases eh : h ds as with
      | none => simp only [eh] at hh; exact False.elim hh
      | some pr =>
        obtain ⟨d, ds'⟩ := pr
        simp only [eh] at hh
        obtain ⟨v, c3, s3, c4, s4, ev, rr, x', ec, es'⟩ := x.out e1
        rw [ev0] at ev
        cases ev
        rw [hm] at rr
        have hlt := rget_lt e1
        cases rr with
        | @lstS _ _ vs _ cc ss hl rs =>
          subst ec; subst es'
          have okl := st.ok l
          simp only [add_at, one_same] at okl
          refine mu ds as d ds' eh l vs us H1 cc s3 ca sa Q hl rs rp fun vs' v c' s' cr sr rs' rv hc hs => ?_
          have hcl := hc l
          have hsl : s' l = 0 ∧ sr l = 0 := by
            have := hs l
            omega
          have kp : ∀ {c s : Cnt}, c l = 0 → s l = 0 → Kp c s H1 (L2.upd H1 l (.lst vs')) := fun {c s} e1 e2 => Kp.upd hl (fun z => z) e1 e2
          have xk := x'.keep (kp (by omega) (by omega))
          have rk := rs'.keep (kp (by omega) hsl.1)
          have xu := xk.upd (by rw [List.length_set]; exact hlt) (rget_set_none r1 i) ev0 (.lstS upd_same rk)
          rw [set_set, ← hm, gset_same] at xu
          refine hh v _ _ _ cr sr xu (rv.keep (kp (by omega) hsl.2)) ?_
          refine st.mut (by simp only [add_at, one_same]; omega) hl (fun z => z) (fun a => ?_) (fun a ha => ?_)
          · have := hc a
            simp only [add_at]; omega
          · have := hs a
            simp only [add_at] at ha ⊢; omega
    | _ => exact False.elim hh
/-- x.m(e, ..), x the name of slot i, a list that is owned; the arguments own ka levels -/
theorem v_mtA (i n ka : Nat) {y name : Str} {py : Pos} {id : String} {r0 : V → List V → Hp → VK → Prop} {h : List D → List D → Option (D × List D)} {fa : Rho → R (List D)} (slot : Slot "list" name id) (hty : typeOf (.builtin id) = pure (.type "method_descriptor")) (hmt : MtR X id r0) (mu : MuOkA X r0 n ka kr h)
    (A : PL X F G G1 ka (e :: es) fa) (hmm : gget G1 i = n + 1 := by rfl) (hN : X.N[i]? = some y := by rfl) (hv : Vis X.env.scope y := by first | exact Or.inl rfl | exact Or.inr (Or.inl rfl) | exact Or.inr (Or.inr rfl))
    (hd : (y == ("__debug__" : Str)) = false := by decide) (hcd : (y == ("__classdict__" : Str)) = false := by decide)
    (hbase : attributeBase (.Name y py) name X.env (eval (.Name y py) X.env) = eval (.Name y py) X.env := by rfl)
    (hfew : ((backTo cpos (starEach (e :: es) X.env)).all (fun x => !x.1) && (backToKw cpos (keywordEach [] X.env)).all (fun x => x.1.isSome)
      && decide ((e :: es).length + ([] : List Keyword).length + (if ([] : List Keyword).isEmpty then 0 else 1) < 30)) = true := by rfl)
    (hline : (apos.endLine == cpos.line) = true := by rfl) (hs : starEach (e :: es) X.env = (false, eval e X.env) :: starEach es X.env := by rfl) (hplain : (backTo cpos (starEach es X.env)).any (·.1) = false := by rfl) :
    PV X F G G1 kr (.Call (.Attribute (.Name y py) name apos) (e :: es) [] cpos) (dMut i h fa) := by
  obtain ⟨t, ht, q⟩ := A.go
  refine ⟨_, pe_bm PySem.F.plainAttrs_list slot hty hmt (pv i hN hv hd hcd) ht hbase hfew hline hs hplain, fun σ H r c s Q sr ok h0 => ?_⟩
  unfold dMut at h0
  by_cases hi : isLst (rget r i) = true
  case neg => rw [if_neg hi] at h0; exact False.elim h0
  rw [if_pos hi] at h0
  obtain ⟨ds0, e0⟩ := isLst_of hi
  obtain ⟨v0, _, _, _, _, ev0, rp0, _⟩ := sr.out e0
  obtain ⟨l, vs0, rfl, hl0, _⟩ := rep_lst rp0
  refine ⟨.ref l, ev0, .inl ⟨rfl, vs0, SqL.of hl0⟩, q σ H r c s _ sr ok (h0.bind.mono fun as r1 h2 => ?_)⟩
  intro us H1 c1 s1 ca sa x rp st
  exact mu_endA mu hmm x rp st ev0 h2
theorem mu_extendA : MuOkA X rExtend n (n + 1) kr hExtend := by
  intro ds as d ds' hh l vs us H c s ca sa Q hl rs ra hq
  unfold hExtend at hh
  split at hh
  · rename_i es
    split at hh
    · rename_i hlen
      cases hh
      obtain ⟨v, _, c1, s1, c2, s2, rfl, rx, rn, rfl, rfl⟩ := ra.inv1
      obtain ⟨rfl, rfl, rfl⟩ := rn.inv0
      obtain ⟨b, zs, c3, rfl, hb, re, rfl⟩ := rep_lstS rx
      refine ⟨l, b, vs, zs, rfl, rfl, hl, hb, by rw [← rs.length, ← re.length]; exact line5 hlen, hq _ .non _ _ z0 z0 (re.app rs) .non (fun a => by simp only [add_at, z_at]; omega) (fun a h => by simp only [add_at, z_at] at h ⊢; omega)⟩
    · cases hh
  · cases hh
/-! ### x[j].m(e, ..), j a name -/
def dMutIxV (i jx : Nat) (h : List D → List D → Option (D × List D)) (fa : Rho → R (List D)) : Rho → R D := fun r => match rget r jx with
  | some (.int j) => dMutIx i j h fa r
  | _ => .no
theorem v_mtIxV (i n jx : Nat) {y jn name : Str} {py jp sp : Pos} {id : String} {r0 : V → List V → Hp → VK → Prop} {h : List D → List D → Option (D × List D)} {fa : Rho → R (List D)} (slot : Slot "list" name id) (hty : typeOf (.builtin id) = pure (.type "method_descriptor")) (hmt : MtR X id r0) (mu : MuOk X r0 n kr h)
    (A : PL X F G G1 n (e :: es) fa) (hmG : gget G i = n + 2 := by rfl) (hmm : gget G1 i = n + 2 := by rfl) (hN : X.N[i]? = some y := by rfl) (hv : Vis X.env.scope y := by first | exact Or.inl rfl | exact Or.inr (Or.inl rfl) | exact Or.inr (Or.inr rfl))
    (hNj : X.N[jx]? = some jn := by rfl) (hvj : Vis X.env.scope jn := by first | exact Or.inl rfl | exact Or.inr (Or.inl rfl) | exact Or.inr (Or.inr rfl))
    (hd : (y == ("__debug__" : Str)) = false := by decide) (hcd : (y == ("__classdict__" : Str)) = false := by decide) (hdj : (jn == ("__debug__" : Str)) = false := by decide) (hcdj : (jn == ("__classdict__" : Str)) = false := by decide)
    (hbase : attributeBase (.Subscript (.Name y py) (.Name jn jp) sp) name X.env (eval (.Subscript (.Name y py) (.Name jn jp) sp) X.env) = eval (.Subscript (.Name y py) (.Name jn jp) sp) X.env := by rfl)
    (hfew : ((backTo cpos (starEach (e :: es) X.env)).all (fun x => !x.1) && (backToKw cpos (keywordEach [] X.env)).all (fun x => x.1.isSome)
      && decide ((e :: es).length + ([] : List Keyword).length + (if ([] : List Keyword).isEmpty then 0 else 1) < 30)) = true := by rfl)
    (hline : (apos.endLine == cpos.line) = true := by rfl) (hs : starEach (e :: es) X.env = (false, eval e X.env) :: starEach es X.env := by rfl) (hplain : (backTo cpos (starEach es X.env)).any (·.1) = false := by rfl) :
    PV X F G G1 kr (.Call (.Attribute (.Subscript (.Name y py) (.Name jn jp) sp) name apos) (e :: es) [] cpos) (dMutIxV i jx h fa) := by
  obtain ⟨t, ht, q⟩ := A.go
  refine ⟨_, pe_bm PySem.F.plainAttrs_list slot hty hmt (pe_ix ix_seq (pv i hN hv hd hcd) (pv jx hNj hvj hdj hcdj) (fun _ _ => rfl)) ht hbase hfew hline hs hplain, fun σ H r c s Q sr ok h0 => ?_⟩
  unfold dMutIxV at h0
  cases ej : rget r jx with
  | none => rw [ej] at h0; exact False.elim h0
  | some dj =>
    rw [ej] at h0
    cases dj with
    | int j =>
      obtain ⟨vj, _, _, _, _, evj, rpj, _⟩ := sr.out ej
      generalize gget G jx = mj at rpj
      cases rpj
      exact mtix_run (to := fun σ' H' Q' => σ'[jx]? = some (some (.int j)) → tOp (rIx X.K) (tVar i) (tVar jx) σ' H' Q') mu hmm hmG (fun σ H Q v y ev hr hq hj => ⟨v, ev, .int j, hj, by
        rcases hr with ⟨p, xs, i', z, e1, e2, e3, e4, e5, _⟩ | ⟨p, xs, i', z, e1, e2, e3, e4, e5, _⟩ | ⟨z, i', c', e1, e2, e3, e4, e5, _⟩
        · subst e5; exact .inl ⟨p, xs, i', z, e1, e2, e3, e4, hq⟩
        · subst e5; exact .inr (.inl ⟨p, xs, i', z, e1, e2, e3, e4, hq⟩)
        · subst e5; exact .inr (.inr ⟨z, i', c', e1, e2, e3, e4, hq⟩)⟩) q σ H r c s Q sr ok h0 evj
    | _ => exact False.elim h0
end
/-! ### moved arguments -/
def SpM (K : PySem.W.Frag) (mg : Str → Option Value) (ka np kr : Nat) (g : List D → DR) : Sp := fun vs H Q E =>
  ∃ ds c s, vs.length = np ∧ ds.length = np ∧ Reps K H ka ds vs c s ∧ Ok c s ∧ match g ds with
    | .ok d _ => ∀ v H' cr sr, Rep K H' kr d v cr sr → Step c s H cr sr H' → Q v H'
    | .ex n x _ => ∀ cls dx H', ExP mg n x H' cls dx → Step c s H z0 z0 H' → E cls dx H'
    | .no => False
abbrev FnM (P : Program) (w : World) (K : PySem.W.Frag) (mg : Str → Option Value) (base : Heap) (k : Nat) (f : Addr) (fd : FuncData) (ps : List Str) (ka kr : Nat) (g : List D → DR) : Prop :=
  FnG P w K mg base k f fd ps (SpM K mg ka ps.length kr g)
section
variable {P : Program} {w : World} {K : PySem.W.Frag} {mg : Str → Option Value} {base : Heap}
theorem fnm_of {x qual : Str} {st : Stmt} {f : Addr} {fd : FuncData} {N ps : List Str} {k ka : Nat} {kr : Nat} {body : Rho → SO} {G' : List Nat} (F : Fun K x qual st f fd) (S : FnScope N ps (defScope st)) (hps : ps.length ≤ N.length)
    (B : ∀ (cdv : Value) (A : Around) (outer : List Env) (s : Shared) (H : Hp) (E : XK), (A.deeper (PyProof.Rows.envOfC qual (defScope st) s.heap.objs.size f cdv)).guards = some [] → Room k (A.deeper (PyProof.Rows.envOfC qual (defScope st) s.heap.objs.size f cdv)) →
      PBk (cxOf (L2.CX P w) P w K mg base N qual (defScope st) f cdv A outer s H E) (fxOf E none kr) (List.replicate ps.length ka ++ List.replicate (N.length - ps.length) 0) G' (defBody st) body) :
    FnM P w K mg base (k + 1) f fd ps ka kr (runF none N.length ps.length body) := by
  refine fng_of F S (fun vs H Q E h => ?_) (fun cdv A outer s H vs Q E hgd hr h => ?_)
  · obtain ⟨ds, c, s, hl, _⟩ := h
    exact hl
  · obtain ⟨ds, c, s', hl, hdp, rp, ok, h⟩ := h
    obtain ⟨t, ht, q⟩ := (B cdv A outer s H E hgd hr).go
    refine ⟨t, ht, ?_⟩
    have hst : L2.start N vs = vs.map some ++ List.replicate (N.length - ps.length) none := by unfold L2.start; rw [hl]
    rw [hst]
    have sr := SR.args rp
    rw [hdp] at sr
    have sr2 := sr.more (N.length - ps.length)
    unfold runF at h
    rw [if_pos hdp] at h
    refine q (vs.headD .non) _ H _ c s' _ sr2 ok ⟨(fun m hm => nomatch hm), (fun _ h => nomatch h)⟩ ?_
    cases eb : body (ds.map some ++ List.replicate (N.length - ps.length) none) with
    | nx r =>
      rw [eb] at h
      intro σ' H' c1 s1 x pr y
      exact h .non H' z0 z0 .non (y.less (fun a => Nat.zero_le _) (fun a ha => absurd ha (Nat.lt_irrefl 0)))
    | bk r => rw [eb] at h; exact False.elim h
    | ct r => rw [eb] at h; exact False.elim h
    | rt d r =>
      rw [eb] at h
      intro v H' cr sr' c0 s0 rp i y
      exact h v H' cr sr' rp (y.less (fun a => by simp only [add_at]; omega) (fun a ha => by simp only [add_at]; omega))
    | ex n d r =>
      rw [eb] at h
      intro cls dx σ' H' G c1 s1 e gg x pr y
      exact h cls dx H' e (y.less (fun a => Nat.zero_le _) (fun a ha => absurd ha (Nat.lt_irrefl 0)))
    | no => rw [eb] at h; exact False.elim h
theorem fnm_mk {x qual : Str} {st : Stmt} {f : Addr} {fd : FuncData} {N ps : List Str} {k ka : Nat} {kr : Nat} {body : Rho → SO} (nN np : Nat) (G0 G' : List Nat) (F : Fun K x qual st f fd) (S : FnScope N ps (defScope st)) (hN : N.length = nN) (hP : ps.length = np)
    (hG0 : List.replicate np ka ++ List.replicate (nN - np) 0 = G0) (hps : np ≤ nN)
    (Bd : ∀ (X : Cx) (EX : XK), (∃ (cdv : Value) (A : Around) (outer : List Env) (s : Shared) (H : Hp), X = cxOf (L2.CX P w) P w K mg base N qual (defScope st) f cdv A outer s H EX) → X.A.guards = some [] → Room k X.A → Tk X (fxOf EX none kr) → Pf X (fxOf EX none kr) → PassesOwn (model X.prog X.w) X.A X.env X.xe → PBk X (fxOf EX none kr) G0 G' (defBody st) body) :
    FnM P w K mg base (k + 1) f fd ps ka kr (runF none nN np body) := by
  subst hN; subst hP; subst hG0
  exact fnm_of F S hps (fun cdv A outer s H E gd hr => Bd _ E ⟨cdv, A, outer, s, H, rfl⟩ gd hr (takes_of rfl rfl rfl rfl) (passAt (takes_of rfl rfl rfl rfl)) (passes_of rfl))
end
section
variable {X : Cx} {F : Fx} {G G1 G2 G3 G4 G' Gt Gn : List Nat} {k k1 k2 ka kr lv n : Nat} {e a b tg iter : Expr} {es : List Expr} {pos p tpos apos cpos : Pos} {st : Stmt} {sts : List Stmt}
/-- f(e, ..): the arguments are moved into it -/
theorem v_callM {np : Nat} {x : Str} {f : Addr} {fd : FuncData} {ps : List Str} {g : List D → DR} {fa : Rho → R (List D)} (Fv : FnM X.prog X.w X.K X.mg X.base lv f fd ps ka kr g) (gd : X.A.guards = some []) (hr : Room lv X.A) (hm : X.mg x = some (.ref f)) (hk : PySem.W.keepIn X.K (.ref f) = true) (hb : Binds X.K fd ps []) (pf : Pf X F)
    (A0 : PL X F G G1 ka (e :: es) fa) (hps : (e :: es).length = ps.length := by rfl) (hg : Gl X x := by rfl) (hio : IoG F G1 := by first | exact io_none rfl | exact io_some rfl rfl)
    (hdb : (x == ("__debug__" : Str)) = false := by decide) (he : starEach (e :: es) X.env = (false, eval e X.env) :: starEach es X.env := by rfl) (hpl : (backTo pos (starEach es X.env)).any (·.1) = false := by rfl) (hnp : ps.length = np := by rfl) :
    PV X F G G1 kr (.Call (.Name x p) (e :: es) [] pos) (dFn np g fa) := by
  subst hnp
  obtain ⟨t, ht, q⟩ := A0.go
  refine ⟨_, pe_callG Fv gd hr hg hm hk hb pf ht hdb he hpl, fun σ H r c s Q sr ok h => q σ H r c s _ sr ok (h.bind.mono fun ds r1 h2 => ?_)⟩
  intro vs H1 c1 s1 ca sa x rp st
  by_cases hl : ds.length = ps.length
  · rw [if_pos hl] at h2
    have okk : Ok (add ca c1) (add sa s1) := fun z => by have := st.ok z; simp only [add_at] at this ⊢; omega
    have st' : Step c s H (add ca c1) (add sa s1) H1 := by rw [add_comm' ca c1, add_comm' sa s1]; exact st
    refine ⟨ds, ca, sa, by rw [← rp.length]; exact hl, hl, rp, fun z => by have := okk z; simp only [add_at] at this; omega, ?_⟩
    cases eg : g ds with
    | no => rw [eg] at h2; exact False.elim h2
    | ok d d0 =>
      rw [eg] at h2
      intro v H' cr sr rr y
      have fr := y.frame okk x.dom
      have as' := y.aside okk
      refine h2 v H' c1 s1 cr sr (x.keep as') rr ?_
      have q := st'.trans fr
      rw [add_comm' cr c1, add_comm' sr s1] at q
      exact q
    | ex nn d d0 =>
      rw [eg] at h2
      intro cls dx H' e y
      have fr := y.frame okk x.dom
      have as' := y.aside okk
      have q := st'.trans fr
      simp only [z_add] at q
      exact h2 cls dx H' G1 c1 s1 e hio (x.keep as') q
  · rw [if_neg hl] at h2
    exact False.elim h2
end
end VL

/-! VO4: statements that store no name; for x in t: with the elements changed in place -/
namespace VL
open PySem PySem.Spec L2
/-- a statement that goes on with the same names -/
def OutQ (X : Cx) (G' : List Nat) (c s : Cnt) (H : Hp) (σ : St) (Dn : Ends) : SO → Prop
  | .nx r => ∀ H' c' s', SR X.K H' G' r σ c' s' → Step c s H c' s' H' → Dn.nx σ H'
  | _ => False
structure PQt (X : Cx) (F : Fx) (G G' : List Nat) (st : Stmt) (f : Rho → SO) : Prop where
  go : ∃ t, PS X st t ∧ ∀ v0 σ H r c s Dn, SR X.K H G r σ c s → Ok c s → Pr F v0 σ → OutQ X G' c s H σ Dn (f r) → t Dn σ H
structure PQk (X : Cx) (F : Fx) (G G' : List Nat) (sts : List Stmt) (f : Rho → SO) : Prop where
  go : ∃ t, PSs X sts t ∧ ∀ v0 σ H r c s Dn, SR X.K H G r σ c s → Ok c s → Pr F v0 σ → OutQ X G' c s H σ Dn (f r) → t Dn σ H
section
variable {X : Cx} {F : Fx} {G G1 G2 G3 G4 G' Gt Gn : List Nat} {k k1 k2 ka kr lv n : Nat} {e a b tg iter : Expr} {es : List Expr} {pos p tpos apos cpos : Pos} {st : Stmt} {sts : List Stmt}
theorem OutQ.shift {c s c1 s1 : Cnt} {H H1 : Hp} {σ : St} {Dn : Ends} {o : SO} (h : OutQ X G' c s H σ Dn o) (x : Step c s H c1 s1 H1) : OutQ X G' c1 s1 H1 σ Dn o := by
  cases o with
  | nx r => exact fun H' c' s' sr y => h H' c' s' sr (x.trans y)
  | _ => exact h
theorem OutQ.useX {α : Type} {c s : Cnt} {H : Hp} {σ : St} {Dn : Ends} {x : R α} {f : α → Rho → SO} {ok : α → Rho → Prop} (h : OutQ X G' c s H σ Dn (x.then f)) (g : ∀ a r, OutQ X G' c s H σ Dn (f a r) → ok a r) :
    OutX X F c s H σ ok x := by
  cases x with
  | ok a r => exact g a r h
  | ex n d r => exact False.elim h
  | no => exact False.elim h
theorem q_nil : PQk X F G G [] dEnd := ⟨_, pss_nil, fun v0 σ H r c s Dn sr ok pr h => h H c s sr (.refl ok)⟩
theorem q_one {f : Rho → SO} (A : PQt X F G G1 st f) : PQk X F G G1 [st] f := by
  obtain ⟨t, ht, q⟩ := A.go
  exact ⟨t, pss_one ht, q⟩
theorem q_expr {f : Rho → R D} (A : PV X F G G1 k e f) (hs : swapsWith e none pos.line X.env = pure false := by rfl) : PQt X F G G1 (.Expr e pos) (dExpr f) := by
  obtain ⟨t, ht, q⟩ := A.go
  refine ⟨_, ps_expr ht hs, fun v0 σ H r c s Dn sr ok pr h => q σ H r c s _ sr ok (OutQ.useX (G' := G1) h fun d r1 h2 => ?_)⟩
  intro v H' c1 s1 cr sr' x rp y
  exact h2 H' c1 s1 x (y.less (fun z => by simp only [add_at]; omega) (fun z hz => by simp only [add_at]; omega))
theorem q_if {c : Expr} {th el : List Stmt} {fc : Rho → R Bool} {f g : Rho → SO} (C : PB X F G G1 c fc) (A : PQk X F G1 G' th f) (B : PQk X F G1 G' el g) : PQt X F G G' (.If c th el pos) (dIf fc f g) := by
  obtain ⟨t, ht, q⟩ := C.go
  obtain ⟨ta, ha, qa⟩ := A.go
  obtain ⟨tb, hb, qb⟩ := B.go
  refine ⟨_, ps_if ht ha hb, fun v0 σ H r c s Dn sr ok pr h => q σ H r c s _ sr ok (OutQ.useX (G' := G') h fun v r1 h2 => ?_)⟩
  intro H' c1 s1 x st
  cases v with
  | true =>
    rw [if_pos rfl] at h2
    show if true = true then _ else _
    rw [if_pos rfl]
    exact qa v0 σ H' r1 c1 s1 Dn x st.ok pr (h2.shift st)
  | false =>
    rw [if_neg Bool.false_ne_true] at h2
    show if false = true then _ else _
    rw [if_neg Bool.false_ne_true]
    exact qb v0 σ H' r1 c1 s1 Dn x st.ok pr (h2.shift st)
theorem q_setIx (i n : Nat) {y : Str} {py ps : Pos} {fe fj : Rho → R D} (A : PV X F G G1 n e fe) (B0 : PV X F G1 G2 k2 b fj) (hmm : gget G2 i = n + 1 := by rfl) (hN : X.N[i]? = some y := by rfl) (hv : Vis X.env.scope y := by first | exact Or.inl rfl | exact Or.inr (Or.inl rfl) | exact Or.inr (Or.inr rfl))
    (hd : (y == ("__debug__" : Str)) = false := by decide) (hcd : (y == ("__classdict__" : Str)) = false := by decide)
    (ha : ∀ v, assign (.Subscript (.Name y py) b ps) X.env v = (do
      let ov ← holding [v] (eval (.Name y py) X.env)
      let iv ← holding [v, ov] (eval b X.env)
      standAt ps
      holding [v, ov, iv] (setItem ov iv v)
      release [v, ov, iv] []) := by intro _; rfl)
    (hs : swapsWithSole [.Subscript (.Name y py) b ps] e pos.line X.env = pure false := by rfl) (hw : swappedStores [.Subscript (.Name y py) b ps] e X.env = pure none := by rfl)
    (h1 : (assignEach [.Subscript (.Name y py) b ps] X.env).map (·.2) = [assign (.Subscript (.Name y py) b ps) X.env] := by rfl) :
    PQt X F G G2 (.Assign [.Subscript (.Name y py) b ps] e pos) (dSetIx i fe fj) := by
  have B := B0.weak (Nat.zero_le k2)
  obtain ⟨t, ht, q⟩ := A.go
  obtain ⟨u, hu, q2⟩ := B.go
  refine ⟨_, ps_asg ht (pg_sub (pv i hN hv hd hcd) hu set_list ha) hs hw h1, fun v0 σ H r c s Dn sr ok pr h => q σ H r c s _ sr ok (OutQ.useX (G' := G2) h fun d r1 h2 => ?_)⟩
  intro v0'' H1 c1 s1 ca sa x rp st
  by_cases hi : isLst (rget r1 i) = true
  case neg => rw [if_neg hi] at h2; exact False.elim h2
  rw [if_pos hi] at h2
  obtain ⟨ds0, e0⟩ := isLst_of hi
  obtain ⟨v0', _, _, _, _, ev0, rp0, _⟩ := x.out e0
  obtain ⟨l, vs0, rfl, hl0, _⟩ := rep_lst rp0
  have ok1 : Ok c1 s1 := fun z => by have := st.ok z; simp only [add_at] at this; omega
  have st1 : Step c s H c1 s1 H1 := st.less (fun z => by simp only [add_at]; omega) (fun z hz => by simp only [add_at]; omega)
  refine ⟨.ref l, ev0, q2 σ H1 r1 c1 s1 _ x ok1 ?_⟩
  cases ej : fj r1 with
  | no => rw [ej] at h2; exact False.elim h2
  | ex nn dd r2 => rw [ej] at h2; exact False.elim h2
  | ok dj r2 =>
  rw [ej] at h2
  have h3 : OutQ X G2 c s H σ Dn (setGo i d dj r2) := h2
  intro vj H2 c2 s2 cj sj x2 rj st2
  have zj := rj.zero
  subst zj
  unfold setGo at h3
  cases e1 : rget r2 i with
  | none => rw [e1] at h3; exact False.elim h3
  | some d0 =>
    rw [e1] at h3
    cases d0 with
    | lst ds =>
      cases dj with
      | int j =>
        cases hk : ixN ds.length j with
        | none => simp only [hk] at h3; exact False.elim h3
        | some kk =>
          simp only [hk] at h3
          cases rj
          simp only [add_z] at st2
          obtain ⟨v, c3, s3, c4, s4, ev, rr, x', ec, es'⟩ := x2.out e1
          rw [ev0] at ev
          cases ev
          rw [hmm] at rr
          have hlt := rget_lt e1
          cases rr with
          | @lstS _ _ vs _ cc ss hl rs =>
            subst ec; subst es'
            have hlen := rs.length
            have hkk : kk < ds.length := (ixN_seq hk).2.1
            obtain ⟨c5, s5, c6, s6, ecc, ess, put⟩ := rs.putAt hkk
            subst ecc; subst ess
            have stf := st2.frame (cf := ca) (sf := sa) st.ok rp.dom
            have rp2 := rp.keep (st2.aside st.ok)
            have rs2 := put d v0'' ca sa rp2
            have okl := stf.ok l
            simp only [add_at, one_same] at okl
            have kp : ∀ {c s : Cnt}, c l = 0 → s l = 0 → Kp c s H2 (L2.upd H2 l (.lst (vs.set kk v0''))) := fun {c s} e1 e2 => Kp.upd hl (fun z => z) e1 e2
            refine ⟨l, vs, j, kk, rfl, rfl, hl, by rw [← hlen]; exact hk, ?_⟩
            have xk := x'.keep (kp (by omega) (by omega))
            have rk := rs2.keep (kp (by simp only [add_at]; omega) (by simp only [add_at]; omega))
            have xu := xk.upd (by rw [List.length_set]; exact hlt) (rget_set_none r2 i) ev0 (.lstS upd_same rk)
            rw [set_set, ← hmm, gset_same] at xu
            refine h3 _ _ _ xu ?_
            exact (st.trans stf).mut (by simp only [add_at, one_same]; omega) hl (fun z => z) (fun a => by simp only [add_at]; omega) (fun a ha => by simp only [add_at] at ha ⊢; omega)
      | _ => exact False.elim h3
    | _ => exact False.elim h3
/-! ### for x in t: body, body changes x's things in place -/
def inD (i j : Nat) (b : Rho → SO) : List D → List D → Rho → SO
  | [], acc, r => if i < r.length ∧ rget r i = none then .nx (r.set i (some (.lst acc))) else .no
  | d :: ds, acc, r => match b (r.set j (some d)) with
    | .nx r1 => (match rget r1 j with
      | some d' => inD i j b ds (acc ++ [d']) (r1.set j none)
      | none => .no)
    | _ => .no
def dForIn (i j : Nat) (b : Rho → SO) : Rho → SO := fun r => match rget r i with
  | some (.lst ds) => inD i j b ds [] ((r.set i none).set j none)
  | _ => .no
theorem SR.remask {K : PySem.W.Frag} {H : Hp} : ∀ {G r σ c s}, SR K H G r σ c s → ∀ {j m : Nat}, rget r j = none → SR K H (G.set j m) r σ c s
  | _, _, _, _, _, .nil, _, _, _ => .nil
  | _, _, _, _, _, .no x, 0, _, _ => .no x
  | _, _, _, _, _, .no x, j + 1, m, h => .no (SR.remask x (j := j) h)
  | _, _, _, _, _, .yes a x, 0, _, h => by cases h
  | _, _, _, _, _, .yes a x, j + 1, m, h => .yes a (SR.remask x (j := j) h)
theorem gget_set_ne : ∀ (G : List Nat) {i j m : Nat}, i ≠ j → gget (G.set j m) i = gget G i
  | [], _, _, _, _ => rfl
  | _ :: _, 0, 0, _, h => absurd rfl h
  | _ :: _, 0, _ + 1, _, _ => rfl
  | _ :: _, _ + 1, 0, _, _ => rfl
  | _ :: G, i + 1, j + 1, m, h => gget_set_ne G fun z => h (congrArg (· + 1) z)
theorem gget_set_same : ∀ (G : List Nat) {i m : Nat}, i < G.length → gget (G.set i m) i = m
  | [], _, _, h => absurd h (Nat.not_lt_zero _)
  | _ :: _, 0, _, _ => rfl
  | _ :: G, i + 1, m, h => gget_set_same G (i := i) (Nat.lt_of_succ_lt_succ h)
theorem rget_set_ne : ∀ (r : Rho) {i j : Nat} {o : Option D}, i ≠ j → rget (r.set j o) i = rget r i
  | [], _, _, _, _ => rfl
  | _ :: _, 0, 0, _, h => absurd rfl h
  | _ :: _, 0, _ + 1, _, _ => rfl
  | _ :: _, _ + 1, 0, _, _ => rfl
  | _ :: r, i + 1, j + 1, o, h => rget_set_ne r fun z => h (congrArg (· + 1) z)
theorem s_forIn (i j n : Nat) {y x : Str} {py px : Pos} {body : List Stmt} {b : Rho → SO} (nd : X.N.Nodup) (hp : PassesOwn (model X.prog X.w) X.A X.env X.xe) (hc : X.calm = true) (B : PQk X F (G.set j n) (G.set j n) body b)
    (hij : i ≠ j := by decide) (hmG : gget G i = n + 1 := by rfl) (hj : X.N[j]? = some x := by rfl) (hx : Loc X.env.scope x := by first | exact Or.inl rfl | exact Or.inr rfl) (hpj : Fr F j := by first | exact ⟨Or.inl rfl, rfl⟩ | exact ⟨Or.inr (by decide), rfl⟩) (hl : j < G.length := by decide)
    (hf : X.fn x = true ∨ X.env.scope.names.lookup x = some .local := by first | exact .inl rfl | exact .inr rfl)
    (hN : X.N[i]? = some y := by rfl) (hv : Vis X.env.scope y := by first | exact Or.inl rfl | exact Or.inr (Or.inl rfl) | exact Or.inr (Or.inr rfl))
    (hd : (y == ("__debug__" : Str)) = false := by decide) (hcd : (y == ("__classdict__" : Str)) = false := by decide)
    (hs : ∀ x, foldedSetIterable (.Name y py) X.env x = pure x := by intro _; rfl) :
    PSt X F G (G.set j n) (.For (.Name x px) (.Name y py) body [] pos) (dForIn i j b) := by
  obtain ⟨tb, htb, qb⟩ := B.go
  refine ⟨_, ps_for hp hc (pi_list (pv i hN hv hd hcd)) (pg_name nd hj hx hf) htb hs, fun v0 σ H r c s Dn sr ok pr h => ?_⟩
  unfold dForIn at h
  cases ei : rget r i with
  | none => rw [ei] at h; exact False.elim h
  | some d0 =>
  rw [ei] at h
  cases d0 with
  | lst ds =>
    obtain ⟨v, c1, s1, c2, s2, ev, rp, x1, ec, es⟩ := sr.out ei
    rw [hmG] at rp
    obtain ⟨l, vs, c1', rfl, hl0, rs, ec1⟩ := rep_lstS rp
    obtain ⟨c3, s3, x2, hc3, hs3⟩ := x1.del j
    have x3 := x2.remask (m := n) (rget_set_none _ j)
    have hlv := rs.length
    have hG2 : gget (G.set j n) i = n + 1 := by rw [gget_set_ne G hij, hmG]
    have hG3 : gget (G.set j n) j = n := gget_set_same G hl
    have hlr := rget_lt ei
    have hsig : j < σ.length := by
      have e1 := sr.lenG; have e2 := sr.lenS
      omega
    refine ⟨.ref l, ev, l, rfl, ⟨vs, SqL.of hl0⟩, ?_⟩
    refine ⟨fun m mm σ' H' => mm = ds.length - m ∧ m ≤ ds.length ∧ ∃ r' c' s' acc cd sd cr sr', SR X.K H' (G.set j n) r' σ' c' s' ∧ rget r' j = none ∧ Pr F v0 σ' ∧ σ'[i]? = some (some (.ref l)) ∧ j < σ'.length ∧ H' l = some (.lst vs) ∧ Reps X.K H' n acc (vs.take m) cd sd ∧ Reps X.K H' n (ds.drop m) (vs.drop m) cr sr' ∧
      Step c s H (add c' (add (one l) (add cd cr))) (add s' (add sd sr')) H' ∧ OutS X F v0 (G.set j n) c s H Dn (inD i j b (ds.drop m) acc r'), ?_, ?_⟩
    · refine ⟨ds.length, by simp, Nat.zero_le _, _, c3, s3, [], z0, z0, c1', s1, x3, rget_set_none _ j, pr, ev, hsig, hl0, .nil, rs, ?_, h⟩
      refine (Step.refl ok).less (fun z => ?_) (fun z hz => ?_)
      · have := hc3 z; subst ec; subst ec1; simp only [add_at, z_at] at this ⊢; omega
      · have := hs3 z; subst es; simp only [add_at, z_at] at this hz ⊢; omega
    · rintro m mm σ' H' ⟨rfl, hm, r', c', s', acc, cd, sd, cr, sr', x', hrj, pr', ev', hlen', hl', rd, rr, st', o⟩
      by_cases hlt : m < ds.length
      · have hd : ds[m]? = some ds[m] := List.getElem?_eq_getElem hlt
        rw [List.drop_eq_getElem_cons hlt] at o
        unfold inD at o
        refine .inr ⟨⟨vs, vs[m]'(by omega), SqL.of hl', List.getElem?_eq_getElem (by omega)⟩, fun σ2 H2 => ∃ r' c' s' acc cd sd cr sr', SR X.K H2 (G.set j n) r' σ2 c' s' ∧ rget r' j = none ∧ Pr F v0 σ2 ∧ σ2[i]? = some (some (.ref l)) ∧ j < σ2.length ∧ H2 l = some (.lst vs) ∧ Reps X.K H2 n acc (vs.take (m + 1)) cd sd ∧ Reps X.K H2 n (ds.drop (m + 1)) (vs.drop (m + 1)) cr sr' ∧
          Step c s H (add c' (add (one l) (add cd cr))) (add s' (add sd sr')) H2 ∧ OutS X F v0 (G.set j n) c s H Dn (inD i j b (ds.drop (m + 1)) acc r'), fun σ2 H2 hN => ⟨ds.length - (m + 1), by omega, rfl, hlt, hN⟩, fun u H2 hu => ?_⟩
        obtain ⟨rfl, hu⟩ := hu
        have hvu := hu vs (SqL.of hl')
        obtain ⟨w, ce, se, cn, sn, ew, re, rr2, e1, e2⟩ := rr.drop1 hd
        rw [ew] at hvu
        have hwu : u = w := (Option.some.inj hvu).symm
        subst hwu
        have hlr' : j < r'.length := by have e1 := x'.lenG; rw [List.length_set] at e1; omega
        have x4 := x'.put hlr' hrj re
        rw [List.set_set] at x4
        have st2 : Step c s H (add (add ce c') (add (one l) (add cd cn))) (add (add se s') (add sd sn)) H2 := st'.less (fun z => by subst e1; simp only [add_at]; omega) (fun z hz => by subst e2; simp only [add_at] at hz ⊢; omega)
        have okk : Ok (add ce c') (add se s') := fun z => by have := st2.ok z; simp only [add_at] at this ⊢; omega
        have domF : Dom (add (one l) (add cd cn)) (add sd sn) H2 := Dom.addC hl' trivial (rd.dom.add rr2.dom)
        have fr := fun {c4 s4 H4} (z : Step (add ce c') (add se s') H2 c4 s4 H4) => z.frame (cf := add (one l) (add cd cn)) (sf := add sd sn) st2.ok domF
        have aside : ∀ {c4 s4 H4}, Step (add ce c') (add se s') H2 c4 s4 H4 → Kp (add (one l) (add cd cn)) (add sd sn) H2 H4 := fun {c4 s4 H4} z => z.aside (cf := add (one l) (add cd cn)) (sf := add sd sn) st2.ok
        refine qb v0 (σ'.set j (some u)) H2 (r'.set j (some ds[m])) (add ce c') (add se s') _ x4 okk (pr'.set hpj) ?_
        cases eb : b (r'.set j (some ds[m])) with
        | nx r3 =>
          simp only [eb] at o
          intro H4 c4 s4 x5 z
          cases ej : rget r3 j with
          | none => simp only [ej] at o; exact False.elim o
          | some d' =>
            simp only [ej] at o
            obtain ⟨w', c5, s5, c6, s6, ew', re', x6, ec4, es4⟩ := x5.out ej
            rw [List.getElem?_set_self hlen'] at ew'
            cases ew'
            rw [hG3] at re'
            have kpA := aside z
            have kp1 : Kp cd sd H2 H4 := fun a o e h => kpA a o e (by simp only [add_at]; rcases h with h | h | h; exact .inl (by omega); exact .inr (.inl (by omega)); exact .inr (.inr h))
            have kp2 : Kp cn sn H2 H4 := fun a o e h => kpA a o e (by simp only [add_at]; rcases h with h | h | h; exact .inl (by omega); exact .inr (.inl (by omega)); exact .inr (.inr h))
            have hl4 : H4 l = some (.lst vs) := kpA l _ hl' (.inl (one_add_pos _ _))
            have tk : vs.take (m + 1) = vs.take m ++ [u] := by rw [List.take_add_one, ew]; rfl
            have racc := Reps.snoc re' (rd.keep kp1)
            refine ⟨r3.set j none, c6, s6, acc ++ [d'], _, _, cn, sn, x6, rget_set_none _ j, pr'.set hpj, ?_, by rw [List.length_set]; exact hlen', hl4, by rw [tk]; exact racc, rr2.keep kp2, ?_, o⟩
            · rw [List.getElem?_set_ne (fun z => hij z.symm)]; exact ev'
            · refine (st2.trans (fr z)).less (fun z => ?_) (fun z hz => ?_)
              · subst ec4; simp only [add_at]; omega
              · subst es4; simp only [add_at] at hz ⊢; omega
        | bk r3 => simp only [eb] at o; exact False.elim o
        | ct r3 => simp only [eb] at o; exact False.elim o
        | rt d r3 => simp only [eb] at o; exact False.elim o
        | ex nn d r3 => simp only [eb] at o; exact False.elim o
        | no => simp only [eb] at o; exact False.elim o
      · obtain rfl : m = ds.length := by omega
        rw [List.drop_length] at o
        unfold inD at o
        by_cases hr : i < r'.length ∧ rget r' i = none
        · rw [if_pos hr] at o
          rw [hlv, List.take_length] at rd
          have xu := x'.upd hr.1 hr.2 ev' (n := n + 1) (.lstS hl' rd)
          rw [← hG2, gset_same] at xu
          refine .inl ⟨⟨vs, SqL.of hl', by rw [hlv]; exact Nat.le_refl _⟩, o σ' H' _ _ xu pr' (st'.less (fun z => by simp only [add_at]; omega) (fun z hz => by simp only [add_at] at hz ⊢; omega))⟩
        · rw [if_neg hr] at o; exact False.elim o
  | _ => exact False.elim h
end
end VL

/-! VO5: a statement that only looks at what is owned -/
namespace VL
open PySem PySem.Spec L2
theorem SR.resto {K : PySem.W.Frag} {H : Hp} : ∀ {G r σ c s}, SR K H G r σ c s → ∀ {σ' : St}, σ'.length = r.length → (∀ i, rget r i ≠ none → σ'[i]? = σ[i]?) → SR K H G r σ' c s
  | _, _, _, _, _, .nil, [], _, _ => .nil
  | _, _, _, _, _, .nil, _ :: _, h, _ => by cases h
  | _, _, _, _, _, .no x, [], h, _ => by cases h
  | _, _, _, _, _, .no x, o :: σ', h, e => .no (SR.resto x (Nat.succ.inj h) fun i hi => by simpa using e (i + 1) hi)
  | _, _, _, _, _, .yes a x, [], h, _ => by cases h
  | _, _, _, _, _, .yes a x, o :: σ', h, e => by
    have e0 := e 0 (fun z => nomatch z)
    simp only [List.getElem?_cons_zero, Option.some.injEq] at e0
    subst e0
    exact .yes a (SR.resto x (Nat.succ.inj h) fun i hi => by simpa using e (i + 1) hi)
theorem SR.wipeB {K : PySem.W.Frag} {H : Hp} {G r σ c s} (x : SR K H G r σ c s) : ∀ vs : List Nat, ∃ c2 s2, SR K H G (wipeR r vs) σ c2 s2 ∧ (∀ a, c2 a ≤ c a) ∧ ∀ a, s2 a ≤ s a
  | [] => ⟨c, s, x, fun _ => Nat.le_refl _, fun _ => Nat.le_refl _⟩
  | v :: vs => by
    obtain ⟨c2, s2, x2, h1, h2⟩ := SR.wipeB x vs
    obtain ⟨c3, s3, x3, h3, h4⟩ := x2.del v
    exact ⟨c3, s3, x3, fun a => Nat.le_trans (h3 a) (h1 a), fun a => Nat.le_trans (h4 a) (h2 a)⟩
theorem wipeR_len (r : Rho) : ∀ vs : List Nat, (wipeR r vs).length = r.length
  | [] => rfl
  | v :: vs => by show ((wipeR r vs).set v none).length = _; rw [List.length_set, wipeR_len r vs]
theorem wipeR_get (r : Rho) {i : Nat} : ∀ {vs : List Nat}, rget (wipeR r vs) i ≠ none → vs.contains i = false
  | [], _ => rfl
  | v :: vs, h => by
    have h : rget ((wipeR r vs).set v none) i ≠ none := h
    by_cases c : i = v
    · subst c; exact absurd (rget_set_none _ _) h
    · rw [rget_set_ne _ c] at h
      have := wipeR_get r h
      simp only [List.contains_cons, Bool.or_eq_false_iff]
      exact ⟨by simpa using c, this⟩
open Classical in
noncomputable def dBorS (vs : List Nat) (f : Rho → SO) : Rho → SO := fun r => match f r with
  | .nx r' => if wipeR r' vs = wipeR r vs then .nx (wipeR r vs) else .no
  | .rt d _ => if flat d = true then .rt d r else .no
  | _ => .no
section
variable {X : Cx} {F : Fx} {G G1 G2 G3 G4 G' Gt Gn : List Nat} {k k1 k2 ka kr lv n : Nat} {e a b tg iter : Expr} {es : List Expr} {pos p tpos apos cpos : Pos} {st : Stmt} {sts : List Stmt}
theorem passN2 (h : F.W = fun _ _ _ _ => False := by rfl) : Pf X F := fun σ pins H s e s' I z => by
  rw [h] at z
  obtain ⟨_, _, _, _, _, _, _, _, _, _, _, _, z⟩ := z
  exact z.elim
abbrev Fx.pin (F : Fx) (P : Nat → Bool) (sg : St) : Fx := { F with W := fun _ _ _ _ => False, io := none, pins := P, sg := sg }
theorem s_borS (vs : List Nat) {f : Rho → SO} (A : ∀ sg : St, PSt X (F.pin (fun i => !vs.contains i) sg) (zG G) G' st f) (h0 : vs.contains 0 = false := by rfl) (hF : ∀ i, F.pins i = false := by intro _; rfl) (hio : IoG F G := by first | exact io_none rfl | exact io_some rfl rfl) : PSt X F G G st (dBorS vs f) := by
  refine ⟨fun Dn σ H => (A σ).go.choose Dn σ H, ⟨fun pins s σ H Dn I h => (A σ).go.choose_spec.1.run pins s σ H Dn I h⟩, fun v0 σ H r c s Dn sr ok pr h => ?_⟩
  obtain ⟨c1, s1, x1, w⟩ := sr.wk (zG_le G)
  have z := x1.zz G rfl
  subst z
  refine (A σ).go.choose_spec.2 v0 σ H r z0 s1 Dn x1 (ok.wk w) ⟨fun m hm => (nomatch hm), fun _ _ => rfl⟩ ?_
  unfold dBorS at h
  cases ef : f r with
  | nx r' =>
    rw [ef] at h
    intro σ' H' c' s' x' pr' st'
    by_cases e : wipeR r' vs = wipeR r vs
    · simp only [if_pos e] at h
      have ke : ∀ a o, H a = some o → H' a = some o := fun a o e => st'.keep a o e (.inl rfl)
      obtain ⟨c2, s2, x2, h1, h2⟩ := (sr.keep (ex_kp ke)).wipeB vs
      have hlen : σ'.length = (wipeR r vs).length := by rw [← e, wipeR_len]; exact x'.lenS
      have x3 := x2.resto hlen fun i hi => pr'.2 i (by show (!vs.contains i) = true; rw [wipeR_get r hi]; rfl)
      refine h σ' H' c2 s2 x3 ⟨fun m hm => ?_, fun i hi => by rw [hF i] at hi; cases hi⟩ (((Step.refl ok).ext ke).less h1 fun a ha => Nat.lt_of_lt_of_le ha (h2 a))
      have e0 : σ'[0]? = σ[0]? := pr'.2 0 (by show (!vs.contains 0) = true; rw [h0]; rfl)
      rw [e0]
      exact pr.1 m hm
    · simp only [if_neg e] at h
      exact False.elim h
  | rt d r' =>
    rw [ef] at h
    intro v H' cr sr' c0 s0 rp i st'
    by_cases hf : flat d = true
    · simp only [if_pos hf] at h
      obtain ⟨rfl, rfl⟩ : c0 = z0 ∧ s0 = z0 := i
      have ke : ∀ a o, H a = some o → H' a = some o := fun a o e => st'.keep a o e (.inl rfl)
      have rz := rp.flatZ (H' := H') (m := F.kr) hf
      obtain ⟨c2, s2, i2, h1, h2⟩ := io_end hio pr (sr.keep (ex_kp ke))
      exact h v H' z0 z0 c2 s2 rz i2 (by simp only [add_z]; exact ((Step.refl ok).ext ke).less h1 fun a ha => Nat.lt_of_lt_of_le ha (h2 a))
    · simp only [if_neg hf] at h
      exact False.elim h
  | bk r' => rw [ef] at h; exact False.elim h
  | ct r' => rw [ef] at h; exact False.elim h
  | ex nn d r' => rw [ef] at h; exact False.elim h
  | no => rw [ef] at h; exact False.elim h
end
end VL

/-! VO6: [e for x in xs if ..], the elements moved into x -/
namespace VL
open PySem PySem.Spec L2
section
variable {X : Cx} {F : Fx} {G G1 G2 G3 G4 G' Gt Gs Gn : List Nat} {k kt k1 k2 ka kr lv n : Nat} {e a b tg iter elt : Expr} {es ifs : List Expr} {pos p tpos apos cpos : Pos} {st : Stmt} {sts : List Stmt}
structure PToK (X : Cx) (F : Fx) (G G' : List Nat) (kt : Nat) (vs : List Nat) (tg : Expr) (g : D → Rho → Option Rho) : Prop where
  go : ∃ t, PG X tg t ∧ ∀ σ H r c s d x cx sx Q r1, SR X.K H G r σ c s → Ok (add c cx) (add s sx) → Rep X.K H kt d x cx sx → g d r = some r1 →
    (∀ σ' c' s', SR X.K H G' r1 σ' c' s' → L2.wipe σ' vs = L2.wipe σ vs → Step (add c cx) (add s sx) H c' s' H → Q σ' H) → t x σ H Q
def rdGK (X : Cx) (G G' : List Nat) (kt : Nat) (vs : List Nat) (g : D → Rho → Option Rho) : TG := fun x σ H Q => ∃ r c s d cx sx r1, SR X.K H G r σ c s ∧ Ok (add c cx) (add s sx) ∧ Rep X.K H kt d x cx sx ∧ g d r = some r1 ∧
    (∀ σ' c' s', SR X.K H G' r1 σ' c' s' → L2.wipe σ' vs = L2.wipe σ vs → Step (add c cx) (add s sx) H c' s' H → Q σ' H)
theorem PToK.pg {vs : List Nat} {g : D → Rho → Option Rho} (A : PToK X F G G' kt vs tg g) : PG X tg (rdGK X G G' kt vs g) := by
  obtain ⟨t, ht, q⟩ := A.go
  exact ⟨fun pins s σ H v u Q I rv ⟨r, c, s', d, cx, sx, r1, sr, ok, rp, hg, h⟩ => ht.run pins s σ H v u Q I rv (q σ H r c s' d v cx sx Q r1 sr ok rp hg h)⟩
theorem to_nameK (i : Nat) {x : Str} {vs : List Nat} (nd : X.N.Nodup) (hi : X.N[i]? = some x := by rfl) (hx : Loc X.env.scope x := by first | exact Or.inl rfl | exact Or.inr rfl) (hl : i < G.length := by decide) (hv : i ∈ vs := by decide)
    (hf : X.fn x = true ∨ X.env.scope.names.lookup x = some .local := by first | exact .inl rfl | exact .inr rfl) : PToK X F G (G.set i kt) kt vs (.Name x pos) (gSet i) := by
  refine ⟨_, pg_name nd hi hx hf, fun σ H r c s d x cx sx Q r1 sr ok rp hg h => ?_⟩
  cases hg
  have hlen : i < r.length := by
    have e3 := sr.lenG
    omega
  obtain ⟨c2, s2, x2, hc, hs2⟩ := sr.fill hlen rp
  refine h (σ.set i (some x)) _ _ x2 (wipe_set σ _ vs i hv) ((Step.refl ok).less (fun z => by have := hc z; simp only [add_at]; omega) (fun z hz => by have := hs2 z; simp only [add_at] at hz ⊢; omega))
theorem lcK_read (G2 : List Nat) {vs : List Nat} {fi : Rho → R (List D)} {g : D → Rho → Option Rho} {ts : Rho → R Bool} {fe : Rho → R D} (I : PItK X F G G1 kt tg iter fi)
    (h1 : leG G2 G1 = true) (h2 : leG G2 Gn = true) (h3 : leG G2 Gs = true) :
    ∃ wi, PI X tg iter wi ∧ ∀ σ H r c s Q, SR X.K H G r σ c s → Ok c s → OutX X F c s H σ (OkE X G2 (k + 1) c s H σ Q) (lcD vs fi g ts fe r) → tLc wi (rdGK X G2 Gt kt vs g) (rdT X F.nox Gt Gs ts) (rdE X F.nox Gs Gn k fe) vs σ H Q := by
  obtain ⟨wi, hwi, qi⟩ := I.go
  refine ⟨_, hwi, ?_⟩
  intro σ H r c s Q sr ok h
  unfold lcD at h
  refine qi σ H r c s _ sr ok (h.bind.mono fun ds r1 h4 => ?_)
  by_cases hl : ds.length ≤ 100000
  case neg => rw [if_neg hl] at h4; exact fun J H1 c1 s1 cI sI W x wk w1 st => False.elim h4
  rw [if_pos hl] at h4
  intro J H1 c1 s1 cI sI W x wk w1 st D0 hD
  refine ⟨fun i m H' => m = ds.length - i ∧ i ≤ ds.length ∧ ∃ r' c' s' acc va cA sA ci si, acc.length ≤ i ∧ SR X.K H' G2 (wipeR r' vs) (L2.wipe σ vs) c' s' ∧ W i ci si H' ∧ H' D0 = some (.lst va) ∧ Reps X.K H' k acc va cA sA ∧ Step c s H (add c' (add ci (add (one D0) cA))) (add s' (add si sA)) H' ∧
    OutX X F c s H σ (OkE X G2 (k + 1) c s H σ Q) ((compD vs g ts fe (ds.drop i) acc (wipeR r' vs)).bind fun out r2 => .ok (.lst out) r2), ?_, ?_⟩
  · obtain ⟨c', s', x', w⟩ := x.wk (LeG.of h1)
    obtain ⟨c2, s2, x2, hc2, hs2⟩ := x'.wipe vs
    have ke := ex_upd (o := .lst []) hD
    refine ⟨ds.length, by simp, Nat.zero_le _, r1, c2, s2, [], [], z0, z0, cI, sI, Nat.zero_le _, x2.keep (ex_kp ke), wk.keep _ _ _ _ _ w1 (ex_kp ke), upd_same, .nil, ?_, h4⟩
    have st' : Step c s H (add c' cI) (add s' sI) H1 := st.wk (w.add (Wk.refl cI sI))
    have st2 : Step c s H (add c2 cI) (add s2 sI) H1 := st'.less (fun a => by have := hc2 a; simp only [add_at]; omega) (fun a ha => by have := hs2 a; simp only [add_at] at ha ⊢; omega)
    have dm : Dom (add c2 cI) (add s2 sI) H1 := x2.dom.add (wk.dom _ _ _ H1 w1)
    have q := lst_fresh (xs := []) st2 dm hD
    refine q.less (fun a => by simp only [add_at, z_at]; omega) (fun a ha => by simp only [add_at, z_at] at ha ⊢; omega)
  · rintro i m H' ⟨rfl, hi, r', c', s', acc, va, cA, sA, ci, si, hacc, x', w', hD', ra, st', o⟩
    by_cases hlt : i < ds.length
    · have hd : ds[i]? = some ds[i] := List.getElem?_eq_getElem hlt
      rw [List.drop_eq_getElem_cons hlt] at o
      unfold compD at o
      cases eg : g ds[i] (wipeR r' vs) with
      | none => simp only [eg] at o; exact False.elim o
      | some r2 =>
        simp only [eg] at o
        refine .inr ⟨wk.go i ci si H' w' hlt, fun H' => ∃ r' c' s' acc va cA sA ci si, acc.length ≤ i + 1 ∧ SR X.K H' G2 (wipeR r' vs) (L2.wipe σ vs) c' s' ∧ W (i + 1) ci si H' ∧ H' D0 = some (.lst va) ∧ Reps X.K H' k acc va cA sA ∧ Step c s H (add c' (add ci (add (one D0) cA))) (add s' (add si sA)) H' ∧
          OutX X F c s H σ (OkE X G2 (k + 1) c s H σ Q) ((compD vs g ts fe (ds.drop (i + 1)) acc (wipeR r' vs)).bind fun out r2 => .ok (.lst out) r2), fun H2 hN => ⟨ds.length - (i + 1), by omega, rfl, hlt, hN⟩, fun y H2 hy => ?_⟩
        obtain ⟨ce, se, cn, sn, ry, w2, e1, e2, hk⟩ := wk.yld i ci si H' y H2 ds[i] w' hd hy
        have x2 := x'.keep (ex_kp hk)
        have ra2 := ra.keep (ex_kp hk)
        have hD2 := hk _ _ hD'
        have st2 : Step c s H (add (add c' ce) (add cn (add (one D0) cA))) (add (add s' se) (add sn sA)) H2 :=
          (st'.ext hk).less (fun a => by subst e1; simp only [add_at]; omega) (fun a ha => by subst e2; simp only [add_at] at ha ⊢; omega)
        have okk : Ok (add c' ce) (add s' se) := fun z => by have := st2.ok z; simp only [add_at] at this ⊢; omega
        have domF : Dom (add cn (add (one D0) cA)) (add sn sA) H2 := (wk.dom _ _ _ H2 w2).add (Dom.addC hD2 trivial ra2.dom)
        refine ⟨wipeR r' vs, c', s', ds[i], ce, se, r2, x2, okk, ry, eg, fun σ3 c3 s3 x3 hw3 st3 => ?_⟩
        have hw3' : L2.wipe σ3 vs = L2.wipe σ vs := hw3.trans (wipe_wipe_set σ vs)
        have back : ∀ {c4 s4 H4}, Step c3 s3 H2 c4 s4 H4 → Step c s H (add c4 (add cn (add (one D0) cA))) (add s4 (add sn sA)) H4 := fun {c4 s4 H4} z => st2.trans ((st3.trans z).frame st2.ok domF)
        have aside : ∀ {c4 s4 H4}, Step c3 s3 H2 c4 s4 H4 → Kp (add cn (add (one D0) cA)) (add sn sA) H2 H4 := fun {c4 s4 H4} z => (st3.trans z).aside st2.ok
        have kD : ∀ {H4}, Kp (add cn (add (one D0) cA)) (add sn sA) H2 H4 → H4 D0 = some (.lst va) ∧ Reps X.K H4 k acc va cA sA ∧ W (i + 1) cn sn H4 := fun {H4} kp =>
          ⟨kp D0 _ hD2 (.inl (by simp only [add_at, one_same]; omega)), ra2.keep (fun a o e z => kp a o e (by simp only [add_at]; rcases z with z | z | z; exact .inl (by omega); exact .inr (.inl (by omega)); exact .inr (.inr z))), wk.keep _ _ _ H2 H4 w2 (fun a o e z => kp a o e (by simp only [add_at] at z ⊢; rcases z with z | z | z; exact .inl (by omega); exact .inr (.inl (by omega)); exact .inr (.inr z)))⟩
        refine ⟨hw3', r2, c3, s3, x3, st3.ok, ?_⟩
        cases et : ts r2 with
        | no => simp only [et] at o; exact False.elim o
        | ex n d r3 => simp only [et] at o; exact False.elim o
        | ok bb r3 =>
          intro H4 c4 s4 x4 z4
          cases bb with
          | false =>
            simp only [et] at o
            show if false = true then _ else _
            rw [if_neg Bool.false_ne_true]
            obtain ⟨c5, s5, x5, w5⟩ := x4.wk (LeG.of h3)
            obtain ⟨c6, s6, x6, hc6, hs6⟩ := x5.wipe vs
            rw [hw3'] at x6
            obtain ⟨d1, d2, d3⟩ := kD (aside z4)
            refine ⟨r3, c6, s6, acc, va, cA, sA, cn, sn, by omega, x6, d3, d1, d2, ?_, o⟩
            have q := (back z4).wk (w5.add (Wk.refl (add cn (add (one D0) cA)) (add sn sA)))
            exact q.less (fun a => by have := hc6 a; simp only [add_at]; omega) (fun a ha => by have := hs6 a; simp only [add_at] at ha ⊢; omega)
          | true =>
            simp only [et] at o
            show if true = true then _ else _
            rw [if_pos rfl]
            cases ef : fe r3 with
            | no => simp only [ef] at o; exact False.elim o
            | ex n d r4 => simp only [ef] at o; exact False.elim o
            | ok d r4 =>
              simp only [ef] at o
              refine ⟨r3, c4, s4, x4, z4.ok, ?_⟩
              rw [ef]
              intro v H5 c5 s5 cr srr x5 rp z5
              have zz := z4.trans z5
              obtain ⟨d1, d2, d3⟩ := kD (aside zz)
              have hlen := d2.length
              refine ⟨va, d1, by rw [← hlen]; exact Nat.lt_of_le_of_lt (Nat.le_trans hacc (Nat.le_trans hi hl)) (by decide), ?_⟩
              obtain ⟨c6, s6, x6, w6⟩ := x5.wk (LeG.of h2)
              obtain ⟨c7, s7, x7, hc7, hs7⟩ := x6.wipe vs
              rw [hw3'] at x7
              have q0 : Step c s H (add c5 (add (one D0) (add cn (add cA cr)))) (add s5 (add sn (add sA srr))) H5 := (back zz).less (fun a => by simp only [add_at]; omega) (fun a ha => by simp only [add_at] at ha ⊢; omega)
              have q := q0.wk (w6.add (Wk.refl (add (one D0) (add cn (add cA cr))) (add sn (add sA srr))))
              have okq := q.ok D0
              have kp : ∀ {c s : Cnt}, c D0 = 0 → s D0 = 0 → Kp c s H5 (L2.upd H5 D0 (.lst (va ++ [v]))) := fun {c s} e1 e2 a o e z => by
                by_cases ha : a = D0
                · subst ha
                  rcases z with z | z | z
                  · omega
                  · omega
                  · rw [d1] at e; cases e; exact z.elim
                · rw [upd_ne ha]; exact e
              simp only [add_at, one_same] at okq
              have hc7' := hc7 D0; have hs7' := hs7 D0
              refine ⟨r4, c7, s7, acc ++ [d], va ++ [v], add cA cr, add sA srr, cn, sn, by rw [List.length_append]; show acc.length + 1 ≤ _; omega, x7.keep (kp (by omega) (by omega)), wk.keep _ _ _ _ _ d3 (kp (by omega) (by omega)), upd_same, Reps.snoc (rp.keep (kp (by omega) (by omega))) (d2.keep (kp (by omega) (by omega))), ?_, o⟩
              have nH : ∀ a o, H a = some o → c a = 0 ∨ tupO o → a ≠ D0 := fun a o e z ha => by
                subst ha
                have := q.keep a o e z
                rw [d1] at this
                cases this
                rcases z with z | z
                · rcases q.own a (by simp only [add_at, one_same]; omega) with z2 | z2
                  · omega
                  · rw [e] at z2; cases z2
                · exact z.elim
              refine ⟨fun a ha => q.own a ?_, fun a ha => q.sh a ?_, fun a o e z => ?_, fun a ha => ?_, fun a => ?_⟩
              · have := hc7 a
                simp only [add_at] at ha ⊢; omega
              · have h7 := hs7 a
                simp only [add_at] at ha ⊢; omega
              · rw [upd_ne (nH a o e z)]
                exact q.keep a o e z
              · by_cases hz : a = D0
                · subst hz; rw [upd_same]; exact fun z => nomatch z
                · rw [upd_ne hz]; exact q.dom a ha
              · have h6 := q.ok a; have h7 := hs7 a; have h10 := hc7 a
                simp only [add_at] at h6 ⊢
                omega
    · obtain rfl : i = ds.length := by omega
      rw [List.drop_length] at o
      refine .inl ⟨wk.stop ci si H' w', ?_⟩
      exact o (.ref D0) H' c' s' (add (one D0) cA) sA x'.unwipe (.lstS hD' ra) (st'.less (fun a => by simp only [add_at]; omega) (fun a ha => by simp only [add_at] at ha ⊢; omega))
/-- [elt for x in iter if ..], the elements moved -/
theorem v_lcK (G2 : List Nat) (own : List (Str × Nat)) {scope : Scope} {fi : Rho → R (List D)} {g : D → Rho → Option Rho} {ts : Rho → R Bool} {fe : Rho → R D} (hc : X.calm = true) (nd : X.N.Nodup) (I : PItK X F G G1 kt tg iter fi) (okb : BlkOk X.N X.env.scope scope own)
    (T : ∀ (s : Shared) (H : Hp) (C : Addr) (cl : List (Str × Addr)) (fp : List Addr), PToK (X.blk s H scope (compEnvC scope cl C X.env) fp) F.nox G2 Gt kt (own.map (·.2)) tg g)
    (Ts : ∀ (s : Shared) (H : Hp) (C : Addr) (cl : List (Str × Addr)) (fp : List Addr), PTst (X.blk s H scope (compEnvC scope cl C X.env) fp) F.nox Gt Gs ifs ts)
    (E : ∀ (s : Shared) (H : Hp) (C : Addr) (cl : List (Str × Addr)) (fp : List Addr), PV (X.blk s H scope (compEnvC scope cl C X.env) fp) F.nox Gs Gn k elt fe)
    (h1 : leG G2 G1 = true := by rfl) (h2 : leG G2 Gn = true := by rfl) (h3 : leG G2 Gs = true := by rfl) (hs : ∀ x, foldedSetIterable iter X.env x = pure x := by intro _; rfl) :
    PV X F G G2 (k + 1) (.ListComp elt [⟨tg, iter, ifs, 0⟩] scope pos) (lcD (own.map (·.2)) fi g ts fe) := by
  obtain ⟨wi, hwi, q⟩ := lcK_read (k := k) (Gt := Gt) (Gs := Gs) (vs := own.map (·.2)) (g := g) (ts := ts) (fe := fe) G2 I h1 h2 h3
  exact ⟨_, pe_lc hc nd hwi okb (g := rdGK X G2 Gt kt (List.map (fun p : Str × Nat => p.2) own) g) (tt := rdT X F.nox Gt Gs ts) (te := rdE X F.nox Gs Gn k fe) (fun s H C cl fp => (T s H C cl fp).pg) (fun s H C cl fp => (Ts s H C cl fp).pt) (fun s H C cl fp => (E s H C cl fp).pe) hs, q⟩
end
end VL

/-! VO7: x = [a, b][i], then statements that change x in place: the slot of a or b goes to x and back -/
namespace VL
open PySem PySem.Spec L2
def swpD (j i : Nat) (b : Rho → SO) : Rho → SO := fun r => match rget r i with
  | some (.lst ds) => (match b ((r.set i none).set j (some (.lst ds))) with
    | .nx r2 => (match rget r2 j with
      | some d' => if i < r2.length ∧ rget r2 i = none then .nx ((r2.set j none).set i (some d')) else .no
      | none => .no)
    | _ => .no)
  | _ => .no
def dAlias (j ia ib : Nat) (fj : Rho → R D) (b : Rho → SO) : Rho → SO := fun r => if (rget r ia).isSome = true ∧ (rget r ib).isSome = true then
  (fj r).then fun dj r1 => match dj with
    | .int z => if z = 0 then swpD j ia b r1 else if z = 1 then swpD j ib b r1 else .no
    | _ => .no
  else .no
section
variable {X : Cx} {F : Fx} {G G1 G2 G3 G4 G' Gt Gn : List Nat} {k k1 k2 ka kr lv n m : Nat} {e a b tg iter : Expr} {es : List Expr} {pos p p1 p2 pa pb px tpos apos cpos : Pos} {st : Stmt} {sts : List Stmt}
theorem swp_run {i j m : Nat} {v0 : V} {σ : St} {H : Hp} {r : Rho} {c s : Cnt} {Dn : Ends} {b : Rho → SO} {tb : TS} {v : V} (hij : i ≠ j)
    (qb : ∀ v0 σ H r c s Dn, SR X.K H (G1.set j m) r σ c s → Ok c s → Pr F v0 σ → OutQ X (G1.set j m) c s H σ Dn (b r) → tb Dn σ H)
    (hm : gget G1 i = m) (hpj : Fr F j) (hl : j < G1.length) (sr : SR X.K H G1 r σ c s) (ok : Ok c s) (pr : Pr F v0 σ) (ev : σ[i]? = some (some v)) (h : OutS X F v0 (G1.set j m) c s H Dn (swpD j i b r)) :
    tb Dn (σ.set j (some v)) H := by
  unfold swpD at h
  cases ei : rget r i with
  | none => rw [ei] at h; exact False.elim h
  | some d0 =>
  rw [ei] at h
  cases d0 with
  | lst ds =>
    obtain ⟨v', c1, s1, c2, s2, ev', rp, x1, ec, es⟩ := sr.out ei
    rw [ev] at ev'
    cases ev'
    rw [hm] at rp
    obtain ⟨c3, s3, x2, hc3, hs3⟩ := x1.del j
    have x3 := x2.remask (m := m) (rget_set_none _ j)
    have hlr : j < ((r.set i none).set j none).length := by
      have e1 := x2.lenG; omega
    have x4 := x3.put hlr (rget_set_none _ j) (n := m) (by exact rp)
    have e2 : ((r.set i none).set j none).set j (some (.lst ds)) = (r.set i none).set j (some (.lst ds)) := set_set _ _ _ _
    rw [e2, set_set] at x4
    have hsig : j < σ.length := by
      have e1 := sr.lenG; have e2 := sr.lenS; omega
    have hlG : gget (G1.set j m) j = m := gget_set_same G1 hl
    have hiG : gget (G1.set j m) i = m := by rw [gget_set_ne G1 hij, hm]
    have st0 : Step c s H (add c1 c3) (add s1 s3) H := (Step.refl ok).less (fun z => by have := hc3 z; subst ec; simp only [add_at] at this ⊢; omega) (fun z hz => by have := hs3 z; subst es; simp only [add_at] at this hz ⊢; omega)
    refine qb v0 (σ.set j (some v)) H _ (add c1 c3) (add s1 s3) Dn x4 st0.ok (pr.set hpj) ?_
    have h : OutS X F v0 (G1.set j m) c s H Dn (match b ((r.set i none).set j (some (.lst ds))) with
      | .nx r2 => (match rget r2 j with
        | some d' => if i < r2.length ∧ rget r2 i = none then .nx ((r2.set j none).set i (some d')) else .no
        | none => .no)
      | _ => .no) := h
    cases eb : b ((r.set i none).set j (some (.lst ds))) with
    | nx r2 =>
      rw [eb] at h
      simp only at h
      intro H' c4 s4 x5 z
      cases ej : rget r2 j with
      | none => simp only [ej] at h; exact False.elim h
      | some d' =>
        simp only [ej] at h
        by_cases hr : i < r2.length ∧ rget r2 i = none
        · rw [if_pos hr] at h
          obtain ⟨w, c5, s5, c6, s6, ew, rw', x6, ec4, es4⟩ := x5.out ej
          rw [List.getElem?_set_self hsig] at ew
          cases ew
          rw [hlG] at rw'
          have evi : (σ.set j (some v))[i]? = some (some v) := by rw [List.getElem?_set_ne (fun z => hij z.symm)]; exact ev
          have hi2 : rget (r2.set j none) i = none := by rw [rget_set_ne _ hij]; exact hr.2
          have xu := x6.upd (by rw [List.length_set]; exact hr.1) hi2 evi rw'
          have eG : (G1.set j m).set i m = G1.set j m := by
            have := gset_same (G1.set j m) i
            rw [hiG] at this
            exact this
          rw [eG] at xu
          refine h _ _ _ _ xu (pr.set hpj) ((st0.trans z).less (fun z => by subst ec4; simp only [add_at]; omega) (fun z hz => by subst es4; simp only [add_at] at hz ⊢; omega))
        · rw [if_neg hr] at h; exact False.elim h
    | _ => rw [eb] at h; exact False.elim h
  | _ => exact False.elim h
theorem s_alias (j ia ib m : Nat) {x ya yb : Str} {idx : Expr} {fj : Rho → R D} {b : Rho → SO} (J : PV X F G G1 k1 idx fj) (nd : X.N.Nodup) (B : PQk X F (G1.set j m) (G1.set j m) sts b)
    (hia : ia ≠ j := by decide) (hib : ib ≠ j := by decide) (hma : gget G1 ia = m := by rfl) (hmb : gget G1 ib = m := by rfl) (hl : j < G1.length := by decide)
    (hj : X.N[j]? = some x := by rfl) (hx : Loc X.env.scope x := by first | exact Or.inl rfl | exact Or.inr rfl) (hpj : Fr F j := by first | exact ⟨Or.inl rfl, rfl⟩ | exact ⟨Or.inr (by decide), rfl⟩)
    (hf : X.fn x = true ∨ X.env.scope.names.lookup x = some .local := by first | exact .inl rfl | exact .inr rfl)
    (hNa : X.N[ia]? = some ya := by rfl) (hva : Vis X.env.scope ya := by first | exact Or.inl rfl | exact Or.inr (Or.inl rfl) | exact Or.inr (Or.inr rfl))
    (hda : (ya == ("__debug__" : Str)) = false := by decide) (hca : (ya == ("__classdict__" : Str)) = false := by decide)
    (hNb : X.N[ib]? = some yb := by rfl) (hvb : Vis X.env.scope yb := by first | exact Or.inl rfl | exact Or.inr (Or.inl rfl) | exact Or.inr (Or.inr rfl))
    (hdb : (yb == ("__debug__" : Str)) = false := by decide) (hcb : (yb == ("__classdict__" : Str)) = false := by decide)
    (hst1 : starEach [.Name ya pa, .Name yb pb] X.env = (false, eval (.Name ya pa) X.env) :: starEach [.Name yb pb] X.env := by rfl)
    (hst2 : starEach [.Name yb pb] X.env = (false, eval (.Name yb pb) X.env) :: starEach [] X.env := by rfl)
    (hpl : PlainIx idx := by exact fun _ _ => rfl)
    (hs : swapsWithSole [.Name x px] (.Subscript (.List [.Name ya pa, .Name yb pb] p1) idx p2) pos.line X.env = pure false := by rfl) (hw : swappedStores [.Name x px] (.Subscript (.List [.Name ya pa, .Name yb pb] p1) idx p2) X.env = pure none := by rfl)
    (h1 : (assignEach [.Name x px] X.env).map (·.2) = [assign (.Name x px) X.env] := by rfl) :
    PBk X F G (G1.set j m) (.Assign [.Name x px] (.Subscript (.List [.Name ya pa, .Name yb pb] p1) idx p2) pos :: sts) (dAlias j ia ib fj b) := by
  obtain ⟨tj, htj, qj⟩ := (J.weak (Nat.zero_le k1)).go
  obtain ⟨tb, htb, qb⟩ := B.go
  refine ⟨_, pss_cons (ps_asg (pe_ix ix_seq (pe_lst (pa_cons (pv ia hNa hva hda hca) (pa_cons (pv ib hNb hvb hdb hcb) pa_nil hst2) hst1)) htj hpl) (pg_name nd hj hx hf) hs hw h1) htb, fun v0 σ H r c s Dn sr ok pr h => ?_⟩
  unfold dAlias at h
  by_cases hh : (rget r ia).isSome = true ∧ (rget r ib).isSome = true
  case neg => rw [if_neg hh] at h; exact False.elim h
  rw [if_pos hh] at h
  obtain ⟨da, ea⟩ := Option.isSome_iff_exists.mp hh.1
  obtain ⟨db, eb⟩ := Option.isSome_iff_exists.mp hh.2
  obtain ⟨va, _, _, _, _, eva, _⟩ := sr.out ea
  obtain ⟨vb, _, _, _, _, evb, _⟩ := sr.out eb
  refine ⟨va, eva, vb, evb, line5 (show 2 ≤ 100000 by decide), fun q hq => ?_⟩
  have ke := ex_upd (o := .lst [va, vb]) hq
  have st0 : Step c s H c s (L2.upd H q (.lst [va, vb])) := (Step.refl ok).ext ke
  have sr0 := sr.keep (ex_kp ke)
  have cq : c q = 0 := by
    by_cases z : 0 < c q
    · obtain ⟨o, eo, _⟩ := (sr.dom q).1 z
      rw [hq] at eo; cases eo
    · omega
  refine qj σ _ r c s _ sr0 st0.ok (OutS.useX pr (h.shift st0) fun dj r1 h2 => ?_)
  intro w H1 c1 s1 cj sj x1 rj y
  have z := rj.zero
  subst z
  simp only [add_z] at y
  have hq1 : H1 q = some (.lst [va, vb]) := y.keep q _ upd_same (.inl cq)
  have fin : ∀ (i : Nat) (v : V) , i ≠ j → gget G1 i = m → σ[i]? = some (some v) → OutS X F v0 (G1.set j m) c s (L2.upd H q (.lst [va, vb])) Dn (swpD j i b r1) → tb Dn (σ.set j (some v)) H1 := fun i v hij hm ev h3 => by
    have y1 : Step c s (L2.upd H q (.lst [va, vb])) c1 s1 H1 := y.less (fun _ => Nat.le_refl _) (fun z hz => by simp only [add_at]; omega)
    exact swp_run hij qb hm hpj hl x1 y1.ok pr ev (h3.shift y1)
  cases dj with
  | int z =>
    simp only at h2
    cases rj
    by_cases c0 : z = 0
    · subst c0
      rw [if_pos rfl] at h2
      exact .inl ⟨q, [va, vb], 0, va, rfl, rfl, SqL.of hq1, rfl, fin ia va hia hma eva h2⟩
    · rw [if_neg c0] at h2
      by_cases c1 : z = 1
      · subst c1
        rw [if_pos rfl] at h2
        exact .inl ⟨q, [va, vb], 1, vb, rfl, rfl, SqL.of hq1, rfl, fin ib vb hib hmb evb h2⟩
      · rw [if_neg c1] at h2; exact False.elim h2
  | _ => exact False.elim h2
end
end VL

/-! VO8: x.append(y); z = e, where e looks at y once more -/
namespace VL
open PySem PySem.Spec L2
def dAppLook (i j l : Nat) (fe : Rho → R D) : Rho → SO := fun r => match rget r i, rget r j with
  | some (.lst ds), some d => if ds.length < 100000 then (match fe (r.set i none) with
    | .ok x _ => if flat x = true then .nx (((r.set i none).set j none).set i (some (.lst (ds ++ [d]))) |>.set l (some x)) else .no
    | _ => .no) else .no
  | _, _ => .no
section
variable {X : Cx} {F F' : Fx} {G G1 G2 G3 G4 G' Gt Gn : List Nat} {k k1 k2 ka kr lv n m : Nat} {e a b tg iter : Expr} {es : List Expr} {pos p p1 p2 pa pb px py pz tpos apos cpos epos : Pos} {st : Stmt} {sts : List Stmt}
theorem s_appLook (i j l n : Nat) {y x z : Str} {fe : Rho → R D} (nd : X.N.Nodup) (E : PV X F.nox (zG G) G2 k e fe)
    (hij : i ≠ j := by decide) (hmi : gget G i = n + 1 := by rfl) (hmj : gget G j = n := by rfl) (hl : l < G.length := by decide)
    (hNi : X.N[i]? = some y := by rfl) (hvi : Vis X.env.scope y := by first | exact Or.inl rfl | exact Or.inr (Or.inl rfl) | exact Or.inr (Or.inr rfl)) (hdi : (y == ("__debug__" : Str)) = false := by decide) (hci : (y == ("__classdict__" : Str)) = false := by decide)
    (hNj : X.N[j]? = some x := by rfl) (hvj : Vis X.env.scope x := by first | exact Or.inl rfl | exact Or.inr (Or.inl rfl) | exact Or.inr (Or.inr rfl)) (hdj : (x == ("__debug__" : Str)) = false := by decide) (hcj : (x == ("__classdict__" : Str)) = false := by decide)
    (hNl : X.N[l]? = some z := by rfl) (hlz : Loc X.env.scope z := by first | exact Or.inl rfl | exact Or.inr rfl) (hpl : Fr F l := by first | exact ⟨Or.inl rfl, rfl⟩ | exact ⟨Or.inr (by decide), rfl⟩)
    (hf : X.fn z = true ∨ X.env.scope.names.lookup z = some .local := by first | exact .inl rfl | exact .inr rfl)
    (hbase : attributeBase (.Name y py) "append" X.env (eval (.Name y py) X.env) = eval (.Name y py) X.env := by rfl)
    (hfew : ((backTo cpos (starEach [.Name x px] X.env)).all (fun x => !x.1) && (backToKw cpos (keywordEach [] X.env)).all (fun x => x.1.isSome)
      && decide ([Expr.Name x px].length + ([] : List Keyword).length + (if ([] : List Keyword).isEmpty then 0 else 1) < 30)) = true := by rfl)
    (hline : (apos.endLine == cpos.line) = true := by rfl) (hst : starEach [.Name x px] X.env = (false, eval (.Name x px) X.env) :: starEach [] X.env := by rfl) (hplain : (backTo cpos (starEach [] X.env)).any (·.1) = false := by rfl)
    (hsw : swapsWith (.Call (.Attribute (.Name y py) "append" apos) [.Name x px] [] cpos) none epos.line X.env = pure false := by rfl)
    (hs : swapsWithSole [.Name z pz] e pos.line X.env = pure false := by rfl) (hw : swappedStores [.Name z pz] e X.env = pure none := by rfl)
    (h1 : (assignEach [.Name z pz] X.env).map (·.2) = [assign (.Name z pz) X.env] := by rfl) :
    PBk X F G (G.set l 0) [.Expr (.Call (.Attribute (.Name y py) "append" apos) [.Name x px] [] cpos) epos, .Assign [.Name z pz] e pos] (dAppLook i j l fe) := by
  obtain ⟨te, hte, qe⟩ := E.go
  refine ⟨_, pss_cons (ps_expr (pe_bm PySem.F.plainAttrs_list PySem.F.slot_list_append PySem.F.type_list_append mt_append (pv i hNi hvi hdi hci) (pa_cons (pv j hNj hvj hdj hcj) pa_nil hst) hbase hfew hline hst hplain) hsw) (pss_one (ps_asg hte (pg_name nd hNl hlz hf) hs hw h1)), fun v0 σ H r c s Dn sr ok pr h => ?_⟩
  unfold dAppLook at h
  cases ei : rget r i with
  | none => rw [ei] at h; exact False.elim h
  | some di =>
  cases ej : rget r j with
  | none => rw [ei, ej] at h; cases di <;> exact False.elim h
  | some d =>
  rw [ei, ej] at h
  cases di with
  | lst ds =>
    have h : OutS X F v0 (G.set l 0) c s H Dn (if ds.length < 100000 then (match fe (r.set i none) with
      | .ok x _ => if flat x = true then .nx (((r.set i none).set j none).set i (some (.lst (ds ++ [d]))) |>.set l (some x)) else .no
      | _ => .no) else .no) := h
    by_cases hlen : ds.length < 100000
    case neg => rw [if_neg hlen] at h; exact False.elim h
    rw [if_pos hlen] at h
    obtain ⟨vi, ci, si, c2, s2, evi, rpi, x1, ec, es⟩ := sr.out ei
    rw [hmi] at rpi
    obtain ⟨a, vs, cv, rfl, hla, rs, rfl⟩ := rep_lstS rpi
    have ej1 : rget (r.set i none) j = some d := by rw [rget_set_ne _ (fun z => hij z.symm)]; exact ej
    obtain ⟨vj, cj, sj, c4, s4, evj, rpj, x2, ec2, es2⟩ := x1.out ej1
    rw [hmj] at rpj
    have oka := ok a
    subst ec; subst es
    simp only [add_at, one_same] at oka
    have kp : ∀ {c s : Cnt}, c a = 0 → s a = 0 → Kp c s H (L2.upd H a (.lst (vs ++ [vj]))) := fun {c s} e1 e2 => Kp.upd hla (fun z => z) e1 e2
    have ec2a : c2 a = cj a + c4 a := by rw [ec2]; rfl
    have es2a : s2 a = sj a + s4 a := by rw [es2]; rfl
    refine ⟨.ref a, evi, .inl ⟨rfl, vs, SqL.of hla⟩, vj, evj, a, vs, vj, rfl, rfl, hla, by rw [← rs.length]; exact line6 hlen, ?_⟩
    obtain ⟨c5, s5, x5, _⟩ := (x1.keep (kp (by omega) (by omega))).wk (zG_le G)
    have z5 := x5.zz G rfl
    subst z5
    have st1 : Step (add (add (one a) cv) c2) (add si s2) H (add (add (one a) cv) c2) (add si s2) (L2.upd H a (.lst (vs ++ [vj]))) :=
      (Step.refl ok).mut (by simp only [add_at, one_same]; omega) hla (fun z => z) (fun _ => Nat.le_refl _) (fun _ h => h)
    have okz : Ok z0 s5 := fun a => ⟨Nat.zero_le _, .inl rfl⟩
    refine qe σ _ (r.set i none) z0 s5 _ x5 okz ?_
    cases ef : fe (r.set i none) with
    | ex nn dd rr => rw [ef] at h; exact False.elim h
    | no => rw [ef] at h; exact False.elim h
    | ok dx rr =>
      rw [ef] at h
      by_cases hfl : flat dx = true
      case neg => simp only [if_neg hfl] at h; exact False.elim h
      simp only [if_pos hfl] at h
      intro w H2 c6 s6 cw sw _ rw' st2
      have ke : ∀ b o, (L2.upd H a (.lst (vs ++ [vj]))) b = some o → H2 b = some o := fun b o e => st2.keep b o e (.inl rfl)
      have rz : Rep X.K H2 0 dx w z0 z0 := rw'.flatZ hfl
      have x2' := (x2.keep (kp (by omega) (by omega))).keep (ex_kp ke)
      have rs' := (rs.keep (kp (by omega) (by omega))).keep (ex_kp ke)
      have rj' := (rpj.keep (kp (by omega) (by omega))).keep (ex_kp ke)
      have ha2 : H2 a = some (.lst (vs ++ [vj])) := ke a _ upd_same
      have hir := rget_lt ei
      have xu := x2'.upd (i := i) (by rw [List.length_set, List.length_set]; exact hir) (by rw [rget_set_ne _ hij]; exact rget_set_none _ _) evi (.lstS ha2 (Reps.snoc rj' rs'))
      have eG : G.set i (n + 1) = G := by rw [← hmi]; exact gset_same G i
      rw [eG] at xu
      obtain ⟨c7, s7, x7, hc7, hs7⟩ := xu.fill (i := l) (m := 0) (by have := sr.lenG; simp only [List.length_set]; omega) rz
      refine h _ H2 _ _ x7 (pr.set hpl) ((st1.ext ke).less (fun b => ?_) (fun b hb => ?_))
      · have := hc7 b; subst ec2; simp only [add_at, z_at] at this ⊢; omega
      · have := hs7 b; subst es2; simp only [add_at, z_at] at this hb ⊢; omega
  | _ => exact False.elim h
end
end VL

/-! VO9: for x in [x for x in y if ..][:1]: the first such element, changed in place -/
namespace VL
open PySem PySem.Spec L2
def testsD (j : Nat) (ts : Rho → R Bool) (r : Rho) : List D → Option (List Bool)
  | [] => some []
  | d :: ds => match ts (r.set j (some d)) with
    | .ok b _ => (testsD j ts r ds).map (b :: ·)
    | _ => none
def dFirst (i j : Nat) (ts : Rho → R Bool) (b : Rho → SO) : Rho → SO := fun r => match rget r i with
  | some (.lst ds) => if ds.length ≤ 100000 then (match testsD j ts (r.set j none) ds with
    | some bs => (match bs.findIdx? id with
      | none => .nx (r.set j none)
      | some p => (match ds[p]? with
        | some d => (match b (((r.set i none).set j none).set j (some d)) with
          | .nx r1 => (match rget r1 j with
            | some d' => if i < r1.length ∧ rget r1 i = none then .nx ((r1.set j none).set i (some (.lst (ds.set p d')))) else .no
            | none => .no)
          | _ => .no)
        | none => .no))
    | none => .no) else .no
  | _ => .no
/-- the values picked -/
def pickV : List Bool → List V → List V
  | b :: bs, v :: vs => if b = true then v :: pickV bs vs else pickV bs vs
  | _, _ => []
theorem pickV_len : ∀ (bs : List Bool) (vs : List V), (pickV bs vs).length ≤ vs.length
  | [], _ => by unfold pickV; exact Nat.zero_le _
  | _ :: _, [] => by unfold pickV; exact Nat.zero_le _
  | b :: bs, v :: vs => by
    have := pickV_len bs vs
    unfold pickV
    split
    · simp only [List.length_cons]; omega
    · simp only [List.length_cons]; omega
theorem pickV_snoc : ∀ (bs : List Bool) (vs : List V) (b : Bool) (v : V), bs.length = vs.length → pickV (bs ++ [b]) (vs ++ [v]) = pickV bs vs ++ (if b = true then [v] else [])
  | [], [], b, v, _ => by cases b <;> rfl
  | [], _ :: _, _, _, h => by cases h
  | _ :: _, [], _, _, h => by cases h
  | c :: bs, w :: vs, b, v, h => by
    have := pickV_snoc bs vs b v (Nat.succ.inj h)
    show (if c = true then w :: pickV (bs ++ [b]) (vs ++ [v]) else pickV (bs ++ [b]) (vs ++ [v])) = (if c = true then w :: pickV bs vs else pickV bs vs) ++ _
    rw [this]
    cases c <;> rfl
theorem pickV_none : ∀ (bs : List Bool) (vs : List V), bs.findIdx? id = none → pickV bs vs = []
  | [], _, _ => rfl
  | _ :: _, [], _ => rfl
  | b :: bs, v :: vs, h => by
    rw [List.findIdx?_cons] at h
    cases b with
    | true => cases h
    | false =>
      have h : (bs.findIdx? id).map (· + 1) = none := h
      have := pickV_none bs vs (by cases e : bs.findIdx? id with | none => rfl | some k => rw [e] at h; cases h)
      exact this
theorem pickV_first : ∀ (bs : List Bool) (vs : List V) (p : Nat) (v : V), bs.findIdx? id = some p → vs[p]? = some v → (pickV bs vs).take 1 = [v]
  | [], _, _, _, h, _ => by cases h
  | b :: bs, [], p, v, _, h => by cases p <;> cases h
  | b :: bs, w :: vs, p, v, h, hv => by
    rw [List.findIdx?_cons] at h
    cases b with
    | true =>
      cases h
      cases hv
      rfl
    | false =>
      have h : (bs.findIdx? id).map (· + 1) = some p := h
      cases e : bs.findIdx? id with
      | none => rw [e] at h; cases h
      | some q =>
        rw [e] at h
        cases h
        exact pickV_first bs vs q v e hv
theorem testsD_len {j : Nat} {ts : Rho → R Bool} {r : Rho} : ∀ {ds : List D} {bs : List Bool}, testsD j ts r ds = some bs → bs.length = ds.length
  | [], bs, h => by cases h; rfl
  | d :: ds, bs, h => by
    unfold testsD at h
    split at h
    · cases e : testsD j ts r ds with
      | none => rw [e] at h; cases h
      | some cs =>
        rw [e] at h
        cases h
        rw [List.length_cons, testsD_len e]; rfl
    · cases h
theorem testsD_at {j : Nat} {ts : Rho → R Bool} {r : Rho} : ∀ {ds : List D} {bs : List Bool}, testsD j ts r ds = some bs → ∀ {m : Nat} {d : D}, ds[m]? = some d → ∃ b r', bs[m]? = some b ∧ ts (r.set j (some d)) = .ok b r'
  | [], _, _, _, _, hd => by cases hd
  | x :: ds, bs, h, m, d, hd => by
    unfold testsD at h
    split at h
    · rename_i b r' e1
      cases e : testsD j ts r ds with
      | none => rw [e] at h; cases h
      | some cs =>
        rw [e] at h
        cases h
        cases m with
        | zero => cases hd; exact ⟨b, r', rfl, e1⟩
        | succ m => exact testsD_at e (m := m) hd
    · cases h
theorem cutV_1 (xs : List V) : cutV xs none (some 1) = xs.take 1 := by
  cases xs with
  | nil => rfl
  | cons x xs =>
    unfold cutV HT.sIx
    simp
    try omega
section
variable {X : Cx} {F F' : Fx} {G G1 G2 G3 G4 G' Gt Gs Gn : List Nat} {k k1 k2 ka kr lv n m : Nat} {e a b tg iter : Expr} {es ifs : List Expr} {pos p p1 p2 p3 pa pb px py pz tp ep lp cp tpos apos cpos epos : Pos} {jj : Nat} {st : Stmt} {sts : List Stmt}
theorem s_first (i j n : Nat) {y x : Str} {scope : Scope} {body : List Stmt} {ts : Rho → R Bool} {b : Rho → SO} (nd : X.N.Nodup) (hp : PassesOwn (model X.prog X.w) X.A X.env X.xe) (hc : X.calm = true) (okb : BlkOk X.N X.env.scope scope [(x, j)])
    (Tg : ∀ (s : Shared) (H : Hp) (C : Addr) (cl : List (Str × Addr)) (fp : List Addr), PG (X.blk s H scope (compEnvC scope cl C X.env) fp) (.Name x tp) (gName j))
    (Ts : ∀ (s : Shared) (H : Hp) (C : Addr) (cl : List (Str × Addr)) (fp : List Addr), PTst (X.blk s H scope (compEnvC scope cl C X.env) fp) F.nox ((zG G).set j 0) Gs ifs ts)
    (El : ∀ (s : Shared) (H : Hp) (C : Addr) (cl : List (Str × Addr)) (fp : List Addr), PE (X.blk s H scope (compEnvC scope cl C X.env) fp) (.Name x ep) (tVar j))
    (B : PQk X F (G.set j n) (G.set j n) body b)
    (hij : i ≠ j := by decide) (hmG : gget G i = n + 1 := by rfl) (hj : X.N[j]? = some x := by rfl) (hx : Loc X.env.scope x := by first | exact Or.inl rfl | exact Or.inr rfl) (hpj : Fr F j := by first | exact ⟨Or.inl rfl, rfl⟩ | exact ⟨Or.inr (by decide), rfl⟩) (hl : j < G.length := by decide)
    (hf : X.fn x = true ∨ X.env.scope.names.lookup x = some .local := by first | exact .inl rfl | exact .inr rfl)
    (hN : X.N[i]? = some y := by rfl) (hv : Vis X.env.scope y := by first | exact Or.inl rfl | exact Or.inr (Or.inl rfl) | exact Or.inr (Or.inr rfl))
    (hd : (y == ("__debug__" : Str)) = false := by decide) (hcd : (y == ("__classdict__" : Str)) = false := by decide)
    (hs1 : ∀ z, foldedSetIterable (.Name y py) X.env z = pure z := by intro _; rfl)
    (hs : ∀ z, foldedSetIterable (.Subscript (.ListComp (.Name x ep) [⟨.Name x tp, .Name y py, ifs, 0⟩] scope lp) (.Slice none (some (.Constant (.int 1) jj cp)) none p2) p3) X.env z = pure z := by intro _; rfl) :
    PSt X F G (G.set j n) (.For (.Name x px) (.Subscript (.ListComp (.Name x ep) [⟨.Name x tp, .Name y py, ifs, 0⟩] scope lp) (.Slice none (some (.Constant (.int 1) jj cp)) none p2) p3) body [] pos) (dFirst i j ts b) := by
  obtain ⟨tb, htb, qb⟩ := B.go
  refine ⟨_, ps_for hp hc (pi_list (pe_slice sl_list (pe_lc hc nd (pi_list (pv i hN hv hd hcd)) okb Tg (tt := rdT X F.nox ((zG G).set j 0) Gs ts) (fun s H C cl fp => (Ts s H C cl fp).pt) El hs1) po_none (po_some pe_int))) (pg_name nd hj hx hf) htb hs, fun v0 σ H r c s Dn sr ok pr h => ?_⟩
  unfold dFirst at h
  cases ei : rget r i with
  | none => rw [ei] at h; exact False.elim h
  | some d0 =>
  rw [ei] at h
  cases d0 with
  | lst ds =>
    have h : OutS X F v0 (G.set j n) c s H Dn (if ds.length ≤ 100000 then (match testsD j ts (r.set j none) ds with
      | some bs => (match bs.findIdx? id with
        | none => .nx (r.set j none)
        | some p => (match ds[p]? with
          | some d => (match b (((r.set i none).set j none).set j (some d)) with
            | .nx r1 => (match rget r1 j with
              | some d' => if i < r1.length ∧ rget r1 i = none then .nx ((r1.set j none).set i (some (.lst (ds.set p d')))) else .no
              | none => .no)
            | _ => .no)
          | none => .no))
      | none => .no) else .no) := h
    by_cases hlen : ds.length ≤ 100000
    case neg => rw [if_neg hlen] at h; exact False.elim h
    rw [if_pos hlen] at h
    cases et : testsD j ts (r.set j none) ds with
    | none => rw [et] at h; exact False.elim h
    | some bs =>
    rw [et] at h
    simp only at h
    have blen := testsD_len et
    -- the owned list, as it stands
    obtain ⟨vi, ci, si, c2, s2, evi, rpi, x1, ec, es⟩ := sr.out ei
    rw [hmG] at rpi
    obtain ⟨l, vs, cv, rfl, hl0, rs, ecv⟩ := rep_lstS rpi
    have hlv := rs.length
    have hjr : j < r.length := by have := sr.lenG; omega
    have hjs : j < σ.length := by have := sr.lenS; omega
    -- all of it only looked at
    obtain ⟨cz, sz, xz, _⟩ := sr.wk (zG_le G)
    have z := xz.zz G rfl
    subst z
    have rdz : ∀ {m : Nat} {d : D} {v : V}, ds[m]? = some d → vs[m]? = some v → ∃ s3, Rep X.K H 0 d v z0 s3 := fun {m d v} e1 e2 => by
      obtain ⟨w, c3, s3, ew, rw', _, _⟩ := rs.get e1
      rw [e2] at ew
      cases ew
      obtain ⟨c4, s4, r4, _⟩ := rw'.wk 0 (Nat.zero_le _)
      have z := r4.zero
      subst z
      exact ⟨s4, r4⟩
    refine ⟨.ref l, evi, l, rfl, ⟨vs, SqL.of hl0⟩, fun D0 hD0 => ?_⟩
    refine ⟨fun m mm H' => mm = ds.length - m ∧ m ≤ ds.length ∧ (∀ a o, H a = some o → H' a = some o) ∧ H' D0 = some (.lst (pickV (bs.take m) (vs.take m))), ?_, ?_⟩
    · exact ⟨ds.length, rfl, Nat.zero_le _, ex_upd hD0, upd_same⟩
    · rintro m mm H' ⟨rfl, hm, ke, hD⟩
      by_cases hlt : m < ds.length
      · refine .inr ⟨⟨vs, vs[m]'(by omega), SqL.of (ke l _ hl0), List.getElem?_eq_getElem (by omega)⟩, fun H2 => (∀ a o, H a = some o → H2 a = some o) ∧ H2 D0 = some (.lst (pickV (bs.take (m + 1)) (vs.take (m + 1)))), fun H2 hN => ⟨ds.length - (m + 1), by omega, rfl, hlt, hN⟩, ?_⟩
        rintro u H2 ⟨rfl, hu⟩
        have hu : vs[m]? = some u := hu vs (SqL.of (ke l _ hl0))
        have hdm : ds[m]? = some ds[m] := List.getElem?_eq_getElem hlt
        obtain ⟨bm, r', hbm, etm⟩ := testsD_at et hdm
        obtain ⟨s3, r3⟩ := rdz hdm hu
        refine ⟨?_, ?_⟩
        · exact (wipe_set _ (some u) _ j (by show j ∈ [j]; exact List.mem_singleton.mpr rfl)).trans (wipe_wipe_set σ [j])
        · obtain ⟨c6, s6, x6, hc6, _⟩ := (xz.keep (ex_kp ke)).wipe [j]
          have x7 := x6.put (i := j) (by show j < (r.set j none).length; rw [List.length_set]; exact hjr) (rget_set_none _ j) (r3.keep (ex_kp ke))
          have cz6 : c6 = z0 := funext fun a => by have := hc6 a; simp only [z_at] at this ⊢; omega
          subst cz6
          refine ⟨_, _, _, x7, fun a => ⟨by simp only [add_at, z_at]; omega, .inl (by simp only [add_at, z_at])⟩, ?_⟩
          rw [show (wipeR r [j]).set j (some ds[m]) = (r.set j none).set j (some ds[m]) from rfl, etm]
          intro H3 c8 s8 x8 st8
          have ke3 : ∀ a o, H2 a = some o → H3 a = some o := fun a o e => st8.keep a o e (.inl (by simp only [add_at, z_at]))
          have hb1 : bs.take (m + 1) = bs.take m ++ [bm] := by rw [List.take_add_one, hbm]; rfl
          have hv1 : vs.take (m + 1) = vs.take m ++ [u] := by rw [List.take_add_one, hu]; rfl
          have hpk := pickV_snoc (bs.take m) (vs.take m) bm u (by rw [List.length_take, List.length_take]; omega)
          rw [← hb1, ← hv1] at hpk
          cases bm with
          | false =>
            rw [if_neg Bool.false_ne_true, List.append_nil] at hpk
            rw [if_neg Bool.false_ne_true]
            exact ⟨fun a o e => ke3 a o (ke a o e), by rw [hpk]; exact ke3 _ _ hD⟩
          | true =>
            rw [if_pos rfl] at hpk
            rw [if_pos rfl]
            refine ⟨u, ?_, _, ke3 _ _ hD, ?_, fun a o e => ?_, ?_⟩
            · show ((L2.wipe σ [j]).set j (some u))[j]? = some (some u)
              rw [List.getElem?_set_self (by rw [wipe_length]; exact hjs)]
            · refine Nat.lt_of_le_of_lt (pickV_len _ _) ?_
              rw [List.length_take]
              refine Nat.lt_of_le_of_lt (Nat.le_trans (Nat.min_le_left _ _) (Nat.le_of_lt hlt)) (Nat.lt_of_le_of_lt hlen (by decide))
            · have : a ≠ D0 := fun z => by subst z; rw [hD0] at e; cases e
              rw [upd_ne this]
              exact ke3 a o (ke a o e)
            · rw [upd_same, hpk]
      · obtain rfl : m = ds.length := by omega
        refine .inl ⟨⟨vs, SqL.of (ke l _ hl0), by rw [hlv]; exact Nat.le_refl _⟩, ?_⟩
        rw [← blen, List.take_length, blen, hlv, List.take_length] at hD
        refine ⟨1, rfl, D0, _, rfl, SqL.of hD, fun D1 hD1 => ⟨D1, rfl, ⟨_, SqL.of upd_same⟩, ?_⟩⟩
        have ke1 : ∀ a o, H a = some o → (L2.upd H' D1 (.lst (cutV (pickV bs vs) none (some 1)))) a = some o := fun a o e => ex_upd hD1 a o (ke a o e)
        have nD1 : H D1 = none := by
          cases e : H D1 with
          | none => rfl
          | some o => rw [ke _ _ e] at hD1; cases hD1
        have ct : cutV (pickV bs vs) none (some 1) = (pickV bs vs).take 1 := cutV_1 _
        rw [ct] at ke1 ⊢
        generalize hU : L2.upd H' D1 (.lst ((pickV bs vs).take 1)) = HU at *
        have hD1' : HU D1 = some (.lst ((pickV bs vs).take 1)) := by rw [← hU]; exact upd_same
        cases ep : bs.findIdx? id with
        | none =>
          rw [ep] at h
          rw [pickV_none bs vs ep] at hD1'
          refine ⟨fun i m σ' H' => i = 0 ∧ σ' = σ ∧ H' = HU, ⟨0, rfl, rfl, rfl⟩, ?_⟩
          rintro i' m' σ' H'' ⟨rfl, rfl, rfl⟩
          refine .inl ⟨⟨_, SqL.of hD1', Nat.le_refl _⟩, ?_⟩
          obtain ⟨c9, s9, x9, hc9, hs9⟩ := (sr.keep (ex_kp ke1)).del j
          exact h σ' _ _ _ (x9.remask (m := n) (rget_set_none _ j)) pr (((Step.refl ok).ext ke1).less hc9 fun a ha => Nat.lt_of_lt_of_le ha (hs9 a))
        | some q =>
          rw [ep] at h
          simp only at h
          cases eq : ds[q]? with
          | none => rw [eq] at h; exact False.elim h
          | some d =>
          rw [eq] at h
          simp only at h
          obtain ⟨v, ca, sa, cb, sb, ev, ra, e1, e2, domB, back⟩ := (rs.keep (H' := L2.upd H' D1 (.lst ((pickV bs vs).take 1))) (fun a o e _ => by rw [hU]; exact ke1 a o e)).focus eq
          rw [hU] at ra domB back
          rw [pickV_first bs vs q v ep ev] at hD1'
          have ev1 : vs[q]? = some v := ev
          obtain ⟨c3, s3, x2, hc3, hs3⟩ := (x1.keep (ex_kp ke1)).del j
          have x3 := x2.remask (m := n) (rget_set_none _ j)
          have x4 := x3.put (i := j) (by rw [List.length_set, List.length_set]; exact hjr) (rget_set_none _ j) ra
          rw [set_set] at x4
          have hlU : HU l = some (.lst vs) := ke1 l _ hl0
          have hGi : gget (G.set j n) i = n + 1 := by rw [gget_set_ne G hij, hmG]
          have hGj : gget (G.set j n) j = n := gget_set_same G hl
          have st0 : Step c s H (add (add ca c3) (add (one l) cb)) (add (add sa s3) sb) HU := ((Step.refl ok).ext ke1).less
            (fun z => by have := hc3 z; subst ec; subst ecv; subst e1; simp only [add_at] at this ⊢; omega) (fun z hz => by have := hs3 z; subst es; subst e2; simp only [add_at] at this hz ⊢; omega)
          have ok4 : Ok (add ca c3) (add sa s3) := fun z => by have := st0.ok z; simp only [add_at] at this ⊢; omega
          have domF : Dom (add (one l) cb) sb HU := Dom.addC hlU trivial domB
          have cD1 : c D1 = 0 := by
            by_cases z : 0 < c D1
            · obtain ⟨o, eo, _⟩ := (sr.dom D1).1 z
              rw [nD1] at eo; cases eo
            · omega
          have cD1' : (add (add ca c3) (add (one l) cb)) D1 = 0 := by
            have h1 : (add (add ca c3) (add (one l) cb)) D1 ≤ c D1 := by have := hc3 D1; subst ec; subst ecv; subst e1; simp only [add_at] at this ⊢; omega
            omega
          refine ⟨fun i m σ' H' => (i = 0 ∧ m = 1 ∧ σ' = σ ∧ H' = HU) ∨ (i = 1 ∧ m = 0 ∧ Dn.nx σ' H' ∧ H' D1 = some (.lst [v])), ⟨1, .inl ⟨rfl, rfl, rfl, rfl⟩⟩, ?_⟩
          rintro i' m' σ' H'' (⟨rfl, rfl, rfl, rfl⟩ | ⟨rfl, rfl, hn, hD⟩)
          case inr => exact .inl ⟨⟨_, SqL.of hD, Nat.le_refl _⟩, hn⟩
          refine .inr ⟨⟨_, v, SqL.of hD1', rfl⟩, fun σ' H' => Dn.nx σ' H' ∧ H' D1 = some (.lst [v]), fun σ2 H2 hN => ⟨0, Nat.lt_succ_self _, .inr ⟨rfl, rfl, hN.1, hN.2⟩⟩, ?_⟩
          rintro u H2 ⟨rfl, hu⟩
          have hu : [v][0]? = some u := hu _ (SqL.of hD1')
          cases hu
          refine qb v0 (σ'.set j (some v)) H2 _ (add ca c3) (add sa s3) _ x4 ok4 (pr.set hpj) ?_
          cases eb : b (((r.set i none).set j none).set j (some d)) with
          | nx r1 =>
            rw [eb] at h
            simp only at h
            intro H4 c4 s4 x5 z
            cases ej : rget r1 j with
            | none => simp only [ej] at h; exact False.elim h
            | some d' =>
              simp only [ej] at h
              by_cases hr : i < r1.length ∧ rget r1 i = none
              case neg => rw [if_neg hr] at h; exact False.elim h
              rw [if_pos hr] at h
              obtain ⟨w', c5, s5, c6, s6, ew', re', x6, ec4, es4⟩ := x5.out ej
              rw [List.getElem?_set_self hjs] at ew'
              cases ew'
              rw [hGj] at re'
              have zf := z.frame (cf := add (one l) cb) (sf := sb) st0.ok domF
              have kpA := z.aside (cf := add (one l) cb) (sf := sb) st0.ok
              have hl4 : H4 l = some (.lst vs) := kpA l _ hlU (.inl (one_add_pos _ _))
              have rs4 := back H4 d' c5 s5 (fun a o e h => kpA a o e (by simp only [add_at]; rcases h with h | h | h; exact .inl (by omega); exact .inr (.inl (by omega)); exact .inr (.inr h))) re'
              have evi' : (σ'.set j (some v))[i]? = some (some (.ref l)) := by rw [List.getElem?_set_ne (fun z => hij z.symm)]; exact evi
              have xu := x6.upd (i := i) (by rw [List.length_set]; exact hr.1) (by rw [rget_set_ne _ hij]; exact hr.2) evi' (.lstS hl4 rs4)
              rw [← hGi, gset_same] at xu
              refine ⟨h _ H4 _ _ xu (pr.set hpj) ((st0.trans zf).less (fun a => ?_) (fun a ha => ?_)), ?_⟩
              · subst ec4; simp only [add_at]; omega
              · subst es4; simp only [add_at] at ha ⊢; omega
              · exact zf.keep D1 _ hD1' (.inl cD1')
          | _ => rw [eb] at h; exact False.elim h
  | _ => exact False.elim h
end
end VL

/-! VS1: texts: s + t, s * n, sep.join(texts), f'{..}{..}{..}', str(i), int(b), e[i:j].replace('..', '..') -/
namespace VL
open PySem PySem.Spec L2
section
variable {X : Cx} {F : Fx} {G G1 G2 G3 G4 : List Nat} {k k1 k2 k3 : Nat} {e a b : Expr} {es : List Expr} {pos p p1 p2 p3 apos : Pos}
/-! ### s + t -/
def pAddS (a b : D) : Option D := match a, b with
  | .str x, .str y => if x.length + y.length ≤ 1000000 then some (.str (x ++ y)) else none
  | _, _ => none
theorem p_addS : P2 X (fun x y H Q => ∃ i j, x = .str i ∧ y = .str j ∧ i.length + j.length ≤ sizeLine ∧ Q (.str (i ++ j)) H) k pAddS := by
  intro da db d hd x y H sa sb Q ra rb hq
  unfold pAddS at hd
  split at hd
  · split at hd
    · rename_i hl
      cases hd
      cases ra; cases rb
      exact ⟨_, _, rfl, rfl, Nat.le_trans hl (by decide), hq _ H z0 z0 (.str _) .flat⟩
    · cases hd
  · cases hd
/-! ### s * 0, s * 1 -/
def rMulS : R2 := fun x y H Q => ∃ (s : Str) (c : Bool), x = .str s ∧ y = .int (if c = true then 1 else 0) ∧ Q (.str (if c = true then s else Str.empty)) H
theorem op_mulS : OpR X (binaryOp .Mult) rMulS := by
  intro pins s σ H x y v u Q I rx ry h
  obtain ⟨st, c, rfl, rfl, q⟩ := h
  obtain ⟨t, rfl⟩ := rx
  obtain ⟨t', rfl⟩ := ry
  cases c with
  | false => exact PySem.P.mul_str_none (by decide) (by decide) ⟨.str Str.empty, H, I.tok _, ⟨_, rfl⟩, q⟩
  | true =>
    refine PySem.P.mul_str (by decide) (fun _ h => ?_) (fun _ h => ?_) ?_
    · cases h
    · cases h
    · exact ⟨.str st, H, I, ⟨_, rfl⟩, q⟩
def pMulS (a b : D) : Option D := match a, b with
  | .str x, .int i => if i = 1 then some (.str x) else if i = 0 then some (.str Str.empty) else none
  | _, _ => none
theorem p_mulS : P2 X rMulS k pMulS := by
  intro da db d hd x y H sa sb Q ra rb hq
  unfold pMulS at hd
  split at hd
  · split at hd
    · rename_i h1
      cases hd
      cases ra; cases rb
      subst h1
      exact ⟨_, true, rfl, rfl, hq _ H z0 z0 (.str _) .flat⟩
    · split at hd
      · rename_i h0
        cases hd
        cases ra; cases rb
        subst h0
        exact ⟨_, false, rfl, rfl, hq _ H z0 z0 (.str _) .flat⟩
      · cases hd
  · cases hd
/-! ### str(i), int(b) -/
def pStr : List D → Option D
  | [.int i] => if i.natAbs.log2 < 1920 then some (.str (toString i)) else none
  | _ => none
theorem n_str : PN X (fun xs H Q => ∃ i, xs = [.int i] ∧ i.natAbs.log2 < 1920 ∧ Q (.str (toString i)) H) k pStr := by
  intro ds d hd xs H sa Q ra hq
  unfold pStr at hd
  split at hd
  · split at hd
    · rename_i hl
      cases hd
      obtain ⟨v, s1, c1, rfl, r1, _, _⟩ := inv_1 ra
      cases r1
      exact ⟨_, rfl, hl, hq _ H z0 z0 (.str _) .flat⟩
    · cases hd
  · cases hd
def pIntB : List D → Option D
  | [.bl b] => some (.int (if b = true then 1 else 0))
  | _ => none
theorem n_intB : PN X (fun xs H Q => (∃ i, xs = [.int i] ∧ Q (.int i) H) ∨ ∃ k, xs = [.bl k] ∧ Q (.int (if k then 1 else 0)) H) k pIntB := by
  intro ds d hd xs H sa Q ra hq
  unfold pIntB at hd
  split at hd
  · cases hd
    obtain ⟨v, s1, c1, rfl, r1, _, _⟩ := inv_1 ra
    cases r1
    exact .inr ⟨_, rfl, hq _ H z0 z0 (.int _) .flat⟩
  · cases hd
/-! ### f'{..}' of three parts -/
def pFmt : D → Option D
  | .str y => if y.length ≤ 100000 then some (.str y) else none
  | .int i => if i.natAbs.log2 < 1920 then some (.str (toString i)) else none
  | _ => none
theorem v_fmt {f : Rho → R D} (A : PV X F G G1 k1 e f) : PV X F G G1 k (.FormattedValue e (-1) none pos) (d1 pFmt f) := by
  obtain ⟨t, ht, q⟩ := (A.weak (Nat.zero_le k1)).go
  refine ⟨_, pe_fmt ht, fun σ H r c s Q sr ok h => q σ H r c s _ sr ok (h.bind1.mono fun d r1 ⟨x, hx, h2⟩ => ?_)⟩
  intro v H1 c1 s1 cr sa x1 rp st
  have z := rp.zero
  subst z
  unfold pFmt at hx
  split at hx
  · split at hx
    · rename_i hl
      cases hx
      cases rp
      exact .inl ⟨_, rfl, Nat.le_trans hl (by decide), h2 _ H1 c1 s1 z0 z0 x1 (.str _) st⟩
    · cases hx
  · split at hx
    · rename_i hl
      cases hx
      cases rp
      exact .inr ⟨_, rfl, hl, h2 _ H1 c1 s1 z0 z0 x1 (.str _) st⟩
    · cases hx
  · cases hx
end
end VL

/-! VS2: f-strings of three parts, join, a slice with a replacement -/
namespace VL
open PySem PySem.Spec L2
section
variable {X : Cx} {F : Fx} {G G1 G2 G3 G4 : List Nat} {k k1 k2 k3 : Nat} {e a b c : Expr} {es : List Expr} {pos p p1 p2 p3 apos q0 q1 q2 : Pos}
def j3c (x y : Str) (d : D) : Option D := match d with
  | .str z => if (x ++ y ++ z).length ≤ 1000000 then some (.str (x ++ y ++ z)) else none
  | _ => none
def j3b (x : Str) (fc : Rho → R D) (d : D) (r : Rho) : R D := match d with
  | .str y => if (x ++ y).length ≤ 1000000 then (fc r).bind fun z r3 => lift (j3c x y z) r3 else .no
  | _ => .no
def j3a (fb fc : Rho → R D) (d : D) (r : Rho) : R D := match d with
  | .str x => if x.length ≤ 1000000 then (fb r).bind (j3b x fc) else .no
  | _ => .no
def dJoin3 (fa fb fc : Rho → R D) : Rho → R D := fun r => (fa r).bind (j3a fb fc)
theorem emp_app (x : Str) : Str.empty ++ x = x := by
  cases x with
  | mk c => show Str.mk (#[] ++ c) = _; simp
theorem v_joined3 {fa fb fc : Rho → R D} (A : PV X F G G1 k1 a fa) (B : PV X F G1 G2 k2 b fb) (C : PV X F G2 G3 k3 c fc) : PV X F G G3 k (.JoinedStr [a, b, c] pos) (dJoin3 fa fb fc) := by
  obtain ⟨ta, ha, qa⟩ := (A.weak (Nat.zero_le k1)).go
  obtain ⟨tb, hb, qb⟩ := (B.weak (Nat.zero_le k2)).go
  obtain ⟨tc, hc, qc⟩ := (C.weak (Nat.zero_le k3)).go
  refine ⟨_, pe_joined (.cons ha (.cons hb (.cons hc .nil))), fun σ H r c s Q sr ok h => ?_⟩
  unfold dJoin3 at h
  have bd : ∀ {n : Nat}, n ≤ 1000000 → n ≤ sizeLine := fun h => Nat.le_trans h (by decide)
  refine qa σ H r c s _ sr ok (h.bind.mono fun x r1 h1 => ?_)
  intro v1 H1 c1 s1 cr1 sa1 x1 rp1 st1
  have z1 := rp1.zero
  subst z1
  have st1' : Step c s H c1 s1 H1 := st1.less (fun z => by simp only [add_at, z_at]; omega) (fun z hz => by simp only [add_at]; omega)
  unfold j3a at h1
  cases x with
  | str x =>
    cases rp1
    by_cases b1 : x.length ≤ 1000000
    case neg => simp only [if_neg b1] at h1; exact False.elim h1
    simp only [if_pos b1] at h1
    refine ⟨x, rfl, by rw [emp_app]; exact bd b1, ?_⟩
    rw [emp_app]
    refine qb σ H1 r1 c1 s1 _ x1 st1'.ok (h1.bind.imp st1' fun y r2 h2 => ?_)
    intro v2 H2 c2 s2 cr2 sa2 x2 rp2 st2
    have z2 := rp2.zero
    subst z2
    have st2' : Step c1 s1 H1 c2 s2 H2 := st2.less (fun z => by simp only [add_at, z_at]; omega) (fun z hz => by simp only [add_at]; omega)
    unfold j3b at h2
    cases y with
    | str y =>
      cases rp2
      by_cases b2 : (x ++ y).length ≤ 1000000
      case neg => simp only [if_neg b2] at h2; exact False.elim h2
      simp only [if_pos b2] at h2
      refine ⟨y, rfl, bd b2, ?_⟩
      refine qc σ H2 r2 c2 s2 _ x2 st2'.ok (h2.bind1.imp (st1'.trans st2') fun z r3 ⟨w, hw, h3⟩ => ?_)
      intro v3 H3 c3 s3 cr3 sa3 x3 rp3 st3
      have z3 := rp3.zero
      subst z3
      unfold j3c at hw
      cases z with
      | str z =>
        cases rp3
        by_cases b3 : (x ++ y ++ z).length ≤ 1000000
        case neg => simp only [if_neg b3] at hw; cases hw
        simp only [if_pos b3] at hw
        cases hw
        exact ⟨z, rfl, bd b3, h3 _ H3 c3 s3 z0 z0 x3 (.str _) ((st1'.trans st2').trans st3)⟩
      | _ => cases hw
    | _ => exact False.elim h2
  | _ => exact False.elim h1
/-! ### sep.join(texts) -/
def strsD : List D → Option (List Str)
  | [] => some []
  | .str x :: ds => (strsD ds).map (x :: ·)
  | _ :: _ => none
theorem strsD_vals {K : PySem.W.Frag} {H : Hp} {n : Nat} : ∀ {ds : List D} {vs : List V} {c s : Cnt} {xs : List Str}, Reps K H n ds vs c s → strsD ds = some xs → vs = xs.map V.str
  | _, _, _, _, xs, .nil, h => by cases h; rfl
  | _, _, _, _, xs, .cons (d := d) (ds := ds) a b, h => by
    cases d with
    | str x =>
      cases a
      cases e : strsD ds with
      | none => have h : (strsD ds).map (x :: ·) = some xs := h; rw [e] at h; cases h
      | some ys =>
        have h : (strsD ds).map (x :: ·) = some xs := h
        rw [e] at h
        cases h
        rw [strsD_vals b e]
        rfl
    | _ => cases h
def pJoinS (x d : D) : Option D := match x, d with
  | .str a, .lst ds => (match strsD ds with
    | some ys => if (ys.map (·.length)).sum + ys.length * a.length ≤ 1000000 then some (.str (Txt.join a ys)) else none
    | none => none)
  | _, _ => none
theorem v_join {fa fb : Rho → R D} {o : Expr} (A : PV X F G G1 k1 o fa) (B : PV X F G1 G2 k2 e fb) (hu : ∀ r, ∃ s r', fa r = .ok (.str s) r' := by intro r; exact ⟨_, _, rfl⟩)
    (hs : starEach [e] X.env = [(false, eval e X.env)] := by rfl) (hbase : attributeBase o "join" X.env (eval o X.env) = eval o X.env := by rfl) (hline : (apos.endLine == pos.line) = true := by rfl) :
    PV X F G G2 k (.Call (.Attribute o "join" apos) [e] [] pos) (d2 pJoinS fa fb) := by
  obtain ⟨ta, ha, qa⟩ := (A.weak (Nat.zero_le k1)).go
  obtain ⟨tb, hb, qb⟩ := (B.weak (Nat.zero_le k2)).go
  refine ⟨_, pe_join ha hb hs hbase hline, fun σ H r c s Q sr ok h => ?_⟩
  unfold d2 at h
  obtain ⟨sp, r0, e0⟩ := hu r
  refine qa σ H r c s _ sr ok ?_
  rw [e0] at h ⊢
  intro v1 H1 c1 s1 cr1 sa1 x1 rp1 st1
  cases rp1
  simp only [add_z] at st1
  refine ⟨⟨sp, rfl⟩, ?_⟩
  have h : OutX X F c s H σ (OkE X G2 k c s H σ Q) ((fb r0).bind fun db r2 => lift (pJoinS (.str sp) db) r2) := h
  refine qb σ H1 r0 c1 s1 _ x1 st1.ok (h.bind1.imp st1 fun y r2 ⟨w, hw, h2⟩ => ?_)
  intro v2 H2 c2 s2 cr2 sa2 x2 rp2 st2
  have z2 := rp2.zero
  subst z2
  have st2' : Step c1 s1 H1 c2 s2 H2 := st2.less (fun z => by simp only [add_at, z_at]; omega) (fun z hz => by simp only [add_at]; omega)
  unfold pJoinS at hw
  cases y with
  | lst ds =>
    cases ey : strsD ds with
    | none => simp only [ey] at hw; cases hw
    | some ys =>
      simp only [ey] at hw
      by_cases b1 : (ys.map (·.length)).sum + ys.length * sp.length ≤ 1000000
      case neg => rw [if_neg b1] at hw; cases hw
      rw [if_pos b1] at hw
      cases hw
      obtain ⟨l, vs, s', rfl, hl, rs, _, _⟩ := rep_lst0 rp2
      have ev := strsD_vals rs ey
      subst ev
      exact ⟨sp, l, ys, rfl, rfl, .inl (SqL.of hl), Nat.le_trans b1 (by decide), h2 _ H2 c2 s2 z0 z0 x2 (.str _) (by simp only [add_z]; exact st1.trans st2')⟩
  | _ => cases hw
end
end VL

/-! VS3: e[i:j].replace('..', '..') -/
namespace VL
open PySem PySem.Spec L2 PyProof.Rows
section
variable {X : Cx} {F : Fx} {G G1 G2 G3 G4 : List Nat} {k k1 k2 k3 : Nat} {e a b c : Expr} {es : List Expr} {pos p p1 p2 p3 apos q0 q1 q2 : Pos} {te : TE} {th : TO} {r : V → Option Int → Option Int → Hp → VK → Prop} {hi : Option Expr} {i : Int} {j : Nat}
/-- a slice: a token is out behind it -/
theorem slice_toks (hr : SlR X r) (he : PE X e te) (hu : PO X hi th) {pins : List (Addr × Obj)} {s : Shared} {σ : L2.St} {H : Hp} {Q : VK} (I : Inv X pins σ H s) (h : tSl r te (tPart (tC (.int i))) th σ H Q) :
    wpAny (model X.prog X.w) X.A (eval (.Subscript e (.Slice (some (.Constant (.int i) j p)) hi none p2) pos) X.env) (fun v s1 => 1 ≤ s1.toks ∧ EP X pins σ Q v s1) X.xe s := by
  refine Subscript_ (thn (he.run pins s σ H _ I h) fun v s1 ⟨x, H1, I1, r1, q1⟩ => ?_)
  refine wpAny_Slice ?_
  rw [evalPart_some]
  refine wpAny_Constant_int ?_
  obtain ⟨i', e1, q2⟩ := q1
  cases e1
  have I2 : Inv X pins σ H1 { s1 with toks := s1.toks + 1 } := I1.tok _
  refine wpAny_mono (PySem.wpAny_toks (hu.run pins { s1 with toks := s1.toks + 1 } σ H1 _ I2 q2)) (fun vu s3 ⟨hk, u, H3, I3, pu, q3⟩ => ?_) fun _ _ z => z.2
  have hk : 1 ≤ s3.toks := by
    have hk : s1.toks + 1 ≤ s3.toks := hk
    omega
  rw [evalPart_none]
  refine wpAny_pure ?_
  have I4 : Inv X pins σ H3 { s3 with heap := s3.heap.push { cls := .type "slice", data := .fields #[.int i s1.toks, vu, .none] } } := I3.kept (t' := s3.toks) fun b ob q => Heap.get?_push_of_some _ q
  obtain ⟨T, id, hT, ht, hg⟩ := hr pins { s3 with heap := s3.heap.push { cls := .type "slice", data := .fields #[.int i s1.toks, vu, .none] } } σ H3 x v (.int i s1.toks) vu (some i) u s3.heap.objs.size Q I4 r1 (Heap.IsSliceOf.new ..) (.int _ _) pu q3
  have q : wpAny (model X.prog X.w) X.A (subscriptTail e (.Slice (some (.Constant (.int i) j p)) hi none p2) v (.ref s3.heap.objs.size)) (EP X pins σ Q) X.xe { s3 with heap := s3.heap.push { cls := .type "slice", data := .fields #[.int i s1.toks, vu, .none] } } :=
    tail_any (ops := [.ref s3.heap.objs.size, v]) ht hT hg (by with_unfolding_all rfl)
  exact wpAny_mono (PySem.wpAny_toks_of (n := 1) hk q) (fun _ _ z => z) fun _ _ z => z.2
theorem pe_slRepl {y z : Str} {j0 j1 : Nat} (hr : SlR X r) (he : PE X e te) (hu : PO X hi th) (hyz : (y == z) = false := by decide)
    (hst : starEach [.Constant (.str y) j0 q0, .Constant (.str z) j1 q1] X.env = [(false, eval (.Constant (.str y) j0 q0) X.env), (false, eval (.Constant (.str z) j1 q1) X.env)] := by rfl)
    (hbase : attributeBase (.Subscript e (.Slice (some (.Constant (.int i) j p)) hi none p2) p3) "replace" X.env (eval (.Subscript e (.Slice (some (.Constant (.int i) j p)) hi none p2) p3) X.env) = eval (.Subscript e (.Slice (some (.Constant (.int i) j p)) hi none p2) p3) X.env := by rfl) (hline : (apos.endLine == pos.line) = true := by rfl) :
    PE X (.Call (.Attribute (.Subscript e (.Slice (some (.Constant (.int i) j p)) hi none p2) p3) "replace" apos) [.Constant (.str y) j0 q0, .Constant (.str z) j1 q1] [] pos) (CwR.tReplC (tSl r te (tPart (tC (.int i))) th) y z) := by
  refine ⟨fun pins s σ H Q I h => ?_⟩
  refine PySem.Call_method2 hbase hst hline (wpAny_mono (slice_toks hr he hu I h) (fun v s1 q => ?_) fun _ _ z => z)
  obtain ⟨hk, v', H1, I1, r1, x, e1, hb, q⟩ := q
  subst e1
  obtain ⟨tx, e2⟩ := r1
  subst e2
  refine ⟨"str", _, PySem.F.plainAttrs_str, PySem.F.slot_str_replace, PySem.F.type_str_replace, typeIs_str _ _ _, (fun _ e => nomatch e), Calls.callWith_builtin rfl (Calls.evalArgs_plain (Calls.spliced_cons ?_))⟩
  refine Calls.Constant_str (Calls.spliced_cons (Calls.Constant_str (Calls.spliced_nil ?_)))
  exact PySem.SC.replace (by show s1.toks ≠ 0; omega) (by show s1.toks + 1 ≠ 0; omega) (by show s1.toks ≠ s1.toks + 1; omega) hyz hb fun t' k => ⟨.str (Txt.replace x y z), H1, I1.tok k, ⟨t', rfl⟩, q⟩
def pSlRepl (i : Int) (y z : Str) (d : D) (hi : Option Int) : Option D := match d with
  | .str x => if x.length ≤ 100000 ∧ (cutS x (some i) hi).length + ((cutS x (some i) hi).length + 1) * z.length ≤ 16777216 then some (.str (Txt.replace (cutS x (some i) hi) y z)) else none
  | _ => none
def dSlRepl (i : Int) (y z : Str) (fe : Rho → R D) (fu : Rho → R (Option Int)) : Rho → R D := fun r => (fe r).bind fun d r1 => (fu r1).bind fun hi r2 => lift (pSlRepl i y z d hi) r2
theorem v_slRepl {y z : Str} {j0 j1 : Nat} {fe : Rho → R D} {fu : Rho → R (Option Int)} (A0 : PV X F G G1 k1 e fe) (U : PO1 X F G1 G2 hi fu) (hyz : (y == z) = false := by decide)
    (hst : starEach [.Constant (.str y) j0 q0, .Constant (.str z) j1 q1] X.env = [(false, eval (.Constant (.str y) j0 q0) X.env), (false, eval (.Constant (.str z) j1 q1) X.env)] := by rfl)
    (hbase : attributeBase (.Subscript e (.Slice (some (.Constant (.int i) j p)) hi none p2) p3) "replace" X.env (eval (.Subscript e (.Slice (some (.Constant (.int i) j p)) hi none p2) p3) X.env) = eval (.Subscript e (.Slice (some (.Constant (.int i) j p)) hi none p2) p3) X.env := by rfl) (hline : (apos.endLine == pos.line) = true := by rfl) :
    PV X F G G2 k (.Call (.Attribute (.Subscript e (.Slice (some (.Constant (.int i) j p)) hi none p2) p3) "replace" apos) [.Constant (.str y) j0 q0, .Constant (.str z) j1 q1] [] pos) (dSlRepl i y z fe fu) := by
  obtain ⟨t, ht, q⟩ := (A0.weak (Nat.zero_le k1)).go
  obtain ⟨tu, hu, qu⟩ := U.go
  refine ⟨_, pe_slRepl sl_str ht hu hyz hst hbase hline, fun σ H r c s Q sr ok h => q σ H r c s _ sr ok (h.bind.mono fun d r1 h1 => ?_)⟩
  intro v H1 c1 s1 cr sa x1 rp st
  have ez := rp.zero
  subst ez
  have st1 : Step c s H c1 s1 H1 := st.less (fun z => by simp only [add_at, z_at]; omega) (fun z hz => by simp only [add_at]; omega)
  refine ⟨i, rfl, qu σ H1 r1 c1 s1 _ x1 st1.ok (h1.bind1.imp st1 fun hi r2 ⟨w, hw, h2⟩ => ?_)⟩
  intro H2 c2 s2 x2 st2
  unfold pSlRepl at hw
  cases d with
  | str x =>
    cases rp
    by_cases b1 : x.length ≤ 100000 ∧ (cutS x (some i) hi).length + ((cutS x (some i) hi).length + 1) * z.length ≤ 16777216
    case neg => simp only [if_neg b1] at hw; cases hw
    simp only [if_pos b1] at hw
    cases hw
    exact ⟨x, rfl, Nat.le_trans b1.1 (by decide), _, rfl, b1.2, h2 _ H2 c2 s2 z0 z0 x2 (.str _) (by simp only [add_z]; exact st1.trans st2)⟩
  | _ => cases hw
end
end VL

/-! VS4: texts read: split, a sign in a text, the signs of a text, a sign of a text, int(text), tuple(list), None in a list -/
namespace VL
open PySem PySem.Spec L2
section
variable {X : Cx} {F : Fx} {G G1 G2 G3 G4 : List Nat} {k k1 k2 k3 : Nat} {e a b tg iter : Expr} {es : List Expr} {pos p p1 p2 p3 apos : Pos}
/-! ### a sign in a text -/
def pInS (neg : Bool) (x y : D) : Option D := match x, y with
  | .str c, .str z => if c.length = 1 then some (.bl (if neg then !decide (c.cps.toList.headD 0 ∈ z.cps.toList) else decide (c.cps.toList.headD 0 ∈ z.cps.toList))) else none
  | _, _ => none
theorem one_sign {c : Str} (h : c.length = 1) : c = ⟨#[c.cps.toList.headD 0]⟩ := by
  cases c with
  | mk a =>
    have h : a.size = 1 := h
    refine congrArg Str.mk (Array.toList_inj.mp ?_)
    have hl : a.toList.length = 1 := by rw [Array.length_toList]; exact h
    match e : a.toList, hl with
    | [x], _ => rfl
theorem p_inS : P2 X (fun x y H Q => ∃ (c : Nat) (z : Str), x = .str ⟨#[c]⟩ ∧ y = .str z ∧ Q (.bl (decide (c ∈ z.cps.toList))) H) k (pInS false) := by
  intro da db d hd x y H sa sb Q ra rb hq
  unfold pInS at hd
  split at hd
  · split at hd
    · rename_i c z hl
      cases hd
      cases ra; cases rb
      exact ⟨c.cps.toList.headD 0, z, congrArg V.str (one_sign hl), rfl, hq _ H z0 z0 (.bl _) .flat⟩
    · cases hd
  · cases hd
/-! ### a sign of a text -/
def pIxS (a b : D) : Option D := match a, b with
  | .str z, .int i => if z.length ≤ 100000 then (if i = 0 then (z.cps[0]?).map fun c => .str ⟨#[c]⟩ else none) else none
  | _, _ => none
theorem p_ixS : P2 X (rIx X.K) k pIxS := by
  intro da db d hd x y H sa sb Q ra rb hq
  unfold pIxS at hd
  split at hd
  · split at hd
    · split at hd
      · rename_i z i hl h0
        subst h0
        cases e : z.cps[0]? with
        | none => rw [e] at hd; cases hd
        | some c =>
          rw [e] at hd
          cases hd
          cases ra; cases rb
          refine .inr (.inr ⟨z, 0, c, rfl, rfl, Nat.le_trans hl (by decide), ?_, hq _ H z0 z0 (.str _) .flat⟩)
          have e2 : z.cps.toList[0]? = some c := by rw [Array.getElem?_toList]; exact e
          have hp : 0 < z.cps.toList.length := (List.getElem?_eq_some_iff.mp e2).1
          unfold atI ixN
          rw [if_pos (by omega), if_pos (by omega)]
          exact e2
      · cases hd
    · cases hd
  · cases hd
/-! ### int(text) -/
def pIntS : List D → Option D
  | [.str a] => if a.length ≤ 640 then (PySem.intText? a).map D.int else none
  | _ => none
theorem n_intS : PN X (fun xs H Q => ∃ a n, xs = [.str a] ∧ PySem.intText? a = some n ∧ a.length ≤ 640 ∧ Q (.int n) H) k pIntS := by
  intro ds d hd xs H sa Q ra hq
  unfold pIntS at hd
  split at hd
  · split at hd
    · rename_i a hl
      cases e : PySem.intText? a with
      | none => rw [e] at hd; cases hd
      | some n =>
        rw [e] at hd
        cases hd
        obtain ⟨v, s1, c1, rfl, r1, _, _⟩ := inv_1 ra
        cases r1
        exact ⟨_, _, rfl, e, hl, hq _ H z0 z0 (.int _) .flat⟩
    · cases hd
  · cases hd
/-! ### the signs of a text, walked -/
def signsD : D → Option (List D)
  | .str x => some (x.cps.toList.map fun c => .str ⟨#[c]⟩)
  | _ => none
theorem walk_str (K : PySem.W.Frag) (x : Str) : WalkOk K (Its x) (x.cps.toList.map fun c => D.str ⟨#[c]⟩) z0 (fun _ => True) :=
  ⟨fun _ _ _ _ => trivial, fun _ _ => .z, fun H i _ hi => by rw [List.length_map, Array.length_toList] at hi; exact hi, fun H i v H' d _ hd hy => by
    obtain ⟨rfl, c, hc, rfl⟩ := hy
    rw [List.getElem?_map, Array.getElem?_toList, hc] at hd
    cases hd
    exact ⟨z0, .str _, fun _ h => absurd h (Nat.lt_irrefl 0), fun _ _ h => h⟩, fun H _ => by
    rw [List.length_map, Array.length_toList]
    exact Nat.le_refl _⟩
theorem it_str {f : Rho → R D} (A0 : PV X F G G1 k iter f) : PIt X F G G1 tg iter (fun r => (f r).bind fun d r1 => lift (signsD d) r1) := by
  obtain ⟨t, ht, q⟩ := (A0.weak (Nat.zero_le k)).go
  refine ⟨_, pi_str ht, fun σ H r c s Rr sr ok h => q σ H r c s _ sr ok (h.bind1.mono fun d r1 h2 => ?_)⟩
  obtain ⟨ds, hd, h2⟩ := h2
  intro v H1 c1 s1 cr sI x rp st
  have z := rp.zero
  subst z
  simp only [add_z] at st
  cases d with
  | str y =>
    cases hd
    cases rp
    simp only [add_z] at st
    exact ⟨y, rfl, h2 _ H1 c1 s1 z0 _ x (walk_str X.K y) trivial (by rw [add_z]; exact st)⟩
  | _ => cases hd
end
end VL

/-! VS5: None in a list of anything, tuple(list), split -/
namespace VL
open PySem PySem.Spec L2
section
variable {X : Cx} {F : Fx} {G G1 G2 G3 G4 : List Nat} {k k1 k2 k3 : Nat} {e a b tg iter o : Expr} {es : List Expr} {pos p p1 p2 p3 apos : Pos}
def pNoneIn (x y : D) : Option D := match x, y with
  | .non, .lst ds => if shDL 63 ds = true then some (.bl (ds.any fun z => eqD z .non)) else none
  | _, _ => none
theorem any_eqv : ∀ {m : Nat} {ds : List D}, shDL m ds = true → (toPyL ds).any (fun z => PyData.eqv z .none) = ds.any fun z => eqD z .non
  | _, [], _ => rfl
  | m, d :: ds, h => by
    have h : (shD m d && shDL m ds) = true := h
    rw [Bool.and_eq_true] at h
    show (PyData.eqv (toPy d) .none || (toPyL ds).any fun z => PyData.eqv z .none) = (eqD d .non || ds.any fun z => eqD z .non)
    rw [any_eqv h.2, ← eqD_eqv m m d .non h.1 (by cases m <;> rfl)]
    rfl
theorem p_noneIn : P2 X (rInD X.K) k pNoneIn := by
  intro da db d hd x y H sa sb Q ra rb hq
  unfold pNoneIn at hd
  split at hd
  · rename_i ds
    split at hd
    · rename_i h
      cases hd
      have h64 : shD 64 (.lst ds) = true := h
      refine ⟨.none, toPyL ds, ra.dp (m := 1) rfl, rb.dp h64, shD_shaped (d := .non) rfl, shD_shaped h64, ?_⟩
      rw [any_eqv h]
      exact hq _ H z0 z0 (.bl _) .flat
    · cases hd
  · cases hd
/-- tuple(x), x a list -/
def pTupOf : D → Option D
  | .lst ds => some (.tup ds)
  | _ => none
theorem v_tupOf {f : Rho → R D} (A : PV X F G G1 k e f) (hg : Gl X "tuple") (hm : X.mg "tuple" = none) (na : starEach [e] X.env = (false, eval e X.env) :: starEach [] X.env := by rfl) :
    PV X F G G1 0 (.Call (.Name "tuple" p) [e] [] pos) (d1 pTupOf f) := by
  obtain ⟨t, ht, qt⟩ := (A.weak (Nat.zero_le k)).go
  refine ⟨_, pe_tupleOf hg hm ht na, fun σ H r c s Q sr ok h => qt σ H r c s _ sr ok (h.bind1.mono fun d r1 ⟨x, hx, h2⟩ => ?_)⟩
  intro v H1 c1 s1 cr sa x1 rp st
  have z := rp.zero
  subst z
  cases d with
  | lst ds =>
    cases hx
    obtain ⟨a, vs, s', rfl, ha, rs, es, _⟩ := rep_lst0 rp
    refine .inl ⟨a, vs, rfl, SqL.of ha, fun l hl => ?_⟩
    have ke := ex_upd (o := .tup vs) hl
    have st' : Step c s H (add c1 z0) (add s1 s') H1 := st.less (fun _ => Nat.le_refl _) (fun z hz => by subst es; simp only [add_at] at hz ⊢; omega)
    exact h2 (.ref l) _ c1 s1 z0 s' (x1.keep (ex_kp ke)) (.tup upd_same (rs.keep (ex_kp ke))) (tup_fresh st' hl)
  | _ => cases hx
/-- text.split(sep) -/
def pSplit (x y : D) : Option D := match x, y with
  | .str a, .str b => if (b.length == 0) = false ∧ a.length ≤ 1000000 then some (.lst ((Txt.split a b).map D.str)) else none
  | _, _ => none
theorem reps_strs {K : PySem.W.Frag} {H : Hp} {n : Nat} : ∀ ys : List Str, Reps K H n (ys.map D.str) (ys.map V.str) z0 z0
  | [] => .nil
  | y :: ys => by
    have q : Reps K H n (.str y :: ys.map D.str) (.str y :: ys.map V.str) (add z0 z0) (add z0 z0) := .cons (.str y) (reps_strs ys)
    rw [add_z] at q
    exact q
def dSplit (i : Nat) (fb : Rho → R D) : Rho → R D := fun r => match rget r i with | some (.str a) => (fb r).bind fun db r2 => lift (pSplit (.str a) db) r2 | _ => .no
theorem v_split (i : Nat) {fb : Rho → R D} {x : Str} {px : Pos} (B : PV X F (G.set i 0) G2 k2 e fb)
    (hN : X.N[i]? = some x := by rfl) (hv : Vis X.env.scope x := by first | exact Or.inl rfl | exact Or.inr (Or.inl rfl) | exact Or.inr (Or.inr rfl)) (hd : (x == ("__debug__" : Str)) = false := by decide) (hcd : (x == ("__classdict__" : Str)) = false := by decide)
    (hs : starEach [e] X.env = [(false, eval e X.env)] := by rfl) (hbase : attributeBase (.Name x px) "split" X.env (eval (.Name x px) X.env) = eval (.Name x px) X.env := by rfl) (hline : (apos.endLine == pos.line) = true := by rfl) :
    PV X F G G2 1 (.Call (.Attribute (.Name x px) "split" apos) [e] [] pos) (dSplit i fb) := by
  obtain ⟨ta, ha, qa⟩ := (v_var (F := F) (G := G) (pos := px) i hN hv hd hcd).go
  obtain ⟨tb, hb, qb⟩ := (B.weak (Nat.zero_le k2)).go
  refine ⟨_, pe_split ha hb hs hbase hline, fun σ H r c s Q sr ok h => qa σ H r c s _ sr ok ?_⟩
  unfold dSplit at h
  cases ei : rget r i with
  | none => rw [ei] at h; exact False.elim h
  | some d =>
  rw [ei] at h
  unfold dVar
  rw [ei]
  cases d with
  | str a =>
    have h : OutX X F c s H σ (OkE X G2 1 c s H σ Q) ((fb r).bind fun db r2 => lift (pSplit (.str a) db) r2) := h
    intro v1 H1 c1 s1 cr1 sa1 x1 rp1 st1
    cases rp1
    simp only [add_z] at st1
    refine ⟨⟨a, rfl⟩, ?_⟩
    refine qb σ H1 r c1 s1 _ x1 st1.ok (h.bind1.imp st1 fun y r2 ⟨w, hw, h2⟩ => ?_)
    intro v2 H2 c2 s2 cr2 sa2 x2 rp2 st2
    have z2 := rp2.zero
    subst z2
    unfold pSplit at hw
    cases y with
    | str b =>
      by_cases hb : (b.length == 0) = false ∧ a.length ≤ 1000000
      case neg => simp only [if_neg hb] at hw; cases hw
      simp only [if_pos hb] at hw
      cases hw
      cases rp2
      simp only [add_z] at st2
      refine ⟨a, b, rfl, rfl, hb.1, Nat.le_trans (Nat.add_le_add_right hb.2 2) (by decide), fun l hl => ?_⟩
      have ke := ex_upd (o := .lst ((Txt.split a b).map V.str)) hl
      have st3 : Step c s H (add c2 z0) (add s2 z0) H2 := by simp only [add_z]; exact st1.trans st2
      exact h2 (.ref l) _ c2 s2 (add (one l) z0) z0 (x2.keep (ex_kp ke)) (.lstS upd_same (reps_strs _)) (lst_fresh st3 (by simp only [add_z]; exact x2.dom) hl)
    | _ => cases hw
  | _ => exact False.elim h
def dItS (f : Rho → R D) : Rho → R (List D) := fun r => (f r).bind fun d r1 => lift (signsD d) r1
theorem it_signs {f : Rho → R D} (A : PV X F G G1 k iter f) : PIt X F G G1 tg iter (dItS f) := it_str A
end
end VL

/-! VLW7: as VLW, of VX6 -/
namespace VL
open PySem PySem.Spec
section
variable {QD : D → Rho → Prop} {X : Str → D → Rho → Prop} {r : Rho}
def kTp2 (i : Nat) (ds : List D) (m : Nat) (h : List D → List D → Option (D × List D)) (es : List D) (Q : D → Rho → Prop) (as : List D) (r1 : Rho) : Prop := WR (muTp i ds m (h es as) r1) Q xF
def kTp (i : Nat) (h : List D → List D → Option (D × List D)) (fa : Rho → R (List D)) (r : Rho) (Q : D → Rho → Prop) (t : List D × Nat × List D) : Prop := WR (fa (r.set i none)) (kTp2 i t.1 t.2.1 h t.2.2 Q) xF
@[simp] theorem kTp2_ap {i : Nat} {ds : List D} {m : Nat} {h : List D → List D → Option (D × List D)} {es as : List D} : kTp2 i ds m h es QD as r = WR (muTp i ds m (h es as) r) QD xF := (rfl)
@[simp] theorem kTp_ap {i : Nat} {h : List D → List D → Option (D × List D)} {fa : Rho → R (List D)} {ds es : List D} {m : Nat} : kTp i h fa r QD (ds, m, es) = WR (fa (r.set i none)) (kTp2 i ds m h es QD) xF := (rfl)
@[simp ↓ high] theorem W_dMutTp {i : Nat} {j : Int} {h : List D → List D → Option (D × List D)} {fa : Rho → R (List D)} : WR (dMutTp i j h fa r) QD X = WO (atT (rget r i) j) (kTp i h fa r QD) := by
  unfold dMutTp
  cases atT (rget r i) j with
  | none => rfl
  | some t =>
    obtain ⟨ds, m, es⟩ := t
    show WR (match fa (r.set i none) with | .ok as r1 => muTp i ds m (h es as) r1 | _ => .no) QD X = WR (fa (r.set i none)) (kTp2 i ds m h es QD) xF
    cases fa (r.set i none) with
    | ok as r1 =>
      show WR (muTp i ds m (h es as) r1) QD X = WR (muTp i ds m (h es as) r1) QD xF
      unfold muTp
      cases h es as with
      | none => rfl
      | some p =>
        obtain ⟨d, es'⟩ := p
        show WR (if i < r1.length ∧ rget r1 i = none then _ else _) QD X = WR (if i < r1.length ∧ rget r1 i = none then _ else _) QD xF
        by_cases z : i < r1.length ∧ rget r1 i = none
        · rw [if_pos z]; rfl
        · rw [if_neg z]; rfl
    | _ => rfl
@[simp] theorem muTp_some {i : Nat} {ds es : List D} {m : Nat} {d : D} : muTp i ds m (some (d, es)) r = if i < r.length ∧ rget r i = none then .ok d (r.set i (some (.tup (ds.set m (.lst es))))) else .no := (rfl)
def kCd2 (n : Nat) (g : List D → DR) (QD : D → Rho → Prop) (X : Str → D → Rho → Prop) (ds : List D) (r : Rho) : Prop := ds.length = n ∧ WR (ofDR (g ds) r) QD X
@[simp] theorem kCd2_ap {n : Nat} {g : List D → DR} {ds : List D} : kCd2 n g QD X ds r = (ds.length = n ∧ WR (ofDR (g ds) r) QD X) := (rfl)
def kCd (n1 : Nat) (g1 : List D → DR) (n2 : Nat) (g2 : List D → DR) (fa : Rho → R (List D)) (QD : D → Rho → Prop) (X : Str → D → Rho → Prop) : D → Rho → Prop
  | .int i, r => if i = 0 then WR (fa r) (kCd2 n1 g1 QD X) X else if i = 1 then WR (fa r) (kCd2 n2 g2 QD X) X else False
  | _, _ => False
@[simp] theorem kCd_ap {n1 n2 : Nat} {g1 g2 : List D → DR} {fa : Rho → R (List D)} {i : Int} : kCd n1 g1 n2 g2 fa QD X (.int i) r = if i = 0 then WR (fa r) (kCd2 n1 g1 QD X) X else if i = 1 then WR (fa r) (kCd2 n2 g2 QD X) X else False := (rfl)
@[simp ↓ high] theorem W_dCallD {n1 n2 : Nat} {g1 g2 : List D → DR} {fi : Rho → R D} {fa : Rho → R (List D)} : WR (dCallD n1 g1 n2 g2 fi fa r) QD X = WR (fi r) (kCd n1 g1 n2 g2 fa QD X) X := by
  unfold dCallD
  rw [WR_bind]
  cases fi r with
  | ok di r1 =>
    cases di with
    | int i =>
      show WR (if i = 0 then _ else if i = 1 then _ else .no) QD X = if i = 0 then _ else if i = 1 then _ else False
      have one : ∀ (n : Nat) (g : List D → DR), WR ((fa r1).bind fun ds r2 => if ds.length = n then ofDR (g ds) r2 else .no) QD X = WR (fa r1) (kCd2 n g QD X) X := fun n g => by
        rw [WR_bind]
        cases fa r1 with
        | ok ds r2 =>
          show WR (if ds.length = n then ofDR (g ds) r2 else .no) QD X = (ds.length = n ∧ WR (ofDR (g ds) r2) QD X)
          by_cases h : ds.length = n
          · rw [if_pos h]; exact propext ⟨fun z => ⟨h, z⟩, fun z => z.2⟩
          · rw [if_neg h]; exact propext ⟨fun z => z.elim, fun z => h z.1⟩
        | _ => rfl
      by_cases h0 : i = 0
      · rw [if_pos h0, if_pos h0]; exact one n1 g1
      · rw [if_neg h0, if_neg h0]
        by_cases h1 : i = 1
        · rw [if_pos h1, if_pos h1]; exact one n2 g2
        · rw [if_neg h1, if_neg h1]; rfl
    | _ => rfl
  | _ => rfl
@[simp] theorem ofDR_exc {n : Str} {d : D} {o : Option D} : ofDR (.ex n d o) r = .ex n d r := (rfl)
end
end VL

/-! VLW8: as VLW, of VO1 .. VO5 -/
namespace VL
open PySem PySem.Spec
section
variable {N : Rho → Prop} {Z : SO → Prop} {r : Rho} {QD : D → Rho → Prop} {X : Str → D → Rho → Prop}
def kMv (n : Nat) (Q : D → Rho → Prop) (r : Rho) (d : D) : Prop := Q d (r.set n none)
@[simp] theorem kMv_ap {n : Nat} {d : D} : kMv n QD r d = QD d (r.set n none) := (rfl)
@[simp ↓ high] theorem W_dMv {n : Nat} : WR (dMv n r) QD X = WO (rget r n) (kMv n QD r) := by
  unfold dMv WO
  cases rget r n <;> rfl
def kUpT (Q : D → Rho → Prop) (d : D) (r : Rho) : Prop := if flatT d = true then Q d r else False
@[simp] theorem kUpT_ap {d : D} : kUpT QD d r = if flatT d = true then QD d r else False := (rfl)
@[simp ↓ high] theorem W_dUpT {f : Rho → R D} : WR (dUpT f r) QD X = WR (f r) (kUpT QD) X := by
  unfold dUpT
  rw [WR_bind]
  cases f r with
  | ok d r1 =>
    show WR (if flatT d = true then R.ok d r1 else .no) QD X = if flatT d = true then QD d r1 else False
    by_cases h : flatT d = true
    · rw [if_pos h, if_pos h]; rfl
    · rw [if_neg h, if_neg h]; rfl
  | _ => rfl
@[simp] theorem flatT_int {i : Int} : flatT (.int i) = true := rfl
@[simp] theorem flatT_ii {i j : Int} : flatT (.tup [.int i, .int j]) = true := rfl
def kMxV (i : Nat) (h : List D → List D → Option (D × List D)) (fa : Rho → R (List D)) (Q : D → Rho → Prop) (X : Str → D → Rho → Prop) (r : Rho) : D → Prop
  | .int j => WR (dMutIx i j h fa r) Q X
  | _ => False
@[simp] theorem kMxV_ap {i : Nat} {h : List D → List D → Option (D × List D)} {fa : Rho → R (List D)} {j : Int} : kMxV i h fa QD X r (.int j) = WR (dMutIx i j h fa r) QD X := (rfl)
@[simp ↓ high] theorem W_dMutIxV {i jx : Nat} {h : List D → List D → Option (D × List D)} {fa : Rho → R (List D)} : WR (dMutIxV i jx h fa r) QD X = WO (rget r jx) (kMxV i h fa QD X r) := by
  unfold dMutIxV WO
  cases rget r jx with
  | none => rfl
  | some d => cases d <;> rfl
theorem inD_run {i j : Nat} {b : Rho → SO} (v : D → D) {r0 : Rho} (hi : i < r0.length ∧ rget r0 i = none) : ∀ (ds acc : List D), (∀ d ∈ ds, WS (b (r0.set j (some d))) (fun r1 => rget r1 j = some (v d) ∧ r1.set j none = r0) (fun _ => False)) → inD i j b ds acc r0 = .nx (r0.set i (some (.lst (acc ++ ds.map v))))
  | [], acc, _ => by
    unfold inD
    rw [if_pos hi, List.map_nil, List.append_nil]
  | d :: ds, acc, h => by
    have q := h d List.mem_cons_self
    unfold inD
    cases e : b (r0.set j (some d)) with
    | nx r1 =>
      rw [e] at q
      obtain ⟨q1, q2⟩ : rget r1 j = some (v d) ∧ r1.set j none = r0 := q
      simp only [q1, q2]
      rw [inD_run v hi ds (acc ++ [v d]) fun x hx => h x (List.mem_cons_of_mem _ hx)]
      simp
    | _ => rw [e] at q; exact False.elim q
theorem WS_forIn {i j : Nat} {b : Rho → SO} {ds : List D} (v : D → D) (hr : rget r i = some (.lst ds)) (hi : i < r.length) (hij : i ≠ j)
    (step : ∀ d ∈ ds, WS (b (((r.set i none).set j none).set j (some d))) (fun r1 => rget r1 j = some (v d) ∧ r1.set j none = (r.set i none).set j none) (fun _ => False))
    (hN : N (((r.set i none).set j none).set i (some (.lst (ds.map v))))) : WS (dForIn i j b r) N Z := by
  unfold dForIn
  rw [hr]
  show WS (inD i j b ds [] _) N Z
  rw [inD_run v ⟨by rw [List.length_set, List.length_set]; exact hi, by rw [rget_set_ne _ hij]; exact rget_set_none _ _⟩ ds [] step, List.nil_append]
  exact hN
def zB (r : Rho) (Z : SO → Prop) : SO → Prop
  | .rt d _ => flat d = true ∧ Z (.rt d r)
  | _ => False
theorem WS_borS {vs : List Nat} {f : Rho → SO} (h : WS (f r) (fun r' => wipeR r' vs = wipeR r vs ∧ N (wipeR r vs)) (zB r Z)) : WS (dBorS vs f r) N Z := by
  unfold dBorS
  cases e : f r with
  | nx r' =>
    rw [e] at h
    obtain ⟨h1, h2⟩ : wipeR r' vs = wipeR r vs ∧ N (wipeR r vs) := h
    simp only [if_pos h1]
    exact h2
  | rt d r' =>
    rw [e] at h
    obtain ⟨h1, h2⟩ : flat d = true ∧ Z (.rt d r) := h
    simp only [if_pos h1]
    exact h2
  | bk r' => rw [e] at h; exact False.elim h
  | ct r' => rw [e] at h; exact False.elim h
  | ex n d r' => rw [e] at h; exact False.elim h
  | no => rw [e] at h; exact False.elim h
end
end VL

/-! VLW9: a slot named by an index, changed in place -/
namespace VL
open PySem PySem.Spec
section
variable {N : Rho → Prop} {Z : SO → Prop} {r r1 : Rho}
theorem WS_swp {j i : Nat} {b : Rho → SO} {ds : List D} (e : rget r i = some (.lst ds))
    (h : WS (b ((r.set i none).set j (some (.lst ds)))) (fun r2 => ∃ d', rget r2 j = some d' ∧ (i < r2.length ∧ rget r2 i = none) ∧ N ((r2.set j none).set i (some d'))) (fun _ => False)) : WS (swpD j i b r) N Z := by
  unfold swpD
  rw [e]
  show WS (match b ((r.set i none).set j (some (.lst ds))) with
    | .nx r2 => (match rget r2 j with
      | some d' => if i < r2.length ∧ rget r2 i = none then .nx ((r2.set j none).set i (some d')) else .no
      | none => .no)
    | _ => .no) N Z
  cases eb : b ((r.set i none).set j (some (.lst ds))) with
  | nx r2 =>
    rw [eb] at h
    obtain ⟨d', e1, e2, e3⟩ : ∃ d', rget r2 j = some d' ∧ (i < r2.length ∧ rget r2 i = none) ∧ N ((r2.set j none).set i (some d')) := h
    simp only [e1, if_pos e2]
    exact e3
  | _ => rw [eb] at h; exact False.elim h
theorem WS_alias {j ia ib : Nat} {fj : Rho → R D} {b : Rho → SO} {v : Int} {da db : D} (ea : rget r ia = some da) (eb : rget r ib = some db) (hv : v = 0 ∨ v = 1)
    (hf : fj r = .ok (.int v) r1) (h0 : WS (swpD j ia b r1) N Z) (h1 : WS (swpD j ib b r1) N Z) : WS (dAlias j ia ib fj b r) N Z := by
  unfold dAlias
  rw [ea, eb, if_pos ⟨rfl, rfl⟩, hf]
  show WS (if v = 0 then swpD j ia b r1 else if v = 1 then swpD j ib b r1 else .no) N Z
  rcases hv with rfl | rfl
  · exact h0
  · exact h1
end
end VL

/-! VLW10: append and look; the first such element -/
namespace VL
open PySem PySem.Spec
section
variable {N : Rho → Prop} {Z : SO → Prop} {r : Rho}
theorem WS_appLook {i j l : Nat} {fe : Rho → R D} {ds : List D} {d x : D} {rr : Rho} (ei : rget r i = some (.lst ds)) (ej : rget r j = some d) (hl : ds.length < 100000) (hf : fe (r.set i none) = .ok x rr) (hx : flat x = true)
    (hN : N ((((r.set i none).set j none).set i (some (.lst (ds ++ [d])))).set l (some x))) : WS (dAppLook i j l fe r) N Z := by
  unfold dAppLook
  rw [ei, ej]
  show WS (if ds.length < 100000 then (match fe (r.set i none) with
    | .ok x _ => if flat x = true then .nx (((r.set i none).set j none).set i (some (.lst (ds ++ [d]))) |>.set l (some x)) else .no
    | _ => .no) else .no) N Z
  rw [if_pos hl, hf]
  show WS (if flat x = true then .nx (((r.set i none).set j none).set i (some (.lst (ds ++ [d]))) |>.set l (some x)) else .no) N Z
  rw [if_pos hx]
  exact hN
theorem WS_first {i j : Nat} {ts : Rho → R Bool} {b : Rho → SO} {ds : List D} {bs : List Bool} (e : rget r i = some (.lst ds)) (hl : ds.length ≤ 100000) (et : testsD j ts (r.set j none) ds = some bs)
    (h0 : bs.findIdx? id = none → N (r.set j none))
    (h1 : ∀ p d, bs.findIdx? id = some p → ds[p]? = some d → WS (b (((r.set i none).set j none).set j (some d))) (fun r1 => ∃ d', rget r1 j = some d' ∧ (i < r1.length ∧ rget r1 i = none) ∧ N ((r1.set j none).set i (some (.lst (ds.set p d'))))) (fun _ => False)) :
    WS (dFirst i j ts b r) N Z := by
  unfold dFirst
  rw [e]
  show WS (if ds.length ≤ 100000 then (match testsD j ts (r.set j none) ds with
    | some bs => (match bs.findIdx? id with
      | none => .nx (r.set j none)
      | some p => (match ds[p]? with
        | some d => (match b (((r.set i none).set j none).set j (some d)) with
          | .nx r1 => (match rget r1 j with
            | some d' => if i < r1.length ∧ rget r1 i = none then .nx ((r1.set j none).set i (some (.lst (ds.set p d')))) else .no
            | none => .no)
          | _ => .no)
        | none => .no))
    | none => .no) else .no) N Z
  rw [if_pos hl, et]
  have bl := testsD_len et
  simp only
  cases ep : bs.findIdx? id with
  | none => exact h0 ep
  | some p =>
    have hp : p < ds.length := by
      have := (List.findIdx?_eq_some_iff_getElem.mp ep).1
      omega
    have hd : ds[p]? = some ds[p] := List.getElem?_eq_getElem hp
    have q := h1 p ds[p] ep hd
    simp only [hd]
    cases eb : b (((r.set i none).set j none).set j (some ds[p])) with
    | nx r1 =>
      rw [eb] at q
      obtain ⟨d', e1, e2, e3⟩ : ∃ d', rget r1 j = some d' ∧ (i < r1.length ∧ rget r1 i = none) ∧ N ((r1.set j none).set i (some (.lst (ds.set p d')))) := q
      simp only [e1, if_pos e2]
      exact e3
    | _ => rw [eb] at q; exact False.elim q
end
end VL

/-! VLR: how long a repr may be -/
namespace VL
open PySem PySem.Spec
mutual
/-- a bound of the text's length -/
def wt : D → Nat
  | .int _ => 100
  | .lst xs => 4 + wtL xs
  | .tup xs => 4 + wtL xs
  | _ => 5
def wtL : List D → Nat
  | [] => 0
  | x :: xs => wt x + 2 + wtL xs
end
mutual
/-- ints of at most eighty bits, no texts -/
def sm : D → Bool
  | .non => true
  | .bl _ => true
  | .int i => decide (i.natAbs.log2 < 80)
  | .lst xs => smL xs
  | .tup xs => smL xs
  | _ => false
def smL : List D → Bool
  | [] => true
  | x :: xs => sm x && smL xs
end
theorem listText_le (ts : List Str) : (listText ts).length ≤ 2 + piled ts := by
  have hX : (listText ts).length = (textFrom 0 "[" ts).length + 1 := by
    show (textFrom 0 "[" ts ++ "]").length = _
    rw [strLen_append]; rfl
  cases ts with
  | nil => rw [hX]; exact Nat.le_refl _
  | cons t r =>
    have h := textFrom_length_pos r 1 (("[" : Str) ++ (if (0 : Nat) > 0 then ", " else "" : String) ++ t) (Nat.succ_pos 0)
    have hY : (textFrom 0 "[" (t :: r)).length = (textFrom 1 (("[" : Str) ++ (if (0 : Nat) > 0 then ", " else "" : String) ++ t) r).length := rfl
    have e1 : (("[" : Str) ++ (if (0 : Nat) > 0 then ", " else "" : String) ++ t).length = 1 + t.length := by
      rw [strLen_append, strLen_append]; rfl
    rw [hX, hY, h, e1, piled_cons]
    omega
theorem tupleText_le (ts : List Str) : (tupleText ts).length ≤ 4 + piled ts := by
  unfold tupleText
  rw [strLen_append, strLen_append]
  have e1 : ((("(" : String) : Str)).length = 1 := rfl
  have e3 : (((if ts.length == 1 then ",)" else ")" : String) : Str)).length ≤ 2 := by split <;> decide
  by_cases h : ts = []
  · subst h
    have e4 : (Str.join ", " ([] : List Str)).length = 0 := rfl
    omega
  · have := join_length_add ts h
    omega
mutual
theorem shown_le : ∀ d : D, sm d = true → (toPy d).showable = true ∧ (toPy d).shown.length ≤ wt d
  | .non, _ => ⟨rfl, by decide⟩
  | .bl b, _ => ⟨rfl, by cases b <;> decide⟩
  | .int i, h => by
    have h1 : i.natAbs.log2 < 80 := of_decide_eq_true h
    refine ⟨by show decide (i.natAbs.log2 < 1920) = true; exact decide_eq_true (by omega), ?_⟩
    have e := int_text_length_le (k := 80) (by decide) h1
    show (Str.ofString (toString i)).length ≤ 100
    rw [ofString_length]
    omega
  | .lst xs, h => by
    have h' : smL xs = true := h
    have q := shownL_le xs h'
    have e := listText_le (PyData.shownAll (toPyL xs))
    refine ⟨by unfold toPy PyData.showable; exact q.1, ?_⟩
    unfold toPy PyData.shown wt
    omega
  | .tup xs, h => by
    have h' : smL xs = true := h
    have q := shownL_le xs h'
    have e := tupleText_le (PyData.shownAll (toPyL xs))
    refine ⟨by unfold toPy PyData.showable; exact q.1, ?_⟩
    unfold toPy PyData.shown wt
    omega
  | .str _, h => by cases h
  | .ty _, h => by cases h
  | .fn _, h => by cases h
  | .dct _, h => by cases h
  | .scr _, h => by cases h
theorem shownL_le : ∀ ds : List D, smL ds = true → PyData.showableAll (toPyL ds) = true ∧ piled (PyData.shownAll (toPyL ds)) ≤ wtL ds
  | [], _ => ⟨rfl, by simp [toPyL, PyData.shownAll, piled, wtL]⟩
  | d :: ds, h => by
    have h' : (sm d && smL ds) = true := h
    rw [Bool.and_eq_true] at h'
    have q1 := shown_le d h'.1
    have q2 := shownL_le ds h'.2
    unfold toPyL PyData.showableAll PyData.shownAll wtL
    rw [q1.1, q2.1, piled_cons]
    exact ⟨rfl, by omega⟩
end
theorem repr_lst {ds : List D} (h1 : shD 64 (.lst ds) = true) (h2 : sm (.lst ds) = true) (h3 : wt (.lst ds) ≤ 16000000) : pRepr [.lst ds] = some (.str (reprD (.lst ds))) := by
  have q := shown_le _ h2
  show (if reprOk (.lst ds) = true then _ else _) = _
  refine if_pos ?_
  unfold reprOk
  rw [h1, q.1, decide_eq_true (Nat.le_trans q.2 h3)]
  rfl
theorem wtL_app (as bs : List D) : wtL (as ++ bs) = wtL as + wtL bs := by
  induction as with
  | nil => simp [wtL]
  | cons a as ih => simp only [List.cons_append, wtL, ih]; omega
theorem wtL_le {n : Nat} : ∀ ds : List D, (∀ d ∈ ds, wt d ≤ n) → wtL ds ≤ (n + 2) * ds.length
  | [], _ => by simp [wtL]
  | d :: ds, h => by
    have h1 := h d List.mem_cons_self
    have h2 := wtL_le ds fun x hx => h x (List.mem_cons_of_mem _ hx)
    simp only [wtL, List.length_cons, Nat.mul_succ]
    omega
theorem smL_of : ∀ ds : List D, (∀ d ∈ ds, sm d = true) → smL ds = true
  | [], _ => rfl
  | d :: ds, h => by
    show (sm d && smL ds) = true
    rw [h d List.mem_cons_self, smL_of ds fun x hx => h x (List.mem_cons_of_mem _ hx)]
    rfl
theorem shDL_of (n : Nat) : ∀ ds : List D, (∀ d ∈ ds, shD n d = true) → shDL n ds = true
  | [], _ => by cases n <;> rfl
  | d :: ds, h => by
    unfold shDL
    rw [h d List.mem_cons_self, shDL_of n ds fun x hx => h x (List.mem_cons_of_mem _ hx)]
    rfl
end VL

/-! PG: the program's own functions on layers -/
namespace PG
open PySem PySem.Spec VL
noncomputable def d_size_of : Rho → SO := dRet (dIfE (dB (dN pIsi (dCons (dVar 0) (dCons (dTy "tuple") dNil)))) (d2 pIx (dVar 0) (dI 1)) (d2 iAdd (dN pLen (dCons (dVar 0) dNil)) (dI 1)))
noncomputable def r_size_of : List D → DR := runF none 1 1 d_size_of
noncomputable def d_is_layer : Rho → SO := dSeq (dIf (dB (dN pIsi (dCons (dVar 0) (dCons (dTy "tuple") dNil)))) (dRet (dAnd (d2 iGe (d2 pIx (dVar 0) (dI 0)) (dI 0)) (d2 iGe (d2 pIx (dVar 0) (dI 1)) (dI 1)))) dEnd)
  (dRet (dN pAll (dCons (lcD [1] (dItL (dVar 0)) (gSet 1) dTrue (d2 iGe (dVar 1) (dI 0))) dNil)))
noncomputable def r_is_layer : List D → DR := runF none 2 1 d_is_layer
noncomputable def d_check_nesting : Rho → SO := dFor (dIt enumD (dCons (dVar 0) dNil)) (gTup 2 (gCons' (gSet 1) (gCons' (gSet 2) gNil'))) (dIf (dNotB (dB (dFn 1 r_is_layer (dCons (dVar 2) dNil)))) dNo dEnd)
noncomputable def r_check_nesting : List D → DR := runF none 3 1 d_check_nesting
noncomputable def d_total_of : Rho → SO := dSeq (dSet 1 (dI 1))
  (dSeq (dFor (dItL (dVar 0)) (gSet 2) (dAug 1 iMul (dFn 1 r_size_of (dCons (dVar 2) dNil))))
  (dRet (dVar 1)))
noncomputable def r_total_of : List D → DR := runF none 3 1 d_total_of
noncomputable def d_wait_in : Rho → SO := dRet (dIfE (dB (dN pIsi (dCons (dVar 0) (dCons (dTy "tuple") dNil)))) (d2 pIx (dVar 0) (dI 0)) (d2 pIx (dVar 0) (d2 iSub (dVar 1) (dI 1))))
noncomputable def r_wait_in : List D → DR := runF none 2 2 d_wait_in
noncomputable def d_wait_before : Rho → SO := dSeq (dSet 2 (dVar 1))
  (dSeq (dFor (dItL (dVar 0)) (gSet 3) (dSeq (dAsg (gTup 2 (gCons' (gSet 2) (gCons' (gSet 4) gNil'))) (dN pDivmod (dCons (dVar 2) (dCons (dFn 1 r_size_of (dCons (dVar 3) dNil)) dNil))))
  (dIf (dB (d2 iGt (dVar 4) (dI 0))) (dRet (dFn 2 r_wait_in (dCons (dVar 3) (dCons (dVar 4) dNil)))) dEnd)))
  (dRet dNon))
noncomputable def r_wait_before : List D → DR := runF none 5 2 d_wait_before
noncomputable def d_wait_at : Rho → SO := dSeq (dExpr (dFn 1 r_check_nesting (dCons (dVar 0) dNil)))
  (dSeq (dIf (dNotB (dB (chD iLe iLt (dI 1) (dVar 1) (dFn 1 r_total_of (dCons (dVar 0) dNil))))) dNo dEnd)
  (dRet (dFn 2 r_wait_before (dCons (dVar 0) (dCons (dVar 1) dNil)))))
noncomputable def r_wait_at : List D → DR := runF none 2 2 d_wait_at
/-- a layer: a list of waits, or one wait and the number of attempts -/
inductive Ly where
  | lst (ws : List Int) | con (w s : Int)
def Ly.d : Ly → D
  | .lst ws => iL ws
  | .con w s => .tup [.int w, .int s]
def Ly.size : Ly → Int
  | .lst ws => ws.length + 1
  | .con _ s => s
def Ly.Ok : Ly → Prop
  | .lst ws => (∀ w ∈ ws, 0 ≤ w) ∧ ws.length ≤ 100000
  | .con w s => 0 ≤ w ∧ 1 ≤ s ∧ s < 2 ^ 70
def Ly.wait : Ly → Int → Int
  | .lst ws, j => ws.getD (j - 1).toNat 0
  | .con w _, _ => w
theorem Ly.Ok.pos {l : Ly} (h : l.Ok) : 1 ≤ l.size := by
  cases l with
  | lst ws => show (1 : Int) ≤ ws.length + 1; omega
  | con w s => exact h.2.1
theorem Ly.Ok.lt {l : Ly} (h : l.Ok) : l.size < 2 ^ 70 := by
  cases l with
  | lst ws => have h2 : ws.length ≤ 100000 := h.2; show (ws.length : Int) + 1 < _; omega
  | con w s => exact h.2.2
theorem Ly.Ok.div {l : Ly} (h : l.Ok) : divOk l.size = true := by
  have h1 := h.pos
  have h2 := h.lt
  unfold divOk
  rw [decide_eq_true (by omega)]
  have h3 := log2_lt (i := l.size) (n := 70) (by omega) (by omega)
  rw [decide_eq_true (p := l.size.natAbs.log2 < 9000) (by omega)]
  simp
theorem mulOk_log {i j : Int} {n m : Nat} (hi : i.natAbs < 2 ^ n) (hj : j.natAbs < 2 ^ m) (hn : 0 < n) (hm : 0 < m) (h : n + m ≤ 1000000) : mulOk i j = true := by
  have h1 := log2_lt hi hn
  have h2 := log2_lt hj hm
  unfold mulOk
  rw [decide_eq_true (p := i.natAbs.log2 + j.natAbs.log2 < 1000000) (by omega)]
  simp
theorem size_ok (l : Ly) : r_size_of [l.d] = .ok (.int l.size) none := by
  cases l with
  | lst ws => simp [r_size_of, runF, d_size_of, Ly.d, Ly.size]
  | con w s => simp [r_size_of, runF, d_size_of, Ly.d, Ly.size]
theorem layer_ok (l : Ly) (h : l.Ok) : r_is_layer [l.d] = .ok (.bl true) none := by
  cases l with
  | con w s =>
    have h1 : 0 ≤ w := h.1
    have h2 : 1 ≤ s := h.2.1
    simp [r_is_layer, runF, d_is_layer, Ly.d, h1, h2]
  | lst ws =>
    have h1 : ∀ w ∈ ws, 0 ≤ w := h.1
    have hl : ws.length ≤ 100000 := h.2
    obtain ⟨out, r', e, bs, z, rfl, rfl, hb⟩ := comp_inv (vs := [1]) (g := gSet 1) (ts := dTrue) (fe := d2 iGe (dVar 1) (dI 0))
      (fun i acc r => ∃ (bs : List Bool) (z : Option D), acc = bs.map D.bl ∧ r = [some (iL ws), z] ∧ bs.all id = true) (ws.map D.int) 0 [] [some (iL ws), none] ⟨[], none, rfl, rfl, rfl⟩ (by
        rintro i d acc r hd ⟨bs, z, rfl, rfl, hb⟩
        rw [List.getElem?_map] at hd
        cases ew : ws[i]? with
        | none => rw [ew] at hd; cases hd
        | some w =>
          rw [ew] at hd
          cases hd
          have hw : 0 ≤ w := h1 w (List.mem_of_getElem? ew)
          refine ⟨_, rfl, .inr ⟨_, .bl true, [some (iL ws), some (.int w)], rfl, ?_, bs ++ [true], none, by simp, by simp, by simp [hb]⟩⟩
          simp [hw])
    have e2 : pAll [.lst (bs.map D.bl)] = some (.bl true) := by rw [pAll_bl, hb]
    simp only [Ly.d, r_is_layer, runF, d_is_layer, List.length_cons, List.length_nil, List.map_cons, List.map_nil]
    simp [hl, e, e2]
abbrev Ns (ls : List Ly) : D := .lst (ls.map Ly.d)
theorem check_ok (ls : List Ly) (h : ∀ l ∈ ls, l.Ok) : r_check_nesting [Ns ls] = .ok .non none := by
  obtain ⟨r', e, a, b, rfl⟩ := loop_inv (g := gTup 2 (gCons' (gSet 1) (gCons' (gSet 2) gNil'))) (b := dIf (dNotB (dB (dFn 1 r_is_layer (dCons (dVar 2) dNil)))) dNo dEnd)
    (fun i r => ∃ a b : Option D, r = [some (Ns ls), a, b]) (enumL 0 (ls.map Ly.d)) 0 [some (Ns ls), none, none] ⟨_, _, rfl⟩ (by
      rintro i d r hd ⟨a, b, rfl⟩
      obtain ⟨x, hx, rfl⟩ := enumL_get _ _ _ _ hd
      rw [List.getElem?_map] at hx
      cases ew : ls[i]? with
      | none => rw [ew] at hx; cases hx
      | some l =>
        rw [ew] at hx
        cases hx
        have e := layer_ok l (h l (List.mem_of_getElem? ew))
        refine ⟨[some (Ns ls), some (.int ((0 + i : Nat) : Int)), some l.d], [some (Ns ls), some (.int ((0 + i : Nat) : Int)), some l.d], by simp, .inl ?_, _, _, rfl⟩
        simp [e])
  simp only [r_check_nesting, runF, d_check_nesting, List.length_cons, List.length_nil, List.map_cons, List.map_nil]
  simp [e]
def tot : List Ly → Int
  | [] => 1
  | l :: ls => l.size * tot ls
theorem tot_pos : ∀ {ls : List Ly}, (∀ l ∈ ls, l.Ok) → 1 ≤ tot ls
  | [], _ => Int.le_refl _
  | l :: ls, h => by
    have h1 := (h l List.mem_cons_self).pos
    have h2 := tot_pos (ls := ls) fun x hx => h x (List.mem_cons_of_mem _ hx)
    show 1 ≤ l.size * tot ls
    have h3 := Int.mul_le_mul h1 h2 (by omega) (by omega)
    omega
theorem tot_snoc (l : Ly) : ∀ ls : List Ly, tot (ls ++ [l]) = tot ls * l.size
  | [] => by show l.size * 1 = 1 * l.size; rw [Int.mul_one, Int.one_mul]
  | x :: ls => by
    show x.size * tot (ls ++ [l]) = x.size * tot ls * l.size
    rw [tot_snoc l ls, Int.mul_assoc]
theorem tot_app (as bs : List Ly) : tot (as ++ bs) = tot as * tot bs := by
  induction as with
  | nil => show tot bs = 1 * tot bs; rw [Int.one_mul]
  | cons x as ih =>
    show x.size * tot (as ++ bs) = x.size * tot as * tot bs
    rw [ih, Int.mul_assoc]
theorem tot_lt : ∀ {ls : List Ly}, (∀ l ∈ ls, l.Ok) → tot ls < 2 ^ (70 * ls.length + 1)
  | [], _ => by show (1 : Int) < _; decide
  | l :: ls, h => by
    have h0 := h l List.mem_cons_self
    have h1 := h0.pos
    have h2 := h0.lt
    have h3 := tot_lt (ls := ls) fun x hx => h x (List.mem_cons_of_mem _ hx)
    have h4 := tot_pos (ls := ls) fun x hx => h x (List.mem_cons_of_mem _ hx)
    show l.size * tot ls < 2 ^ (70 * (ls.length + 1) + 1)
    rw [show 70 * (ls.length + 1) + 1 = 70 + (70 * ls.length + 1) by omega, Int.pow_add]
    calc l.size * tot ls ≤ 2 ^ 70 * tot ls := Int.mul_le_mul_of_nonneg_right (by omega) (by omega)
      _ < 2 ^ 70 * 2 ^ (70 * ls.length + 1) := Int.mul_lt_mul_of_pos_left h3 (by decide)
theorem tot_abs {ls : List Ly} (h : ∀ l ∈ ls, l.Ok) : (tot ls).natAbs < 2 ^ (70 * ls.length + 1) := by
  have h1 := tot_pos h
  have h2 := tot_lt h
  have e : ((tot ls).natAbs : Int) = tot ls := by omega
  have h3 : ((tot ls).natAbs : Int) < ((2 ^ (70 * ls.length + 1) : Nat) : Int) := by
    rw [e, Int.natCast_pow]
    exact h2
  exact_mod_cast h3
theorem Ly.Ok.abs {l : Ly} (h : l.Ok) : l.size.natAbs < 2 ^ 70 := by
  have h1 := h.pos
  have h2 := h.lt
  omega
theorem total_ok (ls : List Ly) (h : ∀ l ∈ ls, l.Ok) (hl : ls.length ≤ 10000) : r_total_of [Ns ls] = .ok (.int (tot ls)) none := by
  obtain ⟨r', e, a, rfl⟩ := loop_inv (g := gSet 2) (b := dAug 1 iMul (dFn 1 r_size_of (dCons (dVar 2) dNil)))
    (fun i r => ∃ a : Option D, r = [some (Ns ls), some (.int (tot (ls.take i))), a]) (ls.map Ly.d) 0 [some (Ns ls), some (.int 1), none] ⟨_, rfl⟩ (by
      rintro i d r hd ⟨a, rfl⟩
      rw [List.getElem?_map] at hd
      cases ew : ls[i]? with
      | none => rw [ew] at hd; cases hd
      | some l =>
        rw [ew] at hd
        cases hd
        have hi : i < ls.length := (List.getElem?_eq_some_iff.mp ew).1
        have hk := h l (List.mem_of_getElem? ew)
        have e := size_ok l
        have e2 : tot (ls.take (0 + i + 1)) = tot (ls.take i) * l.size := by
          rw [Nat.zero_add, List.take_add_one, ew]
          exact tot_snoc _ _
        have e3 : iMul (.int (tot (ls.take i))) (.int l.size) = some (.int (tot (ls.take i) * l.size)) := by
          have ha := tot_abs (ls := ls.take i) fun x hx => h x (List.mem_of_mem_take hx)
          unfold iMul
          refine if_pos (mulOk_log ha hk.abs (by omega) (by omega) ?_)
          rw [List.length_take, Nat.min_eq_left (by omega)]
          omega
        rw [e2, Nat.zero_add]
        refine ⟨[some (Ns ls), some (.int (tot (ls.take i))), some l.d], _, rfl, .inl ?_, some l.d, rfl⟩
        simp [e, e3])
  rw [List.length_map, Nat.zero_add, List.take_length] at e
  simp only [r_total_of, runF, d_total_of, List.length_cons, List.length_nil, List.map_cons, List.map_nil]
  simp [e]
/-- the wait behind the attempt of that number -/
def wb : List Ly → Int → Option Int
  | [], _ => none
  | l :: ls, n => if 0 < n % l.size then some (l.wait (n % l.size)) else wb ls (n / l.size)
theorem waitin_ok (l : Ly) (h : l.Ok) (j : Int) (h1 : 0 < j) (h2 : j < l.size) : r_wait_in [l.d, .int j] = .ok (.int (l.wait j)) none := by
  cases l with
  | con w s => simp [r_wait_in, runF, d_wait_in, Ly.d, Ly.wait]
  | lst ws =>
    have h3 : j < ws.length + 1 := h2
    have hj : (j - 1).toNat < ws.length := by omega
    have e : pIx (iL ws) (.int (j - 1)) = some (.int (ws.getD (j - 1).toNat 0)) := pIx_int (by omega) (by rw [List.getElem?_map, List.getElem?_eq_getElem hj, List.getD_eq_getElem?_getD, List.getElem?_eq_getElem hj]; rfl)
    simp [r_wait_in, runF, d_wait_in, Ly.d, Ly.wait, e]
noncomputable abbrev wbBody : Rho → SO := dSeq (dAsg (gTup 2 (gCons' (gSet 2) (gCons' (gSet 4) gNil'))) (dN pDivmod (dCons (dVar 2) (dCons (dFn 1 r_size_of (dCons (dVar 3) dNil)) dNil))))
  (dIf (dB (d2 iGt (dVar 4) (dI 0))) (dRet (dFn 2 r_wait_in (dCons (dVar 3) (dCons (dVar 4) dNil)))) dEnd)
theorem wb_loop : ∀ (ls : List Ly) (n : Int) (a b : D) (x y : Option D), (∀ l ∈ ls, l.Ok) → ∃ r', loopD (gSet 3) wbBody (ls.map Ly.d) [some a, some b, some (.int n), x, y] = match wb ls n with | some w => .rt (.int w) r' | none => .nx r'
  | [], n, a, b, x, y, _ => ⟨_, rfl⟩
  | l :: ls, n, a, b, x, y, h => by
    have hk := h l List.mem_cons_self
    have hp := hk.pos
    have e1 := size_ok l
    have e2 : pDivmod [.int n, .int l.size] = some (.tup [.int (n / l.size), .int (n % l.size)]) := if_pos hk.div
    have m1 := Int.emod_nonneg n (b := l.size) (by omega)
    have m2 := Int.emod_lt_of_pos n (b := l.size) (by omega)
    by_cases hm : 0 < n % l.size
    · have e3 := waitin_ok l hk _ hm m2
      have ew : wb (l :: ls) n = some (l.wait (n % l.size)) := if_pos hm
      refine ⟨[some a, some b, some (.int (n / l.size)), some l.d, some (.int (n % l.size))], ?_⟩
      rw [ew]
      have eb : wbBody [some a, some b, some (.int n), some l.d, y] = .rt (.int (l.wait (n % l.size))) [some a, some b, some (.int (n / l.size)), some l.d, some (.int (n % l.size))] := by
        simp [e1, e2, hm, e3]
      exact loop_rt rfl eb
    · have ew : wb (l :: ls) n = wb ls (n / l.size) := if_neg hm
      obtain ⟨r', e⟩ := wb_loop ls (n / l.size) a b (some l.d) (some (.int (n % l.size))) fun x hx => h x (List.mem_cons_of_mem _ hx)
      refine ⟨r', ?_⟩
      rw [ew, ← e]
      have eb : wbBody [some a, some b, some (.int n), some l.d, y] = .nx [some a, some b, some (.int (n / l.size)), some l.d, some (.int (n % l.size))] := by
        simp [e1, e2, hm]
      exact loop_nx rfl eb
theorem waitat_ok (ls : List Ly) (h : ∀ l ∈ ls, l.Ok) (hl : ls.length ≤ 10000) (n w : Int) (h1 : 1 ≤ n) (h2 : n < tot ls) (hw : wb ls n = some w) : r_wait_at [Ns ls, .int n] = .ok (.int w) none := by
  have e1 := check_ok ls h
  have e2 := total_ok ls h hl
  have e3 : r_wait_before [Ns ls, .int n] = .ok (.int w) none := by
    obtain ⟨r', e⟩ := wb_loop ls n (Ns ls) (.int n) none none h
    rw [hw] at e
    refine runF_rt rfl (r := r') ?_
    show d_wait_before [some (Ns ls), some (.int n), none, none, none] = _
    rw [show d_wait_before = dSeq (dSet 2 (dVar 1)) (dSeq (dFor (dItL (dVar 0)) (gSet 3) wbBody) (dRet dNon)) from rfl]
    simp only [ap_dSeq, ap_dSet, ap_dVar, rget0, rgetS, lift_some, R.then_ok, List.set_cons_succ, List.set_cons_zero, ap_dFor, ap_dItL, itemsL_lst, R.bind_ok, e]
  simp [r_wait_at, runF, d_wait_at, e1, e2, e3, chD, h1, h2]
end PG

/-! MN: policies as lists of waits, one within another; inner numbers -/
namespace MN
/-- one policy within another -/
def N (a b : List Int) : List Int := a ++ b.flatMap fun w => w :: a
theorem N_nil (a : List Int) : N a [] = a := by simp [N]
theorem nil_N (a : List Int) : N [] a = a := by
  show [] ++ a.flatMap (fun w => [w]) = a
  simp
theorem N_snoc (a b : List Int) (w : Int) : N a (b ++ [w]) = N a b ++ (w :: a) := by simp [N]
theorem N_len (a b : List Int) : (N a b).length + 1 = (a.length + 1) * (b.length + 1) := by
  induction b with
  | nil => simp [N]
  | cons w b ih =>
    have e : (N a (w :: b)).length = (N a b).length + (a.length + 1) := by simp [N]; omega
    rw [e, List.length_cons]
    rw [show (a.length + 1) * (b.length + 1 + 1) = (a.length + 1) * (b.length + 1) + (a.length + 1) by rw [Nat.mul_succ]]
    omega
theorem N_assoc (a b c : List Int) : N (N a b) c = N a (N b c) := by
  have h : ∀ b' : List Int, (N b b').flatMap (fun w => w :: a) = b.flatMap (fun w => w :: a) ++ b'.flatMap (fun w => w :: (a ++ b.flatMap fun w => w :: a)) := by
    intro b'
    simp [N, List.flatMap_append, List.flatMap_assoc, List.flatMap_cons]
  show N a b ++ c.flatMap _ = a ++ (N b c).flatMap _
  rw [h c]
  simp [N]
theorem N_mem {a b : List Int} {P : Int → Prop} (ha : ∀ w ∈ a, P w) (hb : ∀ w ∈ b, P w) : ∀ w ∈ N a b, P w := by
  intro w hw
  unfold N at hw
  rcases List.mem_append.mp hw with h | h
  · exact ha w h
  · obtain ⟨x, hx, hw⟩ := List.mem_flatMap.mp h
    rcases List.mem_cons.mp hw with h | h
    · rw [h]; exact hb x hx
    · exact ha w h
/-- the number of attempts -/
def sz (a : List Int) : Nat := a.length + 1
theorem sz_pos (a : List Int) : 0 < sz a := Nat.succ_pos _
theorem sz_N (a b : List Int) : sz (N a b) = sz a * sz b := N_len a b
/-- the wait of a number, from 1 on -/
def pt (a : List Int) (j : Nat) : Int := a.getD (j - 1) 0
theorem ext {a b : List Int} (h : sz a = sz b) (g : ∀ j, 0 < j → j < sz a → pt a j = pt b j) : a = b := by
  have hl : a.length = b.length := Nat.succ.inj h
  refine List.ext_getElem hl fun i h1 h2 => ?_
  have q := g (i + 1) (Nat.succ_pos _) (Nat.succ_lt_succ h1)
  unfold pt at q
  rw [Nat.add_sub_cancel, List.getD_eq_getElem?_getD, List.getD_eq_getElem?_getD, List.getElem?_eq_getElem h1, List.getElem?_eq_getElem h2] at q
  exact q
theorem getD_app_l {a b : List Int} {i : Nat} (h : i < a.length) : (a ++ b).getD i 0 = a.getD i 0 := by
  rw [List.getD_eq_getElem?_getD, List.getD_eq_getElem?_getD, List.getElem?_append_left h]
theorem getD_app_r {a b : List Int} {i : Nat} (h : a.length ≤ i) : (a ++ b).getD i 0 = b.getD (i - a.length) 0 := by
  rw [List.getD_eq_getElem?_getD, List.getD_eq_getElem?_getD, List.getElem?_append_right h]
/-- waits of a nested policy -/
theorem pt_N (a : List Int) : ∀ (b : List Int) (j : Nat), 0 < j → j < sz a * sz b → pt (N a b) j = if j % sz a = 0 then pt b (j / sz a) else pt a (j % sz a) := by
  intro b
  induction b with
  | nil =>
    intro j h0 h1
    have h1' : j < sz a := by simpa [sz] using h1
    rw [N_nil, Nat.mod_eq_of_lt h1', if_neg (by omega)]
  | cons w b ih =>
    intro j h0 h1
    have hs := sz_pos a
    have h1' : j < sz a * sz b + sz a := by
      have : sz (w :: b) = sz b + 1 := rfl
      rw [this, Nat.mul_succ] at h1; exact h1
    have e : N a (w :: b) = a ++ (w :: N a b) := by simp [N]
    rw [e]
    by_cases c : j < sz a
    · have hj : j - 1 < a.length := by unfold sz at c; omega
      rw [Nat.mod_eq_of_lt c, if_neg (by omega)]
      unfold pt
      exact getD_app_l hj
    · have hge : sz a ≤ j := Nat.le_of_not_lt c
      have hm : j % sz a = (j - sz a) % sz a := by rw [← Nat.mod_eq_sub_mod hge]
      have hd : j / sz a = (j - sz a) / sz a + 1 := by rw [Nat.div_eq_sub_div hs hge]
      have hr : a.length ≤ j - 1 := by unfold sz at hge; omega
      have e2 : pt (a ++ w :: N a b) j = (w :: N a b).getD (j - sz a) 0 := by
        unfold pt
        rw [getD_app_r hr]
        congr 1
        unfold sz; omega
      rw [e2]
      by_cases z : j = sz a
      · subst z
        rw [Nat.sub_self, Nat.mod_self, if_pos rfl, Nat.div_self hs]
        rfl
      · obtain ⟨k, hk⟩ : ∃ k, j - sz a = k + 1 := ⟨j - sz a - 1, by omega⟩
        have q := ih (j - sz a) (by omega) (by omega)
        have e3 : (w :: N a b).getD (j - sz a) 0 = pt (N a b) (j - sz a) := by
          unfold pt
          rw [hk]
          rfl
        rw [e3, q, hm, hd]
        by_cases zz : (j - sz a) % sz a = 0
        · rw [if_pos zz, if_pos zz]
          have hp : 0 < (j - sz a) / sz a := by
            have := Nat.div_add_mod (j - sz a) (sz a)
            rw [zz] at this
            by_cases q0 : (j - sz a) / sz a = 0
            · rw [q0] at this; omega
            · exact Nat.pos_of_ne_zero q0
          obtain ⟨t, ht⟩ : ∃ t, (j - sz a) / sz a = t + 1 := ⟨_, (Nat.sub_add_cancel hp).symm⟩
          rw [ht]
          rfl
        · rw [if_neg zz, if_neg zz]
/-- the inner policy of a nested one stands ahead -/
theorem N_prefix (a b : List Int) : (N a b).take a.length = a := by simp [N]
theorem N_cancel_l {a b c : List Int} (h : N a b = N a c) : b = c := by
  have hs : sz a * sz b = sz a * sz c := by rw [← sz_N, ← sz_N, h]
  have hs' : sz b = sz c := Nat.eq_of_mul_eq_mul_left (sz_pos a) hs
  refine ext hs' fun j h0 h1 => ?_
  have hp := sz_pos a
  have e1 := pt_N a b (sz a * j) (Nat.mul_pos hp h0) (Nat.mul_lt_mul_of_pos_left h1 hp)
  have e2 := pt_N a c (sz a * j) (Nat.mul_pos hp h0) (Nat.mul_lt_mul_of_pos_left (hs' ▸ h1) hp)
  rw [Nat.mul_mod_right, if_pos rfl, Nat.mul_div_cancel_left _ hp] at e1 e2
  rw [← e1, ← e2, h]
theorem N_same {a a' b b' : List Int} (h : N a b = N a' b') (hs : sz a = sz a') : a = a' ∧ b = b' := by
  have hl : a.length = a'.length := Nat.succ.inj hs
  have e : a = a' := by rw [← N_prefix a b, h, hl, N_prefix]
  subst e
  exact ⟨rfl, N_cancel_l h⟩
theorem N_cancel_r {a b c : List Int} (h : N a c = N b c) : a = b := by
  have hs : sz a * sz c = sz b * sz c := by rw [← sz_N, ← sz_N, h]
  exact (N_same h (Nat.eq_of_mul_eq_mul_right (sz_pos c) hs)).1

/-! ### inner numbers -/
def Per (f : Nat → Int) (S n : Nat) : Prop := ∀ i j, 0 < i → i < S → 0 < j → j < S → i % n = j % n → i % n ≠ 0 → f i = f j
theorem bezout (m n : Nat) : ∃ x y : Int, x * m + y * n = Nat.gcd m n := by
  induction m, n using Nat.gcd.induction with
  | H0 n => exact ⟨0, 1, by simp⟩
  | H1 m n h ih =>
    obtain ⟨x, y, e⟩ := ih
    refine ⟨y - x * ((n / m : Nat) : Int), x, ?_⟩
    rw [Nat.gcd_rec, ← e, Int.sub_mul, Int.mul_assoc]
    have q : (n : Int) = (m : Int) * ((n / m : Nat) : Int) + ((n % m : Nat) : Int) := by exact_mod_cast (Nat.div_add_mod n m).symm
    have q2 : x * (n : Int) = x * (((n / m : Nat) : Int) * (m : Int)) + x * ((n % m : Nat) : Int) := by
      rw [← Int.mul_add, Int.mul_comm ((n / m : Nat) : Int), ← q]
    rw [q2]
    omega
theorem crt {m n i j : Nat} (hm : 0 < m) (hn : 0 < n) (h : i % Nat.gcd m n = j % Nat.gcd m n) : ∃ k, k < Nat.lcm m n ∧ k % m = i % m ∧ k % n = j % n := by
  obtain ⟨x, y, e⟩ := bezout m n
  have hg : 0 < Nat.gcd m n := Nat.gcd_pos_of_pos_left _ hm
  have hd : ((Nat.gcd m n : Nat) : Int) ∣ (j : Int) - i := by
    have h' : ((j : Int) - i) % ((Nat.gcd m n : Nat) : Int) = 0 := by
      have : (j : Int) % ((Nat.gcd m n : Nat) : Int) = (i : Int) % ((Nat.gcd m n : Nat) : Int) := by exact_mod_cast h.symm
      rw [Int.sub_emod, this, Int.sub_self, Int.zero_emod]
    exact Int.dvd_of_emod_eq_zero h'
  obtain ⟨t, ht⟩ := hd
  have hl : 0 < Nat.lcm m n := Nat.lcm_pos hm hn
  let K : Int := (i : Int) + m * (x * t)
  have hl' : (0 : Int) < (Nat.lcm m n : Nat) := by exact_mod_cast hl
  have b0 := Int.emod_nonneg K (b := ((Nat.lcm m n : Nat) : Int)) (by omega)
  have b1 := Int.emod_lt_of_pos K (b := ((Nat.lcm m n : Nat) : Int)) hl'
  have em : K % (m : Int) = (i : Int) % m := by show ((i : Int) + m * (x * t)) % m = _; rw [Int.add_mul_emod_self_left]
  have en : K % (n : Int) = (j : Int) % n := by
    have e3 : K = (j : Int) + n * (0 - y * t) := by
      have e4 : (m : Int) * x = Nat.gcd m n - y * n := by rw [Int.mul_comm]; omega
      show (i : Int) + m * (x * t) = _
      rw [← Int.mul_assoc, e4, Int.sub_mul, ← ht, Int.mul_sub, Int.mul_zero, ← Int.mul_assoc, Int.mul_comm y n]
      omega
    rw [e3, Int.add_mul_emod_self_left]
  obtain ⟨k, hk⟩ := Int.eq_ofNat_of_zero_le b0
  have dm : (m : Int) ∣ (Nat.lcm m n : Nat) := by exact_mod_cast Nat.dvd_lcm_left m n
  have dn : (n : Int) ∣ (Nat.lcm m n : Nat) := by exact_mod_cast Nat.dvd_lcm_right m n
  refine ⟨k, by omega, ?_, ?_⟩
  · have : (k : Int) % m = (i : Int) % m := by rw [← hk, Int.emod_emod_of_dvd _ dm, em]
    exact_mod_cast this
  · have : (k : Int) % n = (j : Int) % n := by rw [← hk, Int.emod_emod_of_dvd _ dn, en]
    exact_mod_cast this
section
variable {f : Nat → Int} {S m n : Nat}
theorem mod_of_dvd_ne {a d e : Nat} (h : d ∣ e) (hz : a % d ≠ 0) : a % e ≠ 0 := fun h0 => hz (Nat.mod_eq_zero_of_dvd (Nat.dvd_trans h (Nat.dvd_of_mod_eq_zero h0)))
theorem per_gcd (hS : 0 < S) (hm : m ∣ S) (hn : n ∣ S) (pm : Per f S m) (pn : Per f S n) : Per f S (Nat.gcd m n) := by
  intro i j i0 i1 j0 j1 e hz
  have m0 : 0 < m := Nat.pos_of_dvd_of_pos hm hS
  have n0 : 0 < n := Nat.pos_of_dvd_of_pos hn hS
  obtain ⟨k, k1, e1, e2⟩ := crt m0 n0 e
  have hl : Nat.lcm m n ≤ S := Nat.le_of_dvd hS (Nat.lcm_dvd hm hn)
  have zi : i % m ≠ 0 := mod_of_dvd_ne (Nat.gcd_dvd_left m n) hz
  have zj : j % n ≠ 0 := mod_of_dvd_ne (Nat.gcd_dvd_right m n) (e ▸ hz)
  have k0 : 0 < k := by
    by_cases z : k = 0
    · subst z; rw [Nat.zero_mod] at e1; exact absurd e1.symm zi
    · omega
  rw [pm i k i0 i1 k0 (by omega) e1.symm zi]
  exact pn k j k0 (by omega) j0 j1 e2 (e2 ▸ zj)
theorem per_lcm (hS : 0 < S) (hm : m ∣ S) (hn : n ∣ S) (pm : Per f S m) (pn : Per f S n) : Per f S (Nat.lcm m n) := by
  intro i j i0 i1 j0 j1 e hz
  by_cases z : i % m = 0
  · have z2 : i % n ≠ 0 := fun h => hz (Nat.mod_eq_zero_of_dvd (Nat.lcm_dvd (Nat.dvd_of_mod_eq_zero z) (Nat.dvd_of_mod_eq_zero h)))
    refine pn i j i0 i1 j0 j1 ?_ z2
    rw [← Nat.mod_mod_of_dvd i (Nat.dvd_lcm_right m n), e, Nat.mod_mod_of_dvd j (Nat.dvd_lcm_right m n)]
  · refine pm i j i0 i1 j0 j1 ?_ z
    rw [← Nat.mod_mod_of_dvd i (Nat.dvd_lcm_left m n), e, Nat.mod_mod_of_dvd j (Nat.dvd_lcm_left m n)]
theorem per_mid (hS : 0 < S) (hm : m ∣ S) (hn : n ∣ S) (pm : Per f S m) (pn : Per f S n) (h1 : ¬ m ∣ n) (h2 : ¬ n ∣ m) {i : Nat} (i0 : 0 < i) (i1 : i < S) (hg : Nat.gcd m n ∣ i) (hl : ¬ Nat.lcm m n ∣ i) : f i = f (Nat.gcd m n) := by
  have m0 : 0 < m := Nat.pos_of_dvd_of_pos hm hS
  have n0 : 0 < n := Nat.pos_of_dvd_of_pos hn hS
  have g0 : 0 < Nat.gcd m n := Nat.gcd_pos_of_pos_left _ m0
  have hle : Nat.lcm m n ≤ S := Nat.le_of_dvd hS (Nat.lcm_dvd hm hn)
  have gm : Nat.gcd m n ≤ m := Nat.le_of_dvd m0 (Nat.gcd_dvd_left m n)
  have ml : m ≤ S := Nat.le_of_dvd hS hm
  have zm : Nat.gcd m n % m ≠ 0 := fun h => h1 (Nat.dvd_trans (Nat.dvd_of_mod_eq_zero h) (Nat.gcd_dvd_right m n))
  have zn : Nat.gcd m n % n ≠ 0 := fun h => h2 (Nat.dvd_trans (Nat.dvd_of_mod_eq_zero h) (Nat.gcd_dvd_left m n))
  have gS : Nat.gcd m n < S := by
    by_cases z : Nat.gcd m n = m
    · exact absurd (Nat.gcd_eq_left_iff_dvd.mp z) h1
    · omega
  have eg : i % Nat.gcd m n = Nat.gcd m n % Nat.gcd m n := by rw [Nat.mod_self]; exact Nat.mod_eq_zero_of_dvd hg
  by_cases z : i % m = 0
  · have z2 : i % n ≠ 0 := fun h => hl (Nat.lcm_dvd (Nat.dvd_of_mod_eq_zero z) (Nat.dvd_of_mod_eq_zero h))
    obtain ⟨k, k1, e1, e2⟩ := crt m0 n0 eg.symm
    have k0 : 0 < k := by
      by_cases z : k = 0
      · subst z; rw [Nat.zero_mod] at e1; exact absurd e1.symm zm
      · omega
    rw [pn i k i0 i1 k0 (by omega) e2.symm z2]
    exact pm k _ k0 (by omega) g0 gS e1 (e1 ▸ zm)
  · obtain ⟨k, k1, e1, e2⟩ := crt m0 n0 eg
    have k0 : 0 < k := by
      by_cases z : k = 0
      · subst z; rw [Nat.zero_mod] at e2; exact absurd e2.symm zn
      · omega
    rw [pm i k i0 i1 k0 (by omega) e1.symm z]
    exact pn k _ k0 (by omega) g0 gS e2 (e2 ▸ zn)
end
/-- an inner number of a policy -/
def Inn (p : List Int) (n : Nat) : Prop := n ∣ sz p ∧ Per (pt p) (sz p) n
theorem inn_N (a b : List Int) : Inn (N a b) (sz a) := by
  refine ⟨⟨sz b, sz_N a b⟩, fun i j i0 i1 j0 j1 e hz => ?_⟩
  rw [sz_N] at i1 j1
  rw [pt_N a b i i0 i1, pt_N a b j j0 j1, if_neg hz, if_neg (e ▸ hz), e]
/-- the policy ahead, and what stands between -/
def innerOf (p : List Int) (n : Nat) : List Int := p.take (n - 1)
def outerOf (p : List Int) (n : Nat) : List Int := (List.range (sz p / n - 1)).map fun i => pt p ((i + 1) * n)
theorem inn_split {p : List Int} {n : Nat} (h : Inn p n) : sz (innerOf p n) = n ∧ p = N (innerOf p n) (outerOf p n) := by
  obtain ⟨hd, hp⟩ := h
  have n0 : 0 < n := Nat.pos_of_dvd_of_pos hd (sz_pos p)
  have nl : n ≤ sz p := Nat.le_of_dvd (sz_pos p) hd
  have hs : sz (innerOf p n) = n := by
    unfold innerOf sz
    rw [List.length_take]
    unfold sz at nl
    omega
  have hq : 0 < sz p / n := Nat.div_pos nl n0
  have ho : sz (outerOf p n) = sz p / n := by
    unfold outerOf
    show ((List.range (sz p / n - 1)).map _).length + 1 = _
    rw [List.length_map, List.length_range]
    omega
  refine ⟨hs, ext ?_ fun j j0 j1 => ?_⟩
  · rw [sz_N, hs, ho, Nat.mul_div_cancel' hd]
  · have e := pt_N (innerOf p n) (outerOf p n) j j0 (by rw [hs, ho, Nat.mul_div_cancel' hd]; exact j1)
    rw [e, hs]
    by_cases z : j % n = 0
    · rw [if_pos z]
      have hj : n * (j / n) = j := Nat.mul_div_cancel' (Nat.dvd_of_mod_eq_zero z)
      have hj0 : 0 < j / n := by
        by_cases q : j / n = 0
        · rw [q] at hj; omega
        · exact Nat.pos_of_ne_zero q
      have hj1 : j / n < sz p / n := by
        obtain ⟨t, ht⟩ := hd
        rw [ht, Nat.mul_div_cancel_left _ n0]
        rw [ht] at j1
        exact Nat.div_lt_of_lt_mul j1
      unfold outerOf
      conv => rhs; unfold pt
      rw [List.getD_eq_getElem?_getD, List.getElem?_map, List.getElem?_range (by omega)]
      show pt p j = pt p ((j / n - 1 + 1) * n)
      rw [Nat.sub_add_cancel hj0, Nat.mul_comm, hj]
    · rw [if_neg z]
      have hm : j % n < n := Nat.mod_lt _ n0
      rw [hp j (j % n) j0 j1 (by omega) (by omega) (by rw [Nat.mod_mod]) z]
      unfold pt innerOf
      rw [List.getD_eq_getElem?_getD, List.getD_eq_getElem?_getD, List.getElem?_take, if_pos (by omega)]
theorem inn_gcd {p : List Int} {m n : Nat} (hm : Inn p m) (hn : Inn p n) : Inn p (Nat.gcd m n) :=
  ⟨Nat.dvd_trans (Nat.gcd_dvd_left m n) hm.1, per_gcd (sz_pos p) hm.1 hn.1 hm.2 hn.2⟩
theorem inn_lcm {p : List Int} {m n : Nat} (hm : Inn p m) (hn : Inn p n) : Inn p (Nat.lcm m n) :=
  ⟨Nat.lcm_dvd hm.1 hn.1, per_lcm (sz_pos p) hm.1 hn.1 hm.2 hn.2⟩
theorem inn_one (p : List Int) : Inn p 1 := ⟨Nat.one_dvd _, fun i j _ _ _ _ _ h => absurd (Nat.mod_one i) h⟩
theorem inn_all (p : List Int) : Inn p (sz p) := ⟨Nat.dvd_refl _, fun i j _ i1 _ j1 e _ => by
  rw [Nat.mod_eq_of_lt i1, Nat.mod_eq_of_lt j1] at e; rw [e]⟩
theorem pt_pre (a b : List Int) {j : Nat} (h0 : 0 < j) (h : j < sz a) : pt (N a b) j = pt a j := by
  rw [pt_N a b j h0 (Nat.lt_of_lt_of_le h (Nat.le_mul_of_pos_right _ (sz_pos b))), Nat.mod_eq_of_lt h, if_neg (by omega)]
/-- inner numbers of the inner policy -/
theorem inn_low {a b : List Int} {n : Nat} (h : Inn (N a b) n) (hd : n ∣ sz a) : Inn a n := by
  have hle : sz a ≤ sz (N a b) := by rw [sz_N]; exact Nat.le_mul_of_pos_right _ (sz_pos b)
  refine ⟨hd, fun i j i0 i1 j0 j1 e hz => ?_⟩
  have q := h.2 i j i0 (by omega) j0 (by omega) e hz
  rwa [pt_pre a b i0 i1, pt_pre a b j0 j1] at q

theorem inn_up {a b : List Int} {n : Nat} (h : Inn a n) : Inn (N a b) n := by
  have hd : n ∣ sz a := h.1
  refine ⟨Nat.dvd_trans hd ⟨sz b, sz_N a b⟩, fun i j i0 i1 j0 j1 e hz => ?_⟩
  rw [sz_N] at i1 j1
  have zi : i % sz a ≠ 0 := mod_of_dvd_ne hd hz
  have zj : j % sz a ≠ 0 := mod_of_dvd_ne hd (e ▸ hz)
  rw [pt_N a b i i0 i1, pt_N a b j j0 j1, if_neg zi, if_neg zj]
  have ei := Nat.mod_mod_of_dvd i hd
  have ej := Nat.mod_mod_of_dvd j hd
  exact h.2 _ _ (Nat.pos_of_ne_zero zi) (Nat.mod_lt _ (sz_pos a)) (Nat.pos_of_ne_zero zj) (Nat.mod_lt _ (sz_pos a)) (by rw [ei, ej, e]) (by rw [ei]; exact hz)
theorem pt_out (a b : List Int) {j : Nat} (h0 : 0 < j) (h : j < sz b) : pt (N a b) (sz a * j) = pt b j := by
  have hp := sz_pos a
  rw [pt_N a b _ (Nat.mul_pos hp h0) (Nat.mul_lt_mul_of_pos_left h hp), Nat.mul_mod_right, if_pos rfl, Nat.mul_div_cancel_left _ hp]
theorem inn_high {a b : List Int} {n : Nat} : Inn (N a b) (sz a * n) ↔ Inn b n := by
  have hp := sz_pos a
  constructor
  · intro h
    have hd : n ∣ sz b := Nat.dvd_of_mul_dvd_mul_left hp (sz_N a b ▸ h.1)
    refine ⟨hd, fun i j i0 i1 j0 j1 e hz => ?_⟩
    rw [← pt_out a b i0 i1, ← pt_out a b j0 j1]
    refine h.2 _ _ (Nat.mul_pos hp i0) (by rw [sz_N]; exact Nat.mul_lt_mul_of_pos_left i1 hp) (Nat.mul_pos hp j0) (by rw [sz_N]; exact Nat.mul_lt_mul_of_pos_left j1 hp) ?_ ?_
    · rw [Nat.mul_mod_mul_left, Nat.mul_mod_mul_left, e]
    · rw [Nat.mul_mod_mul_left]
      exact fun z => hz ((Nat.mul_eq_zero.mp z).resolve_left (by omega))
  · intro h
    have n0 : 0 < n := Nat.pos_of_dvd_of_pos h.1 (sz_pos b)
    refine ⟨by rw [sz_N]; exact Nat.mul_dvd_mul_left _ h.1, fun i j i0 i1 j0 j1 e hz => ?_⟩
    rw [sz_N] at i1 j1
    have d1 : sz a ∣ sz a * n := Nat.dvd_mul_right _ _
    have e1 : i % sz a = j % sz a := by rw [← Nat.mod_mod_of_dvd i d1, e, Nat.mod_mod_of_dvd j d1]
    rw [pt_N a b i i0 i1, pt_N a b j j0 j1]
    by_cases z : i % sz a = 0
    · rw [if_pos z, if_pos (e1 ▸ z)]
      have hi : sz a * (i / sz a) = i := Nat.mul_div_cancel' (Nat.dvd_of_mod_eq_zero z)
      have hj : sz a * (j / sz a) = j := Nat.mul_div_cancel' (Nat.dvd_of_mod_eq_zero (e1 ▸ z))
      generalize i / sz a = i' at *
      generalize j / sz a = j' at *
      subst hi hj
      rw [Nat.mul_mod_mul_left, Nat.mul_mod_mul_left] at e
      rw [Nat.mul_mod_mul_left] at hz
      refine h.2 i' j' (Nat.pos_of_mul_pos_left i0) (Nat.lt_of_mul_lt_mul_left i1) (Nat.pos_of_mul_pos_left j0) (Nat.lt_of_mul_lt_mul_left j1) (Nat.eq_of_mul_eq_mul_left hp e) (fun z => hz (by rw [z, Nat.mul_zero]))
    · rw [if_neg z, if_neg (e1 ▸ z), e1]

/-! ### constant policies, blocks, forms -/
def rep (w : Int) (s : Nat) : List Int := List.replicate (s - 1) w
theorem sz_rep (w : Int) {s : Nat} (h : 0 < s) : sz (rep w s) = s := by unfold sz rep; rw [List.length_replicate]; omega
theorem pt_rep (w : Int) {s j : Nat} (h0 : 0 < j) (h : j < s) : pt (rep w s) j = w := by
  unfold pt rep
  rw [List.getD_eq_getElem?_getD, List.getElem?_replicate, if_pos (by omega)]
  rfl
theorem rep_of {p : List Int} {w : Int} (h : ∀ j, 0 < j → j < sz p → pt p j = w) : p = rep w (sz p) :=
  ext (sz_rep w (sz_pos p)).symm fun j j0 j1 => by rw [h j j0 j1, pt_rep w j0 j1]
theorem N_rep (w : Int) {s t : Nat} (hs : 0 < s) (ht : 0 < t) : N (rep w s) (rep w t) = rep w (s * t) := by
  have hm : 0 < s * t := Nat.mul_pos hs ht
  refine ext (by rw [sz_N, sz_rep w hs, sz_rep w ht, sz_rep w hm]) fun j j0 j1 => ?_
  rw [sz_N] at j1
  rw [pt_N _ _ j j0 j1]
  rw [sz_rep w hs, sz_rep w ht] at j1
  rw [sz_rep w hs, pt_rep w j0 j1]
  by_cases z : j % s = 0
  · rw [if_pos z]
    have hj : s * (j / s) = j := Nat.mul_div_cancel' (Nat.dvd_of_mod_eq_zero z)
    refine pt_rep w ?_ (Nat.div_lt_of_lt_mul j1)
    by_cases q : j / s = 0
    · rw [q] at hj; omega
    · exact Nat.pos_of_ne_zero q
  · rw [if_neg z]
    exact pt_rep w (Nat.pos_of_ne_zero z) (Nat.mod_lt _ hs)
theorem rep_one (w : Int) : rep w 1 = [] := rfl
inductive Bk where
  | lst (ws : List Int) | con (w : Int) (s : Nat)
  deriving DecidableEq
def Bk.pol : Bk → List Int
  | .lst ws => ws
  | .con w s => rep w s
def flat : List Bk → List Int
  | [] => []
  | b :: bs => N b.pol (flat bs)
theorem flat_app : ∀ xs ys : List Bk, flat (xs ++ ys) = N (flat xs) (flat ys)
  | [], ys => (nil_N _).symm
  | x :: xs, ys => by show N x.pol (flat (xs ++ ys)) = N (N x.pol (flat xs)) (flat ys); rw [flat_app xs ys, N_assoc]
theorem flat_one (b : Bk) : flat [b] = b.pol := N_nil _
/-- a policy that is not the result of nesting -/
def Uns (p : List Int) : Prop := p ≠ [] ∧ ∀ n, Inn p n → n = 1 ∨ n = sz p
def Cst (p : List Int) : Prop := ∃ w, ∀ j, 0 < j → j < sz p → pt p j = w
def Good : Bk → Prop
  | .lst ws => Uns ws ∧ ¬ Cst ws
  | .con _ s => 2 ≤ s
def Apart : Bk → List Bk → Prop
  | .con w _, .con w' _ :: _ => w ≠ w'
  | _, _ => True
/-- a normal form -/
def Nrm : List Bk → Prop
  | [] => True
  | b :: bs => Good b ∧ Apart b bs ∧ Nrm bs
theorem sz_nil {p : List Int} (h : sz p = 1) : p = [] := List.eq_nil_of_length_eq_zero (Nat.succ.inj h)
theorem good_sz {b : Bk} (h : Good b) : 2 ≤ sz b.pol := by
  cases b with
  | con w s => have h' : 2 ≤ s := h; show 2 ≤ sz (rep w s); rw [sz_rep w (by omega)]; exact h'
  | lst ws =>
    have h1 : ws ≠ [] := h.1.1
    show 2 ≤ sz ws
    cases ws with
    | nil => exact absurd rfl h1
    | cons x xs => unfold sz; rw [List.length_cons]; omega
/-- two inner numbers, neither a multiple of the other: an unsplittable first policy would be constant -/
theorem first_lst {u q r : List Int} {k : Nat} (hu : Uns u ∧ ¬ Cst u) (hi : Inn (N u q) k) (hk : 2 ≤ k) (hp : ¬ sz u ∣ k) : False := by
  have hm2 : 2 ≤ sz u := good_sz (b := .lst u) hu
  have S0 := sz_pos (N u q)
  by_cases h1 : k ∣ sz u
  · rcases hu.1.2 k (inn_low hi h1) with h | h
    · omega
    · exact hp (h ▸ Nat.dvd_refl _)
  · have ig := inn_gcd (inn_N u q) hi
    rcases hu.1.2 _ (inn_low ig (Nat.gcd_dvd_left _ _)) with h | h
    · refine hu.2 ⟨pt (N u q) 1, fun j j0 j1 => ?_⟩
      have hle : sz u ≤ Nat.lcm (sz u) k := Nat.le_of_dvd (Nat.lcm_pos (sz_pos u) (by omega)) (Nat.dvd_lcm_left _ _)
      have hl2 : Nat.lcm (sz u) k ≤ sz (N u q) := Nat.le_of_dvd S0 (inn_lcm (inn_N u q) hi).1
      have e := per_mid S0 (inn_N u q).1 hi.1 (inn_N u q).2 hi.2 hp h1 j0 (by omega) (h ▸ Nat.one_dvd _) (fun d => by have := Nat.le_of_dvd j0 d; omega)
      rw [h] at e
      rw [← e, pt_pre u q j0 j1]
    · exact hp (h ▸ Nat.gcd_dvd_right _ _)
theorem con_next {w : Int} {s t : Nat} {p q r : List Int} (hs : 0 < s) (ht : 0 < t) (h1 : p = N (rep w s) r) (h2 : p = N (rep w (s * t)) q) : r = N (rep w t) q := by
  rw [← N_rep w hs ht, N_assoc] at h2
  exact N_cancel_l (h1.symm.trans h2)
/-- the first layer of a form, when the policy begins with a constant one -/
theorem head_con : ∀ (F : List Bk), Nrm F → ∀ (w : Int) (k : Nat) (q : List Int), 2 ≤ k → flat F = N (rep w k) q → ∃ s F', F = .con w s :: F' ∧ k ∣ s
  | [], _, w, k, q, hk, e => by
    have h := congrArg sz e
    rw [sz_N, sz_rep w (by omega)] at h
    have h' : 1 = k * sz q := h
    have := Nat.le_mul_of_pos_right k (sz_pos q)
    omega
  | f :: F, nf, w, k, q, hk, e => by
    have k0 : 0 < k := by omega
    have ik : Inn (N f.pol (flat F)) k := by
      have := inn_N (rep w k) q
      rw [sz_rep w k0, ← e] at this
      exact this
    have pw : ∀ j, 0 < j → j < k → pt (N f.pol (flat F)) j = w := fun j j0 j1 => by
      show pt (flat (f :: F)) j = w
      rw [e, pt_pre _ q j0 (by rw [sz_rep w k0]; exact j1), pt_rep w j0 j1]
    have im := inn_N f.pol (flat F)
    have S0 := sz_pos (N f.pol (flat F))
    cases f with
    | lst u =>
      exfalso
      have hu : Uns u ∧ ¬ Cst u := nf.1
      by_cases d : sz u ∣ k
      · have := Nat.le_of_dvd k0 d
        exact hu.2 ⟨w, fun j j0 j1 => by rw [← pw j j0 (by omega)]; exact (pt_pre u (flat F) j0 j1).symm⟩
      · exact first_lst (r := []) hu ik hk d
    | con w' s =>
      have hs : 2 ≤ s := nf.1
      have s0 : 0 < s := by omega
      have ew : w' = w := by
        rw [← pw 1 (by omega) (by omega)]
        show w' = pt (N (rep w' s) (flat F)) 1
        rw [pt_pre _ _ (by omega) (by rw [sz_rep w' s0]; omega), pt_rep w' (by omega) (by omega)]
      subst ew
      refine ⟨s, F, rfl, ?_⟩
      have no : ∀ t q', 2 ≤ t → flat F = N (rep w' t) q' → False := fun t q' ht e' => by
        obtain ⟨s', F', rfl, _⟩ := head_con F nf.2.2 w' t q' ht e'
        exact nf.2.1 rfl
      have im' : Inn (N (rep w' s) (flat F)) s := by have := im; rwa [show sz (Bk.con w' s).pol = s from sz_rep w' s0] at this
      have sp := sz_rep w' s0
      by_cases d1 : k ∣ s
      · exact d1
      · exfalso
        by_cases d2 : s ∣ k
        · obtain ⟨t, rfl⟩ := d2
          have ht : 2 ≤ t := by
            rcases Nat.lt_or_ge t 2 with h | h
            · have : t = 0 ∨ t = 1 := by omega
              rcases this with rfl | rfl
              · omega
              · exact absurd (by rw [Nat.mul_one]; exact Nat.dvd_refl s) d1
            · exact h
          exact no t q ht (con_next s0 (by omega) rfl e)
        · -- neither
          have g0 : 0 < Nat.gcd s k := Nat.gcd_pos_of_pos_left _ s0
          have gk : Nat.gcd s k < k := by
            have := Nat.le_of_dvd k0 (Nat.gcd_dvd_right s k)
            by_cases z : Nat.gcd s k = k
            · exact absurd (z ▸ Nat.gcd_dvd_left s k) d1
            · omega
          have il := inn_lcm im' ik
          have l0 : 0 < Nat.lcm s k := Nat.lcm_pos s0 k0
          have hl2 : Nat.lcm s k ≤ sz (N (rep w' s) (flat F)) := Nat.le_of_dvd S0 il.1
          obtain ⟨e1, e2⟩ := inn_split il
          have ex : innerOf (N (rep w' s) (flat F)) (Nat.lcm s k) = rep w' (Nat.lcm s k) := by
            have q1 := rep_of (p := innerOf (N (rep w' s) (flat F)) (Nat.lcm s k)) (w := w') (fun j j0 j1 => by
              rw [← pt_pre _ (outerOf (N (rep w' s) (flat F)) (Nat.lcm s k)) j0 j1, ← e2]
              rw [e1] at j1
              by_cases z : j % Nat.gcd s k = 0
              · rw [per_mid (sz_pos _) im'.1 ik.1 im'.2 ik.2 d2 d1 j0 (by omega) (Nat.dvd_of_mod_eq_zero z) (fun d => by have := Nat.le_of_dvd j0 d; omega)]
                exact pw _ g0 gk
              · have lt := Nat.mod_lt j g0
                have le := Nat.mod_le j (Nat.gcd s k)
                rw [(inn_gcd im' ik).2 j (j % Nat.gcd s k) j0 (by omega) (Nat.pos_of_ne_zero z) (by omega) (by rw [Nat.mod_mod]) z]
                exact pw _ (Nat.pos_of_ne_zero z) (by omega))
            rw [e1] at q1
            exact q1
          rw [ex] at e2
          obtain ⟨t, ht⟩ := Nat.dvd_lcm_left s k
          rw [ht] at e2
          have ht2 : 2 ≤ t := by
            rcases Nat.lt_or_ge t 2 with h | h
            · have : t = 0 ∨ t = 1 := by omega
              rcases this with rfl | rfl
              · omega
              · rw [Nat.mul_one] at ht
                exact absurd (ht ▸ Nat.dvd_lcm_right s k) d1
            · exact h
          exact no t _ ht2 (con_next s0 (by omega) rfl e2)
theorem flat_ne {b : Bk} {F : List Bk} (h : Good b) : sz (flat (b :: F)) ≠ 1 := by
  show sz (N b.pol (flat F)) ≠ 1
  rw [sz_N]
  have h1 := good_sz h
  have h2 := Nat.le_mul_of_pos_right (sz b.pol) (sz_pos (flat F))
  omega
/-- every policy has one form -/
theorem uniq : ∀ (F G : List Bk), Nrm F → Nrm G → flat F = flat G → F = G
  | [], [], _, _, _ => rfl
  | [], g :: G, _, ng, e => absurd (congrArg sz e).symm (flat_ne ng.1)
  | f :: F, [], nf, _, e => absurd (congrArg sz e) (flat_ne nf.1)
  | f :: F, g :: G, nf, ng, e => by
    have done : f = g → f :: F = g :: G := fun h => by
      subst h
      rw [uniq F G nf.2.2 ng.2.2 (N_cancel_l e)]
    cases f with
    | con w s =>
      have hs : 2 ≤ s := nf.1
      obtain ⟨s', G', eg, d1⟩ := head_con _ ng w s (flat F) hs e.symm
      cases eg
      have hs' : 2 ≤ s' := ng.1
      obtain ⟨s'', F', ef, d2⟩ := head_con _ nf w s' (flat G) hs' e
      cases ef
      exact done (by rw [Nat.dvd_antisymm d1 d2])
    | lst u =>
      cases g with
      | con w s =>
        have hs : 2 ≤ s := ng.1
        obtain ⟨s'', F', ef, d2⟩ := head_con _ nf w s (flat G) hs e
        cases ef
      | lst v =>
        have hu : Uns u ∧ ¬ Cst u := nf.1
        have hv : Uns v ∧ ¬ Cst v := ng.1
        have u2 : 2 ≤ sz u := good_sz (b := .lst u) hu
        have v2 : 2 ≤ sz v := good_sz (b := .lst v) hv
        have e' : N u (flat F) = N v (flat G) := e
        have d1 : sz u ∣ sz v := by
          by_cases d : sz u ∣ sz v
          · exact d
          · exact (first_lst (r := []) hu (e' ▸ inn_N v (flat G)) v2 d).elim
        have d2 : sz v ∣ sz u := by
          by_cases d : sz v ∣ sz u
          · exact d
          · exact (first_lst (r := []) hv (e' ▸ inn_N u (flat F)) u2 d).elim
        exact done (by rw [(N_same e' (Nat.dvd_antisymm d1 d2)).1])
/-! ### forms made -/
def innB (p : List Int) (n : Nat) : Bool := (sz p % n == 0) && (List.range p.length).all fun i => (i + 1) % n == 0 || pt p (i + 1) == pt p ((i + 1) % n)
theorem innB_iff {p : List Int} {n : Nat} (h : 0 < n) : innB p n = true ↔ Inn p n := by
  unfold innB
  rw [Bool.and_eq_true, beq_iff_eq, List.all_eq_true]
  constructor
  · rintro ⟨h1, h2⟩
    have key : ∀ i, 0 < i → i < sz p → i % n ≠ 0 → pt p i = pt p (i % n) := fun i i0 i1 hz => by
      have q := h2 (i - 1) (List.mem_range.mpr (by unfold sz at i1; omega))
      rw [Nat.sub_add_cancel i0, Bool.or_eq_true, beq_iff_eq, beq_iff_eq] at q
      exact q.resolve_left hz
    exact ⟨Nat.dvd_of_mod_eq_zero h1, fun i j i0 i1 j0 j1 e hz => by rw [key i i0 i1 hz, key j j0 j1 (e ▸ hz), e]⟩
  · rintro ⟨h1, h2⟩
    refine ⟨Nat.mod_eq_zero_of_dvd h1, fun i hi => ?_⟩
    have hi' := List.mem_range.mp hi
    rw [Bool.or_eq_true, beq_iff_eq, beq_iff_eq]
    by_cases z : (i + 1) % n = 0
    · exact .inl z
    · have lt := Nat.mod_le (i + 1) n
      have e : sz p = p.length + 1 := rfl
      exact .inr (h2 (i + 1) _ (by omega) (by omega) (Nat.pos_of_ne_zero z) (by omega) (by rw [Nat.mod_mod]) z)
instance (p : List Int) (n : Nat) : Decidable (0 < n ∧ Inn p n) := decidable_of_iff (0 < n ∧ innB p n = true) ⟨fun h => ⟨h.1, (innB_iff h.1).mp h.2⟩, fun h => ⟨h.1, (innB_iff h.1).mpr h.2⟩⟩
/-- the inner numbers in ascending order -/
def inns (p : List Int) : List Nat := ((List.range (sz p)).map (· + 1)).filter (innB p)
theorem mem_inns {p : List Int} {n : Nat} : n ∈ inns p ↔ Inn p n := by
  unfold inns
  rw [List.mem_filter, List.mem_map]
  constructor
  · rintro ⟨⟨i, _, rfl⟩, h⟩
    exact (innB_iff (Nat.succ_pos _)).mp h
  · intro h
    have n0 : 0 < n := Nat.pos_of_dvd_of_pos h.1 (sz_pos p)
    have nl := Nat.le_of_dvd (sz_pos p) h.1
    exact ⟨⟨n - 1, List.mem_range.mpr (by omega), by omega⟩, (innB_iff n0).mpr h⟩
theorem range_inc (n : Nat) : ((List.range n).map (· + 1)).Pairwise (· < ·) := by
  rw [List.pairwise_map]
  exact (List.pairwise_lt_range (n := n)).imp fun h => Nat.succ_lt_succ h
theorem inns_inc (p : List Int) : (inns p).Pairwise (· < ·) := (range_inc (sz p)).filter _
/-- the least inner number above 1 -/
theorem inns_two {p : List Int} (h : p ≠ []) : ∃ n rest, inns p = 1 :: n :: rest ∧ 2 ≤ n ∧ Inn p n ∧ ∀ m, Inn p m → m = 1 ∨ n ≤ m := by
  have h1 := mem_inns.mpr (inn_one p)
  have h2 := mem_inns.mpr (inn_all p)
  have hz : 2 ≤ sz p := by
    cases p with
    | nil => exact absurd rfl h
    | cons x xs => unfold sz; rw [List.length_cons]; omega
  have hi := inns_inc p
  have pos : ∀ m ∈ inns p, 0 < m := fun m hm => Nat.pos_of_dvd_of_pos (mem_inns.mp hm).1 (sz_pos p)
  generalize hL : inns p = L at *
  cases L with
  | nil => cases h1
  | cons a L =>
    rw [List.pairwise_cons] at hi
    have a1 : a = 1 := by
      rcases List.mem_cons.mp h1 with e | e
      · exact e.symm
      · have := hi.1 1 e; have := pos a List.mem_cons_self; omega
    subst a1
    cases L with
    | nil => rcases List.mem_cons.mp h2 with e | e
             · omega
             · cases e
    | cons n rest =>
      rw [List.pairwise_cons] at hi
      have n1 := hi.1 n List.mem_cons_self
      refine ⟨n, rest, rfl, n1, mem_inns.mp (by rw [hL]; exact List.mem_cons_of_mem _ List.mem_cons_self), fun m hm => ?_⟩
      have q := mem_inns.mpr hm
      rw [hL] at q
      rcases List.mem_cons.mp q with e | q
      · exact .inl e
      · rcases List.mem_cons.mp q with e | q
        · exact .inr (by omega)
        · have := hi.2.1 m q; exact .inr (by omega)
def isC (ws : List Int) : Bool := ws.all fun w => w == ws.headD 0
theorem pt_mem {p : List Int} {j : Nat} (h0 : 0 < j) (h : j < sz p) : pt p j ∈ p := by
  unfold pt
  have hj : j - 1 < p.length := by unfold sz at h; omega
  rw [List.getD_eq_getElem?_getD, List.getElem?_eq_getElem hj]
  exact List.getElem_mem hj
theorem mem_pt {p : List Int} {w : Int} (h : w ∈ p) : ∃ j, 0 < j ∧ j < sz p ∧ pt p j = w := by
  obtain ⟨i, hi, rfl⟩ := List.getElem_of_mem h
  refine ⟨i + 1, by omega, by unfold sz; omega, ?_⟩
  unfold pt
  rw [Nat.add_sub_cancel, List.getD_eq_getElem?_getD, List.getElem?_eq_getElem hi]
  rfl
theorem isC_iff {p : List Int} (h : p ≠ []) : isC p = true ↔ Cst p := by
  unfold isC Cst
  rw [List.all_eq_true]
  constructor
  · intro g
    exact ⟨p.headD 0, fun j j0 j1 => by simpa using g _ (pt_mem j0 j1)⟩
  · rintro ⟨w, g⟩ x hx
    obtain ⟨j, j0, j1, rfl⟩ := mem_pt hx
    rw [beq_iff_eq, g j j0 j1]
    cases p with
    | nil => exact absurd rfl h
    | cons y ys =>
      have q := g 1 (by omega) (by unfold sz; rw [List.length_cons]; omega)
      exact q.symm
def blk (ws : List Int) : Bk := if isC ws = true then .con (ws.headD 0) (sz ws) else .lst ws
theorem blk_pol {ws : List Int} (h : ws ≠ []) : (blk ws).pol = ws := by
  unfold blk
  by_cases c : isC ws = true
  · rw [if_pos c]
    unfold isC at c
    rw [List.all_eq_true] at c
    exact (rep_of fun j j0 j1 => by simpa using c _ (pt_mem j0 j1)).symm
  · rw [if_neg c]; rfl
theorem blk_good {ws : List Int} (h : Uns ws) : Good (blk ws) := by
  unfold blk
  by_cases c : isC ws = true
  · rw [if_pos c]
    have h1 := h.1
    show 2 ≤ sz ws
    cases ws with
    | nil => exact absurd rfl h1
    | cons x xs => unfold sz; rw [List.length_cons]; omega
  · rw [if_neg c]
    exact ⟨h, fun g => c ((isC_iff h.1).mpr g)⟩
def bls : Nat → List Int → List Bk
  | 0, _ => []
  | k + 1, p => if p = [] then [] else blk (innerOf p ((inns p).getD 1 0)) :: bls k (outerOf p ((inns p).getD 1 0))
theorem bls_ok : ∀ (k : Nat) (p : List Int), p.length ≤ k → flat (bls k p) = p ∧ ∀ b ∈ bls k p, Good b
  | 0, p, h => by
    have : p = [] := List.eq_nil_of_length_eq_zero (by omega)
    subst this
    exact ⟨rfl, fun b hb => by cases hb⟩
  | k + 1, p, h => by
    unfold bls
    by_cases hp : p = []
    · rw [if_pos hp]
      exact ⟨hp.symm, fun b hb => by cases hb⟩
    · rw [if_neg hp]
      obtain ⟨n, rest, e, n2, hi, hm⟩ := inns_two hp
      have en : (inns p).getD 1 0 = n := by rw [e]; rfl
      rw [en]
      obtain ⟨e1, e2⟩ := inn_split hi
      have hx : innerOf p n ≠ [] := fun z => by rw [z] at e1; have : 1 = n := e1; omega
      have es : sz p = n * sz (outerOf p n) := by
        have q := sz_N (innerOf p n) (outerOf p n)
        rw [← e2, e1] at q
        exact q
      have hlen : (outerOf p n).length ≤ k := by
        have o1 := sz_pos (outerOf p n)
        have q2 : 2 * sz (outerOf p n) ≤ n * sz (outerOf p n) := Nat.mul_le_mul_right _ n2
        have z1 : sz p = p.length + 1 := rfl
        have z2 : sz (outerOf p n) = (outerOf p n).length + 1 := rfl
        omega
      have ih := bls_ok k (outerOf p n) hlen
      have hu : Uns (innerOf p n) := ⟨hx, fun d hd => by
        have q := inn_up (b := outerOf p n) hd
        rw [← e2] at q
        rcases hm d q with z | z
        · exact .inl z
        · have := Nat.le_of_dvd (sz_pos _) hd.1
          exact .inr (by omega)⟩
      refine ⟨?_, fun b hb => ?_⟩
      · show N (blk (innerOf p n)).pol (flat (bls k (outerOf p n))) = p
        rw [blk_pol hx, ih.1]
        exact e2.symm
      · rcases List.mem_cons.mp hb with z | z
        · rw [z]; exact blk_good hu
        · exact ih.2 b z
/-- a block behind a form -/
def push (F : List Bk) (b : Bk) : List Bk := match F.getLast?, b with
  | some (.con w s), .con w' t => if w = w' then F.dropLast ++ [.con w (s * t)] else F ++ [.con w' t]
  | _, b => F ++ [b]
def Ends (F : List Bk) (b : Bk) : Prop := ∀ w s t, F.getLast? = some (.con w s) → b ≠ .con w t
theorem nrm_snoc : ∀ {F : List Bk} {b : Bk}, Nrm F → Good b → Ends F b → Nrm (F ++ [b])
  | [], b, _, hb, _ => ⟨hb, by cases b <;> exact trivial, trivial⟩
  | f :: F, b, nf, hb, he => by
    refine ⟨nf.1, ?_, nrm_snoc nf.2.2 hb fun w s t h => ?_⟩
    · cases F with
      | nil =>
        cases f with
        | lst u => cases b <;> exact trivial
        | con w s =>
          cases b with
          | lst u => exact trivial
          | con w' t => exact fun z => he w s t rfl (by rw [z])
      | cons g G => cases f <;> cases g <;> exact nf.2.1
    · cases F with
      | nil => cases h
      | cons g G => exact he w s t (by rw [List.getLast?_cons_cons]; exact h)
theorem nrm_init : ∀ {F : List Bk} {b : Bk}, Nrm (F ++ [b]) → Nrm F ∧ Good b ∧ Ends F b
  | [], b, h => ⟨trivial, h.1, fun w s t e => by cases e⟩
  | f :: F, b, h => by
    have ih := nrm_init (F := F) (b := b) h.2.2
    refine ⟨⟨h.1, ?_, ih.1⟩, ih.2.1, fun w s t e => ?_⟩
    · cases F with
      | nil => cases f <;> exact trivial
      | cons g G => cases f <;> cases g <;> exact h.2.1
    · cases F with
      | nil =>
        cases e
        cases b with
        | lst u => intro z; cases z
        | con w' t' => intro z; cases z; exact h.2.1 rfl
      | cons g G => exact ih.2.2 w s t (by rw [← e, List.getLast?_cons_cons])
theorem last_split {F : List Bk} {x : Bk} (h : F.getLast? = some x) : F = F.dropLast ++ [x] := by
  have hn : F ≠ [] := fun z => by rw [z] at h; cases h
  have e := List.dropLast_concat_getLast hn
  rw [List.getLast?_eq_some_getLast hn] at h
  cases h
  exact e.symm
theorem push_ok {F : List Bk} {b : Bk} (nf : Nrm F) (hb : Good b) : Nrm (push F b) ∧ flat (push F b) = N (flat F) b.pol := by
  have app : Ends F b → Nrm (F ++ [b]) ∧ flat (F ++ [b]) = N (flat F) b.pol := fun he => ⟨nrm_snoc nf hb he, by rw [flat_app, flat_one]⟩
  unfold push
  cases hl : F.getLast? with
  | none => exact app fun w s t e => by rw [hl] at e; cases e
  | some x =>
    cases x with
    | lst u => exact app fun w s t e => by rw [hl] at e; cases e
    | con w s =>
      cases b with
      | lst u => exact app fun w s t e => by intro z; cases z
      | con w' t =>
        show Nrm (if w = w' then _ else _) ∧ flat (if w = w' then _ else _) = _
        by_cases hw : w = w'
        · rw [if_pos hw]
          subst hw
          have e := last_split hl
          have q := nrm_init (F := F.dropLast) (b := .con w s) (e ▸ nf)
          have hs : 2 ≤ s := q.2.1
          have ht : 2 ≤ t := hb
          refine ⟨nrm_snoc q.1 ?_ fun w' s' t' h z => ?_, ?_⟩
          · show 2 ≤ s * t
            have := Nat.mul_le_mul hs ht
            omega
          · cases z
            exact q.2.2 _ s' s h rfl
          · rw [flat_app, flat_one]
            conv => rhs; rw [e, flat_app, flat_one]
            show N (flat F.dropLast) (rep w (s * t)) = N (N (flat F.dropLast) (rep w s)) (rep w t)
            rw [N_assoc, N_rep w (by omega) (by omega)]
        · rw [if_neg hw]
          exact app fun w1 s1 t1 e => by
            rw [hl] at e
            cases e
            intro z
            cases z
            exact hw rfl
def joined (bs : List Bk) : List Bk := bs.foldl push []
theorem foldl_push : ∀ (bs F : List Bk), Nrm F → (∀ b ∈ bs, Good b) → Nrm (bs.foldl push F) ∧ flat (bs.foldl push F) = N (flat F) (flat bs)
  | [], F, nf, _ => ⟨nf, (N_nil _).symm⟩
  | b :: bs, F, nf, h => by
    have q := push_ok nf (h b List.mem_cons_self)
    have ih := foldl_push bs (push F b) q.1 fun x hx => h x (List.mem_cons_of_mem _ hx)
    refine ⟨ih.1, ?_⟩
    show flat (bs.foldl push (push F b)) = N (flat F) (N b.pol (flat bs))
    rw [ih.2, q.2, N_assoc]
theorem joined_ok {bs : List Bk} (h : ∀ b ∈ bs, Good b) : Nrm (joined bs) ∧ flat (joined bs) = flat bs := by
  have q := foldl_push bs [] trivial h
  exact ⟨q.1, q.2.trans (nil_N _)⟩
/-- a layer's blocks -/
def bof : Bk → List Bk
  | .con w s => if 1 < s then [.con w s] else []
  | .lst ws => bls ws.length ws
theorem bof_ok (b : Bk) : flat (bof b) = b.pol ∧ ∀ x ∈ bof b, Good x := by
  cases b with
  | lst ws => exact bls_ok ws.length ws (Nat.le_refl _)
  | con w s =>
    show flat (if 1 < s then [Bk.con w s] else []) = rep w s ∧ ∀ x ∈ (if 1 < s then [Bk.con w s] else []), Good x
    by_cases h : 1 < s
    · rw [if_pos h]
      refine ⟨flat_one _, fun x hx => ?_⟩
      rw [List.mem_singleton.mp hx]
      exact h
    · rw [if_neg h]
      refine ⟨?_, fun x hx => by cases hx⟩
      show [] = rep w s
      unfold rep
      rw [show s - 1 = 0 by omega]
      rfl
def form (ls : List Bk) : List Bk := joined (ls.flatMap bof)
theorem flat_flatMap : ∀ ls : List Bk, flat (ls.flatMap bof) = flat ls
  | [] => rfl
  | l :: ls => by
    rw [List.flatMap_cons, flat_app, (bof_ok l).1, flat_flatMap ls]
    rfl
theorem form_ok (ls : List Bk) : Nrm (form ls) ∧ flat (form ls) = flat ls := by
  have q := joined_ok (bs := ls.flatMap bof) fun b hb => by
    obtain ⟨l, _, hl⟩ := List.mem_flatMap.mp hb
    exact (bof_ok l).2 b hl
  exact ⟨q.1, q.2.trans (flat_flatMap ls)⟩
theorem form_iff {ls ms : List Bk} : form ls = form ms ↔ flat ls = flat ms := by
  constructor
  · intro h
    rw [← (form_ok ls).2, ← (form_ok ms).2, h]
  · intro h
    exact uniq _ _ (form_ok ls).1 (form_ok ms).1 (by rw [(form_ok ls).2, (form_ok ms).2, h])
theorem form_nrm {F : List Bk} (h : Nrm F) : form F = F := uniq _ _ (form_ok F).1 h (form_ok F).2
theorem form_of {ls F : List Bk} (h : Nrm F) (e : flat F = flat ls) : form ls = F := uniq _ _ (form_ok ls).1 h ((form_ok ls).2.trans e.symm)
end MN

/-! MP: layers as blocks; the flat list -/
namespace MP
open PySem PySem.Spec VL PG
def bk : Ly → MN.Bk
  | .lst ws => .lst ws
  | .con w s => .con w s.toNat
def fl (ls : List Ly) : List Int := MN.flat (ls.map bk)
theorem bk_sz {l : Ly} (h : l.Ok) : ((MN.sz (bk l).pol : Nat) : Int) = l.size := by
  cases l with
  | lst ws => show ((ws.length + 1 : Nat) : Int) = ws.length + 1; omega
  | con w s =>
    have h2 : 1 ≤ s := h.2.1
    show ((MN.sz (MN.rep w s.toNat) : Nat) : Int) = s
    rw [MN.sz_rep w (by omega)]
    omega
theorem bk_pt {l : Ly} (h : l.Ok) {j : Nat} (h0 : 0 < j) (h1 : (j : Int) < l.size) : l.wait j = MN.pt (bk l).pol j := by
  cases l with
  | lst ws =>
    show ws.getD ((j : Int) - 1).toNat 0 = ws.getD (j - 1) 0
    rw [show ((j : Int) - 1).toNat = j - 1 by omega]
  | con w s =>
    have h2 : (j : Int) < s := h1
    show w = MN.pt (MN.rep w s.toNat) j
    rw [MN.pt_rep w h0 (by omega)]
theorem fl_nil : fl [] = [] := rfl
theorem fl_cons (l : Ly) (ls : List Ly) : fl (l :: ls) = MN.N (bk l).pol (fl ls) := rfl
theorem fl_app (as bs : List Ly) : fl (as ++ bs) = MN.N (fl as) (fl bs) := by
  unfold fl
  rw [List.map_append, MN.flat_app]
theorem fl_snoc (ls : List Ly) (l : Ly) : fl (ls ++ [l]) = MN.N (fl ls) (bk l).pol := by
  rw [fl_app]
  show MN.N _ (MN.N _ []) = _
  rw [MN.N_nil]
theorem fl_sz : ∀ {ls : List Ly}, (∀ l ∈ ls, l.Ok) → ((MN.sz (fl ls) : Nat) : Int) = tot ls
  | [], _ => rfl
  | l :: ls, h => by
    rw [fl_cons, MN.sz_N, Int.natCast_mul, bk_sz (h l List.mem_cons_self), fl_sz (ls := ls) fun x hx => h x (List.mem_cons_of_mem _ hx)]
    rfl
theorem fl_len {ls : List Ly} (h : ∀ l ∈ ls, l.Ok) : ((fl ls).length : Int) + 1 = tot ls := by
  rw [← fl_sz h]
  rfl
theorem wb_fl : ∀ {ls : List Ly} {n : Nat}, (∀ l ∈ ls, l.Ok) → 0 < n → (n : Int) < tot ls → wb ls n = some (MN.pt (fl ls) n)
  | [], n, _, h0, h1 => by have : (n : Int) < 1 := h1; omega
  | l :: ls, n, h, h0, h1 => by
    have hk := h l List.mem_cons_self
    have e := bk_sz hk
    have ht : ∀ x ∈ ls, x.Ok := fun x hx => h x (List.mem_cons_of_mem _ hx)
    have hp := MN.sz_pos (bk l).pol
    have hn : n < MN.sz (bk l).pol * MN.sz (fl ls) := by
      have h1' : (n : Int) < l.size * tot ls := h1
      rw [← e, ← fl_sz ht] at h1'
      exact_mod_cast h1'
    have eq := MN.pt_N (bk l).pol (fl ls) n h0 hn
    rw [fl_cons, eq]
    have em : (n : Int) % l.size = ((n % MN.sz (bk l).pol : Nat) : Int) := by rw [← e, Int.natCast_emod]
    have ed : (n : Int) / l.size = ((n / MN.sz (bk l).pol : Nat) : Int) := by rw [← e, Int.natCast_ediv]
    show (if 0 < (n : Int) % l.size then some (l.wait ((n : Int) % l.size)) else wb ls ((n : Int) / l.size)) = _
    rw [em, ed]
    by_cases z : n % MN.sz (bk l).pol = 0
    · rw [if_neg (by omega), if_pos z]
      have hj : MN.sz (bk l).pol * (n / MN.sz (bk l).pol) = n := Nat.mul_div_cancel' (Nat.dvd_of_mod_eq_zero z)
      refine wb_fl ht ?_ ?_
      · by_cases q : n / MN.sz (bk l).pol = 0
        · rw [q] at hj; omega
        · exact Nat.pos_of_ne_zero q
      · rw [← fl_sz ht]
        exact_mod_cast Nat.div_lt_of_lt_mul hn
    · have hm := Nat.mod_lt n hp
      rw [if_pos (by omega), if_neg z]
      congr 1
      exact bk_pt hk (Nat.pos_of_ne_zero z) (by rw [← e]; exact_mod_cast hm)
theorem pol_nn {l : Ly} (h : l.Ok) : ∀ w ∈ (bk l).pol, 0 ≤ w := by
  cases l with
  | lst ws => exact h.1
  | con w s =>
    intro x hx
    have e := List.eq_of_mem_replicate (show x ∈ List.replicate (s.toNat - 1) w from hx)
    rw [e]
    exact h.1
theorem fl_nn : ∀ {ls : List Ly}, (∀ l ∈ ls, l.Ok) → ∀ w ∈ fl ls, 0 ≤ w
  | [], _ => fun w hw => by cases hw
  | l :: ls, h => by
    rw [fl_cons]
    exact MN.N_mem (pol_nn (h l List.mem_cons_self)) (fl_nn (ls := ls) fun x hx => h x (List.mem_cons_of_mem _ hx))
theorem pt_getD (p : List Int) {n : Nat} (h : 0 < n) : MN.pt p n = p.getD (n - 1) 0 := rfl
/-- [w] * k -/
theorem pRep_one {w k : Int} (h0 : 0 ≤ k) (h1 : k ≤ 100000) : pRep (.lst [.int w]) (.int k) = some (iL (List.replicate k.toNat w)) := by
  show (if _ then _ else _) = _
  rw [if_pos ⟨by omega, by omega, by simp only [List.length_cons, List.length_nil]; omega⟩]
  congr 2
  rw [List.map_replicate]
  generalize k.toNat = n
  induction n with
  | zero => rfl
  | succ n ih => rw [List.replicate_succ, List.flatten_cons, ih]; rfl
theorem pCat_ok {xs ys : List D} (h : xs.length + ys.length ≤ 100000) : pCat (.lst xs) (.lst ys) = some (.lst (xs ++ ys)) := if_pos h
theorem pCat_ints {xs ys : List Int} (h : xs.length + ys.length ≤ 100000) : pCat (iL xs) (iL ys) = some (iL (xs ++ ys)) := by
  rw [iL, iL, pCat_ok (by rw [List.length_map, List.length_map]; exact h), ← List.map_append]
theorem N_le_l (a b : List Int) : a.length ≤ (MN.N a b).length := by
  unfold MN.N
  rw [List.length_append]
  omega
theorem N_take_le (a b : List Int) (j : Nat) : (MN.N a (b.take j)).length ≤ (MN.N a b).length := by
  have e : MN.N a b = MN.N a (b.take j) ++ (b.drop j).flatMap fun w => w :: a := by
    conv => lhs; rw [← List.take_append_drop j b]
    unfold MN.N
    rw [List.flatMap_append, List.append_assoc]
  rw [e, List.length_append]
  omega
theorem fl_take_le (ls : List Ly) (i : Nat) : (fl (ls.take i)).length ≤ (fl ls).length := by
  have e : fl ls = MN.N (fl (ls.take i)) (fl (ls.drop i)) := by rw [← fl_app, List.take_append_drop]
  rw [e]
  exact N_le_l _ _
theorem take_succ {α : Type} {xs : List α} {i : Nat} {x : α} (h : xs[i]? = some x) : xs.take (i + 1) = xs.take i ++ [x] := by
  rw [List.take_add_one, h]; rfl
end MP

namespace FA
open PySem PySem.Spec VL
noncomputable def d__law_source : Rho → SO := dSeq (dSet 1 (dI 271828182845904))
  (dSeq (dSet 2 (dLst dNil))
  (dSeq (dFor (dItL (dVar 0)) (gSet 3) (dSeq (dSet 1 (d2 iMod (d2 iAdd (d2 iMul (dVar 1) (dI 1000033)) (dVar 3)) (d2 iSub (d2 iPow (dI 2) (dI 61)) (dI 1))))
  (dSeq (dSet 4 (dN pMax2 (dCons (dVar 3) (dCons (d2 iSub (dI 0) (dVar 3)) dNil))))
  (dIf (dB (d2 iGe (dVar 4) (d2 iPow (dI 10) (dI 18)))) (dExpr (dMut 2 hAppend (dCons (d2 iSub (dVar 4) (d2 iPow (dI 10) (dI 18))) dNil))) dEnd))))
  (dRet (dLst (dCons (dMv 2) (dCons (dI 0) (dCons (dUp (dVar 1)) (dCons (dI 0) dNil))))))))
noncomputable def r__law_source : List D → DR := runF none 5 1 d__law_source
noncomputable def d__law_draw : Rho → SO := dSeq (whileD (dBorB (dAndB (dB (d2 iLt (d2 pIx (dVar 0) (dI 1)) (dI 2))) (dB (d2 qNe (d2 pIx (dVar 0) (dI 0)) (dLst dNil))))) (dSetIx 0 (dUp (dMutIx 0 0 hPopAt (dCons (dI 0) dNil))) (dI 1)) 1100)
  (dSeq (dIf (dBorB (dB (d2 iGe (d2 pIx (dVar 0) (dI 1)) (dI 2)))) (dSeq (dSet 3 (dBor 0 (d2 iMod (d2 pIx (dVar 0) (dI 1)) (dVar 1))))
  (dSeq (dSetIx 0 (dUp (dBor 0 (d2 iDiv (d2 pIx (dVar 0) (dI 1)) (dVar 1)))) (dI 1))
  (dRet (dVar 3)))) dEnd)
  (dSeq (dSetIx 0 (dUp (dBor 0 (d2 iAdd (d2 pIx (dVar 0) (dI 3)) (dI 1)))) (dI 3))
  (dSeq (dSet 2 (dBor 0 (d2 iMul (d2 iAdd (d2 pIx (dVar 0) (dI 2)) (dI 7)) (d2 iPow (d2 iAdd (d2 pIx (dVar 0) (dI 3)) (dI 3)) (dI 3)))))
  (dSeq (dSet 2 (dBor 0 (d2 iMod (d2 iAdd (dVar 2) (d2 iMul (dI 1000081) (d2 pIx (dVar 0) (dI 3)))) (d2 iSub (d2 iPow (dI 2) (dI 61)) (dI 1)))))
  (dRet (d2 iMod (d2 iDiv (d2 iMod (d2 iPow (dVar 2) (dI 5)) (d2 iAdd (d2 iPow (dI 10) (dI 18)) (dI 9))) (dI 128)) (dVar 1)))))))
noncomputable def r__law_draw : List D → DR := runF (some 2) 4 2 d__law_draw
noncomputable def d__law_wait_drawn : Rho → SO := dSeq (dSet 1 (dLst (dCons (dI 0) (dCons (dI 1) (dCons (dCallIo 0 2 r__law_draw (dCons (dI 3) dNil)) (dCons (dCallIo 0 2 r__law_draw (dCons (dI 100) dNil)) (dCons (d2 iSub (d2 iSub (d2 iPow (dI 10) (dI 12)) (dI 1)) (dCallIo 0 2 r__law_draw (dCons (dI 9) dNil))) dNil)))))))
  (dRet (d2 pIx (dVar 1) (dCallIo 0 2 r__law_draw (dCons (dI 5) dNil))))
noncomputable def r__law_wait_drawn : List D → DR := runF (some 2) 2 1 d__law_wait_drawn
noncomputable def d__law_policy : Rho → SO := dSeq (dSet 2 (lcD [4] (dIt rng1 (dCons (d2 iAdd (dI 1) (dCallIo 0 2 r__law_draw (dCons (dI 3) dNil))) dNil)) (gSet 4) dTrue (dCallIo 0 1 r__law_wait_drawn dNil)))
  (dSeq (dSet 3 (dLst dNil))
  (dSeq (dFor (dIt rng1 (dCons (dCallIo 0 2 r__law_draw (dCons (d2 iAdd (dVar 1) (dI 1)) dNil)) dNil)) (gSet 4) (dExpr (dMut 3 hAppend (dCons (dIfE (dB (d2 iGt (dCallIo 0 2 r__law_draw (dCons (dI 4) dNil)) (dI 0))) (d2 pIx (dVar 2) (dCallIo 0 2 r__law_draw (dCons (dN pLen (dCons (dVar 2) dNil)) dNil))) (dCallIo 0 1 r__law_wait_drawn dNil)) dNil))))
  (dRet (dVar 3))))
noncomputable def r__law_policy : List D → DR := runF (some 2) 5 2 d__law_policy
/-- the state of the draws: at most n have been counted -/
def Src (n : Nat) (s : D) : Prop := ∃ (digs : List Int) (cur mix : Int) (cnt : Nat), s = .lst [iL digs, .int cur, .int mix, .int cnt] ∧ digs.length ≤ 1000 ∧ 0 ≤ mix ∧ mix < 2 ^ 61 ∧ cnt ≤ n
theorem Src.mono {n m : Nat} {s : D} (h : Src n s) (hm : n ≤ m) : Src m s := by
  obtain ⟨digs, cur, mix, cnt, e, h1, h2, h3, h4⟩ := h
  exact ⟨digs, cur, mix, cnt, e, h1, h2, h3, by omega⟩
abbrev cW : Rho → R Bool := dBorB (dAndB (dB (d2 iLt (d2 pIx (dVar 0) (dI 1)) (dI 2))) (dB (d2 qNe (d2 pIx (dVar 0) (dI 0)) (dLst dNil))))
abbrev bW : Rho → SO := dSetIx 0 (dUp (dMutIx 0 0 hPopAt (dCons (dI 0) dNil))) (dI 1)
theorem cW_eq (digs : List Int) (cur : Int) (m k : D) (rest : Rho) : cW (some (.lst [iL digs, .int cur, m, k]) :: rest) = .ok (decide (cur < 2) && !decide (digs = [])) (some (.lst [iL digs, .int cur, m, k]) :: rest) := by
  have e : qNe (iL digs) (.lst []) = some (.bl (!decide (digs = []))) := qNe_ints digs []
  by_cases h : cur < 2
  · simp [e, h]
  · simp [h]
theorem bW_eq (d : Int) (ds : List Int) (cur : Int) (m k : D) (rest : Rho) : bW (some (.lst [iL (d :: ds), .int cur, m, k]) :: rest) = (if ds.length < 1000 then .nx (some (.lst [iL ds, .int d, m, k]) :: rest) else bW (some (.lst [iL (d :: ds), .int cur, m, k]) :: rest)) := by
  by_cases h : ds.length < 1000
  · rw [if_pos h]
    have e1 : atD (some (.lst [iL (d :: ds), .int cur, m, k])) 0 = some ([iL (d :: ds), .int cur, m, k], 0, (d :: ds).map D.int) := rfl
    have e2 : hPopAt (.int d :: ds.map D.int) [.int 0] = some (.int d, ds.map D.int) := by
      show (if (D.int d :: ds.map D.int).length ≤ 100000 then _ else _) = _
      rw [if_pos (by simp only [List.length_map, List.length_cons]; omega)]
      have e3 : L2.ixN (D.int d :: ds.map D.int).length 0 = some 0 := by
        unfold L2.ixN
        rw [if_pos (by omega), if_pos (by simp only [List.length_map, List.length_cons]; omega)]; rfl
      rw [e3]
      rfl
    have e4 : L2.ixN 4 1 = some 1 := by decide
    simp [dMutIx, e1, e2, muIx, e4]
  · rw [if_neg h]
theorem while_ok (m k : D) (rest : Rho) : ∀ (digs : List Int) (cur : Int) (fuel : Nat), digs.length ≤ 1000 → digs.length < fuel → ∃ (digs' : List Int) (cur' : Int), whileD cW bW fuel (some (.lst [iL digs, .int cur, m, k]) :: rest) = .nx (some (.lst [iL digs', .int cur', m, k]) :: rest) ∧ digs'.length ≤ 1000
  | [], cur, fuel + 1, h, _ => ⟨[], cur, by unfold whileD; rw [cW_eq]; simp, h⟩
  | d :: ds, cur, fuel + 1, h, hf => by
    simp only [List.length_cons] at h hf
    by_cases hc : cur < 2
    · obtain ⟨digs', cur', e, hl⟩ := while_ok m k rest ds d fuel (by omega) (by omega)
      refine ⟨digs', cur', ?_, hl⟩
      unfold whileD
      rw [cW_eq]
      simp only [hc, decide_true, Bool.true_and, R.then_ok]
      rw [if_pos (by simp), bW_eq, if_pos (by omega)]
      exact e
    · refine ⟨d :: ds, cur, ?_, by simp only [List.length_cons]; omega⟩
      unfold whileD
      rw [cW_eq]
      simp [hc]
theorem draw_end1 (many : Int) (h0 : 0 < many) (hd : divOk many = true) (s : D) (digs' : List Int) (cur' mix : Int) (cnt : Nat) (hc : 2 ≤ cur')
    (e : whileD cW bW 1100 [some s, some (.int many), none, none] = .nx [some (.lst [iL digs', .int cur', .int mix, .int cnt]), some (.int many), none, none]) :
    r__law_draw [s, .int many] = .ok (.int (cur' % many)) (some (.lst [iL digs', .int (cur' / many), .int mix, .int cnt])) := by
  have e4 : L2.ixN 4 1 = some 1 := by decide
  have e6 : iMod (.int cur') (.int many) = some (.int (cur' % many)) := iMod_ok h0
  have e7 : iDiv (.int cur') (.int many) = some (.int (cur' / many)) := iDiv_ok hd
  simp only [r__law_draw, runF, d__law_draw, List.length_cons, List.length_nil, List.map_cons, List.map_nil]
  simp [e, hc, e4, e6, e7]
noncomputable abbrev sA : Rho → SO := dSetIx 0 (dUp (dBor 0 (d2 iAdd (d2 pIx (dVar 0) (dI 3)) (dI 1)))) (dI 3)
noncomputable abbrev sB : Rho → SO := dSet 2 (dBor 0 (d2 iMul (d2 iAdd (d2 pIx (dVar 0) (dI 2)) (dI 7)) (d2 iPow (d2 iAdd (d2 pIx (dVar 0) (dI 3)) (dI 3)) (dI 3))))
noncomputable abbrev sC : Rho → SO := dSet 2 (dBor 0 (d2 iMod (d2 iAdd (dVar 2) (d2 iMul (dI 1000081) (d2 pIx (dVar 0) (dI 3)))) (d2 iSub (d2 iPow (dI 2) (dI 61)) (dI 1))))
noncomputable abbrev sD : Rho → SO := dRet (d2 iMod (d2 iDiv (d2 iMod (d2 iPow (dVar 2) (dI 5)) (d2 iAdd (d2 iPow (dI 10) (dI 18)) (dI 9))) (dI 128)) (dVar 1))
theorem sA_eq (digs : D) (cur mix : D) (cnt : Int) (rest : Rho) : sA (some (.lst [digs, cur, mix, .int cnt]) :: rest) = .nx (some (.lst [digs, cur, mix, .int (cnt + 1)]) :: rest) := by
  have e5 : L2.ixN 4 3 = some 3 := by decide
  simp [e5]
theorem sB_eq (digs : D) (cur : D) (mix cnt : Int) (m : D) (o p : Option D) (hm : (mix + 7).natAbs < 2 ^ 64) (hc : (cnt + 3).natAbs < 2 ^ 60) : sB [some (.lst [digs, cur, .int mix, .int cnt]), some m, o, p] = .nx [some (.lst [digs, cur, .int mix, .int cnt]), some m, some (.int ((mix + 7) * (cnt + 3) ^ 3)), p] := by
  have p1 : iMul (.int (mix + 7)) (.int ((cnt + 3) ^ 3)) = some (.int ((mix + 7) * (cnt + 3) ^ 3)) := iMul_l hm
  have p2 : iPow (.int (cnt + 3)) (.int 3) = some (.int ((cnt + 3) ^ 3)) := iPow_ok (n := 60) (by omega) hc (by omega) (by omega)
  simp [p1, p2]
theorem sC_eq (digs : D) (cur mix : D) (cnt x : Int) (m : D) (p : Option D) : sC [some (.lst [digs, cur, mix, .int cnt]), some m, some (.int x), p] = .nx [some (.lst [digs, cur, mix, .int cnt]), some m, some (.int ((x + 1000081 * cnt) % 2305843009213693951)), p] := by
  simp [iMul_1000081, iMod_M]
theorem pow5_ok (x : Int) (h1 : 0 ≤ x) (h2 : x < 2305843009213693951) : iPow (.int x) (.int 5) = some (.int (x ^ 5)) := iPow_ok (n := 61) (by omega) (by omega) (by omega) (by omega)
theorem sD_eq (s : D) (many x : Int) (p : Option D) (h0 : 0 < many) (h1 : 0 ≤ x) (h2 : x < 2305843009213693951) : sD [some s, some (.int many), some (.int x), p] = .rt (.int (x ^ 5 % 1000000000000000009 / 128 % many)) [some s, some (.int many), some (.int x), p] := by
  simp [pow5_ok x h1 h2, iMod_9, iDiv_128, iMod_ok h0]
theorem draw_end2 (many : Int) (h0 : 0 < many) (s : D) (digs' : List Int) (cur' mix : Int) (cnt : Nat) (hc : ¬ 2 ≤ cur') (hm0 : 0 ≤ mix) (hm1 : mix < 2 ^ 61) (hcnt : cnt ≤ 1000000000)
    (e : whileD cW bW 1100 [some s, some (.int many), none, none] = .nx [some (.lst [iL digs', .int cur', .int mix, .int cnt]), some (.int many), none, none]) :
    r__law_draw [s, .int many] = .ok (.int ((((mix + 7) * (((cnt : Int) + 1) + 3) ^ 3 + 1000081 * ((cnt : Int) + 1)) % 2305843009213693951) ^ 5 % 1000000000000000009 / 128 % many)) (some (.lst [iL digs', .int cur', .int mix, .int ((cnt : Int) + 1)])) := by
  have h1 := Int.emod_nonneg ((mix + 7) * (((cnt : Int) + 1) + 3) ^ 3 + 1000081 * ((cnt : Int) + 1)) (b := 2305843009213693951) (by decide)
  have h2 := Int.emod_lt_of_pos ((mix + 7) * (((cnt : Int) + 1) + 3) ^ 3 + 1000081 * ((cnt : Int) + 1)) (b := 2305843009213693951) (by decide)
  have ed : d__law_draw = dSeq (whileD cW bW 1100) (dSeq (dIf (dBorB (dB (d2 iGe (d2 pIx (dVar 0) (dI 1)) (dI 2)))) (dSeq (dSet 3 (dBor 0 (d2 iMod (d2 pIx (dVar 0) (dI 1)) (dVar 1)))) (dSeq (dSetIx 0 (dUp (dBor 0 (d2 iDiv (d2 pIx (dVar 0) (dI 1)) (dVar 1)))) (dI 1)) (dRet (dVar 3)))) dEnd) (dSeq sA (dSeq sB (dSeq sC sD)))) := rfl
  have ei : dIf (dBorB (dB (d2 iGe (d2 pIx (dVar 0) (dI 1)) (dI 2)))) (dSeq (dSet 3 (dBor 0 (d2 iMod (d2 pIx (dVar 0) (dI 1)) (dVar 1)))) (dSeq (dSetIx 0 (dUp (dBor 0 (d2 iDiv (d2 pIx (dVar 0) (dI 1)) (dVar 1)))) (dI 1)) (dRet (dVar 3)))) dEnd [some (.lst [iL digs', .int cur', .int mix, .int cnt]), some (.int many), none, none] = .nx [some (.lst [iL digs', .int cur', .int mix, .int cnt]), some (.int many), none, none] := by
    simp [hc]
  have q : d__law_draw [some s, some (.int many), none, none] = .rt (.int ((((mix + 7) * (((cnt : Int) + 1) + 3) ^ 3 + 1000081 * ((cnt : Int) + 1)) % 2305843009213693951) ^ 5 % 1000000000000000009 / 128 % many)) [some (.lst [iL digs', .int cur', .int mix, .int ((cnt : Int) + 1)]), some (.int many), some (.int (((mix + 7) * (((cnt : Int) + 1) + 3) ^ 3 + 1000081 * ((cnt : Int) + 1)) % 2305843009213693951)), none] := by
    rw [ed, ap_dSeq, e]
    show dSeq _ _ _ = _
    rw [ap_dSeq, ei]
    show dSeq _ _ _ = _
    rw [ap_dSeq, sA_eq]
    show dSeq _ _ _ = _
    rw [ap_dSeq, sB_eq _ _ _ _ _ _ _ (by omega) (by omega)]
    show dSeq _ _ _ = _
    rw [ap_dSeq, sC_eq]
    show sD _ = _
    rw [sD_eq _ _ _ _ h0 h1 h2]
  show (match d__law_draw [some s, some (.int many), none, none] with | .rt d r => _ | .nx r => _ | .ex n x r => _ | _ => _) = _
  rw [q]
  rfl
theorem draw_ok {n : Nat} {s : D} (hs : Src n s) {many : Int} (h0 : 0 < many) (hd : divOk many = true) (hn : n ≤ 1000000000) : ∃ v s', r__law_draw [s, .int many] = .ok (.int v) (some s') ∧ 0 ≤ v ∧ v < many ∧ Src (n + 1) s' := by
  obtain ⟨digs, cur, mix, cnt, rfl, hl, hm0, hm1, hcnt⟩ := hs
  obtain ⟨digs', cur', e, hl'⟩ := while_ok (.int mix) (.int cnt) [some (.int many), none, none] digs cur 1100 hl (by omega)
  by_cases hc : 2 ≤ cur'
  · exact ⟨cur' % many, _, draw_end1 many h0 hd _ digs' cur' mix cnt hc e, Int.emod_nonneg _ (by omega), Int.emod_lt_of_pos _ h0, digs', _, mix, cnt, rfl, hl', hm0, hm1, by omega⟩
  · exact ⟨_, _, draw_end2 many h0 _ digs' cur' mix cnt hc hm0 hm1 (by omega) e, Int.emod_nonneg _ (by omega), Int.emod_lt_of_pos _ h0, digs', cur', mix, cnt + 1, by rw [Int.natCast_add]; rfl, hl', hm0, hm1, by omega⟩
theorem src_body (mix cell : Int) : ∀ (rest : Rho) (digs : List Int) (sc : Option D) (z : Option D), digs.length < 1000 → ∃ (mix' : Int) (digs' : List Int) (sz : D), 0 ≤ mix' ∧ mix' < 2 ^ 61 ∧ digs'.length ≤ digs.length + 1 ∧
    (dSeq (dSet 1 (d2 iMod (d2 iAdd (d2 iMul (dVar 1) (dI 1000033)) (dVar 3)) (d2 iSub (d2 iPow (dI 2) (dI 61)) (dI 1))))
      (dSeq (dSet 4 (dN pMax2 (dCons (dVar 3) (dCons (d2 iSub (dI 0) (dVar 3)) dNil))))
      (dIf (dB (d2 iGe (dVar 4) (d2 iPow (dI 10) (dI 18)))) (dExpr (dMut 2 hAppend (dCons (d2 iSub (dVar 4) (d2 iPow (dI 10) (dI 18))) dNil))) dEnd))) [sc, some (.int mix), some (iL digs), some (.int cell), z] =
      .nx [sc, some (.int mix'), some (iL digs'), some (.int cell), some sz] := fun rest digs sc z hl => by
  have p1 : iMul (.int mix) (.int 1000033) = some (.int (mix * 1000033)) := iMul_r (by decide)
  have p4 : iPow (.int 2) (.int 61) = some (.int 2305843009213693952) := iPow_2_61
  have p5 : ∀ x : Int, iMod (.int x) (.int 2305843009213693951) = some (.int (x % 2305843009213693951)) := fun x => iMod_ok (by decide)
  have p7 : iPow (.int 10) (.int 18) = some (.int 1000000000000000000) := iPow_10_18
  have h1 := Int.emod_nonneg (mix * 1000033 + cell) (b := 2305843009213693951) (by decide)
  have h2 := Int.emod_lt_of_pos (mix * 1000033 + cell) (b := 2305843009213693951) (by decide)
  have p8 : ∀ x : Int, hAppend (digs.map D.int) [.int x] = some (.non, (digs ++ [x]).map D.int) := fun x => by
    rw [hAppend_ok (by rw [List.length_map]; omega), List.map_append]; rfl
  by_cases h : 1000000000000000000 ≤ (if 0 - cell > cell then 0 - cell else cell)
  · refine ⟨(mix * 1000033 + cell) % 2305843009213693951, digs ++ [(if 0 - cell > cell then 0 - cell else cell) - 1000000000000000000], .int (if 0 - cell > cell then 0 - cell else cell), h1, by omega, by simp, ?_⟩
    simp only [ap_dSeq, ap_dSet, ap_d2, ap_dVar, rget0, rgetS, lift_some, R.bind_ok, ap_dI, p1, iAdd_ii, p4, iSub_ii, Int.reduceSub, p5, R.then_ok, List.set_cons_succ, List.set_cons_zero, ap_dN, ap_dCons, ap_dNil, pMax2_ii, ap_dIf, ap_dB, iGe_ii, p7, asB_bl, decide_eq_true h, if_true, ap_dExpr, ap_dMut, isLst_lst, muGo_lst, p8]
  · refine ⟨(mix * 1000033 + cell) % 2305843009213693951, digs, .int (if 0 - cell > cell then 0 - cell else cell), h1, by omega, by omega, ?_⟩
    simp only [ap_dSeq, ap_dSet, ap_d2, ap_dVar, rget0, rgetS, lift_some, R.bind_ok, ap_dI, p1, iAdd_ii, p4, iSub_ii, Int.reduceSub, p5, R.then_ok, List.set_cons_succ, List.set_cons_zero, ap_dN, ap_dCons, ap_dNil, pMax2_ii, ap_dIf, ap_dB, iGe_ii, p7, asB_bl, decide_eq_false h, Bool.false_eq_true, if_false, ap_dEnd]
theorem source_ok (ns : List Int) (hl : ns.length ≤ 900) : ∃ s, r__law_source [.scr ns] = .ok s none ∧ Src 0 s := by
  obtain ⟨r', e, mix, digs, c, z, rfl, hd, h0, h1⟩ := loop_inv (g := gSet 3) (b := (dSeq (dSet 1 (d2 iMod (d2 iAdd (d2 iMul (dVar 1) (dI 1000033)) (dVar 3)) (d2 iSub (d2 iPow (dI 2) (dI 61)) (dI 1))))
      (dSeq (dSet 4 (dN pMax2 (dCons (dVar 3) (dCons (d2 iSub (dI 0) (dVar 3)) dNil))))
      (dIf (dB (d2 iGe (dVar 4) (d2 iPow (dI 10) (dI 18)))) (dExpr (dMut 2 hAppend (dCons (d2 iSub (dVar 4) (d2 iPow (dI 10) (dI 18))) dNil))) dEnd))))
    (fun i r => ∃ (mix : Int) (digs : List Int) (c z : Option D), r = [some (.scr ns), some (.int mix), some (iL digs), c, z] ∧ digs.length ≤ i ∧ 0 ≤ mix ∧ mix < 2 ^ 61) (ns.map D.int) 0
    [some (.scr ns), some (.int 271828182845904), some (.lst []), none, none] ⟨_, [], none, none, rfl, Nat.le_refl _, by decide, by decide⟩ (by
      rintro i d r hd ⟨mix, digs, c, z, rfl, hl2, h0, h1⟩
      have hi : i < ns.length := by
        have := (List.getElem?_eq_some_iff.mp hd).1
        rwa [List.length_map] at this
      rw [List.getElem?_map, List.getElem?_eq_getElem hi] at hd
      cases hd
      obtain ⟨mix', digs', sz, g0, g1, g2, e⟩ := src_body mix ns[i] [] digs (some (.scr ns)) z (by omega)
      exact ⟨_, _, rfl, .inl e, mix', digs', _, _, rfl, by omega, g0, g1⟩)
  refine ⟨.lst [iL digs, .int 0, .int mix, .int 0], ?_, digs, 0, mix, 0, rfl, ?_, h0, h1, Nat.le_refl _⟩
  · have e' := e
    simp only [r__law_source, runF, d__law_source, List.length_cons, List.length_nil, List.map_cons, List.map_nil]
    simp [e', lstD]
  · rw [List.length_map] at hd; omega
theorem wait_ok {n : Nat} {s : D} (hs : Src n s) (hn : n ≤ 900000000) : ∃ v s', r__law_wait_drawn [s] = .ok (.int v) (some s') ∧ 0 ≤ v ∧ Src (n + 4) s' := by
  obtain ⟨v1, s1, e1, a1, b1, hs1⟩ := draw_ok hs (many := 3) (by decide) (by decide) (by omega)
  obtain ⟨v2, s2, e2, a2, b2, hs2⟩ := draw_ok hs1 (many := 100) (by decide) (by decide) (by omega)
  obtain ⟨v3, s3, e3, a3, b3, hs3⟩ := draw_ok hs2 (many := 9) (by decide) (by decide) (by omega)
  obtain ⟨v4, s4, e4, a4, b4, hs4⟩ := draw_ok hs3 (many := 5) (by decide) (by decide) (by omega)
  have p7 : iPow (.int 10) (.int 12) = some (.int 1000000000000) := iPow_10_12
  have hx : ∃ w, pIx (.lst [.int 0, .int 1, .int v1, .int v2, .int (999999999999 - v3)]) (.int v4) = some (.int w) ∧ 0 ≤ w := by
    have : v4 = 0 ∨ v4 = 1 ∨ v4 = 2 ∨ v4 = 3 ∨ v4 = 4 := by omega
    rcases this with h | h | h | h | h <;> subst h
    · exact ⟨0, rfl, by decide⟩
    · exact ⟨1, rfl, by decide⟩
    · exact ⟨v1, rfl, a1⟩
    · exact ⟨v2, rfl, a2⟩
    · exact ⟨_, rfl, by omega⟩
  obtain ⟨w, hw, h0⟩ := hx
  refine ⟨w, s4, ?_, h0, hs4⟩
  simp only [r__law_wait_drawn, runF, d__law_wait_drawn, List.length_cons, List.length_nil, List.map_cons, List.map_nil]
  simp [e1, e2, e3, e4, p7, hw, lstD]
/-- a policy: a list of ints, none below 0 -/
def Pol (m : Nat) (d : D) : Prop := ∃ ws : List Int, d = iL ws ∧ ws.length ≤ m ∧ ∀ w ∈ ws, 0 ≤ w
theorem rng1_ok {j : Int} (h0 : 0 ≤ j) (h : j < 1000000) : rng1 [.int j] = some (rngD 0 j.toNat) := by
  unfold rng1
  exact if_pos (by omega)
theorem rngD_at {lo : Int} {n i : Nat} {d : D} (h : (rngD lo n)[i]? = some d) : d = .int (lo + (i : Nat)) ∧ i < n := by
  refine ⟨rngD_get h, ?_⟩
  have := (List.getElem?_eq_some_iff.mp h).1
  rwa [rngD_len] at this
theorem all_snoc {ws : List Int} {w : Int} (h : ∀ x ∈ ws, 0 ≤ x) (hw : 0 ≤ w) : ∀ x ∈ ws ++ [w], 0 ≤ x := fun x hx => by
  rcases List.mem_append.mp hx with h1 | h1
  · exact h x h1
  · rw [List.mem_singleton.mp h1]; exact hw
theorem policy_ok {n : Nat} {s : D} (hs : Src n s) {most : Nat} (hm : most ≤ 1000) (hn : n ≤ 500000000) : ∃ ws s', r__law_policy [s, .int most] = .ok (iL ws) (some s') ∧ ws.length ≤ most ∧ (∀ w ∈ ws, 0 ≤ w) ∧ Src (n + 5014) s' := by
  -- kinds
  obtain ⟨v1, s1, e1, a1, b1, hs1⟩ := draw_ok hs (many := 3) (by decide) (by decide) (by omega)
  obtain ⟨out, r', ec, ks, s2, z3, rfl, rfl, hk, hkl, hs2⟩ := comp_inv (vs := [4]) (g := gSet 4) (ts := dTrue) (fe := dCallIo 0 1 r__law_wait_drawn dNil)
    (fun i acc r => ∃ (ks : List Int) (s2 : D) (z3 : Option D), acc = ks.map D.int ∧ r = [some s2, some (.int most), none, z3, none] ∧ (∀ w ∈ ks, 0 ≤ w) ∧ ks.length = i ∧ Src (n + 1 + 4 * i) s2) (rngD 0 (1 + v1).toNat) 0 [] [some s1, some (.int most), none, none, none]
    ⟨[], s1, none, rfl, rfl, fun w h => (nomatch h), rfl, hs1⟩ (by
      rintro i d acc r hd ⟨ks, s2, z3, rfl, rfl, hk, hkl, hs2⟩
      obtain ⟨rfl, hi⟩ := rngD_at hd
      obtain ⟨v, s3, e, h0, hs3⟩ := wait_ok hs2 (by omega)
      refine ⟨_, rfl, .inr ⟨_, .int v, [some s3, some (.int most), none, z3, some (.int (0 + (i : Nat)))], rfl, ?_, ks ++ [v], s3, z3, by simp, by simp, all_snoc hk h0, by simp; omega, hs3.mono (by omega)⟩⟩
      simp [e])
  rw [rngD_len] at hkl hs2
  have hk1 : 0 < ks.length := by omega
  -- how many
  obtain ⟨v2, s3, e3, a3, b3, hs3⟩ := draw_ok hs2 (many := (most : Int) + 1) (by omega) (divOk_s (by omega) (by omega)) (by omega)
  obtain ⟨r2, el, ws, s4, z4, rfl, hw, hwl, hs4⟩ := loop_inv (g := gSet 4)
    (b := dExpr (dMut 3 hAppend (dCons (dIfE (dB (d2 iGt (dCallIo 0 2 r__law_draw (dCons (dI 4) dNil)) (dI 0))) (d2 pIx (dVar 2) (dCallIo 0 2 r__law_draw (dCons (dN pLen (dCons (dVar 2) dNil)) dNil))) (dCallIo 0 1 r__law_wait_drawn dNil)) dNil)))
    (fun i r => ∃ (ws : List Int) (s4 : D) (z4 : Option D), r = [some s4, some (.int most), some (iL ks), some (iL ws), z4] ∧ (∀ w ∈ ws, 0 ≤ w) ∧ ws.length = i ∧ Src (n + 14 + 5 * i) s4) (rngD 0 v2.toNat) 0 [some s3, some (.int most), some (iL ks), some (.lst []), none]
    ⟨[], s3, none, rfl, fun w h => (nomatch h), rfl, hs3.mono (by omega)⟩ (by
      rintro i d r hd ⟨ws, s4, z4, rfl, hw, hwl, hs4⟩
      obtain ⟨rfl, hi⟩ := rngD_at hd
      obtain ⟨v5, s5, e5, a5, b5, hs5⟩ := draw_ok hs4 (many := 4) (by decide) (by decide) (by omega)
      have happ : ∀ w : Int, hAppend (ws.map D.int) [.int w] = some (.non, (ws ++ [w]).map D.int) := fun w => by
        rw [hAppend_ok (by rw [List.length_map]; omega), List.map_append]; rfl
      by_cases h5 : 0 < v5
      · obtain ⟨v6, s6, e6, a6, b6, hs6⟩ := draw_ok hs5 (many := (ks.length : Int)) (by omega) (divOk_s (by omega) (by omega)) (by omega)
        have hx : v6.toNat < ks.length := by omega
        have ex : pIx (iL ks) (.int v6) = some (.int ks[v6.toNat]) := pIx_int a6 (by rw [List.getElem?_map, List.getElem?_eq_getElem hx]; rfl)
        refine ⟨_, [some s6, some (.int most), some (iL ks), some (iL (ws ++ [ks[v6.toNat]])), some (.int (0 + (i : Nat)))], rfl, .inl ?_, ws ++ [ks[v6.toNat]], s6, _, rfl, all_snoc hw (hk _ (List.getElem_mem hx)), by simp; omega, hs6.mono (by omega)⟩
        simp [e5, h5, e6, ex, happ]
      · obtain ⟨v6, s6, e6, a6, hs6⟩ := wait_ok hs5 (by omega)
        refine ⟨_, [some s6, some (.int most), some (iL ks), some (iL (ws ++ [v6])), some (.int (0 + (i : Nat)))], rfl, .inl ?_, ws ++ [v6], s6, _, rfl, all_snoc hw a6, by simp; omega, hs6.mono (by omega)⟩
        simp [e5, h5, e6, happ])
  rw [rngD_len] at hwl hs4
  refine ⟨ws, s4, ?_, by omega, hw, hs4.mono (by omega)⟩
  have r1 : rng1 [.int (1 + v1)] = some (rngD 0 (1 + v1).toNat) := rng1_ok (by omega) (by omega)
  have r2 : rng1 [.int v2] = some (rngD 0 v2.toNat) := rng1_ok (by omega) (by omega)
  have l1 : (rngD 0 (1 + v1).toNat).length ≤ 100000 := by rw [rngD_len]; omega
  simp only [r__law_policy, runF, d__law_policy, List.length_cons, List.length_nil, List.map_cons, List.map_nil]
  simp [e1, r1, l1, ec, e3, r2, el]
end FA

/-! FP: drawn waits and policies, with their bound; the repr of a nesting -/
namespace FP
open PySem PySem.Spec VL PG MP FA
def Wt (w : Int) : Prop := 0 ≤ w ∧ w < 2 ^ 40
theorem snoc_w {ws : List Int} {w : Int} (h : ∀ x ∈ ws, Wt x) (hw : Wt w) : ∀ x ∈ ws ++ [w], Wt x := fun x hx => by
  rcases List.mem_append.mp hx with h1 | h1
  · exact h x h1
  · rw [List.mem_singleton.mp h1]; exact hw
theorem wait_b {n : Nat} {s : D} (hs : Src n s) (hn : n ≤ 900000000) : ∃ v s', r__law_wait_drawn [s] = .ok (.int v) (some s') ∧ Wt v ∧ Src (n + 4) s' := by
  obtain ⟨v1, s1, e1, a1, b1, hs1⟩ := draw_ok hs (many := 3) (by decide) (by decide) (by omega)
  obtain ⟨v2, s2, e2, a2, b2, hs2⟩ := draw_ok hs1 (many := 100) (by decide) (by decide) (by omega)
  obtain ⟨v3, s3, e3, a3, b3, hs3⟩ := draw_ok hs2 (many := 9) (by decide) (by decide) (by omega)
  obtain ⟨v4, s4, e4, a4, b4, hs4⟩ := draw_ok hs3 (many := 5) (by decide) (by decide) (by omega)
  have p7 : iPow (.int 10) (.int 12) = some (.int 1000000000000) := iPow_10_12
  have hx : ∃ w, pIx (.lst [.int 0, .int 1, .int v1, .int v2, .int (999999999999 - v3)]) (.int v4) = some (.int w) ∧ Wt w := by
    have : v4 = 0 ∨ v4 = 1 ∨ v4 = 2 ∨ v4 = 3 ∨ v4 = 4 := by omega
    rcases this with h | h | h | h | h <;> subst h
    · exact ⟨0, rfl, by unfold Wt; omega⟩
    · exact ⟨1, rfl, by unfold Wt; omega⟩
    · exact ⟨v1, rfl, by unfold Wt; omega⟩
    · exact ⟨v2, rfl, by unfold Wt; omega⟩
    · exact ⟨_, rfl, by unfold Wt; omega⟩
  obtain ⟨w, hw, h0⟩ := hx
  refine ⟨w, s4, ?_, h0, hs4⟩
  simp only [r__law_wait_drawn, runF, d__law_wait_drawn, List.length_cons, List.length_nil, List.map_cons, List.map_nil]
  simp [e1, e2, e3, e4, p7, hw, lstD]
theorem policy_b {n : Nat} {s : D} (hs : Src n s) {most : Nat} (hm : most ≤ 1000) (hn : n ≤ 500000000) : ∃ ws s', r__law_policy [s, .int most] = .ok (iL ws) (some s') ∧ ws.length ≤ most ∧ (∀ w ∈ ws, Wt w) ∧ Src (n + 5014) s' := by
  -- kinds
  obtain ⟨v1, s1, e1, a1, b1, hs1⟩ := draw_ok hs (many := 3) (by decide) (by decide) (by omega)
  obtain ⟨out, r', ec, ks, s2, z3, rfl, rfl, hk, hkl, hs2⟩ := comp_inv (vs := [4]) (g := gSet 4) (ts := dTrue) (fe := dCallIo 0 1 r__law_wait_drawn dNil)
    (fun i acc r => ∃ (ks : List Int) (s2 : D) (z3 : Option D), acc = ks.map D.int ∧ r = [some s2, some (.int most), none, z3, none] ∧ (∀ w ∈ ks, Wt w) ∧ ks.length = i ∧ Src (n + 1 + 4 * i) s2) (rngD 0 (1 + v1).toNat) 0 [] [some s1, some (.int most), none, none, none]
    ⟨[], s1, none, rfl, rfl, fun w h => (nomatch h), rfl, hs1⟩ (by
      rintro i d acc r hd ⟨ks, s2, z3, rfl, rfl, hk, hkl, hs2⟩
      obtain ⟨rfl, hi⟩ := rngD_at hd
      obtain ⟨v, s3, e, h0, hs3⟩ := wait_b hs2 (by omega)
      refine ⟨_, rfl, .inr ⟨_, .int v, [some s3, some (.int most), none, z3, some (.int (0 + (i : Nat)))], rfl, ?_, ks ++ [v], s3, z3, by simp, by simp, snoc_w hk h0, by simp; omega, hs3.mono (by omega)⟩⟩
      simp [e])
  rw [rngD_len] at hkl hs2
  have hk1 : 0 < ks.length := by omega
  -- how many
  obtain ⟨v2, s3, e3, a3, b3, hs3⟩ := draw_ok hs2 (many := (most : Int) + 1) (by omega) (divOk_s (by omega) (by omega)) (by omega)
  obtain ⟨r2, el, ws, s4, z4, rfl, hw, hwl, hs4⟩ := loop_inv (g := gSet 4)
    (b := dExpr (dMut 3 hAppend (dCons (dIfE (dB (d2 iGt (dCallIo 0 2 r__law_draw (dCons (dI 4) dNil)) (dI 0))) (d2 pIx (dVar 2) (dCallIo 0 2 r__law_draw (dCons (dN pLen (dCons (dVar 2) dNil)) dNil))) (dCallIo 0 1 r__law_wait_drawn dNil)) dNil)))
    (fun i r => ∃ (ws : List Int) (s4 : D) (z4 : Option D), r = [some s4, some (.int most), some (iL ks), some (iL ws), z4] ∧ (∀ w ∈ ws, Wt w) ∧ ws.length = i ∧ Src (n + 14 + 5 * i) s4) (rngD 0 v2.toNat) 0 [some s3, some (.int most), some (iL ks), some (.lst []), none]
    ⟨[], s3, none, rfl, fun w h => (nomatch h), rfl, hs3.mono (by omega)⟩ (by
      rintro i d r hd ⟨ws, s4, z4, rfl, hw, hwl, hs4⟩
      obtain ⟨rfl, hi⟩ := rngD_at hd
      obtain ⟨v5, s5, e5, a5, b5, hs5⟩ := draw_ok hs4 (many := 4) (by decide) (by decide) (by omega)
      have happ : ∀ w : Int, hAppend (ws.map D.int) [.int w] = some (.non, (ws ++ [w]).map D.int) := fun w => by
        rw [hAppend_ok (by rw [List.length_map]; omega), List.map_append]; rfl
      by_cases h5 : 0 < v5
      · obtain ⟨v6, s6, e6, a6, b6, hs6⟩ := draw_ok hs5 (many := (ks.length : Int)) (by omega) (divOk_s (by omega) (by omega)) (by omega)
        have hx : v6.toNat < ks.length := by omega
        have ex : pIx (iL ks) (.int v6) = some (.int ks[v6.toNat]) := pIx_int a6 (by rw [List.getElem?_map, List.getElem?_eq_getElem hx]; rfl)
        refine ⟨_, [some s6, some (.int most), some (iL ks), some (iL (ws ++ [ks[v6.toNat]])), some (.int (0 + (i : Nat)))], rfl, .inl ?_, ws ++ [ks[v6.toNat]], s6, _, rfl, snoc_w hw (hk _ (List.getElem_mem hx)), by simp; omega, hs6.mono (by omega)⟩
        simp [e5, h5, e6, ex, happ]
      · obtain ⟨v6, s6, e6, a6, hs6⟩ := wait_b hs5 (by omega)
        refine ⟨_, [some s6, some (.int most), some (iL ks), some (iL (ws ++ [v6])), some (.int (0 + (i : Nat)))], rfl, .inl ?_, ws ++ [v6], s6, _, rfl, snoc_w hw a6, by simp; omega, hs6.mono (by omega)⟩
        simp [e5, h5, e6, happ])
  rw [rngD_len] at hwl hs4
  refine ⟨ws, s4, ?_, by omega, hw, hs4.mono (by omega)⟩
  have r1 : rng1 [.int (1 + v1)] = some (rngD 0 (1 + v1).toNat) := rng1_ok (by omega) (by omega)
  have r2 : rng1 [.int v2] = some (rngD 0 v2.toNat) := rng1_ok (by omega) (by omega)
  have l1 : (rngD 0 (1 + v1).toNat).length ≤ 100000 := by rw [rngD_len]; omega
  simp only [r__law_policy, runF, d__law_policy, List.length_cons, List.length_nil, List.map_cons, List.map_nil]
  simp [e1, r1, l1, ec, e3, r2, el]

/-- small waits, not too many -/
def WB : Ly → Prop
  | .lst ws => (∀ w ∈ ws, w < 2 ^ 40) ∧ ws.length ≤ 1000
  | .con w _ => w < 2 ^ 40
theorem repr_b (ls : List Ly) (ok : ∀ l ∈ ls, l.Ok) (hw : ∀ l ∈ ls, WB l) (hl : ls.length ≤ 100) : pRepr [Ns ls] = some (.str (reprD (Ns ls))) := by
  refine repr_lst ?_ ?_ ?_
  · show shDL 63 (ls.map Ly.d) = true
    refine shDL_of _ _ fun d hd => ?_
    obtain ⟨l, hm, rfl⟩ := List.mem_map.mp hd
    cases l with
    | lst ws => exact shD_ints 62 ws
    | con w s => rfl
  · show smL (ls.map Ly.d) = true
    refine smL_of _ fun d hd => ?_
    obtain ⟨l, hm, rfl⟩ := List.mem_map.mp hd
    have o := ok l hm
    have w := hw l hm
    cases l with
    | lst ws =>
      show smL (ws.map D.int) = true
      refine smL_of _ fun d hd => ?_
      obtain ⟨i, hi, rfl⟩ := List.mem_map.mp hd
      have h1 := o.1 i hi
      have h2 := w.1 i hi
      have h3 := log2_lt (i := i) (n := 40) (by omega) (by omega)
      exact decide_eq_true (by omega)
    | con a s =>
      have h1 : 0 ≤ a ∧ 1 ≤ s ∧ s < 2 ^ 70 := o
      have h2 : a < 2 ^ 40 := w
      have h3 := log2_lt (i := a) (n := 40) (by omega) (by omega)
      have h4 := log2_lt (i := s) (n := 70) (by omega) (by omega)
      show (decide (a.natAbs.log2 < 80) && (decide (s.natAbs.log2 < 80) && true)) = true
      rw [decide_eq_true (by omega), decide_eq_true (by omega)]
      rfl
  · have h1 := wtL_le (n := 103000) (ls.map Ly.d) fun d hd => by
      obtain ⟨l, hm, rfl⟩ := List.mem_map.mp hd
      have w := hw l hm
      cases l with
      | lst ws =>
        have h2 := wtL_le (n := 100) (ws.map D.int) fun d hd => by
          obtain ⟨i, hi, rfl⟩ := List.mem_map.mp hd
          exact Nat.le_refl _
        rw [List.length_map] at h2
        have h3 : ws.length ≤ 1000 := w.2
        show 4 + wtL (ws.map D.int) ≤ 103000
        omega
      | con a s => show 4 + (100 + 2 + (100 + 2 + 0)) ≤ 103000; omega
    rw [List.length_map] at h1
    show 4 + wtL (ls.map Ly.d) ≤ 16000000
    omega
end FP

/-! FSm: the law's comparison of two values, at equal ones -/
namespace FSm
open PySem PySem.Spec VL
noncomputable def d__law_same (rc : List D → DR) : Rho → SO := dSeq (dIf (dB (d2 pIs (dVar 1) dNon)) (dRet (d2 pIs (dVar 0) dNon)) dEnd)
  (dSeq (dIf (dB (dN pIsi (dCons (dVar 1) (dCons (dTy "bool") dNil)))) (dRet (dAnd (dN pIsi (dCons (dVar 0) (dCons (dTy "bool") dNil))) (d2 qEq (dVar 0) (dVar 1)))) dEnd)
  (dSeq (dIf (dB (dN pIsi (dCons (dVar 1) (dCons (dTy "int") dNil)))) (dRet (dAnd (dN pIsi (dCons (dVar 0) (dCons (dTy "int") dNil))) (dAnd (dNot (dN pIsi (dCons (dVar 0) (dCons (dTy "bool") dNil)))) (d2 qEq (dVar 0) (dVar 1))))) dEnd)
  (dSeq (dIf (dB (dN pIsi (dCons (dVar 1) (dCons (dTy "str") dNil)))) (dRet (dAnd (dN pIsi (dCons (dVar 0) (dCons (dTy "str") dNil))) (d2 qEq (dVar 0) (dVar 1)))) dEnd)
  (dSeq (dIf (dB (d2 qNe (dN pIsi (dCons (dVar 0) (dCons (dTy "list") dNil))) (dN pIsi (dCons (dVar 1) (dCons (dTy "list") dNil))))) (dRet (dBl false)) dEnd)
  (dSeq (dIf (dOrB (dB (d2 qNe (dN pIsi (dCons (dVar 0) (dCons (dTy "tuple") dNil))) (dN pIsi (dCons (dVar 1) (dCons (dTy "tuple") dNil))))) (dB (d2 qNe (dN pLen (dCons (dVar 0) dNil)) (dN pLen (dCons (dVar 1) dNil))))) (dRet (dBl false)) dEnd)
  (dRet (d2 qEq (lcD [2] (dIt rng1 (dCons (dN pLen (dCons (dVar 1) dNil)) dNil)) (gSet 2) (dNotB (dB (dFn 2 rc (dCons (d2 pIx (dVar 0) (dVar 2)) (dCons (d2 pIx (dVar 1) (dVar 2)) dNil))))) (dVar 2)) (dLst dNil))))))))
noncomputable def r__law_same : Nat → List D → DR
  | 0 => fun _ => .no
  | n + 1 => runF none 3 2 (d__law_same (r__law_same n))
def Sm : Nat → D → Prop
  | _, .non => True
  | _, .bl _ => True
  | _, .int _ => True
  | _, .str _ => True
  | n + 1, .lst xs => xs.length ≤ 100000 ∧ ∀ x ∈ xs, Sm n x
  | n + 1, .tup xs => xs.length ≤ 100000 ∧ ∀ x ∈ xs, Sm n x
  | _, _ => False
open L2 (kitB)
@[simp] theorem ki_int_bool : kitB "int" "bool" = some false := by decide +kernel
@[simp] theorem ki_int_int : kitB "int" "int" = some true := by decide +kernel
@[simp] theorem ki_int_str : kitB "int" "str" = some false := by decide +kernel
@[simp] theorem ki_int_list : kitB "int" "list" = some false := by decide +kernel
@[simp] theorem ki_int_tuple : kitB "int" "tuple" = some false := by decide +kernel
@[simp] theorem ki_bool_bool : kitB "bool" "bool" = some true := by decide +kernel
@[simp] theorem ki_bool_int : kitB "bool" "int" = some true := by decide +kernel
@[simp] theorem ki_bool_str : kitB "bool" "str" = some false := by decide +kernel
@[simp] theorem ki_bool_list : kitB "bool" "list" = some false := by decide +kernel
@[simp] theorem ki_bool_tuple : kitB "bool" "tuple" = some false := by decide +kernel
@[simp] theorem ki_str_bool : kitB "str" "bool" = some false := by decide +kernel
@[simp] theorem ki_str_int : kitB "str" "int" = some false := by decide +kernel
@[simp] theorem ki_str_str : kitB "str" "str" = some true := by decide +kernel
@[simp] theorem ki_str_list : kitB "str" "list" = some false := by decide +kernel
@[simp] theorem ki_str_tuple : kitB "str" "tuple" = some false := by decide +kernel
@[simp] theorem ki_list_bool : kitB "list" "bool" = some false := by decide +kernel
@[simp] theorem ki_list_int : kitB "list" "int" = some false := by decide +kernel
@[simp] theorem ki_list_str : kitB "list" "str" = some false := by decide +kernel
@[simp] theorem ki_tuple_bool : kitB "tuple" "bool" = some false := by decide +kernel
@[simp] theorem ki_tuple_int : kitB "tuple" "int" = some false := by decide +kernel
@[simp] theorem ki_tuple_str : kitB "tuple" "str" = some false := by decide +kernel
@[simp] theorem isi_bl {a : Bool} {t : String} : pIsi [.bl a, .ty t] = (kitB "bool" t).map D.bl := (rfl)
@[simp] theorem isi_str {a : Str} {t : String} : pIsi [.str a, .ty t] = (kitB "str" t).map D.bl := (rfl)
theorem same_int (n : Nat) (i : Int) : r__law_same (n + 1) [.int i, .int i] = .ok (.bl true) none := by
  have q := qEq_int i i
  refine WD.eq ?_
  simp [r__law_same, d__law_same, q, pIs, isN]
theorem same_bl (n : Nat) (i : Bool) : r__law_same (n + 1) [.bl i, .bl i] = .ok (.bl true) none := by
  have q : qEq (.bl i) (.bl i) = some (.bl true) := by cases i <;> rfl
  refine WD.eq ?_
  simp [r__law_same, d__law_same, q, pIs, isN]
theorem same_non (n : Nat) : r__law_same (n + 1) [.non, .non] = .ok (.bl true) none := by
  refine WD.eq ?_
  simp [r__law_same, d__law_same, pIs, isN]
theorem same_str (n : Nat) (i : Str) : r__law_same (n + 1) [.str i, .str i] = .ok (.bl true) none := by
  have q : qEq (.str i) (.str i) = some (.bl true) := by simp [qEq, orD, pEqS]
  refine WD.eq ?_
  simp [r__law_same, d__law_same, q, pIs, isN]
theorem qNe_bl (a b : Bool) : qNe (.bl a) (.bl b) = some (.bl (a != b)) := by cases a <;> cases b <;> rfl
theorem qEq_nil : qEq (.lst []) (.lst []) = some (.bl true) := rfl
theorem same_lst (n : Nat) (xs : List D) (hl : xs.length ≤ 100000) (h : ∀ x ∈ xs, r__law_same n [x, x] = .ok (.bl true) none) : r__law_same (n + 1) [.lst xs, .lst xs] = .ok (.bl true) none := by
  have q1 := qNe_int (xs.length : Int) xs.length
  have rr : rng1 [.int (xs.length : Int)] = some (rngD 0 xs.length) := by
    have := FA.rng1_ok (j := (xs.length : Int)) (by omega) (by omega)
    rw [Int.toNat_natCast] at this
    exact this
  have rl : (rngD 0 xs.length).length ≤ 100000 := by rw [rngD_len]; exact hl
  refine WD.eq ?_
  simp [r__law_same, d__law_same, q1, pIs, isN, rr, rl, qNe_bl]
  refine WR_compR (fun j acc r => acc = [] ∧ r = [some (.lst xs), some (.lst xs), none]) ⟨rfl, rfl⟩ ?_ ?_
  · rintro j acc r hj ⟨rfl, rfl⟩
    have hx : pIx (.lst xs) (.int (j : Int)) = some xs[j] := pIx_int (by omega) (by rw [Int.toNat_natCast, List.getElem?_eq_getElem hj])
    have e := h xs[j] (List.getElem_mem hj)
    simp [hx, e]
  · rintro acc r ⟨rfl, rfl⟩
    simp [qEq_nil, lstD]
end FSm

/-! ST1: texts: replacing separators, the repr of a list of ints, joins -/
namespace ST
open PySem PySem.Spec VL L2 TL
open PySem.Builtin.Str (occurrences partsBetween glued)
theorem glued_one (z x : Str) : glued z [x] = x := rfl
/-- a replacement is a split and a join -/
theorem repl_split {x y z : Str} (hy : 0 < y.length) (hk : y.cps.all (· < 256) = true) : Txt.replace x y z = Txt.join z (Txt.split x y) := by
  have h10 : (y.length == 0) = false := by simp; omega
  unfold Txt.replace
  rw [h10, Bool.false_and, Bool.or_false]
  cases he : (occurrences x y 0 x.length (x.length + 1)).isEmpty
  · rw [if_neg Bool.false_ne_true]
    have hc : ¬ (decide (x.length < y.length) || decide (Builtin.Str.strKind x < Builtin.Str.strKind y)) = true := by
      obtain ⟨f, h⟩ := PySem.StrLaws.occ_chain x y (x.length + 1)
      cases ho : occurrences x y 0 x.length (x.length + 1) with
      | nil => rw [ho] at he; exact absurd he (by simp)
      | cons i r =>
        rw [ho] at h
        have h1 : i + y.length ≤ x.length := h.2.1.1
        rw [Bool.or_eq_true, decide_eq_true_eq, decide_eq_true_eq]
        rintro (h | h)
        · omega
        · exact kind_ok hk h
    unfold Txt.split
    rw [if_neg hc, he, if_neg Bool.false_ne_true]
    rfl
  · rw [if_pos rfl]
    unfold Txt.split
    split
    · rfl
    · rfl
theorem repl_join {y z : Str} {s : Nat} {S : List Nat} (ey : tl y = s :: S) (hk : y.cps.all (· < 256) = true) {parts : List Str} (hne : parts ≠ []) (hp : ∀ p ∈ parts, s ∉ tl p) : Txt.replace (Txt.join y parts) y z = Txt.join z parts := by
  have hy : 0 < y.length := by
    show 0 < y.cps.size
    have : y.cps.toList.length = (s :: S).length := congrArg List.length ey
    rw [Array.length_toList] at this
    rw [this]; simp
  rw [repl_split hy hk, TL.split_join ey hk hne hp]
theorem join_snoc (y x : Str) : ∀ parts : List Str, parts ≠ [] → Str.join y (parts ++ [x]) = Str.join y parts ++ y ++ x
  | [], h => absurd rfl h
  | [p], _ => rfl
  | p :: q :: r, _ => by
    show p ++ y ++ Str.join y (q :: r ++ [x]) = p ++ y ++ Str.join y (q :: r) ++ y ++ x
    rw [join_snoc y x (q :: r) (by simp)]
    simp only [PySem.Str.append_assoc]
theorem toPyL_ints : ∀ ws : List Int, toPyL (ws.map D.int) = ws.map PyData.int
  | [] => rfl
  | w :: ws => by show toPy (.int w) :: toPyL (ws.map D.int) = _; rw [toPyL_ints ws]; rfl
def itx (i : Int) : Str := ((toString i : String) : Str)
theorem repr_ints (ws : List Int) : reprD (iL ws) = ("[" : Str) ++ Str.join ", " (ws.map itx) ++ "]" := by
  show (toPy (.lst (ws.map D.int))).shown = _
  rw [show toPy (.lst (ws.map D.int)) = .list (ws.map PyData.int) by show PyData.list (toPyL (ws.map D.int)) = _; rw [toPyL_ints], PyData.shown_list, PyData.shownAll_ints]
  rfl
theorem cut_mid (J : Str) : cutS (("[" : Str) ++ J ++ "]") (some 1) (some (-1)) = J := by
  have e : (("[" : Str) ++ J ++ "]").cps.toList = 91 :: (J.cps.toList ++ [93]) := by
    rw [PySem.Str.cps_append, PySem.Str.cps_append, Array.toList_append, Array.toList_append]
    rfl
  have hl : (("[" : Str) ++ J ++ "]").length = J.length + 2 := by
    show (("[" : Str) ++ J ++ "]").cps.size = J.cps.size + 2
    rw [← Array.length_toList, e]
    simp
  unfold cutS
  rw [e, hl]
  have s1 : HT.sIx (J.length + 2) 0 (some 1) = 1 := (HT.sIx_nat (J.length + 2) 0 1).trans (by omega)
  have s2 : HT.sIx (J.length + 2) (J.length + 2) (some (-1)) = J.length + 1 := by
    have : HT.sIx (J.length + 2) (J.length + 2) (some (-1)) = ((-1 : Int) + ((J.length + 2 : Nat) : Int)).toNat := by
      unfold HT.sIx
      exact if_pos (by decide)
    rw [this]
    omega
  rw [s1, s2]
  show Str.mk ((J.cps.toList ++ [93]).take (J.length + 1 - 1)).toArray = J
  rw [Nat.add_sub_cancel, List.take_append_of_le_length (by rw [Array.length_toList]; exact Nat.le_refl _), List.take_of_length_le (by rw [Array.length_toList]; exact Nat.le_refl _)]
theorem itx_free (i : Int) : 44 ∉ tl (itx i) := by
  have := PyProof.Rows.shown_int_free' (k := 44) ⟨by decide, by decide⟩ i
  rw [PyData.shown_int] at this
  exact this
/-- the text of a list of waits, its brackets off, its separators tight -/
theorem tight (ws : List Int) (h : ws ≠ []) : Txt.replace (cutS (reprD (iL ws)) (some 1) (some (-1))) ", " "," = Txt.join "," (ws.map itx) := by
  rw [repr_ints, cut_mid, ← TL.join_eq]
  refine repl_join (s := 44) (S := [32]) (by decide +kernel) (by decide +kernel) (fun z => h (List.map_eq_nil_iff.mp z)) fun p hp => ?_
  obtain ⟨i, _, rfl⟩ := List.mem_map.mp hp
  exact itx_free i
theorem tight_nil : Txt.replace (cutS (reprD (iL [])) (some 1) (some (-1))) ", " "," = Str.empty := by
  rw [repr_ints, cut_mid]
  decide +kernel
theorem numL_len : ∀ (k n : Nat), n < 10 ^ (k + 1) → (numL n).length ≤ k + 1
  | 0, n, h => by rw [numL_lt (by simpa using h)]; simp
  | k + 1, n, h => by
    by_cases c : n < 10
    · rw [numL_lt c]; simp
    · rw [numL_step (by omega), List.length_append]
      have := numL_len k (n / 10) (by
        have e : (10 : Nat) ^ (k + 1 + 1) = 10 ^ (k + 1) * 10 := rfl
        rw [e] at h
        exact Nat.div_lt_of_lt_mul (by rw [Nat.mul_comm]; exact h))
      simp only [List.length_cons, List.length_nil]
      omega
theorem itx_len {i : Int} (h0 : 0 ≤ i) (h1 : i < 10 ^ 30) : (itx i).length ≤ 30 := by
  obtain ⟨n, rfl⟩ := Int.eq_ofNat_of_zero_le h0
  have e := tl_num n
  have l := numL_len 29 n (by have : ((10 : Int) ^ 30) = ((10 ^ 30 : Nat) : Int) := rfl; omega)
  show (itx (n : Int)).cps.size ≤ 30
  rw [← Array.length_toList]
  have e : (itx (n : Int)).cps.toList = numL n := e
  rw [e]
  exact l
theorem itx_ne (i : Int) (h0 : 0 ≤ i) : itx i ≠ Str.empty := by
  obtain ⟨n, rfl⟩ := Int.eq_ofNat_of_zero_le h0
  intro z
  have e : (itx (n : Int)).cps.toList = numL n := tl_num n
  rw [z] at e
  have : (numL n).length = 0 := by rw [← e]; rfl
  by_cases c : n < 10
  · rw [numL_lt c] at this; cases this
  · rw [numL_step (by omega), List.length_append] at this
    simp at this
end ST

namespace Lk43
open PySem PySem.Spec PyProof.Rows L2 VL
def topS (i : Nat) : Stmt := PySem.Challenge.pw_retrynest_k43_whole_texts_both_ways.main.body.getD i (.Pass ⟨0, 0, 0, 0⟩)
abbrev st__law_source : Stmt := topS 25
theorem sc__law_source : FnScope ["script", "mix", "digits", "cell", "size"] ["script"] (defScope st__law_source) := ⟨rfl, rfl, rfl, by decide +kernel, rfl, by decide +kernel, by decide +kernel⟩
abbrev st_layer_text : Stmt := topS 6
theorem sc_layer_text : FnScope ["layer", "wait"] ["layer"] (defScope st_layer_text) := ⟨rfl, rfl, rfl, by decide +kernel, rfl, by decide +kernel, by decide +kernel⟩
abbrev st_show_nesting : Stmt := topS 7
theorem sc_show_nesting : FnScope ["nesting", "layer"] ["nesting"] (defScope st_show_nesting) := ⟨rfl, rfl, rfl, by decide +kernel, rfl, by decide +kernel, by decide +kernel⟩
abbrev st_number_in : Stmt := topS 21
theorem sc_number_in : FnScope ["word", "sign"] ["word"] (defScope st_number_in) := ⟨rfl, rfl, rfl, by decide +kernel, rfl, by decide +kernel, by decide +kernel⟩
abbrev st_is_layer : Stmt := topS 13
theorem sc_is_layer : FnScope ["layer", "wait"] ["layer"] (defScope st_is_layer) := ⟨rfl, rfl, rfl, by decide +kernel, rfl, by decide +kernel, by decide +kernel⟩
abbrev st_layer_in : Stmt := topS 22
theorem sc_layer_in : FnScope ["word", "is_constant", "numbers", "layer", "part"] ["word"] (defScope st_layer_in) := ⟨rfl, rfl, rfl, by decide +kernel, rfl, by decide +kernel, by decide +kernel⟩
abbrev st_read_nesting : Stmt := topS 23
theorem sc_read_nesting : FnScope ["text", "found", "word"] ["text"] (defScope st_read_nesting) := ⟨rfl, rfl, rfl, by decide +kernel, rfl, by decide +kernel, by decide +kernel⟩
abbrev st__law_draw : Stmt := topS 26
theorem sc__law_draw : FnScope ["source", "many", "mixed", "drawn"] ["source", "many"] (defScope st__law_draw) := ⟨rfl, rfl, rfl, by decide +kernel, rfl, by decide +kernel, by decide +kernel⟩
abbrev st__law_number_drawn : Stmt := topS 28
theorem sc__law_number_drawn : FnScope ["source", "top"] ["source", "top"] (defScope st__law_number_drawn) := ⟨rfl, rfl, rfl, by decide +kernel, rfl, by decide +kernel, by decide +kernel⟩
abbrev st__law_any_nesting : Stmt := topS 29
theorem sc__law_any_nesting : FnScope ["source", "found", "k", "many", "numbers", "size", "one"] ["source"] (defScope st__law_any_nesting) := ⟨rfl, rfl, rfl, by decide +kernel, rfl, by decide +kernel, by decide +kernel⟩
abbrev st__law_same : Stmt := topS 27
theorem sc__law_same : FnScope ["found", "wanted", "k"] ["found", "wanted"] (defScope st__law_same) := ⟨rfl, rfl, rfl, by decide +kernel, rfl, by decide +kernel, by decide +kernel⟩
abbrev st_check_nesting : Stmt := topS 14
theorem sc_check_nesting : FnScope ["nesting", "index", "layer"] ["nesting"] (defScope st_check_nesting) := ⟨rfl, rfl, rfl, by decide +kernel, rfl, by decide +kernel, by decide +kernel⟩
abbrev st_size_of : Stmt := topS 15
theorem sc_size_of : FnScope ["layer"] ["layer"] (defScope st_size_of) := ⟨rfl, rfl, rfl, by decide +kernel, rfl, by decide +kernel, by decide +kernel⟩
abbrev st_total_of : Stmt := topS 16
theorem sc_total_of : FnScope ["nesting", "total", "layer"] ["nesting"] (defScope st_total_of) := ⟨rfl, rfl, rfl, by decide +kernel, rfl, by decide +kernel, by decide +kernel⟩
abbrev st_attempts : Stmt := topS 17
theorem sc_attempts : FnScope ["nesting"] ["nesting"] (defScope st_attempts) := ⟨rfl, rfl, rfl, by decide +kernel, rfl, by decide +kernel, by decide +kernel⟩
abbrev st_law : Stmt := topS 30
theorem sc_law : FnScope ["script", "source", "k", "some", "texts", "layers", "text", "found", "one", "other", "words", "both", "part"] ["script"] (defScope st_law) := ⟨rfl, rfl, rfl, by decide +kernel, rfl, by decide +kernel, by decide +kernel⟩
noncomputable def d__law_source : Rho → SO := dSeq (dSet 1 (dI 271828182845904))
  (dSeq (dSet 2 (dLst dNil))
  (dSeq (dFor (dItL (dVar 0)) (gSet 3) (dSeq (dSet 1 (d2 iMod (d2 iAdd (d2 iMul (dVar 1) (dI 1000033)) (dVar 3)) (d2 iSub (d2 iPow (dI 2) (dI 61)) (dI 1))))
  (dSeq (dSet 4 (dN pMax2 (dCons (dVar 3) (dCons (d2 iSub (dI 0) (dVar 3)) dNil))))
  (dIf (dB (d2 iGe (dVar 4) (d2 iPow (dI 10) (dI 18)))) (dExpr (dMut 2 hAppend (dCons (d2 iSub (dVar 4) (d2 iPow (dI 10) (dI 18))) dNil))) dEnd))))
  (dRet (dLst (dCons (dMv 2) (dCons (dI 0) (dCons (dUp (dVar 1)) (dCons (dI 0) dNil))))))))
noncomputable def r__law_source : List D → DR := runF none 5 1 d__law_source
noncomputable def d_layer_text : Rho → SO := dSeq (dIf (dB (dN pIsi (dCons (dVar 0) (dCons (dTy "tuple") dNil)))) (dRet (dJoin3 (d1 pFmt (d2 pIx (dVar 0) (dI 0))) (d1 pFmt (dK (.str "x"))) (d1 pFmt (d2 pIx (dVar 0) (dI 1))))) dEnd)
  (dRet (dIfE (dB (d2 qNe (dVar 0) (dLst dNil))) (d2 pJoinS (dK (.str ",")) (lcD [1] (dItL (dVar 0)) (gSet 1) dTrue (dN pStr (dCons (dVar 1) dNil)))) (dK (.str "-"))))
noncomputable def r_layer_text : List D → DR := runF none 2 1 d_layer_text
noncomputable def d_show_nesting : Rho → SO := dRet (dIfE (dB (d2 qNe (dVar 0) (dLst dNil))) (d2 pJoinS (dK (.str " / ")) (lcD [1] (dItL (dVar 0)) (gSet 1) dTrue (dFn 1 r_layer_text (dCons (dVar 1) dNil)))) (dK (.str "none")))
noncomputable def r_show_nesting : List D → DR := runF none 2 1 d_show_nesting
noncomputable def d_number_in : Rho → SO := dSeq (dIf (dOrB (dNotB (dB (chD iLe iLe (dI 1) (dN pLen (dCons (dVar 0) dNil)) (dK (.int 2000))))) (dNotB (dB (dN pAll (dCons (lcD [1] (dItS (dVar 0)) (gSet 1) dTrue (d2 (pInS false) (dVar 1) (dK (.str "0123456789")))) dNil))))) (dRet dNon) dEnd)
  (dRet (dIfE (dOrB (dB (d2 qEq (dVar 0) (dStr "0"))) (dB (d2 qNe (d2 pIxS (dVar 0) (dI 0)) (dStr "0")))) (dN pIntS (dCons (dVar 0) dNil)) dNon))
noncomputable def r_number_in : List D → DR := runF none 2 1 d_number_in
noncomputable def d_is_layer : Rho → SO := dSeq (dIf (dB (dN pIsi (dCons (dVar 0) (dCons (dTy "tuple") dNil)))) (dRet (dAnd (d2 iGe (d2 pIx (dVar 0) (dI 0)) (dI 0)) (d2 iGe (d2 pIx (dVar 0) (dI 1)) (dI 1)))) dEnd)
  (dRet (dN pAll (dCons (lcD [1] (dItL (dVar 0)) (gSet 1) dTrue (d2 iGe (dVar 1) (dI 0))) dNil)))
noncomputable def r_is_layer : List D → DR := runF none 2 1 d_is_layer
noncomputable def d_layer_in : Rho → SO := dSeq (dIf (dB (d2 qEq (dVar 0) (dK (.str "-")))) (dRet (dLst dNil)) dEnd)
  (dSeq (dSet 1 (d2 (pInS false) (dK (.str "x")) (dVar 0)))
  (dSeq (dSet 2 (lcD [4] (dItL (dSplit 0 (dIfE (dB (dVar 1)) (dK (.str "x")) (dK (.str ","))))) (gSet 4) dTrue (dFn 1 r_number_in (dCons (dVar 4) dNil))))
  (dSeq (dIf (dBorB (dOrB (dB (d2 pNoneIn dNon (dVar 2))) (dAndB (dB (dVar 1)) (dB (d2 qNe (dN pLen (dCons (dVar 2) dNil)) (dI 2)))))) (dRet dNon) dEnd)
  (dSeq (dSet 3 (dIfE (dB (dVar 1)) (d1 pTupOf (dVar 2)) (dVar 2)))
  (dRet (dIfE (dB (dFn 1 r_is_layer (dCons (dVar 3) dNil))) (dVar 3) dNon))))))
noncomputable def r_layer_in : List D → DR := runF none 5 1 d_layer_in
noncomputable def d_read_nesting : Rho → SO := dSeq (dIf (dB (d2 qEq (dVar 0) (dK (.str "none")))) (dRet (dLst dNil)) dEnd)
  (dSeq (dSet 1 (lcD [2] (dItL (dSplit 0 (dK (.str " / ")))) (gSet 2) dTrue (dFn 1 r_layer_in (dCons (dVar 2) dNil))))
  (dSeq (dIf (dBorB (dB (d2 pNoneIn dNon (dVar 1)))) dNo dEnd)
  (dRet (dVar 1))))
noncomputable def r_read_nesting : List D → DR := runF none 3 1 d_read_nesting
noncomputable def d__law_draw : Rho → SO := dSeq (whileD (dBorB (dAndB (dB (d2 iLt (d2 pIx (dVar 0) (dI 1)) (dI 2))) (dB (d2 qNe (d2 pIx (dVar 0) (dI 0)) (dLst dNil))))) (dSetIx 0 (dUp (dMutIx 0 0 hPopAt (dCons (dI 0) dNil))) (dI 1)) 1100)
  (dSeq (dIf (dBorB (dB (d2 iGe (d2 pIx (dVar 0) (dI 1)) (dI 2)))) (dSeq (dSet 3 (dBor 0 (d2 iMod (d2 pIx (dVar 0) (dI 1)) (dVar 1))))
  (dSeq (dSetIx 0 (dUp (dBor 0 (d2 iDiv (d2 pIx (dVar 0) (dI 1)) (dVar 1)))) (dI 1))
  (dRet (dVar 3)))) dEnd)
  (dSeq (dSetIx 0 (dUp (dBor 0 (d2 iAdd (d2 pIx (dVar 0) (dI 3)) (dI 1)))) (dI 3))
  (dSeq (dSet 2 (dBor 0 (d2 iMul (d2 iAdd (d2 pIx (dVar 0) (dI 2)) (dI 7)) (d2 iPow (d2 iAdd (d2 pIx (dVar 0) (dI 3)) (dI 3)) (dI 3)))))
  (dSeq (dSet 2 (dBor 0 (d2 iMod (d2 iAdd (dVar 2) (d2 iMul (dI 1000081) (d2 pIx (dVar 0) (dI 3)))) (d2 iSub (d2 iPow (dI 2) (dI 61)) (dI 1)))))
  (dRet (d2 iMod (d2 iDiv (d2 iMod (d2 iPow (dVar 2) (dI 5)) (d2 iAdd (d2 iPow (dI 10) (dI 18)) (dI 9))) (dI 128)) (dVar 1)))))))
noncomputable def r__law_draw : List D → DR := runF (some 2) 4 2 d__law_draw
noncomputable def d__law_number_drawn : Rho → SO := dRet (d2 pIx (dLst (dCons (dI 0) (dCons (d2 iAdd (dI 1) (dCallIo 0 2 r__law_draw (dCons (dI 9) dNil))) (dCons (dCallIo 0 2 r__law_draw (dCons (dVar 1) dNil)) (dCons (d2 iSub (dVar 1) (dI 1)) dNil))))) (dCallIo 0 2 r__law_draw (dCons (dI 4) dNil)))
noncomputable def r__law_number_drawn : List D → DR := runF (some 2) 2 2 d__law_number_drawn
noncomputable def d__law_any_nesting : Rho → SO := dSeq (dSet 1 (dLst dNil))
  (dSeq (dFor (dIt rng1 (dCons (dCallIo 0 2 r__law_draw (dCons (dI 9) dNil)) dNil)) (gSet 2) (dSeq (dSet 3 (dCallIo 0 2 r__law_draw (dCons (d2 pIx (dLst (dCons (dI 2) (dCons (dI 5) (dCons (dI 20) dNil)))) (dCallIo 0 2 r__law_draw (dCons (dI 3) dNil))) dNil)))
  (dSeq (dSet 4 (lcD [6] (dIt rng1 (dCons (dVar 3) dNil)) (gSet 6) dTrue (dCallIo 0 2 r__law_number_drawn (dCons (d2 iPow (dI 10) (dI 12)) dNil))))
  (dSeq (dSet 5 (dN pMax2 (dCons (dI 1) (dCons (dCallIo 0 2 r__law_number_drawn (dCons (d2 iPow (dI 10) (dI 20)) dNil)) dNil))))
  (dExpr (dMut 1 hAppend (dCons (d2 pIx (dLst (dCons (dVar 4) (dCons (dTup (dCons (dCallIo 0 2 r__law_number_drawn (dCons (d2 iPow (dI 10) (dI 12)) dNil)) (dCons (dVar 5) dNil))) dNil))) (dCallIo 0 2 r__law_draw (dCons (dI 2) dNil))) dNil)))))))
  (dRet (dVar 1)))
noncomputable def r__law_any_nesting : List D → DR := runF (some 2) 7 1 d__law_any_nesting
noncomputable def d__law_same (rc : List D → DR) : Rho → SO := dSeq (dIf (dB (d2 pIs (dVar 1) dNon)) (dRet (d2 pIs (dVar 0) dNon)) dEnd)
  (dSeq (dIf (dB (dN pIsi (dCons (dVar 1) (dCons (dTy "bool") dNil)))) (dRet (dAnd (dN pIsi (dCons (dVar 0) (dCons (dTy "bool") dNil))) (d2 qEq (dVar 0) (dVar 1)))) dEnd)
  (dSeq (dIf (dB (dN pIsi (dCons (dVar 1) (dCons (dTy "int") dNil)))) (dRet (dAnd (dN pIsi (dCons (dVar 0) (dCons (dTy "int") dNil))) (dAnd (dNot (dN pIsi (dCons (dVar 0) (dCons (dTy "bool") dNil)))) (d2 qEq (dVar 0) (dVar 1))))) dEnd)
  (dSeq (dIf (dB (dN pIsi (dCons (dVar 1) (dCons (dTy "str") dNil)))) (dRet (dAnd (dN pIsi (dCons (dVar 0) (dCons (dTy "str") dNil))) (d2 qEq (dVar 0) (dVar 1)))) dEnd)
  (dSeq (dIf (dB (d2 qNe (dN pIsi (dCons (dVar 0) (dCons (dTy "list") dNil))) (dN pIsi (dCons (dVar 1) (dCons (dTy "list") dNil))))) (dRet (dBl false)) dEnd)
  (dSeq (dIf (dOrB (dB (d2 qNe (dN pIsi (dCons (dVar 0) (dCons (dTy "tuple") dNil))) (dN pIsi (dCons (dVar 1) (dCons (dTy "tuple") dNil))))) (dB (d2 qNe (dN pLen (dCons (dVar 0) dNil)) (dN pLen (dCons (dVar 1) dNil))))) (dRet (dBl false)) dEnd)
  (dRet (d2 qEq (lcD [2] (dIt rng1 (dCons (dN pLen (dCons (dVar 1) dNil)) dNil)) (gSet 2) (dNotB (dB (dFn 2 rc (dCons (d2 pIx (dVar 0) (dVar 2)) (dCons (d2 pIx (dVar 1) (dVar 2)) dNil))))) (dVar 2)) (dLst dNil))))))))
noncomputable def r__law_same : Nat → List D → DR
  | 0 => fun _ => .no
  | n + 1 => runF none 3 2 (d__law_same (r__law_same n))
noncomputable def d_check_nesting : Rho → SO := dFor (dIt enumD (dCons (dVar 0) dNil)) (gTup 2 (gCons' (gSet 1) (gCons' (gSet 2) gNil'))) (dIf (dNotB (dB (dFn 1 r_is_layer (dCons (dVar 2) dNil)))) dNo dEnd)
noncomputable def r_check_nesting : List D → DR := runF none 3 1 d_check_nesting
noncomputable def d_size_of : Rho → SO := dRet (dIfE (dB (dN pIsi (dCons (dVar 0) (dCons (dTy "tuple") dNil)))) (d2 pIx (dVar 0) (dI 1)) (d2 iAdd (dN pLen (dCons (dVar 0) dNil)) (dI 1)))
noncomputable def r_size_of : List D → DR := runF none 1 1 d_size_of
noncomputable def d_total_of : Rho → SO := dSeq (dSet 1 (dI 1))
  (dSeq (dFor (dItL (dVar 0)) (gSet 2) (dAug 1 iMul (dFn 1 r_size_of (dCons (dVar 2) dNil))))
  (dRet (dVar 1)))
noncomputable def r_total_of : List D → DR := runF none 3 1 d_total_of
noncomputable def d_attempts : Rho → SO := dSeq (dExpr (dFn 1 r_check_nesting (dCons (dVar 0) dNil)))
  (dRet (dFn 1 r_total_of (dCons (dVar 0) dNil)))
noncomputable def r_attempts : List D → DR := runF none 1 1 d_attempts
noncomputable def d_law : Rho → SO := dSeq (dSet 1 (dFn 1 r__law_source (dCons (dVar 0) dNil)))
  (dSeq (dFor (dIt rng1 (dCons (d2 iAdd (dI 3) (dN pMin2 (dCons (dI 8) (dCons (dN pLen (dCons (dVar 0) dNil)) dNil)))) dNil)) (gSet 2) (dSeq (dSet 3 (lcD [8] (dIt rng1 (dCons (dI 6) dNil)) (gSet 8) dTrue (dSl (dCallIo 1 1 r__law_any_nesting dNil) dONone (dOSome (dI 4)))))
  (dSeq (dSet 3 (d2 pCat (dVar 3) (dLst (dCons (dSl (d2 pIx (dVar 3) (dI 0)) dONone (dOSome (d1 iNeg (dI 1)))) (dCons (d2 pCat (d2 pIx (dVar 3) (dI 0)) (dLst (dCons (dLst dNil) dNil))) (dCons (d2 pCat (d2 pIx (dVar 3) (dI 0)) (dLst (dCons (dTup (dCons (dI 0) (dCons (dI 1) dNil))) dNil))) (dCons (d1 pRevL (d2 pIx (dVar 3) (dI 1))) dNil)))))))
  (dSeq (dSet 4 (lcD [5] (dItL (dVar 3)) (gSet 5) dTrue (dFn 1 r_show_nesting (dCons (dVar 5) dNil))))
  (dSeq (dFor (dIt zipD (dCons (dVar 3) (dCons (dVar 4) dNil))) (gTup 2 (gCons' (gSet 5) (gCons' (gSet 6) gNil'))) (dSeq (dSet 7 (dFn 1 r_read_nesting (dCons (dVar 6) dNil)))
  (dIf (dOrB (dNotB (dB (dFn 2 (r__law_same 6) (dCons (dVar 7) (dCons (dVar 5) dNil))))) (dOrB (dB (d2 qNe (dFn 1 r_show_nesting (dCons (dVar 7) dNil)) (dVar 6))) (dB (d2 qNe (dFn 1 r_attempts (dCons (dVar 7) dNil)) (dFn 1 r_attempts (dCons (dVar 5) dNil)))))) (dRet (dBl false)) dEnd)))
  (dFor (dIt zipD (dCons (dVar 3) (dCons (dVar 4) dNil))) (gTup 2 (gCons' (gSet 8) (gCons' (gSet 6) gNil'))) (dFor (dIt zipD (dCons (dVar 3) (dCons (dVar 4) dNil))) (gTup 2 (gCons' (gSet 9) (gCons' (gSet 10) gNil'))) (dSeq (dIf (dB (d2 qNe (d2 qEq (dVar 6) (dVar 10)) (d2 qEq (dVar 8) (dVar 9)))) (dRet (dBl false)) dEnd)
  (dSeq (dSet 11 (d2 pJoinS (dStr " / ") (lcD [12] (dItL (dLst (dCons (dVar 6) (dCons (dVar 10) dNil)))) (gSet 12) (dB (d2 qNe (dVar 12) (dStr "none"))) (dVar 12))))
  (dIf (dAndB (dB (d2 qNe (d2 pCat (dVar 8) (dVar 9)) (dLst dNil))) (dB (d2 qNe (dFn 1 r_show_nesting (dCons (d2 pCat (dVar 8) (dVar 9)) dNil)) (dVar 11)))) (dRet (dBl false)) dEnd))))))))))
  (dRet (dBl true)))
noncomputable def r_law : List D → DR := runF none 13 1 d_law
structure Fs (K : PySem.W.Frag) (mg : Str → Option Value) where
  f__law_source : Addr
  fd__law_source : FuncData
  F__law_source : Fun K "_law_source" "_law_source" st__law_source f__law_source fd__law_source
  g__law_source : mg "_law_source" = some (.ref f__law_source)
  b__law_source : Binds K fd__law_source ["script"] []
  f_layer_text : Addr
  fd_layer_text : FuncData
  F_layer_text : Fun K "layer_text" "layer_text" st_layer_text f_layer_text fd_layer_text
  g_layer_text : mg "layer_text" = some (.ref f_layer_text)
  b_layer_text : Binds K fd_layer_text ["layer"] []
  f_show_nesting : Addr
  fd_show_nesting : FuncData
  F_show_nesting : Fun K "show_nesting" "show_nesting" st_show_nesting f_show_nesting fd_show_nesting
  g_show_nesting : mg "show_nesting" = some (.ref f_show_nesting)
  b_show_nesting : Binds K fd_show_nesting ["nesting"] []
  f_number_in : Addr
  fd_number_in : FuncData
  F_number_in : Fun K "number_in" "number_in" st_number_in f_number_in fd_number_in
  g_number_in : mg "number_in" = some (.ref f_number_in)
  b_number_in : Binds K fd_number_in ["word"] []
  f_is_layer : Addr
  fd_is_layer : FuncData
  F_is_layer : Fun K "is_layer" "is_layer" st_is_layer f_is_layer fd_is_layer
  g_is_layer : mg "is_layer" = some (.ref f_is_layer)
  b_is_layer : Binds K fd_is_layer ["layer"] []
  f_layer_in : Addr
  fd_layer_in : FuncData
  F_layer_in : Fun K "layer_in" "layer_in" st_layer_in f_layer_in fd_layer_in
  g_layer_in : mg "layer_in" = some (.ref f_layer_in)
  b_layer_in : Binds K fd_layer_in ["word"] []
  f_read_nesting : Addr
  fd_read_nesting : FuncData
  F_read_nesting : Fun K "read_nesting" "read_nesting" st_read_nesting f_read_nesting fd_read_nesting
  g_read_nesting : mg "read_nesting" = some (.ref f_read_nesting)
  b_read_nesting : Binds K fd_read_nesting ["text"] []
  f__law_draw : Addr
  fd__law_draw : FuncData
  F__law_draw : Fun K "_law_draw" "_law_draw" st__law_draw f__law_draw fd__law_draw
  g__law_draw : mg "_law_draw" = some (.ref f__law_draw)
  b__law_draw : Binds K fd__law_draw ["source", "many"] []
  f__law_number_drawn : Addr
  fd__law_number_drawn : FuncData
  F__law_number_drawn : Fun K "_law_number_drawn" "_law_number_drawn" st__law_number_drawn f__law_number_drawn fd__law_number_drawn
  g__law_number_drawn : mg "_law_number_drawn" = some (.ref f__law_number_drawn)
  b__law_number_drawn : Binds K fd__law_number_drawn ["source", "top"] []
  f__law_any_nesting : Addr
  fd__law_any_nesting : FuncData
  F__law_any_nesting : Fun K "_law_any_nesting" "_law_any_nesting" st__law_any_nesting f__law_any_nesting fd__law_any_nesting
  g__law_any_nesting : mg "_law_any_nesting" = some (.ref f__law_any_nesting)
  b__law_any_nesting : Binds K fd__law_any_nesting ["source"] []
  f__law_same : Addr
  fd__law_same : FuncData
  F__law_same : Fun K "_law_same" "_law_same" st__law_same f__law_same fd__law_same
  g__law_same : mg "_law_same" = some (.ref f__law_same)
  b__law_same : Binds K fd__law_same ["found", "wanted"] []
  f_check_nesting : Addr
  fd_check_nesting : FuncData
  F_check_nesting : Fun K "check_nesting" "check_nesting" st_check_nesting f_check_nesting fd_check_nesting
  g_check_nesting : mg "check_nesting" = some (.ref f_check_nesting)
  b_check_nesting : Binds K fd_check_nesting ["nesting"] []
  f_size_of : Addr
  fd_size_of : FuncData
  F_size_of : Fun K "size_of" "size_of" st_size_of f_size_of fd_size_of
  g_size_of : mg "size_of" = some (.ref f_size_of)
  b_size_of : Binds K fd_size_of ["layer"] []
  f_total_of : Addr
  fd_total_of : FuncData
  F_total_of : Fun K "total_of" "total_of" st_total_of f_total_of fd_total_of
  g_total_of : mg "total_of" = some (.ref f_total_of)
  b_total_of : Binds K fd_total_of ["nesting"] []
  f_attempts : Addr
  fd_attempts : FuncData
  F_attempts : Fun K "attempts" "attempts" st_attempts f_attempts fd_attempts
  g_attempts : mg "attempts" = some (.ref f_attempts)
  b_attempts : Binds K fd_attempts ["nesting"] []
  f_law : Addr
  fd_law : FuncData
  F_law : Fun K "law" "law" st_law f_law fd_law
  g_law : mg "law" = some (.ref f_law)
  b_law : Binds K fd_law ["script"] []
  z_all : mg "all" = none
  z_bool : mg "bool" = none
  z_enumerate : mg "enumerate" = none
  z_int : mg "int" = none
  z_isinstance : mg "isinstance" = none
  z_len : mg "len" = none
  z_list : mg "list" = none
  z_max : mg "max" = none
  z_min : mg "min" = none
  z_range : mg "range" = none
  z_str : mg "str" = none
  z_tuple : mg "tuple" = none
  z_zip : mg "zip" = none
  t_BETWEEN_LAYERS : Tok
  c_BETWEEN_LAYERS : mg "BETWEEN_LAYERS" = some (.str " / " t_BETWEEN_LAYERS)
  t_BETWEEN_NUMBERS : Tok
  c_BETWEEN_NUMBERS : mg "BETWEEN_NUMBERS" = some (.str "x" t_BETWEEN_NUMBERS)
  t_BETWEEN_WAITS : Tok
  c_BETWEEN_WAITS : mg "BETWEEN_WAITS" = some (.str "," t_BETWEEN_WAITS)
  t_DIGITS : Tok
  c_DIGITS : mg "DIGITS" = some (.str "0123456789" t_DIGITS)
  t_MOST_DIGITS : Tok
  c_MOST_DIGITS : mg "MOST_DIGITS" = some (.int 2000 t_MOST_DIGITS)
  t_NO_LAYERS : Tok
  c_NO_LAYERS : mg "NO_LAYERS" = some (.str "none" t_NO_LAYERS)
  t_NO_WAITS : Tok
  c_NO_WAITS : mg "NO_WAITS" = some (.str "-" t_NO_WAITS)
section
variable {P : Program} {w : World} {K : PySem.W.Frag} {mg : Str → Option Value} {base : Heap}
theorem ok__law_source (E : Fs K mg) : FnV P w K mg base 1 E.f__law_source E.fd__law_source ["script"] none 2 r__law_source :=
  by
  refine fnv_mk (P := P) (w := w) (base := base) (N := ["script", "mix", "digits", "cell", "size"]) (io := none) (kr := 2) (k := 0) (body := d__law_source) 5 1 [0, 0, 0, 0, 0] [0, 0, 0, 0, 0] E.F__law_source sc__law_source rfl rfl rfl (.inl rfl) (by decide) (fun X EX hX gd hr pf hp => ?_) (fun _ h => nomatch h)
  obtain ⟨cdv, A, outer, s, H, rfl⟩ := hX
  exact k_cons (s_set (k := 0) 1 sc__law_source.nd (w_v_int (k := 0)))
      (k_cons (s_set (k := 1) 2 sc__law_source.nd (w_v_lst (w_l_nil (k := 0))))
      (k_cons (w_s_for (Gn := [0, 0, 1, 0, 0]) [0, 0, 1, 0, 0] hp (by rfl) (w_it_list (v_var 0)) (g_name 3 sc__law_source.nd) (k_cons (s_set (k := 0) 1 sc__law_source.nd (v_op (k := 0) (v_op (k := 0) (v_op (k := 0) (v_var 1) (w_v_int (k := 0)) op_mulV p_mul) (v_var 3) op_add p_add) (v_op (k := 0) (v_op (k := 0) (w_v_int (k := 0)) (w_v_int (k := 0)) op_powV p_pow) (w_v_int (k := 0)) op_sub p_sub) op_mod p_mod))
      (k_cons (s_set (k := 0) 4 sc__law_source.nd (v_callB (k := 0) (w_l_cons (v_var 3) (w_l_cons (v_op (k := 0) (w_v_int (k := 0)) (v_var 3) op_sub p_sub) (w_l_nil (k := 0)))) (call_max2 (by rfl)) n_max2 (by rfl) E.z_max PyProof.Rows.boot_max))
      (k_one (s_if (b_cmp (v_var 4) (v_op (k := 0) (w_v_int (k := 0)) (w_v_int (k := 0)) op_powV p_pow) op_ge p_ge) (k_one (w_s_expr (v_mt (kr := 0) 2 0 PySem.F.slot_list_append PySem.F.type_list_append mt_append mu_append (w_l_cons (v_op (k := 0) (v_var 4) (v_op (k := 0) (w_v_int (k := 0)) (w_v_int (k := 0)) op_powV p_pow) op_sub p_sub) (w_l_nil (k := 0)))))) w_k_nil)))))
      (k_one (w_s_ret (w_v_lst (w_l_cons ((v_mv 2)) (w_l_cons (w_v_int (k := 1)) (w_l_cons (w_v_up (k := 1) (v_var 1)) (w_l_cons (w_v_int (k := 1)) (w_l_nil (k := 1)))))))))))
theorem ok_layer_text (E : Fs K mg) : FnV P w K mg base 1 E.f_layer_text E.fd_layer_text ["layer"] none 0 r_layer_text :=
  by
  refine fnv_mk (P := P) (w := w) (base := base) (N := ["layer", "wait"]) (io := none) (kr := 0) (k := 0) (body := d_layer_text) 2 1 [0, 0] [0, 0] E.F_layer_text sc_layer_text rfl rfl rfl (.inl rfl) (by decide) (fun X EX hX gd hr pf hp => ?_) (fun _ h => nomatch h)
  obtain ⟨cdv, A, outer, s, H, rfl⟩ := hX
  exact k_cons (s_if (b_val (v_callB (k := 0) (w_l_cons (v_var 0) (w_l_cons (w_v_bltn (k := 0) (by rfl) E.z_tuple PyProof.Rows.boot_tuple) (w_l_nil (k := 0)))) call_isi n_isi (by rfl) E.z_isinstance PyProof.Rows.boot_isinstance)) (k_one (w_s_ret (v_joined3 (k := 0) (v_fmt (k := 0) (v_ix (v_var 0) (w_v_int (k := 0)) ix_seq p_ix)) (v_fmt (k := 0) (w_v_glob (k := 0) (d := .str "x") (by rfl) E.c_BETWEEN_NUMBERS (by exact ⟨_, rfl⟩) (fun _ => Rep.str _))) (v_fmt (k := 0) (v_ix (v_var 0) (w_v_int (k := 0)) ix_seq p_ix))))) w_k_nil)
      (k_one (w_s_ret (w_v_if (b_cmp (v_var 0) (PV.weak (k := 1) (k1 := 0) (w_v_lst (w_l_nil (k := 0))) (by decide)) (o_ne (by exact hr)) q_ne) (v_join (k := 0) (w_v_glob (k := 0) (d := .str ",") (by rfl) E.c_BETWEEN_WAITS (by exact ⟨_, rfl⟩) (fun _ => Rep.str _)) (PV.weak (k := 1) (k1 := 0) (v_lc (Gt := [0, 0]) (Gs := [0, 0]) (Gn := [0, 0]) (k := 0) [0, 0] [("wait", 1)] (by rfl) sc_layer_text.nd (w_it_list (v_var 0)) (blkOk_by (by rfl)) (fun s H C cl fp => by exact to_name 1 sc_layer_text.nd) (fun s H C cl fp => by exact w_t_nil) (fun s H C cl fp => by exact v_callTy (k := 0) (w_l_cons (v_var 1) (w_l_nil (k := 0))) call_str_int n_str (by rfl) E.z_str PyProof.Rows.boot_str)) (by decide))) (w_v_glob (k := 0) (d := .str "-") (by rfl) E.c_NO_WAITS (by exact ⟨_, rfl⟩) (fun _ => Rep.str _)))))
theorem ok_show_nesting (E : Fs K mg) : FnV P w K mg base 2 E.f_show_nesting E.fd_show_nesting ["nesting"] none 0 r_show_nesting :=
  by
  refine fnv_mk (P := P) (w := w) (base := base) (N := ["nesting", "layer"]) (io := none) (kr := 0) (k := 1) (body := d_show_nesting) 2 1 [0, 0] [0, 0] E.F_show_nesting sc_show_nesting rfl rfl rfl (.inl rfl) (by decide) (fun X EX hX gd hr pf hp => ?_) (fun _ h => nomatch h)
  obtain ⟨cdv, A, outer, s, H, rfl⟩ := hX
  exact k_one (w_s_ret (w_v_if (b_cmp (v_var 0) (PV.weak (k := 1) (k1 := 0) (w_v_lst (w_l_nil (k := 0))) (by decide)) (o_ne (by exact hr)) q_ne) (v_join (k := 0) (w_v_glob (k := 0) (d := .str " / ") (by rfl) E.c_BETWEEN_LAYERS (by exact ⟨_, rfl⟩) (fun _ => Rep.str _)) (PV.weak (k := 1) (k1 := 0) (v_lc (Gt := [0, 0]) (Gs := [0, 0]) (Gn := [0, 0]) (k := 0) [0, 0] [("layer", 1)] (by rfl) sc_show_nesting.nd (w_it_list (v_var 0)) (blkOk_by (by rfl)) (fun s H C cl fp => by exact to_name 1 sc_show_nesting.nd) (fun s H C cl fp => by exact w_t_nil) (fun s H C cl fp => by exact w_v_call (ok_layer_text E) (by exact gd) (by exact hr.mono (j := 1) (by decide)) E.g_layer_text E.F_layer_text.kp E.b_layer_text (by exact passN) (w_l_cons (v_var 1) (w_l_nil (k := 0))))) (by decide))) (w_v_glob (k := 0) (d := .str "none") (by rfl) E.c_NO_LAYERS (by exact ⟨_, rfl⟩) (fun _ => Rep.str _))))
theorem ok_number_in (E : Fs K mg) : FnV P w K mg base 1 E.f_number_in E.fd_number_in ["word"] none 0 r_number_in :=
  by
  refine fnv_mk (P := P) (w := w) (base := base) (N := ["word", "sign"]) (io := none) (kr := 0) (k := 0) (body := d_number_in) 2 1 [0, 0] [0, 0] E.F_number_in sc_number_in rfl rfl rfl (.inl rfl) (by decide) (fun X EX hX gd hr pf hp => ?_) (fun _ h => nomatch h)
  obtain ⟨cdv, A, outer, s, H, rfl⟩ := hX
  exact k_cons (s_if (bw_pb (w_bw_or (w_b_not (b_ch (w_v_int (k := 0)) (v_callB (k := 0) (w_l_cons (v_var 0) (w_l_nil (k := 0))) call_len n_len (by rfl) E.z_len PySem.boot_len) (w_v_glob (k := 0) (d := .int 2000) (by rfl) E.c_MOST_DIGITS (by exact ⟨_, rfl⟩) (fun _ => Rep.int _)) op_le p_le op_le p_le)) (bw_or1 (w_b_not (b_val (v_callB (k := 0) (w_l_cons (PV.weak (k := 1) (k1 := 0) (v_lc (Gt := [0, 0]) (Gs := [0, 0]) (Gn := [0, 0]) (k := 0) [0, 0] [("sign", 1)] (by rfl) sc_number_in.nd (it_signs (v_var 0)) (blkOk_by (by rfl)) (fun s H C cl fp => by exact to_name 1 sc_number_in.nd) (fun s H C cl fp => by exact w_t_nil) (fun s H C cl fp => by exact v_cmp (k := 0) (v_var 1) (w_v_glob (k := 0) (d := .str "0123456789") (by rfl) E.c_DIGITS (by exact ⟨_, rfl⟩) (fun _ => Rep.str _)) op_in_sign p_inS)) (by decide)) (w_l_nil (k := 0))) (cr_all (by rfl)) n_all (by rfl) E.z_all PyProof.Rows.boot_all)))))) (k_one (w_s_ret (w_v_non (k := 0)))) w_k_nil)
      (k_one (w_s_ret (w_v_if (bw_pb (w_bw_or (b_cmp (v_var 0) (w_v_str (k := 0)) (o_eq (by exact hr)) q_eq) (bw_or1 (b_cmp (v_ix (k := 0) (v_var 0) (w_v_int (k := 0)) ix_seq p_ixS) (w_v_str (k := 0)) (o_ne (by exact hr)) q_ne)))) (v_callTy (k := 0) (w_l_cons (v_var 0) (w_l_nil (k := 0))) call_int_str n_intS (by rfl) E.z_int PyProof.Rows.boot_int) (w_v_non (k := 0)))))
theorem ok_is_layer (E : Fs K mg) : FnV P w K mg base 1 E.f_is_layer E.fd_is_layer ["layer"] none 0 r_is_layer :=
  by
  refine fnv_mk (P := P) (w := w) (base := base) (N := ["layer", "wait"]) (io := none) (kr := 0) (k := 0) (body := d_is_layer) 2 1 [0, 0] [0, 0] E.F_is_layer sc_is_layer rfl rfl rfl (.inl rfl) (by decide) (fun X EX hX gd hr pf hp => ?_) (fun _ h => nomatch h)
  obtain ⟨cdv, A, outer, s, H, rfl⟩ := hX
  exact k_cons (s_if (b_val (v_callB (k := 0) (w_l_cons (v_var 0) (w_l_cons (w_v_bltn (k := 0) (by rfl) E.z_tuple PyProof.Rows.boot_tuple) (w_l_nil (k := 0)))) call_isi n_isi (by rfl) E.z_isinstance PyProof.Rows.boot_isinstance)) (k_one (w_s_ret (w_v_and (v_cmp (k := 0) (v_ix (v_var 0) (w_v_int (k := 0)) ix_seq p_ix) (w_v_int (k := 0)) op_ge p_ge) (v_one (v_cmp (k := 0) (v_ix (v_var 0) (w_v_int (k := 0)) ix_seq p_ix) (w_v_int (k := 0)) op_ge p_ge))))) w_k_nil)
      (k_one (w_s_ret (v_callB (k := 0) (w_l_cons (PV.weak (k := 1) (k1 := 0) (v_lc (Gt := [0, 0]) (Gs := [0, 0]) (Gn := [0, 0]) (k := 0) [0, 0] [("wait", 1)] (by rfl) sc_is_layer.nd (w_it_list (v_var 0)) (blkOk_by (by rfl)) (fun s H C cl fp => by exact to_name 1 sc_is_layer.nd) (fun s H C cl fp => by exact w_t_nil) (fun s H C cl fp => by exact v_cmp (k := 0) (v_var 1) (w_v_int (k := 0)) op_ge p_ge)) (by decide)) (w_l_nil (k := 0))) (cr_all (by rfl)) n_all (by rfl) E.z_all PyProof.Rows.boot_all)))
theorem ok_layer_in (E : Fs K mg) : FnV P w K mg base 2 E.f_layer_in E.fd_layer_in ["word"] none 0 r_layer_in :=
  by
  refine fnv_mk (P := P) (w := w) (base := base) (N := ["word", "is_constant", "numbers", "layer", "part"]) (io := none) (kr := 0) (k := 1) (body := d_layer_in) 5 1 [0, 0, 0, 0, 0] [0, 0, 0, 0, 0] E.F_layer_in sc_layer_in rfl rfl rfl (.inl rfl) (by decide) (fun X EX hX gd hr pf hp => ?_) (fun _ h => nomatch h)
  obtain ⟨cdv, A, outer, s, H, rfl⟩ := hX
  exact k_cons (s_if (b_cmp (v_var 0) (w_v_glob (k := 0) (d := .str "-") (by rfl) E.c_NO_WAITS (by exact ⟨_, rfl⟩) (fun _ => Rep.str _)) (o_eq (by exact hr)) q_eq) (k_one (w_s_ret (PV.weak (k := 1) (k1 := 0) (w_v_lst (w_l_nil (k := 0))) (by decide)))) w_k_nil)
      (k_cons (s_set (k := 0) 1 sc_layer_in.nd (v_cmp (k := 0) (w_v_glob (k := 0) (d := .str "x") (by rfl) E.c_BETWEEN_NUMBERS (by exact ⟨_, rfl⟩) (fun _ => Rep.str _)) (v_var 0) op_in_sign p_inS))
      (k_cons (s_setLc (Gt := [0, 0, 0, 0, 0]) (Gs := [0, 0, 0, 0, 0]) (Gn := [0, 0, 0, 0, 0]) (k := 0) 2 [0, 0, 0, 0, 0] [("part", 4)] (by rfl) sc_layer_in.nd (w_it_list (PV.weak (k := 1) (k1 := 0) (v_split (G := [0, 0, 0, 0, 0]) 0 (w_v_if (b_val (v_var 1)) (w_v_glob (k := 0) (d := .str "x") (by rfl) E.c_BETWEEN_NUMBERS (by exact ⟨_, rfl⟩) (fun _ => Rep.str _)) (w_v_glob (k := 0) (d := .str ",") (by rfl) E.c_BETWEEN_WAITS (by exact ⟨_, rfl⟩) (fun _ => Rep.str _)))) (by decide))) (blkOk_by (by rfl)) (fun s H C cl fp => by exact to_name 4 sc_layer_in.nd) (fun s H C cl fp => by exact w_t_nil) (fun s H C cl fp => by exact w_v_call (ok_number_in E) (by exact gd) (by exact hr.mono (j := 1) (by decide)) E.g_number_in E.F_number_in.kp E.b_number_in (by exact passN) (w_l_cons (v_var 4) (w_l_nil (k := 0)))) (by rfl) (by rfl) (by rfl))
      (k_cons (s_if (b_bor (bw_pb (w_bw_or (b_cmp (w_v_non (k := 0)) (v_var 2) (op_inD (by have := hr.un; exact (by omega))) p_noneIn) (bw_or1 (bw_pb (w_bw_and (b_val (v_var 1)) (bw_and1 (b_cmp (v_callB (k := 0) (w_l_cons (v_var 2) (w_l_nil (k := 0))) call_len n_len (by rfl) E.z_len PySem.boot_len) (w_v_int (k := 0)) (o_ne (by exact hr)) q_ne)))))))) (k_one (w_s_ret (w_v_non (k := 0)))) w_k_nil)
      (k_cons (s_set (k := 0) 3 sc_layer_in.nd (w_v_if (b_val (v_var 1)) (v_tupOf (v_var 2) (by rfl) E.z_tuple) (v_var 2)))
      (k_one (w_s_ret (w_v_if (b_val (w_v_call (ok_is_layer E) (by exact gd) (by exact hr.mono (j := 1) (by decide)) E.g_is_layer E.F_is_layer.kp E.b_is_layer (by exact pf) (w_l_cons (v_var 3) (w_l_nil (k := 0))))) (v_var 3) (w_v_non (k := 0)))))))))
theorem ok_read_nesting (E : Fs K mg) : FnV P w K mg base 3 E.f_read_nesting E.fd_read_nesting ["text"] none 0 r_read_nesting :=
  by
  refine fnv_mk (P := P) (w := w) (base := base) (N := ["text", "found", "word"]) (io := none) (kr := 0) (k := 2) (body := d_read_nesting) 3 1 [0, 0, 0] [0, 0, 0] E.F_read_nesting sc_read_nesting rfl rfl rfl (.inl rfl) (by decide) (fun X EX hX gd hr pf hp => ?_) (fun _ h => nomatch h)
  obtain ⟨cdv, A, outer, s, H, rfl⟩ := hX
  exact k_cons (s_if (b_cmp (v_var 0) (w_v_glob (k := 0) (d := .str "none") (by rfl) E.c_NO_LAYERS (by exact ⟨_, rfl⟩) (fun _ => Rep.str _)) (o_eq (by exact hr)) q_eq) (k_one (w_s_ret (PV.weak (k := 1) (k1 := 0) (w_v_lst (w_l_nil (k := 0))) (by decide)))) w_k_nil)
      (k_cons (s_setLc (Gt := [0, 0, 0]) (Gs := [0, 0, 0]) (Gn := [0, 0, 0]) (k := 0) 1 [0, 0, 0] [("word", 2)] (by rfl) sc_read_nesting.nd (w_it_list (PV.weak (k := 1) (k1 := 0) (v_split (G := [0, 0, 0]) 0 (w_v_glob (k := 0) (d := .str " / ") (by rfl) E.c_BETWEEN_LAYERS (by exact ⟨_, rfl⟩) (fun _ => Rep.str _))) (by decide))) (blkOk_by (by rfl)) (fun s H C cl fp => by exact to_name 2 sc_read_nesting.nd) (fun s H C cl fp => by exact w_t_nil) (fun s H C cl fp => by exact w_v_call (ok_layer_in E) (by exact gd) (by exact hr.mono (j := 2) (by decide)) E.g_layer_in E.F_layer_in.kp E.b_layer_in (by exact passN) (w_l_cons (v_var 2) (w_l_nil (k := 0)))) (by rfl) (by rfl) (by rfl))
      (k_cons (s_if (b_bor (b_cmp (w_v_non (k := 0)) (v_var 1) (op_inD (by have := hr.un; exact (by omega))) p_noneIn)) (k_one w_s_never) w_k_nil)
      (k_one (w_s_ret (v_var 1)))))
theorem ok__law_draw (E : Fs K mg) : FnV P w K mg base 1 E.f__law_draw E.fd__law_draw ["source", "many"] (some 2) 0 r__law_draw :=
  by
  refine fnv_mk (P := P) (w := w) (base := base) (N := ["source", "many", "mixed", "drawn"]) (io := (some 2)) (kr := 0) (k := 0) (body := d__law_draw) 4 2 [2, 0, 0, 0] [2, 0, 0, 0] E.F__law_draw sc__law_draw rfl rfl rfl (.inr (by decide)) (by decide) (fun X EX hX gd hr pf hp => ?_) (fun _ h => by cases h; rfl)
  obtain ⟨cdv, A, outer, s, H, rfl⟩ := hX
  exact k_cons (s_while (Gn := [2, 0, 0, 0]) 1100 hp (b_bor (bw_pb (w_bw_and (b_cmp (v_ix (v_var 0) (w_v_int (k := 0)) ix_seq p_ix) (w_v_int (k := 0)) op_lt p_lt) (bw_and1 (b_cmp (v_ix (v_var 0) (w_v_int (k := 0)) ix_seq p_ix) (PV.weak (k := 1) (k1 := 0) (w_v_lst (w_l_nil (k := 0))) (by decide)) (o_ne (by exact hr)) q_ne))))) (k_one (w_s_setIx 0 1 (w_v_up (k := 1) (v_mtIx (kr := 0) 0 0 PySem.F.slot_list_pop PySem.F.type_list_pop mt_popAt mu_popAt (w_l_cons (w_v_int (k := 0)) (w_l_nil (k := 0))))) (w_v_int (k := 0)))))
      (k_cons (s_if (b_bor (b_cmp (v_ix (v_var 0) (w_v_int (k := 0)) ix_seq p_ix) (w_v_int (k := 0)) op_ge p_ge)) (k_cons (s_set (k := 0) 3 sc__law_draw.nd (v_bor (v_op (k := 0) (v_ix (v_var 0) (w_v_int (k := 0)) ix_seq p_ix) (v_var 1) op_mod p_mod)))
      (k_cons (w_s_setIx 0 1 (w_v_up (k := 1) (v_bor (v_op (k := 0) (v_ix (v_var 0) (w_v_int (k := 0)) ix_seq p_ix) (v_var 1) op_divV p_div))) (w_v_int (k := 0)))
      (k_one (w_s_ret (v_var 3))))) w_k_nil)
      (k_cons (w_s_setIx 0 1 (w_v_up (k := 1) (v_bor (v_op (k := 0) (v_ix (v_var 0) (w_v_int (k := 0)) ix_seq p_ix) (w_v_int (k := 0)) op_add p_add))) (w_v_int (k := 0)))
      (k_cons (s_set (k := 0) 2 sc__law_draw.nd (v_bor (v_op (k := 0) (v_op (k := 0) (v_ix (v_var 0) (w_v_int (k := 0)) ix_seq p_ix) (w_v_int (k := 0)) op_add p_add) (v_op (k := 0) (v_op (k := 0) (v_ix (v_var 0) (w_v_int (k := 0)) ix_seq p_ix) (w_v_int (k := 0)) op_add p_add) (w_v_int (k := 0)) op_powV p_pow) op_mulV p_mul)))
      (k_cons (s_set (k := 0) 2 sc__law_draw.nd (v_bor (v_op (k := 0) (v_op (k := 0) (v_var 2) (v_op (k := 0) (w_v_int (k := 0)) (v_ix (v_var 0) (w_v_int (k := 0)) ix_seq p_ix) op_mulV p_mul) op_add p_add) (v_op (k := 0) (v_op (k := 0) (w_v_int (k := 0)) (w_v_int (k := 0)) op_powV p_pow) (w_v_int (k := 0)) op_sub p_sub) op_mod p_mod)))
      (k_one (w_s_ret (v_op (k := 0) (v_op (k := 0) (v_op (k := 0) (v_op (k := 0) (v_var 2) (w_v_int (k := 0)) op_powV p_pow) (v_op (k := 0) (v_op (k := 0) (w_v_int (k := 0)) (w_v_int (k := 0)) op_powV p_pow) (w_v_int (k := 0)) op_add p_add) op_mod p_mod) (w_v_int (k := 0)) op_divV p_div) (v_var 1) op_mod p_mod)))))))
theorem ok__law_number_drawn (E : Fs K mg) : FnV P w K mg base 2 E.f__law_number_drawn E.fd__law_number_drawn ["source", "top"] (some 2) 0 r__law_number_drawn :=
  by
  refine fnv_mk (P := P) (w := w) (base := base) (N := ["source", "top"]) (io := (some 2)) (kr := 0) (k := 1) (body := d__law_number_drawn) 2 2 [2, 0] [2, 0] E.F__law_number_drawn sc__law_number_drawn rfl rfl rfl (.inr (by decide)) (by decide) (fun X EX hX gd hr pf hp => ?_) (fun _ h => by cases h; rfl)
  obtain ⟨cdv, A, outer, s, H, rfl⟩ := hX
  exact k_one (w_s_ret (v_ix (PV.weak (k := 1) (k1 := 0) (w_v_lst (w_l_cons (w_v_int (k := 0)) (w_l_cons (v_op (k := 0) (w_v_int (k := 0)) (w_v_callIo 0 2 (ok__law_draw E) (by exact gd) (by exact hr.mono (j := 1) (by decide)) E.g__law_draw E.F__law_draw.kp E.b__law_draw (by exact pf) (w_l_cons (w_v_int (k := 0)) (w_l_nil (k := 0)))) op_add p_add) (w_l_cons (w_v_callIo 0 2 (ok__law_draw E) (by exact gd) (by exact hr.mono (j := 1) (by decide)) E.g__law_draw E.F__law_draw.kp E.b__law_draw (by exact pf) (w_l_cons (v_var 1) (w_l_nil (k := 0)))) (w_l_cons (v_op (k := 0) (v_var 1) (w_v_int (k := 0)) op_sub p_sub) (w_l_nil (k := 0))))))) (by decide)) (w_v_callIo 0 2 (ok__law_draw E) (by exact gd) (by exact hr.mono (j := 1) (by decide)) E.g__law_draw E.F__law_draw.kp E.b__law_draw (by exact pf) (w_l_cons (w_v_int (k := 0)) (w_l_nil (k := 0)))) ix_seq p_ix))
theorem ok__law_any_nesting (E : Fs K mg) : FnV P w K mg base 3 E.f__law_any_nesting E.fd__law_any_nesting ["source"] (some 2) 0 r__law_any_nesting :=
  by
  refine fnv_mk (P := P) (w := w) (base := base) (N := ["source", "found", "k", "many", "numbers", "size", "one"]) (io := (some 2)) (kr := 0) (k := 2) (body := d__law_any_nesting) 7 1 [2, 0, 0, 0, 0, 0, 0] [2, 0, 0, 0, 0, 0, 0] E.F__law_any_nesting sc__law_any_nesting rfl rfl rfl (.inr (by decide)) (by decide) (fun X EX hX gd hr pf hp => ?_) (fun _ h => by cases h; rfl)
  obtain ⟨cdv, A, outer, s, H, rfl⟩ := hX
  exact k_cons (s_set (k := 1) 1 sc__law_any_nesting.nd (w_v_lst (w_l_nil (k := 0))))
      (k_cons (w_s_for (Gn := [2, 1, 0, 0, 0, 0, 0]) [2, 1, 0, 0, 0, 0, 0] hp (by rfl) (w_it_range1 (w_l_cons (w_v_callIo 0 2 (ok__law_draw E) (by exact gd) (by exact hr.mono (j := 1) (by decide)) E.g__law_draw E.F__law_draw.kp E.b__law_draw (by exact pf) (w_l_cons (w_v_int (k := 0)) (w_l_nil (k := 0)))) (w_l_nil (k := 0))) (by rfl) E.z_range) (g_name 2 sc__law_any_nesting.nd) (k_cons (s_set (k := 0) 3 sc__law_any_nesting.nd (w_v_callIo 0 2 (ok__law_draw E) (by exact gd) (by exact hr.mono (j := 1) (by decide)) E.g__law_draw E.F__law_draw.kp E.b__law_draw (by exact pf) (w_l_cons (v_ix (PV.weak (k := 1) (k1 := 0) (w_v_lst (w_l_cons (w_v_int (k := 0)) (w_l_cons (w_v_int (k := 0)) (w_l_cons (w_v_int (k := 0)) (w_l_nil (k := 0)))))) (by decide)) (w_v_callIo 0 2 (ok__law_draw E) (by exact gd) (by exact hr.mono (j := 1) (by decide)) E.g__law_draw E.F__law_draw.kp E.b__law_draw (by exact pf) (w_l_cons (w_v_int (k := 0)) (w_l_nil (k := 0)))) ix_seq p_ix) (w_l_nil (k := 0)))))
      (k_cons (s_setLc (Gt := [2, 1, 0, 0, 0, 0, 0]) (Gs := [2, 1, 0, 0, 0, 0, 0]) (Gn := [2, 1, 0, 0, 0, 0, 0]) (k := 0) 4 [2, 1, 0, 0, 0, 0, 0] [("one", 6)] (by rfl) sc__law_any_nesting.nd (w_it_range1 (w_l_cons (v_var 3) (w_l_nil (k := 0))) (by rfl) E.z_range) (blkOk_by (by rfl)) (fun s H C cl fp => by exact to_name 6 sc__law_any_nesting.nd) (fun s H C cl fp => by exact w_t_nil) (fun s H C cl fp => by exact w_v_callIo 0 2 (ok__law_number_drawn E) (by exact gd) (by exact hr.mono (j := 2) (by decide)) E.g__law_number_drawn E.F__law_number_drawn.kp E.b__law_number_drawn (by exact passN) (w_l_cons (v_op (k := 0) (w_v_int (k := 0)) (w_v_int (k := 0)) op_powV p_pow) (w_l_nil (k := 0)))) (by rfl) (by rfl) (by rfl))
      (k_cons (s_set (k := 0) 5 sc__law_any_nesting.nd (v_callB (k := 0) (w_l_cons (w_v_int (k := 0)) (w_l_cons (w_v_callIo 0 2 (ok__law_number_drawn E) (by exact gd) (by exact hr.mono (j := 2) (by decide)) E.g__law_number_drawn E.F__law_number_drawn.kp E.b__law_number_drawn (by exact pf) (w_l_cons (v_op (k := 0) (w_v_int (k := 0)) (w_v_int (k := 0)) op_powV p_pow) (w_l_nil (k := 0)))) (w_l_nil (k := 0)))) (call_max2 (by rfl)) n_max2 (by rfl) E.z_max PyProof.Rows.boot_max))
      (k_one (w_s_expr (v_mt (kr := 0) 1 0 PySem.F.slot_list_append PySem.F.type_list_append mt_append mu_append (w_l_cons (v_ix (PV.weak (k := 1) (k1 := 0) (w_v_lst (w_l_cons (v_var 4) (w_l_cons (w_v_tup (w_l_cons (w_v_callIo 0 2 (ok__law_number_drawn E) (by exact gd) (by exact hr.mono (j := 2) (by decide)) E.g__law_number_drawn E.F__law_number_drawn.kp E.b__law_number_drawn (by exact pf) (w_l_cons (v_op (k := 0) (w_v_int (k := 0)) (w_v_int (k := 0)) op_powV p_pow) (w_l_nil (k := 0)))) (w_l_cons (v_var 5) (w_l_nil (k := 0))))) (w_l_nil (k := 0))))) (by decide)) (w_v_callIo 0 2 (ok__law_draw E) (by exact gd) (by exact hr.mono (j := 1) (by decide)) E.g__law_draw E.F__law_draw.kp E.b__law_draw (by exact pf) (w_l_cons (w_v_int (k := 0)) (w_l_nil (k := 0)))) ix_seq p_ix) (w_l_nil (k := 0))))))))))
      (k_one (w_s_ret (v_var 1))))
theorem ok__law_same (E : Fs K mg) : ∀ n, FnV P w K mg base (1 + n) E.f__law_same E.fd__law_same ["found", "wanted"] none 0 (r__law_same n)
  | 0 => fnv_no
  | n + 1 => by
    have ih := ok__law_same E n
    refine fnv_mk (P := P) (w := w) (base := base) (N := ["found", "wanted", "k"]) (io := none) (kr := 0) (k := 1 + n) (body := d__law_same (r__law_same n)) 3 2 [0, 0, 0] [0, 0, 0] E.F__law_same sc__law_same rfl rfl rfl (.inl rfl) (by decide) (fun X EX hX gd hr pf hp => ?_) (fun _ h => nomatch h)
    obtain ⟨cdv, A, outer, s, H, rfl⟩ := hX
    exact k_cons (s_if (b_cmp (v_var 1) (w_v_non (k := 0)) op_isN p_is) (k_one (w_s_ret (v_cmp (k := 0) (v_var 0) (w_v_non (k := 0)) op_isN p_is))) w_k_nil)
      (k_cons (s_if (b_val (v_callB (k := 0) (w_l_cons (v_var 1) (w_l_cons (w_v_bltn (k := 0) (by rfl) E.z_bool PyProof.Rows.boot_bool) (w_l_nil (k := 0)))) call_isi n_isi (by rfl) E.z_isinstance PyProof.Rows.boot_isinstance)) (k_one (w_s_ret (w_v_and (v_callB (k := 0) (w_l_cons (v_var 0) (w_l_cons (w_v_bltn (k := 0) (by rfl) E.z_bool PyProof.Rows.boot_bool) (w_l_nil (k := 0)))) call_isi n_isi (by rfl) E.z_isinstance PyProof.Rows.boot_isinstance) (v_one (v_cmp (k := 0) (v_var 0) (v_var 1) (o_eq (by exact hr)) q_eq))))) w_k_nil)
      (k_cons (s_if (b_val (v_callB (k := 0) (w_l_cons (v_var 1) (w_l_cons (w_v_bltn (k := 0) (by rfl) E.z_int PyProof.Rows.boot_int) (w_l_nil (k := 0)))) call_isi n_isi (by rfl) E.z_isinstance PyProof.Rows.boot_isinstance)) (k_one (w_s_ret (w_v_and (v_callB (k := 0) (w_l_cons (v_var 0) (w_l_cons (w_v_bltn (k := 0) (by rfl) E.z_int PyProof.Rows.boot_int) (w_l_nil (k := 0)))) call_isi n_isi (by rfl) E.z_isinstance PyProof.Rows.boot_isinstance) (w_v_and (w_v_not (k := 0) (v_callB (k := 0) (w_l_cons (v_var 0) (w_l_cons (w_v_bltn (k := 0) (by rfl) E.z_bool PyProof.Rows.boot_bool) (w_l_nil (k := 0)))) call_isi n_isi (by rfl) E.z_isinstance PyProof.Rows.boot_isinstance)) (v_one (v_cmp (k := 0) (v_var 0) (v_var 1) (o_eq (by exact hr)) q_eq)))))) w_k_nil)
      (k_cons (s_if (b_val (v_callB (k := 0) (w_l_cons (v_var 1) (w_l_cons (w_v_bltn (k := 0) (by rfl) E.z_str PyProof.Rows.boot_str) (w_l_nil (k := 0)))) call_isi n_isi (by rfl) E.z_isinstance PyProof.Rows.boot_isinstance)) (k_one (w_s_ret (w_v_and (v_callB (k := 0) (w_l_cons (v_var 0) (w_l_cons (w_v_bltn (k := 0) (by rfl) E.z_str PyProof.Rows.boot_str) (w_l_nil (k := 0)))) call_isi n_isi (by rfl) E.z_isinstance PyProof.Rows.boot_isinstance) (v_one (v_cmp (k := 0) (v_var 0) (v_var 1) (o_eq (by exact hr)) q_eq))))) w_k_nil)
      (k_cons (s_if (b_cmp (v_callB (k := 0) (w_l_cons (v_var 0) (w_l_cons (w_v_bltn (k := 0) (by rfl) E.z_list PyProof.Rows.boot_list) (w_l_nil (k := 0)))) call_isi n_isi (by rfl) E.z_isinstance PyProof.Rows.boot_isinstance) (v_callB (k := 0) (w_l_cons (v_var 1) (w_l_cons (w_v_bltn (k := 0) (by rfl) E.z_list PyProof.Rows.boot_list) (w_l_nil (k := 0)))) call_isi n_isi (by rfl) E.z_isinstance PyProof.Rows.boot_isinstance) (o_ne (by exact hr)) q_ne) (k_one (w_s_ret (w_v_bl (k := 0)))) w_k_nil)
      (k_cons (s_if (bw_pb (w_bw_or (b_cmp (v_callB (k := 0) (w_l_cons (v_var 0) (w_l_cons (w_v_bltn (k := 0) (by rfl) E.z_tuple PyProof.Rows.boot_tuple) (w_l_nil (k := 0)))) call_isi n_isi (by rfl) E.z_isinstance PyProof.Rows.boot_isinstance) (v_callB (k := 0) (w_l_cons (v_var 1) (w_l_cons (w_v_bltn (k := 0) (by rfl) E.z_tuple PyProof.Rows.boot_tuple) (w_l_nil (k := 0)))) call_isi n_isi (by rfl) E.z_isinstance PyProof.Rows.boot_isinstance) (o_ne (by exact hr)) q_ne) (bw_or1 (b_cmp (v_callB (k := 0) (w_l_cons (v_var 0) (w_l_nil (k := 0))) call_len n_len (by rfl) E.z_len PySem.boot_len) (v_callB (k := 0) (w_l_cons (v_var 1) (w_l_nil (k := 0))) call_len n_len (by rfl) E.z_len PySem.boot_len) (o_ne (by exact hr)) q_ne)))) (k_one (w_s_ret (w_v_bl (k := 0)))) w_k_nil)
      (k_one (w_s_ret (v_cmp (k := 0) (PV.weak (k := 1) (k1 := 0) (v_lc (Gt := [0, 0, 0]) (Gs := [0, 0, 0]) (Gn := [0, 0, 0]) (k := 0) [0, 0, 0] [("k", 2)] (by rfl) sc__law_same.nd (w_it_range1 (w_l_cons (v_callB (k := 0) (w_l_cons (v_var 1) (w_l_nil (k := 0))) call_len n_len (by rfl) E.z_len PySem.boot_len) (w_l_nil (k := 0))) (by rfl) E.z_range) (blkOk_by (by rfl)) (fun s H C cl fp => by exact to_name 2 sc__law_same.nd) (fun s H C cl fp => by exact t_one (w_b_not (b_val (w_v_call ih (by exact gd) (by exact hr) E.g__law_same E.F__law_same.kp E.b__law_same (by exact passN) (w_l_cons (v_ix (v_var 0) (v_var 2) ix_seq p_ix) (w_l_cons (v_ix (v_var 1) (v_var 2) ix_seq p_ix) (w_l_nil (k := 0)))))))) (fun s H C cl fp => by exact v_var 2)) (by decide)) (PV.weak (k := 1) (k1 := 0) (w_v_lst (w_l_nil (k := 0))) (by decide)) (o_eq (by exact hr)) q_eq))))))))
theorem ok_check_nesting (E : Fs K mg) : FnV P w K mg base 2 E.f_check_nesting E.fd_check_nesting ["nesting"] none 0 r_check_nesting :=
  by
  refine fnv_mk (P := P) (w := w) (base := base) (N := ["nesting", "index", "layer"]) (io := none) (kr := 0) (k := 1) (body := d_check_nesting) 3 1 [0, 0, 0] [0, 0, 0] E.F_check_nesting sc_check_nesting rfl rfl rfl (.inl rfl) (by decide) (fun X EX hX gd hr pf hp => ?_) (fun _ h => nomatch h)
  obtain ⟨cdv, A, outer, s, H, rfl⟩ := hX
  exact k_one (w_s_for (Gn := [0, 0, 0]) [0, 0, 0] hp (by rfl) (w_it_enum (w_l_cons (v_var 0) (w_l_nil (k := 0))) (by rfl) E.z_enumerate) (w_g_tup (n := 2) (by rfl) (gs_cons (g_name 1 sc_check_nesting.nd) (gs_cons (g_name 2 sc_check_nesting.nd) gs_nil))) (k_one (s_if (w_b_not (b_val (w_v_call (ok_is_layer E) (by exact gd) (by exact hr.mono (j := 1) (by decide)) E.g_is_layer E.F_is_layer.kp E.b_is_layer (by exact pf) (w_l_cons (v_var 2) (w_l_nil (k := 0)))))) (k_one w_s_never) w_k_nil)))
theorem ok_size_of (E : Fs K mg) : FnV P w K mg base 1 E.f_size_of E.fd_size_of ["layer"] none 0 r_size_of :=
  by
  refine fnv_mk (P := P) (w := w) (base := base) (N := ["layer"]) (io := none) (kr := 0) (k := 0) (body := d_size_of) 1 1 [0] [0] E.F_size_of sc_size_of rfl rfl rfl (.inl rfl) (by decide) (fun X EX hX gd hr pf hp => ?_) (fun _ h => nomatch h)
  obtain ⟨cdv, A, outer, s, H, rfl⟩ := hX
  exact k_one (w_s_ret (w_v_if (b_val (v_callB (k := 0) (w_l_cons (v_var 0) (w_l_cons (w_v_bltn (k := 0) (by rfl) E.z_tuple PyProof.Rows.boot_tuple) (w_l_nil (k := 0)))) call_isi n_isi (by rfl) E.z_isinstance PyProof.Rows.boot_isinstance)) (v_ix (v_var 0) (w_v_int (k := 0)) ix_seq p_ix) (v_op (k := 0) (v_callB (k := 0) (w_l_cons (v_var 0) (w_l_nil (k := 0))) call_len n_len (by rfl) E.z_len PySem.boot_len) (w_v_int (k := 0)) op_add p_add)))
theorem ok_total_of (E : Fs K mg) : FnV P w K mg base 2 E.f_total_of E.fd_total_of ["nesting"] none 0 r_total_of :=
  by
  refine fnv_mk (P := P) (w := w) (base := base) (N := ["nesting", "total", "layer"]) (io := none) (kr := 0) (k := 1) (body := d_total_of) 3 1 [0, 0, 0] [0, 0, 0] E.F_total_of sc_total_of rfl rfl rfl (.inl rfl) (by decide) (fun X EX hX gd hr pf hp => ?_) (fun _ h => nomatch h)
  obtain ⟨cdv, A, outer, s, H, rfl⟩ := hX
  exact k_cons (s_set (k := 0) 1 sc_total_of.nd (w_v_int (k := 0)))
      (k_cons (w_s_for (Gn := [0, 0, 0]) [0, 0, 0] hp (by rfl) (w_it_list (v_var 0)) (g_name 2 sc_total_of.nd) (k_one (s_aug 1 sc_total_of.nd (w_v_call (ok_size_of E) (by exact gd) (by exact hr.mono (j := 1) (by decide)) E.g_size_of E.F_size_of.kp E.b_size_of (by exact pf) (w_l_cons (v_var 2) (w_l_nil (k := 0)))) iop_mulV p_mul)))
      (k_one (w_s_ret (v_var 1))))
theorem ok_attempts (E : Fs K mg) : FnV P w K mg base 3 E.f_attempts E.fd_attempts ["nesting"] none 0 r_attempts :=
  by
  refine fnv_mk (P := P) (w := w) (base := base) (N := ["nesting"]) (io := none) (kr := 0) (k := 2) (body := d_attempts) 1 1 [0] [0] E.F_attempts sc_attempts rfl rfl rfl (.inl rfl) (by decide) (fun X EX hX gd hr pf hp => ?_) (fun _ h => nomatch h)
  obtain ⟨cdv, A, outer, s, H, rfl⟩ := hX
  exact k_cons (w_s_expr (w_v_call (ok_check_nesting E) (by exact gd) (by exact hr.mono (j := 2) (by decide)) E.g_check_nesting E.F_check_nesting.kp E.b_check_nesting (by exact pf) (w_l_cons (v_var 0) (w_l_nil (k := 0)))))
      (k_one (w_s_ret (w_v_call (ok_total_of E) (by exact gd) (by exact hr.mono (j := 2) (by decide)) E.g_total_of E.F_total_of.kp E.b_total_of (by exact pf) (w_l_cons (v_var 0) (w_l_nil (k := 0))))))
theorem ok_law (E : Fs K mg) : FnV P w K mg base 8 E.f_law E.fd_law ["script"] none 0 r_law :=
  by
  refine fnv_mk (P := P) (w := w) (base := base) (N := ["script", "source", "k", "some", "texts", "layers", "text", "found", "one", "other", "words", "both", "part"]) (io := none) (kr := 0) (k := 7) (body := d_law) 13 1 [0, 0, 0, 0, 0, 0, 0, 0, 0, 0, 0, 0, 0] [0, 0, 0, 0, 0, 0, 0, 0, 0, 0, 0, 0, 0] E.F_law sc_law rfl rfl rfl (.inl rfl) (by decide) (fun X EX hX gd hr pf hp => ?_) (fun _ h => nomatch h)
  obtain ⟨cdv, A, outer, s, H, rfl⟩ := hX
  exact k_cons (s_set (k := 2) 1 sc_law.nd (w_v_call (ok__law_source E) (by exact gd) (by exact hr.mono (j := 1) (by decide)) E.g__law_source E.F__law_source.kp E.b__law_source (by exact pf) (w_l_cons (v_var 0) (w_l_nil (k := 0)))))
      (k_cons (w_s_for (Gn := [0, 2, 0, 0, 0, 0, 0, 0, 0, 0, 0, 0, 0]) [0, 2, 0, 0, 0, 0, 0, 0, 0, 0, 0, 0, 0] hp (by rfl) (w_it_range1 (w_l_cons (v_op (k := 0) (w_v_int (k := 0)) (v_callB (k := 0) (w_l_cons (w_v_int (k := 0)) (w_l_cons (v_callB (k := 0) (w_l_cons (v_var 0) (w_l_nil (k := 0))) call_len n_len (by rfl) E.z_len PySem.boot_len) (w_l_nil (k := 0)))) (call_min2 (by rfl)) n_min2 (by rfl) E.z_min PyProof.Rows.boot_min) op_add p_add) (w_l_nil (k := 0))) (by rfl) E.z_range) (g_name 2 sc_law.nd) (k_cons (s_setLc (Gt := [0, 2, 0, 0, 0, 0, 0, 0, 0, 0, 0, 0, 0]) (Gs := [0, 2, 0, 0, 0, 0, 0, 0, 0, 0, 0, 0, 0]) (Gn := [0, 2, 0, 0, 0, 0, 0, 0, 0, 0, 0, 0, 0]) (k := 0) 3 [0, 2, 0, 0, 0, 0, 0, 0, 0, 0, 0, 0, 0] [("one", 8)] (by rfl) sc_law.nd (w_it_range1 (w_l_cons (w_v_int (k := 0)) (w_l_nil (k := 0))) (by rfl) E.z_range) (blkOk_by (by rfl)) (fun s H C cl fp => by exact to_name 8 sc_law.nd) (fun s H C cl fp => by exact w_t_nil) (fun s H C cl fp => by exact PV.weak (k := 1) (k1 := 0) (v_slice (w_v_callIo 1 2 (ok__law_any_nesting E) (by exact gd) (by exact hr.mono (j := 3) (by decide)) E.g__law_any_nesting E.F__law_any_nesting.kp E.b__law_any_nesting (by exact passN) (w_l_nil (k := 0))) w_o_none (w_o_some (w_v_int (k := 0)))) (by decide)) (by rfl) (by rfl) (by rfl))
      (k_cons (s_set (k := 0) 3 sc_law.nd (PV.weak (k := 1) (k1 := 0) (v_op (v_var 3) (PV.weak (k := 1) (k1 := 0) (w_v_lst (w_l_cons (PV.weak (k := 1) (k1 := 0) (v_slice (v_ix (v_var 3) (w_v_int (k := 0)) ix_seq p_ix) w_o_none (w_o_some (v_un (k := 0) (w_v_int (k := 0)) un_neg p_neg))) (by decide)) (w_l_cons (PV.weak (k := 1) (k1 := 0) (v_op (v_ix (v_var 3) (w_v_int (k := 0)) ix_seq p_ix) (PV.weak (k := 1) (k1 := 0) (w_v_lst (w_l_cons (PV.weak (k := 1) (k1 := 0) (w_v_lst (w_l_nil (k := 0))) (by decide)) (w_l_nil (k := 0)))) (by decide)) op_cat p_cat) (by decide)) (w_l_cons (PV.weak (k := 1) (k1 := 0) (v_op (v_ix (v_var 3) (w_v_int (k := 0)) ix_seq p_ix) (PV.weak (k := 1) (k1 := 0) (w_v_lst (w_l_cons (w_v_tup (w_l_cons (w_v_int (k := 0)) (w_l_cons (w_v_int (k := 0)) (w_l_nil (k := 0))))) (w_l_nil (k := 0)))) (by decide)) op_cat p_cat) (by decide)) (w_l_cons (PV.weak (k := 1) (k1 := 0) (v_revL (v_ix (v_var 3) (w_v_int (k := 0)) ix_seq p_ix)) (by decide)) (w_l_nil (k := 0))))))) (by decide)) op_cat p_cat) (by decide)))
      (k_cons (s_setLc (Gt := [0, 2, 0, 0, 0, 0, 0, 0, 0, 0, 0, 0, 0]) (Gs := [0, 2, 0, 0, 0, 0, 0, 0, 0, 0, 0, 0, 0]) (Gn := [0, 2, 0, 0, 0, 0, 0, 0, 0, 0, 0, 0, 0]) (k := 0) 4 [0, 2, 0, 0, 0, 0, 0, 0, 0, 0, 0, 0, 0] [("layers", 5)] (by rfl) sc_law.nd (w_it_list (v_var 3)) (blkOk_by (by rfl)) (fun s H C cl fp => by exact to_name 5 sc_law.nd) (fun s H C cl fp => by exact w_t_nil) (fun s H C cl fp => by exact w_v_call (ok_show_nesting E) (by exact gd) (by exact hr.mono (j := 2) (by decide)) E.g_show_nesting E.F_show_nesting.kp E.b_show_nesting (by exact passN) (w_l_cons (v_var 5) (w_l_nil (k := 0)))) (by rfl) (by rfl) (by rfl))
      (k_cons (w_s_for (Gn := [0, 2, 0, 0, 0, 0, 0, 0, 0, 0, 0, 0, 0]) [0, 2, 0, 0, 0, 0, 0, 0, 0, 0, 0, 0, 0] hp (by rfl) (w_it_zip (w_l_cons (v_var 3) (w_l_cons (v_var 4) (w_l_nil (k := 0)))) (by rfl) E.z_zip) (w_g_tup (n := 2) (by rfl) (gs_cons (g_name 5 sc_law.nd) (gs_cons (g_name 6 sc_law.nd) gs_nil))) (k_cons (s_set (k := 0) 7 sc_law.nd (w_v_call (ok_read_nesting E) (by exact gd) (by exact hr.mono (j := 3) (by decide)) E.g_read_nesting E.F_read_nesting.kp E.b_read_nesting (by exact pf) (w_l_cons (v_var 6) (w_l_nil (k := 0)))))
      (k_one (s_if (bw_pb (w_bw_or (w_b_not (b_val (w_v_call (ok__law_same E 6) (by exact gd) (by exact hr.mono (j := 7) (by decide)) E.g__law_same E.F__law_same.kp E.b__law_same (by exact pf) (w_l_cons (v_var 7) (w_l_cons (v_var 5) (w_l_nil (k := 0))))))) (w_bw_or (b_cmp (w_v_call (ok_show_nesting E) (by exact gd) (by exact hr.mono (j := 2) (by decide)) E.g_show_nesting E.F_show_nesting.kp E.b_show_nesting (by exact pf) (w_l_cons (v_var 7) (w_l_nil (k := 0)))) (v_var 6) (o_ne (by exact hr)) q_ne) (bw_or1 (b_cmp (w_v_call (ok_attempts E) (by exact gd) (by exact hr.mono (j := 3) (by decide)) E.g_attempts E.F_attempts.kp E.b_attempts (by exact pf) (w_l_cons (v_var 7) (w_l_nil (k := 0)))) (w_v_call (ok_attempts E) (by exact gd) (by exact hr.mono (j := 3) (by decide)) E.g_attempts E.F_attempts.kp E.b_attempts (by exact pf) (w_l_cons (v_var 5) (w_l_nil (k := 0)))) (o_ne (by exact hr)) q_ne))))) (k_one (w_s_ret (w_v_bl (k := 0)))) w_k_nil))))
      (k_one (w_s_for (Gn := [0, 2, 0, 0, 0, 0, 0, 0, 0, 0, 0, 0, 0]) [0, 2, 0, 0, 0, 0, 0, 0, 0, 0, 0, 0, 0] hp (by rfl) (w_it_zip (w_l_cons (v_var 3) (w_l_cons (v_var 4) (w_l_nil (k := 0)))) (by rfl) E.z_zip) (w_g_tup (n := 2) (by rfl) (gs_cons (g_name 8 sc_law.nd) (gs_cons (g_name 6 sc_law.nd) gs_nil))) (k_one (w_s_for (Gn := [0, 2, 0, 0, 0, 0, 0, 0, 0, 0, 0, 0, 0]) [0, 2, 0, 0, 0, 0, 0, 0, 0, 0, 0, 0, 0] hp (by rfl) (w_it_zip (w_l_cons (v_var 3) (w_l_cons (v_var 4) (w_l_nil (k := 0)))) (by rfl) E.z_zip) (w_g_tup (n := 2) (by rfl) (gs_cons (g_name 9 sc_law.nd) (gs_cons (g_name 10 sc_law.nd) gs_nil))) (k_cons (s_if (b_cmp (v_cmp (k := 0) (v_var 6) (v_var 10) (o_eq (by exact hr)) q_eq) (v_cmp (k := 0) (v_var 8) (v_var 9) (o_eq (by exact hr)) q_eq) (o_ne (by exact hr)) q_ne) (k_one (w_s_ret (w_v_bl (k := 0)))) w_k_nil)
      (k_cons (s_set (k := 0) 11 sc_law.nd (v_join (k := 0) (w_v_str (k := 0)) (PV.weak (k := 1) (k1 := 0) (v_lc (Gt := [0, 2, 0, 0, 0, 0, 0, 0, 0, 0, 0, 0, 0]) (Gs := [0, 2, 0, 0, 0, 0, 0, 0, 0, 0, 0, 0, 0]) (Gn := [0, 2, 0, 0, 0, 0, 0, 0, 0, 0, 0, 0, 0]) (k := 0) [0, 2, 0, 0, 0, 0, 0, 0, 0, 0, 0, 0, 0] [("part", 12)] (by rfl) sc_law.nd (w_it_list (PV.weak (k := 1) (k1 := 0) (w_v_lst (w_l_cons (v_var 6) (w_l_cons (v_var 10) (w_l_nil (k := 0))))) (by decide))) (blkOk_by (by rfl)) (fun s H C cl fp => by exact to_name 12 sc_law.nd) (fun s H C cl fp => by exact t_one (b_cmp (v_var 12) (w_v_str (k := 0)) (o_ne (by exact hr)) q_ne)) (fun s H C cl fp => by exact v_var 12)) (by decide))))
      (k_one (s_if (bw_pb (w_bw_and (b_cmp (PV.weak (k := 1) (k1 := 0) (v_op (v_var 8) (v_var 9) op_cat p_cat) (by decide)) (PV.weak (k := 1) (k1 := 0) (w_v_lst (w_l_nil (k := 0))) (by decide)) (o_ne (by exact hr)) q_ne) (bw_and1 (b_cmp (w_v_call (ok_show_nesting E) (by exact gd) (by exact hr.mono (j := 2) (by decide)) E.g_show_nesting E.F_show_nesting.kp E.b_show_nesting (by exact pf) (w_l_cons (PV.weak (k := 1) (k1 := 0) (v_op (v_var 8) (v_var 9) op_cat p_cat) (by decide)) (w_l_nil (k := 0)))) (v_var 11) (o_ne (by exact hr)) q_ne)))) (k_one (w_s_ret (w_v_bl (k := 0)))) w_k_nil)))))))))))))
      (k_one (w_s_ret (w_v_bl (k := 0)))))
end
set_option maxHeartbeats 0 in
theorem facts_mk {K : PySem.W.Frag} {h : Heap} {mg : Str → Option Value} (X : K.In h) (G : h.Ns mainGlobals mg) {x0 x1 x2 x3 x4 x5 x6 x7 x8 x9 x10 x11 x12 x13 x14 x15 : Addr} {od0 an0 od1 an1 od2 an2 od3 an3 od4 an4 od5 an5 od6 an6 od7 an7 od8 an8 od9 an9 od10 an10 od11 an11 od12 an12 od13 an13 od14 an14 od15 an15 : Option Addr} {sl0 sl1 sl2 sl3 sl4 sl5 sl6 sl7 sl8 sl9 sl10 sl11 sl12 sl13 sl14 sl15 : Array (Option Value)} {oc0 kV0 dc0 pm0 cd0 ct0 oc1 kV1 dc1 pm1 cd1 ct1 oc2 kV2 dc2 pm2 cd2 ct2 oc3 kV3 dc3 pm3 cd3 ct3 oc4 kV4 dc4 pm4 cd4 ct4 oc5 kV5 dc5 pm5 cd5 ct5 oc6 kV6 dc6 pm6 cd6 ct6 oc7 kV7 dc7 pm7 cd7 ct7 oc8 kV8 dc8 pm8 cd8 ct8 oc9 kV9 dc9 pm9 cd9 ct9 oc10 kV10 dc10 pm10 cd10 ct10 oc11 kV11 dc11 pm11 cd11 ct11 oc12 kV12 dc12 pm12 cd12 ct12 oc13 kV13 dc13 pm13 cd13 ct13 oc14 kV14 dc14 pm14 cd14 ct14 oc15 kV15 dc15 pm15 cd15 ct15 : Value} {tk0 tk1 tk2 tk3 tk4 tk5 tk6 : Tok}
    (a0 : PySem.W.nsIn K mainGlobals "_law_source" = some (some (.ref x0)))
    (l0 : K.lookup x0 = some ⟨oc0, od0, .func (PySem.W.fnOf "_law_source" "_law_source" (defArgs st__law_source) (defBody st__law_source) (defScope st__law_source) .none kV0 dc0 pm0 an0 cd0 ct0), sl0⟩)
    (c0 : PySem.W.codeIn K cd0 "_law_source" = true)
    (k0 : PySem.W.keepIn K (.ref x0) = true)
    (a1 : PySem.W.nsIn K mainGlobals "layer_text" = some (some (.ref x1)))
    (l1 : K.lookup x1 = some ⟨oc1, od1, .func (PySem.W.fnOf "layer_text" "layer_text" (defArgs st_layer_text) (defBody st_layer_text) (defScope st_layer_text) .none kV1 dc1 pm1 an1 cd1 ct1), sl1⟩)
    (c1 : PySem.W.codeIn K cd1 "layer_text" = true)
    (k1 : PySem.W.keepIn K (.ref x1) = true)
    (a2 : PySem.W.nsIn K mainGlobals "show_nesting" = some (some (.ref x2)))
    (l2 : K.lookup x2 = some ⟨oc2, od2, .func (PySem.W.fnOf "show_nesting" "show_nesting" (defArgs st_show_nesting) (defBody st_show_nesting) (defScope st_show_nesting) .none kV2 dc2 pm2 an2 cd2 ct2), sl2⟩)
    (c2 : PySem.W.codeIn K cd2 "show_nesting" = true)
    (k2 : PySem.W.keepIn K (.ref x2) = true)
    (a3 : PySem.W.nsIn K mainGlobals "number_in" = some (some (.ref x3)))
    (l3 : K.lookup x3 = some ⟨oc3, od3, .func (PySem.W.fnOf "number_in" "number_in" (defArgs st_number_in) (defBody st_number_in) (defScope st_number_in) .none kV3 dc3 pm3 an3 cd3 ct3), sl3⟩)
    (c3 : PySem.W.codeIn K cd3 "number_in" = true)
    (k3 : PySem.W.keepIn K (.ref x3) = true)
    (a4 : PySem.W.nsIn K mainGlobals "is_layer" = some (some (.ref x4)))
    (l4 : K.lookup x4 = some ⟨oc4, od4, .func (PySem.W.fnOf "is_layer" "is_layer" (defArgs st_is_layer) (defBody st_is_layer) (defScope st_is_layer) .none kV4 dc4 pm4 an4 cd4 ct4), sl4⟩)
    (c4 : PySem.W.codeIn K cd4 "is_layer" = true)
    (k4 : PySem.W.keepIn K (.ref x4) = true)
    (a5 : PySem.W.nsIn K mainGlobals "layer_in" = some (some (.ref x5)))
    (l5 : K.lookup x5 = some ⟨oc5, od5, .func (PySem.W.fnOf "layer_in" "layer_in" (defArgs st_layer_in) (defBody st_layer_in) (defScope st_layer_in) .none kV5 dc5 pm5 an5 cd5 ct5), sl5⟩)
    (c5 : PySem.W.codeIn K cd5 "layer_in" = true)
    (k5 : PySem.W.keepIn K (.ref x5) = true)
    (a6 : PySem.W.nsIn K mainGlobals "read_nesting" = some (some (.ref x6)))
    (l6 : K.lookup x6 = some ⟨oc6, od6, .func (PySem.W.fnOf "read_nesting" "read_nesting" (defArgs st_read_nesting) (defBody st_read_nesting) (defScope st_read_nesting) .none kV6 dc6 pm6 an6 cd6 ct6), sl6⟩)
    (c6 : PySem.W.codeIn K cd6 "read_nesting" = true)
    (k6 : PySem.W.keepIn K (.ref x6) = true)
    (a7 : PySem.W.nsIn K mainGlobals "_law_draw" = some (some (.ref x7)))
    (l7 : K.lookup x7 = some ⟨oc7, od7, .func (PySem.W.fnOf "_law_draw" "_law_draw" (defArgs st__law_draw) (defBody st__law_draw) (defScope st__law_draw) .none kV7 dc7 pm7 an7 cd7 ct7), sl7⟩)
    (c7 : PySem.W.codeIn K cd7 "_law_draw" = true)
    (k7 : PySem.W.keepIn K (.ref x7) = true)
    (a8 : PySem.W.nsIn K mainGlobals "_law_number_drawn" = some (some (.ref x8)))
    (l8 : K.lookup x8 = some ⟨oc8, od8, .func (PySem.W.fnOf "_law_number_drawn" "_law_number_drawn" (defArgs st__law_number_drawn) (defBody st__law_number_drawn) (defScope st__law_number_drawn) .none kV8 dc8 pm8 an8 cd8 ct8), sl8⟩)
    (c8 : PySem.W.codeIn K cd8 "_law_number_drawn" = true)
    (k8 : PySem.W.keepIn K (.ref x8) = true)
    (a9 : PySem.W.nsIn K mainGlobals "_law_any_nesting" = some (some (.ref x9)))
    (l9 : K.lookup x9 = some ⟨oc9, od9, .func (PySem.W.fnOf "_law_any_nesting" "_law_any_nesting" (defArgs st__law_any_nesting) (defBody st__law_any_nesting) (defScope st__law_any_nesting) .none kV9 dc9 pm9 an9 cd9 ct9), sl9⟩)
    (c9 : PySem.W.codeIn K cd9 "_law_any_nesting" = true)
    (k9 : PySem.W.keepIn K (.ref x9) = true)
    (a10 : PySem.W.nsIn K mainGlobals "_law_same" = some (some (.ref x10)))
    (l10 : K.lookup x10 = some ⟨oc10, od10, .func (PySem.W.fnOf "_law_same" "_law_same" (defArgs st__law_same) (defBody st__law_same) (defScope st__law_same) .none kV10 dc10 pm10 an10 cd10 ct10), sl10⟩)
    (c10 : PySem.W.codeIn K cd10 "_law_same" = true)
    (k10 : PySem.W.keepIn K (.ref x10) = true)
    (a11 : PySem.W.nsIn K mainGlobals "check_nesting" = some (some (.ref x11)))
    (l11 : K.lookup x11 = some ⟨oc11, od11, .func (PySem.W.fnOf "check_nesting" "check_nesting" (defArgs st_check_nesting) (defBody st_check_nesting) (defScope st_check_nesting) .none kV11 dc11 pm11 an11 cd11 ct11), sl11⟩)
    (c11 : PySem.W.codeIn K cd11 "check_nesting" = true)
    (k11 : PySem.W.keepIn K (.ref x11) = true)
    (a12 : PySem.W.nsIn K mainGlobals "size_of" = some (some (.ref x12)))
    (l12 : K.lookup x12 = some ⟨oc12, od12, .func (PySem.W.fnOf "size_of" "size_of" (defArgs st_size_of) (defBody st_size_of) (defScope st_size_of) .none kV12 dc12 pm12 an12 cd12 ct12), sl12⟩)
    (c12 : PySem.W.codeIn K cd12 "size_of" = true)
    (k12 : PySem.W.keepIn K (.ref x12) = true)
    (a13 : PySem.W.nsIn K mainGlobals "total_of" = some (some (.ref x13)))
    (l13 : K.lookup x13 = some ⟨oc13, od13, .func (PySem.W.fnOf "total_of" "total_of" (defArgs st_total_of) (defBody st_total_of) (defScope st_total_of) .none kV13 dc13 pm13 an13 cd13 ct13), sl13⟩)
    (c13 : PySem.W.codeIn K cd13 "total_of" = true)
    (k13 : PySem.W.keepIn K (.ref x13) = true)
    (a14 : PySem.W.nsIn K mainGlobals "attempts" = some (some (.ref x14)))
    (l14 : K.lookup x14 = some ⟨oc14, od14, .func (PySem.W.fnOf "attempts" "attempts" (defArgs st_attempts) (defBody st_attempts) (defScope st_attempts) .none kV14 dc14 pm14 an14 cd14 ct14), sl14⟩)
    (c14 : PySem.W.codeIn K cd14 "attempts" = true)
    (k14 : PySem.W.keepIn K (.ref x14) = true)
    (a15 : PySem.W.nsIn K mainGlobals "law" = some (some (.ref x15)))
    (l15 : K.lookup x15 = some ⟨oc15, od15, .func (PySem.W.fnOf "law" "law" (defArgs st_law) (defBody st_law) (defScope st_law) .none kV15 dc15 pm15 an15 cd15 ct15), sl15⟩)
    (c15 : PySem.W.codeIn K cd15 "law" = true)
    (k15 : PySem.W.keepIn K (.ref x15) = true)
    (z0 : PySem.W.nsIn K mainGlobals "all" = some none)
    (z1 : PySem.W.nsIn K mainGlobals "bool" = some none)
    (z2 : PySem.W.nsIn K mainGlobals "enumerate" = some none)
    (z3 : PySem.W.nsIn K mainGlobals "int" = some none)
    (z4 : PySem.W.nsIn K mainGlobals "isinstance" = some none)
    (z5 : PySem.W.nsIn K mainGlobals "len" = some none)
    (z6 : PySem.W.nsIn K mainGlobals "list" = some none)
    (z7 : PySem.W.nsIn K mainGlobals "max" = some none)
    (z8 : PySem.W.nsIn K mainGlobals "min" = some none)
    (z9 : PySem.W.nsIn K mainGlobals "range" = some none)
    (z10 : PySem.W.nsIn K mainGlobals "str" = some none)
    (z11 : PySem.W.nsIn K mainGlobals "tuple" = some none)
    (z12 : PySem.W.nsIn K mainGlobals "zip" = some none)
    (q0 : PySem.W.nsIn K mainGlobals "BETWEEN_LAYERS" = some (some (.str " / " tk0)))
    (q1 : PySem.W.nsIn K mainGlobals "BETWEEN_NUMBERS" = some (some (.str "x" tk1)))
    (q2 : PySem.W.nsIn K mainGlobals "BETWEEN_WAITS" = some (some (.str "," tk2)))
    (q3 : PySem.W.nsIn K mainGlobals "DIGITS" = some (some (.str "0123456789" tk3)))
    (q4 : PySem.W.nsIn K mainGlobals "MOST_DIGITS" = some (some (.int 2000 tk4)))
    (q5 : PySem.W.nsIn K mainGlobals "NO_LAYERS" = some (some (.str "none" tk5)))
    (q6 : PySem.W.nsIn K mainGlobals "NO_WAITS" = some (some (.str "-" tk6)))
    : ∃ E : Fs K mg, E.f_law = x15 ∧ E.fd_law = PySem.W.fnOf "law" "law" (defArgs st_law) (defBody st_law) (defScope st_law) .none kV15 dc15 pm15 an15 cd15 ct15 := ⟨{
      f__law_source := x0,
      fd__law_source := _,
      F__law_source := fun_mk (st := st__law_source) l0 c0 k0,
      g__law_source := PySem.W.mg_of X G a0,
      b__law_source := (fun_mk (st := st__law_source) l0 c0 k0).binds (ps := ["script"]) fun _ _ _ _ _ _ us hl => match us, hl with | [_], _ => rfl,
      f_layer_text := x1,
      fd_layer_text := _,
      F_layer_text := fun_mk (st := st_layer_text) l1 c1 k1,
      g_layer_text := PySem.W.mg_of X G a1,
      b_layer_text := (fun_mk (st := st_layer_text) l1 c1 k1).binds (ps := ["layer"]) fun _ _ _ _ _ _ us hl => match us, hl with | [_], _ => rfl,
      f_show_nesting := x2,
      fd_show_nesting := _,
      F_show_nesting := fun_mk (st := st_show_nesting) l2 c2 k2,
      g_show_nesting := PySem.W.mg_of X G a2,
      b_show_nesting := (fun_mk (st := st_show_nesting) l2 c2 k2).binds (ps := ["nesting"]) fun _ _ _ _ _ _ us hl => match us, hl with | [_], _ => rfl,
      f_number_in := x3,
      fd_number_in := _,
      F_number_in := fun_mk (st := st_number_in) l3 c3 k3,
      g_number_in := PySem.W.mg_of X G a3,
      b_number_in := (fun_mk (st := st_number_in) l3 c3 k3).binds (ps := ["word"]) fun _ _ _ _ _ _ us hl => match us, hl with | [_], _ => rfl,
      f_is_layer := x4,
      fd_is_layer := _,
      F_is_layer := fun_mk (st := st_is_layer) l4 c4 k4,
      g_is_layer := PySem.W.mg_of X G a4,
      b_is_layer := (fun_mk (st := st_is_layer) l4 c4 k4).binds (ps := ["layer"]) fun _ _ _ _ _ _ us hl => match us, hl with | [_], _ => rfl,
      f_layer_in := x5,
      fd_layer_in := _,
      F_layer_in := fun_mk (st := st_layer_in) l5 c5 k5,
      g_layer_in := PySem.W.mg_of X G a5,
      b_layer_in := (fun_mk (st := st_layer_in) l5 c5 k5).binds (ps := ["word"]) fun _ _ _ _ _ _ us hl => match us, hl with | [_], _ => rfl,
      f_read_nesting := x6,
      fd_read_nesting := _,
      F_read_nesting := fun_mk (st := st_read_nesting) l6 c6 k6,
      g_read_nesting := PySem.W.mg_of X G a6,
      b_read_nesting := (fun_mk (st := st_read_nesting) l6 c6 k6).binds (ps := ["text"]) fun _ _ _ _ _ _ us hl => match us, hl with | [_], _ => rfl,
      f__law_draw := x7,
      fd__law_draw := _,
      F__law_draw := fun_mk (st := st__law_draw) l7 c7 k7,
      g__law_draw := PySem.W.mg_of X G a7,
      b__law_draw := (fun_mk (st := st__law_draw) l7 c7 k7).binds (ps := ["source", "many"]) fun _ _ _ _ _ _ us hl => match us, hl with | [_, _], _ => rfl,
      f__law_number_drawn := x8,
      fd__law_number_drawn := _,
      F__law_number_drawn := fun_mk (st := st__law_number_drawn) l8 c8 k8,
      g__law_number_drawn := PySem.W.mg_of X G a8,
      b__law_number_drawn := (fun_mk (st := st__law_number_drawn) l8 c8 k8).binds (ps := ["source", "top"]) fun _ _ _ _ _ _ us hl => match us, hl with | [_, _], _ => rfl,
      f__law_any_nesting := x9,
      fd__law_any_nesting := _,
      F__law_any_nesting := fun_mk (st := st__law_any_nesting) l9 c9 k9,
      g__law_any_nesting := PySem.W.mg_of X G a9,
      b__law_any_nesting := (fun_mk (st := st__law_any_nesting) l9 c9 k9).binds (ps := ["source"]) fun _ _ _ _ _ _ us hl => match us, hl with | [_], _ => rfl,
      f__law_same := x10,
      fd__law_same := _,
      F__law_same := fun_mk (st := st__law_same) l10 c10 k10,
      g__law_same := PySem.W.mg_of X G a10,
      b__law_same := (fun_mk (st := st__law_same) l10 c10 k10).binds (ps := ["found", "wanted"]) fun _ _ _ _ _ _ us hl => match us, hl with | [_, _], _ => rfl,
      f_check_nesting := x11,
      fd_check_nesting := _,
      F_check_nesting := fun_mk (st := st_check_nesting) l11 c11 k11,
      g_check_nesting := PySem.W.mg_of X G a11,
      b_check_nesting := (fun_mk (st := st_check_nesting) l11 c11 k11).binds (ps := ["nesting"]) fun _ _ _ _ _ _ us hl => match us, hl with | [_], _ => rfl,
      f_size_of := x12,
      fd_size_of := _,
      F_size_of := fun_mk (st := st_size_of) l12 c12 k12,
      g_size_of := PySem.W.mg_of X G a12,
      b_size_of := (fun_mk (st := st_size_of) l12 c12 k12).binds (ps := ["layer"]) fun _ _ _ _ _ _ us hl => match us, hl with | [_], _ => rfl,
      f_total_of := x13,
      fd_total_of := _,
      F_total_of := fun_mk (st := st_total_of) l13 c13 k13,
      g_total_of := PySem.W.mg_of X G a13,
      b_total_of := (fun_mk (st := st_total_of) l13 c13 k13).binds (ps := ["nesting"]) fun _ _ _ _ _ _ us hl => match us, hl with | [_], _ => rfl,
      f_attempts := x14,
      fd_attempts := _,
      F_attempts := fun_mk (st := st_attempts) l14 c14 k14,
      g_attempts := PySem.W.mg_of X G a14,
      b_attempts := (fun_mk (st := st_attempts) l14 c14 k14).binds (ps := ["nesting"]) fun _ _ _ _ _ _ us hl => match us, hl with | [_], _ => rfl,
      f_law := x15,
      fd_law := _,
      F_law := fun_mk (st := st_law) l15 c15 k15,
      g_law := PySem.W.mg_of X G a15,
      b_law := (fun_mk (st := st_law) l15 c15 k15).binds (ps := ["script"]) fun _ _ _ _ _ _ us hl => match us, hl with | [_], _ => rfl,
      z_all := PySem.W.mg_none_of X G z0,
      z_bool := PySem.W.mg_none_of X G z1,
      z_enumerate := PySem.W.mg_none_of X G z2,
      z_int := PySem.W.mg_none_of X G z3,
      z_isinstance := PySem.W.mg_none_of X G z4,
      z_len := PySem.W.mg_none_of X G z5,
      z_list := PySem.W.mg_none_of X G z6,
      z_max := PySem.W.mg_none_of X G z7,
      z_min := PySem.W.mg_none_of X G z8,
      z_range := PySem.W.mg_none_of X G z9,
      z_str := PySem.W.mg_none_of X G z10,
      z_tuple := PySem.W.mg_none_of X G z11,
      z_zip := PySem.W.mg_none_of X G z12,
      t_BETWEEN_LAYERS := tk0,
      c_BETWEEN_LAYERS := PySem.W.mg_of X G q0,
      t_BETWEEN_NUMBERS := tk1,
      c_BETWEEN_NUMBERS := PySem.W.mg_of X G q1,
      t_BETWEEN_WAITS := tk2,
      c_BETWEEN_WAITS := PySem.W.mg_of X G q2,
      t_DIGITS := tk3,
      c_DIGITS := PySem.W.mg_of X G q3,
      t_MOST_DIGITS := tk4,
      c_MOST_DIGITS := PySem.W.mg_of X G q4,
      t_NO_LAYERS := tk5,
      c_NO_LAYERS := PySem.W.mg_of X G q5,
      t_NO_WAITS := tk6,
      c_NO_WAITS := PySem.W.mg_of X G q6 }, rfl, rfl⟩
theorem all_mk {l : PySem.W.OpenLaw} {w : World} {K : PySem.W.Frag} {h : Heap} {mg : Str → Option Value} {fa : Addr} (hfa : mg "law" = some (.ref fa)) {kV dc pm cd ct : Value} {x : Addr} {an : Option Addr} (A : ∃ E : Fs K mg, E.f_law = x ∧ E.fd_law = PySem.W.fnOf "law" "law" (defArgs st_law) (defBody st_law) (defScope st_law) .none kV dc pm an cd ct) :
    ∃ fd : FuncData, (∀ (s : Shared) (u : Value), BindsTo s fd ⟨[u], []⟩ [("script", u)]) ∧ ∀ base : Heap, K.In base → base.Ns mainGlobals mg → FnG l.prog w K mg base 8 fa fd ["script"] (SpD K mg none 1 0 r_law) := by
  obtain ⟨E, e1, e2⟩ := A
  have e3 := hfa.symm.trans E.g_law
  have e4 : fa = E.f_law := by cases e3; rfl
  subst e4
  refine ⟨E.fd_law, fun s u => ?_, fun base _ _ => ok_law E⟩
  rw [e2]
  exact .of_eq rfl
end Lk43

namespace Lk43
open PySem PySem.Spec VL PG MP FP ST L2
open FA (Src)
open TL (tl)
theorem tl_itx {i : Int} (h : 0 ≤ i) : ∃ n : Nat, i = (n : Int) ∧ tl (itx i) = TL.numL n := by
  obtain ⟨n, rfl⟩ := Int.eq_ofNat_of_zero_le h
  exact ⟨n, rfl, TL.tl_num n⟩
theorem head_ne : ∀ (n : Nat), 0 < n → ∃ c r, TL.numL n = c :: r ∧ c ≠ 48 := by
  intro n
  induction n using Nat.strongRecOn with
  | _ n ih =>
    intro h
    by_cases c : n < 10
    · exact ⟨48 + n, [], TL.numL_lt c, by omega⟩
    · obtain ⟨c, r, e, hc⟩ := ih (n / 10) (by omega) (by omega)
      exact ⟨c, r ++ [48 + n % 10], by rw [TL.numL_step (by omega), e]; rfl, hc⟩
theorem str_eq {x y : Str} (h : tl x = tl y) : x = y := PySem.Str.ext' (Array.toList_inj.mp h)
theorem qEq_ss (x y : Str) : qEq (.str x) (.str y) = some (.bl (decide (x = y))) := rfl
theorem qNe_ss (x y : Str) : qNe (.str x) (.str y) = some (.bl (!decide (x = y))) := rfl
theorem all_true (k : Nat) : pAll [.lst (List.replicate k (D.bl true))] = some (.bl true) := by
  have := pAll_bl (bs := List.replicate k true)
  rw [List.map_replicate] at this
  rw [this]
  have : (List.replicate k true).all id = true := List.all_eq_true.mpr fun b hb => (List.mem_replicate.mp hb).2
  rw [this]
theorem number_ok {i : Int} (h0 : 0 ≤ i) (h1 : i < 10 ^ 30) : r_number_in [.str (itx i)] = .ok (.int i) none := by
  have hl := itx_len h0 h1
  obtain ⟨n, rfl, e⟩ := tl_itx h0
  have dg := TL.numL_digits n
  have hL : (itx (n : Int)).length = (TL.numL n).length := by
    rw [← e]
    exact (Array.length_toList ..).symm
  have hp : 0 < (itx (n : Int)).length := by
    rw [hL]
    exact List.length_pos_iff.mpr (TL.numL_ne n)
  have pl : pLen [.str (itx (n : Int))] = some (.int ((itx (n : Int)).length : Int)) := by
    show ((if (itx (n : Int)).length ≤ 100000 then some (itx (n : Int)).length else none).map fun n => D.int (n : Int)) = _
    rw [if_pos (by omega)]
    rfl
  have pi : pIntS [.str (itx (n : Int))] = some (.int (n : Int)) := by
    show (if (itx (n : Int)).length ≤ 640 then (PySem.intText? (itx (n : Int))).map D.int else none) = _
    rw [if_pos (by omega), show PySem.intText? (itx (n : Int)) = some (n : Int) from TL.int_num (by rw [← hL]; omega)]
    rfl
  have ds : signsD (.str (itx (n : Int))) = some ((TL.numL n).map fun c => D.str ⟨#[c]⟩) := by
    show some ((tl (itx (n : Int))).map fun c => D.str ⟨#[c]⟩) = _
    rw [e]
  have q0 : ∃ b, qEq (.str (itx (n : Int))) (.str "0") = some (.bl b) ∧ (b = true ∨ ∃ c, pIxS (.str (itx (n : Int))) (.int 0) = some (.str ⟨#[c]⟩) ∧ qNe (.str ⟨#[c]⟩) (.str "0") = some (.bl true)) := by
    refine ⟨_, qEq_ss _ _, ?_⟩
    rcases Nat.eq_zero_or_pos n with z | z
    · subst z
      exact .inl (by decide +kernel)
    · obtain ⟨c, r, ec, hc⟩ := head_ne n z
      refine .inr ⟨c, ?_, ?_⟩
      · show (if (itx (n : Int)).length ≤ 100000 then (if (0 : Int) = 0 then ((itx (n : Int)).cps[0]?).map fun c => D.str ⟨#[c]⟩ else none) else none) = _
        rw [if_pos (by omega), if_pos rfl]
        have : (itx (n : Int)).cps.toList[0]? = some c := by
          have : tl (itx (n : Int)) = c :: r := e.trans ec
          show (tl (itx (n : Int)))[0]? = some c
          rw [this]; rfl
        rw [Array.getElem?_toList] at this
        rw [this]
        rfl
      · rw [qNe_ss]
        have : ¬ (⟨#[c]⟩ : Str) = "0" := fun z => hc (by
          have := congrArg tl z
          have e0 : tl ("0" : Str) = [48] := by decide +kernel
          rw [e0] at this
          exact (List.cons.inj this).1)
        rw [decide_eq_false this]
        rfl
  obtain ⟨b, q1, q2⟩ := q0
  have dig : ∀ c ∈ TL.numL n, pInS false (.str ⟨#[c]⟩) (.str "0123456789") = some (.bl true) := fun c hc => by
    have h := dg c hc
    show (if ((⟨#[c]⟩ : Str)).length = 1 then some (D.bl (if false then !decide (c ∈ tl ("0123456789" : Str)) else decide (c ∈ tl ("0123456789" : Str)))) else none) = _
    have ed : tl ("0123456789" : Str) = [48, 49, 50, 51, 52, 53, 54, 55, 56, 57] := by decide +kernel
    have l1 : ((⟨#[c]⟩ : Str)).length = 1 := rfl
    rw [if_pos l1, ed]
    have hm : c ∈ [48, 49, 50, 51, 52, 53, 54, 55, 56, 57] := by
      simp only [List.mem_cons, List.not_mem_nil, or_false]
      omega
    rw [decide_eq_true hm]
    rfl
  have h1' : (1 : Int) ≤ ((itx (n : Int)).length : Int) := by omega
  have h2' : ((itx (n : Int)).length : Int) ≤ 2000 := by omega
  have ll : ((TL.numL n).map fun c => D.str ⟨#[c]⟩).length ≤ 100000 := by rw [List.length_map, ← hL]; omega
  have ll2 : (TL.numL n).length ≤ 100000 := by rw [← hL]; omega
  refine WD.eq ?_
  unfold r_number_in d_number_in
  generalize itx (n : Int) = XT at *
  generalize ((XT.length : Nat) : Int) = LI at *
  simp [dItS, pl, h1', h2', ds, ll, ll2]
  refine WR_comp (fun i acc r => acc = List.replicate i (D.bl true) ∧ r = [some (.str XT), none]) ⟨rfl, rfl⟩ ?_ ?_
  · rintro i d acc r hd ⟨rfl, rfl⟩
    rw [List.getElem?_map] at hd
    cases ec : (TL.numL n)[i]? with
    | none => rw [ec] at hd; cases hd
    | some c =>
      rw [ec] at hd
      cases hd
      have dc := dig c (List.mem_of_getElem? ec)
      simp [dc, List.replicate_succ']
  · rintro acc r ⟨rfl, rfl⟩
    have pa := all_true ((TL.numL n).map fun c => D.str ⟨#[c]⟩).length
    generalize ((TL.numL n).map fun c => D.str ⟨#[c]⟩).length = M at *
    generalize List.replicate M (D.bl true) = TK at *
    rcases q2 with rfl | ⟨c, x1, x2⟩
    · simp [pa, q1, pi]
    · cases b with
      | true => simp [pa, q1, pi]
      | false => simp [pa, q1, x1, x2, pi]
/-! ### the text of a layer -/
def tx : Ly → Str
  | .lst ws => if ws = [] then "-" else Txt.join "," (ws.map itx)
  | .con w s => Txt.join "x" [itx w, itx s]
def sh (ls : List Ly) : Str := if ls = [] then "none" else Txt.join " / " (ls.map tx)
def Lk : Ly → Prop
  | .lst ws => (∀ w ∈ ws, Wt w) ∧ ws.length ≤ 400
  | .con w s => Wt w ∧ 1 ≤ s ∧ s < 2 ^ 70
theorem w30 {w : Int} (h : Wt w) : w < 10 ^ 30 := Int.lt_trans h.2 (by decide)
theorem s30 {s : Int} (h : s < 2 ^ 70) : s < 10 ^ 30 := Int.lt_trans h (by decide)
theorem joinL_free {c : Nat} {y : List Nat} (hy : c ∉ y) : ∀ {parts : List (List Nat)}, (∀ p ∈ parts, c ∉ p) → c ∉ TL.joinL y parts
  | [], _ => by intro h; cases h
  | [p], hp => hp p List.mem_cons_self
  | p :: q :: r, hp => by
    show c ∉ p ++ (y ++ TL.joinL y (q :: r))
    intro h
    rcases List.mem_append.mp h with h | h
    · exact hp p List.mem_cons_self h
    · rcases List.mem_append.mp h with h | h
      · exact hy h
      · exact joinL_free hy (fun z hz => hp z (List.mem_cons_of_mem _ hz)) h
theorem join_free {c : Nat} {y : Str} (hy : c ∉ tl y) {parts : List Str} (hp : ∀ p ∈ parts, c ∉ tl p) : c ∉ tl (Txt.join y parts) := by
  rw [TL.join_eq, TL.tl_join]
  refine joinL_free hy fun p hm => ?_
  obtain ⟨z, hz, rfl⟩ := List.mem_map.mp hm
  exact hp z hz
theorem itx_sign {c : Nat} (hc : c < 48 ∨ 57 < c) {i : Int} (h : 0 ≤ i) : c ∉ tl (itx i) := by
  obtain ⟨n, rfl, e⟩ := tl_itx h
  rw [e]
  exact TL.numL_free hc
theorem tl_comma : tl (("," : Str)) = [44] := by decide +kernel
theorem tl_x : tl (("x" : Str)) = [120] := by decide +kernel
theorem tl_dash : tl (("-" : Str)) = [45] := by decide +kernel
theorem tl_sep : tl ((" / " : Str)) = 32 :: [47, 32] := by decide +kernel
theorem lst_free {c : Nat} (h1 : c ≠ 44) (h2 : c < 48 ∨ 57 < c) {ws : List Int} (h : ∀ w ∈ ws, Wt w) : c ∉ tl (Txt.join "," (ws.map itx)) := by
  refine join_free (by rw [tl_comma]; simpa using h1) fun p hp => ?_
  obtain ⟨w, hw, rfl⟩ := List.mem_map.mp hp
  exact itx_sign h2 (h w hw).1
theorem con_free {c : Nat} (h1 : c ≠ 120) (h2 : c < 48 ∨ 57 < c) {w s : Int} (hw : 0 ≤ w) (hs : 0 ≤ s) : c ∉ tl (Txt.join "x" [itx w, itx s]) := by
  refine join_free (by rw [tl_x]; simpa using h1) fun p hp => ?_
  rcases List.mem_cons.mp hp with e | e
  · rw [e]; exact itx_sign h2 hw
  · rw [List.mem_singleton.mp e]; exact itx_sign h2 hs
theorem con_x {w s : Int} : 120 ∈ tl (Txt.join "x" [itx w, itx s]) := by
  rw [TL.join_eq, TL.tl_join]
  show 120 ∈ tl (itx w) ++ (tl "x" ++ tl (itx s))
  rw [tl_x]
  exact List.mem_append_right _ (List.mem_append_left _ List.mem_cons_self)
theorem not_dash {x : Str} (h : 45 ∉ tl x) : qEq (.str x) (.str "-") = some (.bl false) := by
  rw [qEq_ss, decide_eq_false fun z => h (by rw [z, tl_dash]; exact List.mem_cons_self)]
theorem in_x (x : Str) : pInS false (.str "x") (.str x) = some (.bl (decide (120 ∈ tl x))) := by
  have l1 : (("x" : Str)).length = 1 := by decide +kernel
  show (if (("x" : Str)).length = 1 then some (D.bl (if false then !decide ((tl ("x" : Str)).headD 0 ∈ tl x) else decide ((tl ("x" : Str)).headD 0 ∈ tl x))) else none) = _
  rw [if_pos l1, tl_x]
  rfl
end Lk43

namespace Lk43
open PySem PySem.Spec VL PG MP FP ST L2
open FA (Src)
open TL (tl)
theorem eq_isl : r_is_layer = PG.r_is_layer := rfl
theorem sum_len {α : Type} (f : α → Nat) (m : Nat) : ∀ xs : List α, (∀ x ∈ xs, f x ≤ m) → (xs.map f).sum ≤ xs.length * m
  | [], _ => Nat.zero_le _
  | x :: xs, h => by
    have h1 := h x List.mem_cons_self
    have h2 := sum_len f m xs fun y hy => h y (List.mem_cons_of_mem _ hy)
    rw [List.map_cons, List.sum_cons, List.length_cons, Nat.succ_mul]
    omega
theorem join_len (y : Str) (m : Nat) (parts : List Str) (h : ∀ p ∈ parts, p.length ≤ m) : (Txt.join y parts).length ≤ parts.length * m + parts.length * y.length := by
  have e : (Txt.join y parts).length = (parts.map (·.length)).sum + (parts.length - 1) * y.length := PySem.size_glued y parts
  rw [e]
  have h1 := sum_len (fun p : Str => p.length) m parts h
  have h2 : (parts.length - 1) * y.length ≤ parts.length * y.length := Nat.mul_le_mul_right _ (by omega)
  omega
theorem one_len : ((",": Str)).length = 1 ∧ (("x": Str)).length = 1 ∧ ((" / ": Str)).length = 3 := ⟨by decide +kernel, by decide +kernel, by decide +kernel⟩
theorem lst_len {ws : List Int} (h : Lk (.lst ws)) : (Txt.join "," (ws.map itx)).length ≤ 13000 := by
  have := join_len "," 30 (ws.map itx) fun p hp => by
    obtain ⟨w, hw, rfl⟩ := List.mem_map.mp hp
    exact itx_len (h.1 w hw).1 (w30 (h.1 w hw))
  rw [List.length_map, one_len.1] at this
  have h3 : ws.length ≤ 400 := h.2
  omega
theorem con_len {w s : Int} (h : Lk (.con w s)) : (Txt.join "x" [itx w, itx s]).length ≤ 13000 := by
  have := join_len "x" 30 [itx w, itx s] fun p hp => by
    rcases List.mem_cons.mp hp with e | e
    · rw [e]; exact itx_len h.1.1 (w30 h.1)
    · rw [List.mem_singleton.mp e]; exact itx_len (Int.le_trans (by decide) h.2.1) (s30 h.2.2)
  rw [one_len.2.1] at this
  simp only [List.length_cons, List.length_nil] at this
  omega
theorem Lk.ok {l : Ly} (h : Lk l) : l.Ok := by
  cases l with
  | lst ws => exact ⟨fun w hw => (h.1 w hw).1, by have := h.2; omega⟩
  | con w s => exact ⟨h.1.1, h.2.1, h.2.2⟩
noncomputable def sepD : Rho → R D := dIfE (dB (dVar 1)) (dK (.str "x")) (dK (.str ","))
theorem spl_lst {ws : List Int} (h : Lk (.lst ws)) (c : ws ≠ []) (a b d : Option D) : dSplit 0 sepD [some (.str (Txt.join "," (ws.map itx))), some (.bl false), a, b, d] = .ok (.lst ((ws.map itx).map D.str)) [some (.str (Txt.join "," (ws.map itx))), some (.bl false), a, b, d] := by
  have e : sepD [some (.str (Txt.join "," (ws.map itx))), some (.bl false), a, b, d] = .ok (.str ",") [some (.str (Txt.join "," (ws.map itx))), some (.bl false), a, b, d] := by
    simp [sepD]
  have ps : pSplit (.str (Txt.join "," (ws.map itx))) (.str ",") = some (.lst ((ws.map itx).map D.str)) := by
    show (if ((("," : Str)).length == 0) = false ∧ (Txt.join "," (ws.map itx)).length ≤ 1000000 then some (D.lst ((Txt.split (Txt.join "," (ws.map itx)) ",").map D.str)) else none) = _
    rw [if_pos ⟨by rw [one_len.1]; rfl, by have := lst_len h; omega⟩]
    rw [TL.split_join (s := 44) (S := []) tl_comma (by decide +kernel) (fun z => c (List.map_eq_nil_iff.mp z)) fun p hp => by
      obtain ⟨w, hw, rfl⟩ := List.mem_map.mp hp
      exact itx_sign (.inl (by decide)) (h.1 w hw).1]
  show R.bind (sepD [some (.str (Txt.join "," (ws.map itx))), some (.bl false), a, b, d]) (fun db r2 => lift (pSplit (.str (Txt.join "," (ws.map itx))) db) r2) = _
  rw [e, R.bind_ok, ps]
  rfl
theorem spl_con {w s : Int} (h : Lk (.con w s)) (a b d : Option D) : dSplit 0 sepD [some (.str (Txt.join "x" [itx w, itx s])), some (.bl true), a, b, d] = .ok (.lst [.str (itx w), .str (itx s)]) [some (.str (Txt.join "x" [itx w, itx s])), some (.bl true), a, b, d] := by
  have e : sepD [some (.str (Txt.join "x" [itx w, itx s])), some (.bl true), a, b, d] = .ok (.str "x") [some (.str (Txt.join "x" [itx w, itx s])), some (.bl true), a, b, d] := by
    simp [sepD]
  have ps : pSplit (.str (Txt.join "x" [itx w, itx s])) (.str "x") = some (.lst [.str (itx w), .str (itx s)]) := by
    show (if ((("x" : Str)).length == 0) = false ∧ (Txt.join "x" [itx w, itx s]).length ≤ 1000000 then some (D.lst ((Txt.split (Txt.join "x" [itx w, itx s]) "x").map D.str)) else none) = _
    rw [if_pos ⟨by rw [one_len.2.1]; rfl, by have := con_len h; omega⟩]
    rw [TL.split_join (s := 120) (S := []) tl_x (by decide +kernel) (by simp) fun p hp => by
      rcases List.mem_cons.mp hp with e | e
      · rw [e]; exact itx_sign (.inr (by decide)) h.1.1
      · rw [List.mem_singleton.mp e]; exact itx_sign (.inr (by decide)) (Int.le_trans (by decide) h.2.1)]
    rfl
  show R.bind (sepD [some (.str (Txt.join "x" [itx w, itx s])), some (.bl true), a, b, d]) (fun db r2 => lift (pSplit (.str (Txt.join "x" [itx w, itx s])) db) r2) = _
  rw [e, R.bind_ok, ps]
  rfl
theorem none_ints (ws : List Int) : pNoneIn .non (iL ws) = some (.bl false) := by
  show (if shDL 63 (ws.map D.int) = true then some (D.bl ((ws.map D.int).any fun z => eqD z .non)) else none) = _
  have hs : shDL 63 (ws.map D.int) = true := shD_ints 63 ws
  rw [if_pos hs]
  have : ((ws.map D.int).any fun z => eqD z .non) = false := by
    rw [List.any_eq_false]
    intro x hx
    obtain ⟨w, _, rfl⟩ := List.mem_map.mp hx
    exact Bool.false_ne_true
  rw [this]
theorem layer_in_ok (l : Ly) (h : Lk l) : r_layer_in [.str (tx l)] = .ok l.d none := by
  have il := PG.layer_ok l h.ok
  rw [← eq_isl] at il
  have NU : ∀ {i : Int}, 0 ≤ i → i < 10 ^ 30 → r_number_in [.str (itx i)] = .ok (.int i) none := fun h0 h1 => number_ok h0 h1
  unfold r_layer_in d_layer_in
  rw [show dIfE (dB (dVar 1)) (dK (.str "x")) (dK (.str ",")) = sepD from rfl]
  generalize r_is_layer = ri at il ⊢
  generalize r_number_in = rn at NU ⊢
  refine WD.eq ?_
  cases l with
  | lst ws =>
    by_cases c : ws = []
    · subst c
      have q : qEq (.str (tx (.lst []))) (.str "-") = some (.bl true) := by
        rw [qEq_ss, show tx (.lst []) = "-" from rfl, decide_eq_true rfl]
      have l0 : lstD [] = some (.lst []) := rfl
      generalize tx (.lst []) = T at *
      simp [q, l0, Ly.d]
    · have et : tx (.lst ws) = Txt.join "," (ws.map itx) := if_neg c
      have f45 : 45 ∉ tl (Txt.join "," (ws.map itx)) := lst_free (by decide) (.inl (by decide)) h.1
      have q := not_dash f45
      have ix := in_x (Txt.join "," (ws.map itx))
      rw [decide_eq_false (lst_free (by decide) (.inr (by decide)) h.1)] at ix
      have sp := spl_lst h c
      have ni := none_ints ws
      have il : ri [iL ws] = .ok (.bl true) none := il
      have ll : ((ws.map itx).map D.str).length ≤ 100000 := by rw [List.length_map, List.length_map]; have := h.2; omega
      have lw : ws.length ≤ 100000 := by have := h.2; omega
      rw [et]
      have NW : ∀ w ∈ ws, rn [.str (itx w)] = .ok (.int w) none := fun w hw => NU (h.1 w hw).1 (w30 (h.1 w hw))
      generalize Txt.join "," (ws.map itx) = T at *
      generalize sepD = SP at *
      simp [-List.map_map, q, ix, sp, ll, lw]
      refine WR_comp (fun i acc r => acc = (ws.take i).map D.int ∧ r = [some (.str T), some (.bl false), none, none, none]) ⟨rfl, rfl⟩ ?_ ?_
      · rintro i d acc r hd ⟨rfl, rfl⟩
        rw [List.getElem?_map, List.getElem?_map] at hd
        cases ew : ws[i]? with
        | none => rw [ew] at hd; cases hd
        | some w =>
          rw [ew] at hd
          cases hd
          have e := NW w (List.mem_of_getElem? ew)
          have es := take_succ ew
          simp [e, es]
      · rintro acc r ⟨rfl, rfl⟩
        rw [List.length_map, List.length_map, List.take_length]
        have ni : pNoneIn .non (.lst (ws.map D.int)) = some (.bl false) := ni
        have il : ri [.lst (ws.map D.int)] = .ok (.bl true) none := il
        simp [ni, il, Ly.d]
  | con w s =>
    have hs : 0 ≤ s := Int.le_trans (by decide) h.2.1
    have et : tx (.con w s) = Txt.join "x" [itx w, itx s] := rfl
    have q := not_dash (con_free (c := 45) (by decide) (.inl (by decide)) h.1.1 hs)
    have ix := in_x (Txt.join "x" [itx w, itx s])
    rw [decide_eq_true con_x] at ix
    have sp := spl_con h
    have ni : pNoneIn .non (.lst [.int w, .int s]) = some (.bl false) := none_ints [w, s]
    have il : ri [.tup [.int w, .int s]] = .ok (.bl true) none := il
    rw [et]
    have N1 := NU h.1.1 (w30 h.1)
    have N2 := NU hs (s30 h.2.2)
    have q2 := qNe_int 2 2
    have pl : pLen [.lst [.int w, .int s]] = some (.int 2) := rfl
    have pt : pTupOf (.lst [.int w, .int s]) = some (.tup [.int w, .int s]) := rfl
    generalize Txt.join "x" [itx w, itx s] = T at *
    generalize sepD = SP at *
    generalize itx w = W1 at *
    generalize itx s = W2 at *
    simp [q, ix, sp]
    refine WR_comp (fun i acc r => acc = ([w, s].take i).map D.int ∧ r = [some (.str T), some (.bl true), none, none, none]) ⟨rfl, rfl⟩ ?_ ?_
    · rintro i d acc r hd ⟨rfl, rfl⟩
      match i, hd with
      | 0, hd => cases hd; simp [N1]
      | 1, hd => cases hd; simp [N2]
    · rintro acc r ⟨rfl, rfl⟩
      simp [ni, pl, pt, il, q2, Ly.d]
end Lk43

namespace Lk43
open PySem PySem.Spec VL PG MP FP ST L2
open FA (Src)
open TL (tl)
theorem strsD_map : ∀ xs : List Str, strsD (xs.map D.str) = some xs
  | [] => rfl
  | x :: xs => by show (strsD (xs.map D.str)).map (x :: ·) = _; rw [strsD_map xs]; rfl
theorem log_ok {i : Int} (h0 : 0 ≤ i) (h1 : i < 2 ^ 70) : i.natAbs.log2 < 1920 := by
  have := log2_lt (i := i) (n := 70) (by omega) (by omega)
  omega
theorem wt30 {i : Int} (h0 : 0 ≤ i) (h1 : i < 2 ^ 70) : (itx i).length ≤ 30 := itx_len h0 (Int.lt_trans h1 (by decide))
theorem tx_len {l : Ly} (h : Lk l) : (tx l).length ≤ 13000 := by
  cases l with
  | lst ws =>
    by_cases c : ws = []
    · subst c
      show (("-" : Str)).length ≤ 13000
      decide +kernel
    · rw [show tx (.lst ws) = Txt.join "," (ws.map itx) from if_neg c]
      exact lst_len h
  | con w s => exact con_len h
theorem con_eq (w s : Int) : Txt.join "x" [itx w, itx s] = itx w ++ "x" ++ itx s := by
  rw [TL.join_eq]
  rfl
theorem layer_ok (l : Ly) (h : Lk l) : r_layer_text [l.d] = .ok (.str (tx l)) none := by
  cases l with
  | con w s =>
    have a1 := log_ok h.1.1 (Int.lt_trans h.1.2 (by decide))
    have a2 := log_ok (Int.le_trans (by decide) h.2.1) h.2.2
    have h1 := wt30 h.1.1 (Int.lt_trans h.1.2 (by decide))
    have h2 := wt30 (Int.le_trans (by decide) h.2.1) h.2.2
    have e : (("x": Str)).length = 1 := by decide +kernel
    have b1 : (itx w).length ≤ 1000000 := by omega
    have b2 : (itx w ++ ("x" : Str)).length ≤ 1000000 := by rw [PySem.Str.length_append]; omega
    have b3 : (itx w ++ ("x" : Str) ++ itx s).length ≤ 1000000 := by rw [PySem.Str.length_append, PySem.Str.length_append]; omega
    have f1 : pFmt (.int w) = some (.str (itx w)) := if_pos a1
    have f2 : pFmt (.int s) = some (.str (itx s)) := if_pos a2
    have f3 : pFmt (.str "x") = some (.str "x") := by
      show (if ("x" : Str).length ≤ 100000 then some (D.str "x") else none) = _
      rw [if_pos (by rw [e]; omega)]
    have i1 : pIx (.tup [.int w, .int s]) (.int 0) = some (.int w) := rfl
    have i2 : pIx (.tup [.int w, .int s]) (.int 1) = some (.int s) := rfl
    have eA : (d1 pFmt (d2 pIx (dVar 0) (dI 0))) [some (.tup [.int w, .int s]), none] = .ok (.str (itx w)) [some (.tup [.int w, .int s]), none] := by simp [d1, d2, i1, f1]
    have eB : (d1 pFmt (dK (.str "x"))) [some (.tup [.int w, .int s]), none] = .ok (.str "x") [some (.tup [.int w, .int s]), none] := by simp [d1, f3]
    have eC : (d1 pFmt (d2 pIx (dVar 0) (dI 1))) [some (.tup [.int w, .int s]), none] = .ok (.str (itx s)) [some (.tup [.int w, .int s]), none] := by simp [d1, d2, i2, f2]
    have key : dJoin3 (d1 pFmt (d2 pIx (dVar 0) (dI 0))) (d1 pFmt (dK (.str "x"))) (d1 pFmt (d2 pIx (dVar 0) (dI 1))) [some (.tup [.int w, .int s]), none] = .ok (.str (itx w ++ "x" ++ itx s)) [some (.tup [.int w, .int s]), none] := by
      unfold dJoin3
      rw [eA]
      show j3a _ _ (.str (itx w)) _ = _
      unfold j3a
      simp only [if_pos b1]
      rw [eB]
      show j3b _ _ (.str "x") _ = _
      unfold j3b
      simp only [if_pos b2]
      rw [eC]
      show lift (j3c (itx w) "x" (.str (itx s))) _ = _
      unfold j3c
      simp only [if_pos b3]
      rfl
    refine WD.eq ?_
    simp [r_layer_text, d_layer_text, Ly.d]
    rw [key]
    simp [tx, con_eq]
  | lst ws =>
    refine WD.eq ?_
    have q : qNe (.lst (ws.map D.int)) (.lst []) = some (.bl (!decide (ws = []))) := qNe_ints ws []
    have l0 : lstD [] = some (.lst []) := rfl
    by_cases c : ws = []
    · subst c
      have q : qNe (iL []) (.lst []) = some (.bl false) := rfl
      have q2 : qNe (.lst []) (.lst []) = some (.bl false) := rfl
      simp [r_layer_text, d_layer_text, Ly.d, q, q2, l0, tx]
    · rw [decide_eq_false c] at q
      have q : qNe (.lst (ws.map D.int)) (.lst []) = some (.bl true) := q
      have q2 : qNe (iL ws) (.lst []) = some (.bl true) := q
      have ll : (ws.map D.int).length ≤ 100000 := by rw [List.length_map]; have := h.2; omega
      have sl : ∀ w ∈ ws, (itx w).length ≤ 30 := fun w hw => by
        have := h.1 w hw
        exact wt30 this.1 (Int.lt_trans this.2 (by decide))
      have pj : pJoinS (.str ",") (.lst ((ws.map itx).map D.str)) = some (.str (Txt.join "," (ws.map itx))) := by
        show (match strsD ((ws.map itx).map D.str) with
          | some (ys : List Str) => if (ys.map (fun y : Str => y.length)).sum + ys.length * (("," : Str)).length ≤ 1000000 then some (D.str (Txt.join "," ys)) else none
          | none => none) = _
        rw [strsD_map]
        have h1 := sum_len (fun p : Str => p.length) 30 (ws.map itx) fun p hp => by
          obtain ⟨w, hw, rfl⟩ := List.mem_map.mp hp
          exact sl w hw
        have e : ((",": Str)).length = 1 := by decide +kernel
        rw [List.length_map] at h1
        have := h.2
        simp only
        rw [if_pos (by rw [e, List.length_map]; omega)]
      have lw : (ws.length : Nat) ≤ 100000 := by have := h.2; omega
      simp [r_layer_text, d_layer_text, Ly.d, q, q2, l0, lw]
      refine WR_comp (fun i acc r => acc = ((ws.take i).map itx).map D.str ∧ r = [some (iL ws), none]) ⟨rfl, rfl⟩ ?_ ?_
      · rintro i d acc r hd ⟨rfl, rfl⟩
        rw [List.getElem?_map] at hd
        cases ew : ws[i]? with
        | none => rw [ew] at hd; cases hd
        | some w =>
          rw [ew] at hd
          cases hd
          have hw := h.1 w (List.mem_of_getElem? ew)
          have ps : pStr [.int w] = some (.str (itx w)) := if_pos (log_ok hw.1 (Int.lt_trans hw.2 (by decide)))
          have et := take_succ ew
          simp [ps, et]
      · rintro acc r ⟨rfl, rfl⟩
        rw [List.length_map, List.take_length]
        simp [-List.map_map, pj, tx, c]
theorem len3 : ((" / " : Str)).length = 3 := by decide +kernel
theorem sum_tx {ls : List Ly} (h : ∀ l ∈ ls, Lk l) (hl : ls.length ≤ 20) : ((ls.map tx).map (fun y : Str => y.length)).sum + (ls.map tx).length * ((" / " : Str)).length ≤ 300000 := by
  have h1 := sum_len (fun p : Str => p.length) 13000 (ls.map tx) fun p hp => by
    obtain ⟨l, hm, rfl⟩ := List.mem_map.mp hp
    exact tx_len (h l hm)
  rw [List.length_map] at h1
  rw [len3, List.length_map]
  omega
theorem shN (ls : List Ly) : shD 64 (Ns ls) = true := by
  show shDL 63 (ls.map Ly.d) = true
  refine shDL_of _ _ fun d hd => ?_
  obtain ⟨l, hm, rfl⟩ := List.mem_map.mp hd
  cases l with
  | lst ws => exact shD_ints 62 ws
  | con w s => rfl
theorem qNe_cons_nil (l : Ly) (ls : List Ly) : qNe (Ns (l :: ls)) (.lst []) = some (.bl true) := by
  show orD none (pNe (Ns (l :: ls)) (.lst [])) = _
  rw [orD_none]
  unfold pNe
  rw [if_pos ⟨shN _, rfl⟩]
  rfl
theorem qEq_cons_nil (l : Ly) (ls : List Ly) : qEq (Ns (l :: ls)) (.lst []) = some (.bl false) := by
  show orD none (pEq (Ns (l :: ls)) (.lst [])) = _
  rw [orD_none]
  unfold pEq
  rw [if_pos ⟨shN _, rfl⟩]
  rfl
theorem show_ok (ls : List Ly) (h : ∀ l ∈ ls, Lk l) (hl : ls.length ≤ 20) : r_show_nesting [Ns ls] = .ok (.str (sh ls)) none := by
  refine WD.eq ?_
  have l0 : lstD [] = some (.lst []) := rfl
  by_cases c : ls = []
  · subst c
    have q : qNe (Ns []) (.lst []) = some (.bl false) := rfl
    have q2 : qNe (.lst []) (.lst []) = some (.bl false) := rfl
    simp [r_show_nesting, d_show_nesting, q, q2, l0, sh]
  · have q : qNe (Ns ls) (.lst []) = some (.bl true) := by
      cases ls with
      | nil => exact absurd rfl c
      | cons l ls => exact qNe_cons_nil l ls
    have pj : pJoinS (.str " / ") (.lst ((ls.map tx).map D.str)) = some (.str (Txt.join " / " (ls.map tx))) := by
      show (match strsD ((ls.map tx).map D.str) with
        | some (ys : List Str) => if (ys.map (fun y : Str => y.length)).sum + ys.length * ((" / " : Str)).length ≤ 1000000 then some (D.str (Txt.join " / " ys)) else none
        | none => none) = _
      rw [strsD_map]
      simp only
      rw [if_pos (Nat.le_trans (sum_tx h hl) (by decide))]
    have lw : (ls.length : Nat) ≤ 100000 := by omega
    have ll : (ls.map Ly.d).length ≤ 100000 := by rw [List.length_map]; omega
    simp [r_show_nesting, d_show_nesting, q, l0, lw, ll]
    refine WR_comp (fun i acc r => acc = ((ls.take i).map tx).map D.str ∧ r = [some (Ns ls), none]) ⟨rfl, rfl⟩ ?_ ?_
    · rintro i d acc r hd ⟨rfl, rfl⟩
      rw [List.getElem?_map] at hd
      cases el : ls[i]? with
      | none => rw [el] at hd; cases hd
      | some l =>
        rw [el] at hd
        cases hd
        have e := layer_ok l (h l (List.mem_of_getElem? el))
        have et := take_succ el
        generalize l.d = LD at *
        simp [e, et]
    · rintro acc r ⟨rfl, rfl⟩
      rw [List.length_map, List.take_length]
      simp [-List.map_map, pj, sh, c]
theorem tx_free {c : Nat} (h1 : c ≠ 44) (h2 : c ≠ 120) (h3 : c ≠ 45) (h4 : c < 48 ∨ 57 < c) {l : Ly} (h : Lk l) : c ∉ tl (tx l) := by
  cases l with
  | lst ws =>
    by_cases e : ws = []
    · subst e
      show c ∉ tl (("-" : Str))
      rw [tl_dash]
      simpa using h3
    · rw [show tx (.lst ws) = Txt.join "," (ws.map itx) from if_neg e]
      exact lst_free h1 h4 h.1
  | con w s => exact con_free h2 h4 h.1.1 (Int.le_trans (by decide) h.2.1)
theorem sh_free {c : Nat} (h1 : c ≠ 44) (h2 : c ≠ 120) (h3 : c ≠ 45) (h4 : c < 48 ∨ 57 < c) (h5 : c ≠ 32) (h6 : c ≠ 47) {ls : List Ly} (h : ∀ l ∈ ls, Lk l) : c ∉ tl (Txt.join " / " (ls.map tx)) := by
  refine join_free (by rw [tl_sep]; simp [h5, h6]) fun p hp => ?_
  obtain ⟨l, hl, rfl⟩ := List.mem_map.mp hp
  exact tx_free h1 h2 h3 h4 (h l hl)
theorem tl_none : tl (("none" : Str)) = [110, 111, 110, 101] := by decide +kernel
theorem sh_ne {ls : List Ly} (h : ∀ l ∈ ls, Lk l) (c : ls ≠ []) : sh ls ≠ "none" := by
  rw [show sh ls = Txt.join " / " (ls.map tx) from if_neg c]
  intro z
  have := sh_free (c := 110) (by decide) (by decide) (by decide) (.inr (by decide)) (by decide) (by decide) h
  rw [z, tl_none] at this
  exact this List.mem_cons_self
theorem none_Ns (ls : List Ly) : pNoneIn .non (Ns ls) = some (.bl false) := by
  have hs : shDL 63 (ls.map Ly.d) = true := shN ls
  show (if shDL 63 (ls.map Ly.d) = true then some (D.bl ((ls.map Ly.d).any fun z => eqD z .non)) else none) = _
  rw [if_pos hs]
  have : ((ls.map Ly.d).any fun z => eqD z .non) = false := by
    rw [List.any_eq_false]
    intro x hx
    obtain ⟨l, _, rfl⟩ := List.mem_map.mp hx
    cases l <;> exact Bool.false_ne_true
  rw [this]
theorem spl_ls {ls : List Ly} (h : ∀ l ∈ ls, Lk l) (hl : ls.length ≤ 20) (c : ls ≠ []) (a b : Option D) : dSplit 0 (dK (.str " / ")) [some (.str (Txt.join " / " (ls.map tx))), a, b] = .ok (.lst ((ls.map tx).map D.str)) [some (.str (Txt.join " / " (ls.map tx))), a, b] := by
  have ll : (Txt.join " / " (ls.map tx)).length ≤ 300000 := by
    have := join_len " / " 13000 (ls.map tx) fun p hp => by
      obtain ⟨l, hm, rfl⟩ := List.mem_map.mp hp
      exact tx_len (h l hm)
    rw [List.length_map, one_len.2.2] at this
    omega
  have ps : pSplit (.str (Txt.join " / " (ls.map tx))) (.str " / ") = some (.lst ((ls.map tx).map D.str)) := by
    show (if (((" / " : Str)).length == 0) = false ∧ (Txt.join " / " (ls.map tx)).length ≤ 1000000 then some (D.lst ((Txt.split (Txt.join " / " (ls.map tx)) " / ").map D.str)) else none) = _
    rw [if_pos ⟨by rw [one_len.2.2]; rfl, by omega⟩]
    rw [TL.split_join (s := 32) (S := [47, 32]) tl_sep (by decide +kernel) (fun z => c (List.map_eq_nil_iff.mp z)) fun p hp => by
      obtain ⟨l, hm, rfl⟩ := List.mem_map.mp hp
      exact tx_free (by decide) (by decide) (by decide) (.inl (by decide)) (h l hm)]
  show R.bind (dK (.str " / ") [some (.str (Txt.join " / " (ls.map tx))), a, b]) (fun db r2 => lift (pSplit (.str (Txt.join " / " (ls.map tx))) db) r2) = _
  show lift (pSplit (.str (Txt.join " / " (ls.map tx))) (.str " / ")) _ = _
  rw [ps]
  rfl
theorem read_ok (ls : List Ly) (h : ∀ l ∈ ls, Lk l) (hl : ls.length ≤ 20) : r_read_nesting [.str (sh ls)] = .ok (Ns ls) none := by
  have LI := fun l hm => layer_in_ok l (h l hm)
  unfold r_read_nesting d_read_nesting
  generalize r_layer_in = rl at LI ⊢
  refine WD.eq ?_
  by_cases c : ls = []
  · subst c
    have q : qEq (.str (sh [])) (.str "none") = some (.bl true) := by
      rw [qEq_ss, show sh [] = "none" from rfl, decide_eq_true rfl]
    have l0 : lstD [] = some (.lst []) := rfl
    generalize sh [] = T at *
    simp [q, l0]
  · have q : qEq (.str (sh ls)) (.str "none") = some (.bl false) := by rw [qEq_ss, decide_eq_false (sh_ne h c)]
    have sp := spl_ls h hl c
    have ni := none_Ns ls
    have lw : ls.length ≤ 100000 := by omega
    rw [show sh ls = Txt.join " / " (ls.map tx) from if_neg c] at q ⊢
    generalize Txt.join " / " (ls.map tx) = T at *
    simp [-List.map_map, q, sp, lw]
    refine WR_comp (fun i acc r => acc = (ls.take i).map Ly.d ∧ r = [some (.str T), none, none]) ⟨rfl, rfl⟩ ?_ ?_
    · rintro i d acc r hd ⟨rfl, rfl⟩
      rw [List.getElem?_map, List.getElem?_map] at hd
      cases ew : ls[i]? with
      | none => rw [ew] at hd; cases hd
      | some l =>
        rw [ew] at hd
        cases hd
        have e := LI l (List.mem_of_getElem? ew)
        have es := take_succ ew
        simp [e, es]
    · rintro acc r ⟨rfl, rfl⟩
      rw [List.length_map, List.length_map, List.take_length]
      have ni : pNoneIn .non (.lst (ls.map Ly.d)) = some (.bl false) := ni
      simp [ni]
end Lk43

namespace Lk43
open PySem PySem.Spec VL PG MP FP ST L2
open FA (Src)
open TL (tl)
theorem eq_source : r__law_source = FA.r__law_source := rfl
theorem eq_draw : r__law_draw = FA.r__law_draw := rfl
theorem eq_check : r_check_nesting = PG.r_check_nesting := rfl
theorem eq_total : r_total_of = PG.r_total_of := rfl
theorem eq_same : ∀ n, r__law_same n = FSm.r__law_same n
  | 0 => rfl
  | n + 1 => by
    show runF none 3 2 (d__law_same (r__law_same n)) = runF none 3 2 (FSm.d__law_same (FSm.r__law_same n))
    rw [eq_same n]
    rfl
theorem same_tup (n : Nat) (xs : List D) (hl : xs.length ≤ 100000) (h : ∀ x ∈ xs, FSm.r__law_same n [x, x] = .ok (.bl true) none) : FSm.r__law_same (n + 1) [.tup xs, .tup xs] = .ok (.bl true) none := by
  have q1 := qNe_int (xs.length : Int) xs.length
  have rr : rng1 [.int (xs.length : Int)] = some (rngD 0 xs.length) := by
    have := FA.rng1_ok (j := (xs.length : Int)) (by omega) (by omega)
    rw [Int.toNat_natCast] at this
    exact this
  have rl : (rngD 0 xs.length).length ≤ 100000 := by rw [rngD_len]; exact hl
  refine WD.eq ?_
  simp [FSm.r__law_same, FSm.d__law_same, q1, pIs, isN, rr, rl, FSm.qNe_bl]
  refine WR_compR (fun j acc r => acc = [] ∧ r = [some (.tup xs), some (.tup xs), none]) ⟨rfl, rfl⟩ ?_ ?_
  · rintro j acc r hj ⟨rfl, rfl⟩
    have hx : pIx (.tup xs) (.int (j : Int)) = some xs[j] := pIxT_nat (List.getElem?_eq_getElem hj)
    have e := h xs[j] (List.getElem_mem hj)
    simp [hx, e]
  · rintro acc r ⟨rfl, rfl⟩
    simp [FSm.qEq_nil, lstD]
theorem same_Ns (ls : List Ly) (h : ∀ l ∈ ls, Lk l) (hl : ls.length ≤ 1000) : r__law_same 6 [Ns ls, Ns ls] = .ok (.bl true) none := by
  rw [eq_same]
  refine FSm.same_lst 5 (ls.map Ly.d) (by rw [List.length_map]; omega) fun x hx => ?_
  obtain ⟨l, hm, rfl⟩ := List.mem_map.mp hx
  have hk := h l hm
  cases l with
  | lst ws =>
    refine FSm.same_lst 4 (ws.map D.int) (by rw [List.length_map]; have := hk.2; omega) fun y hy => ?_
    obtain ⟨i, _, rfl⟩ := List.mem_map.mp hy
    exact FSm.same_int 3 i
  | con w s =>
    refine same_tup 4 [.int w, .int s] (by show 2 ≤ 100000; omega) fun y hy => ?_
    rcases List.mem_cons.mp hy with e | e
    · rw [e]; exact FSm.same_int 3 w
    · rw [List.mem_singleton.mp e]; exact FSm.same_int 3 s
theorem attempts_ok (ls : List Ly) (h : ∀ l ∈ ls, l.Ok) (hl : ls.length ≤ 1000) : r_attempts [Ns ls] = .ok (.int (tot ls)) none := by
  have e1 := check_ok ls h
  have e2 := total_ok ls h (by omega)
  rw [← eq_check] at e1
  rw [← eq_total] at e2
  refine WD.eq ?_
  simp [r_attempts, d_attempts, e1, e2]
theorem ints_inj : ∀ {a b : List Int}, a.map D.int = b.map D.int → a = b
  | [], [], _ => rfl
  | [], _ :: _, h => by cases h
  | _ :: _, [], h => by cases h
  | x :: a, y :: b, h => by
    rw [List.map_cons, List.map_cons] at h
    obtain ⟨h1, h2⟩ := List.cons.inj h
    cases h1
    rw [ints_inj h2]
theorem d_inj {l m : Ly} (h : l.d = m.d) : l = m := by
  cases l with
  | lst a =>
    cases m with
    | lst b =>
      have h : D.lst (a.map D.int) = D.lst (b.map D.int) := h
      rw [ints_inj (D.lst.inj h)]
    | con w s => cases h
  | con w s =>
    cases m with
    | lst b => cases h
    | con w' s' =>
      have h : D.tup [.int w, .int s] = D.tup [.int w', .int s'] := h
      cases h
      rfl
theorem eqD_d (l m : Ly) : eqD l.d m.d = true ↔ l = m := by
  cases l with
  | lst a =>
    cases m with
    | lst b =>
      show eqD (iL a) (iL b) = true ↔ _
      rw [eqD_ints, decide_eq_true_iff]
      exact ⟨fun h => by rw [h], fun h => by cases h; rfl⟩
    | con w s => exact ⟨fun h => (by cases h), fun h => (by cases h)⟩
  | con w s =>
    cases m with
    | lst b => exact ⟨fun h => (by cases h), fun h => (by cases h)⟩
    | con w' s' =>
      show ((w == w') && ((s == s') && true)) = true ↔ _
      rw [Bool.and_true, Bool.and_eq_true, beq_iff_eq, beq_iff_eq]
      exact ⟨fun h => by rw [h.1, h.2], fun h => by cases h; exact ⟨rfl, rfl⟩⟩
theorem eqDL_d : ∀ A B : List Ly, eqDL (A.map Ly.d) (B.map Ly.d) = true ↔ A = B
  | [], [] => ⟨fun _ => rfl, fun _ => rfl⟩
  | [], _ :: _ => ⟨fun h => (by cases h), fun h => (by cases h)⟩
  | _ :: _, [] => ⟨fun h => (by cases h), fun h => (by cases h)⟩
  | a :: A, b :: B => by
    show (eqD a.d b.d && eqDL (A.map Ly.d) (B.map Ly.d)) = true ↔ _
    rw [Bool.and_eq_true, eqD_d, eqDL_d A B]
    exact ⟨fun h => by rw [h.1, h.2], fun h => by cases h; exact ⟨rfl, rfl⟩⟩
theorem sh_inj {A B : List Ly} (hA : ∀ l ∈ A, Lk l) (hB : ∀ l ∈ B, Lk l) (lA : A.length ≤ 20) (lB : B.length ≤ 20) : sh A = sh B ↔ A = B := by
  refine ⟨fun h => ?_, fun h => by rw [h]⟩
  have e1 := read_ok A hA lA
  have e2 := read_ok B hB lB
  rw [h, e2] at e1
  have h3 : Ns B = Ns A := by injection e1
  have h4 : B.map Ly.d = A.map Ly.d := D.lst.inj h3
  refine ((eqDL_d A B).mp ?_)
  rw [h4]
  exact (eqDL_d A A).mpr rfl
theorem eq_both {A B : List Ly} (hA : ∀ l ∈ A, Lk l) (hB : ∀ l ∈ B, Lk l) (lA : A.length ≤ 20) (lB : B.length ≤ 20) : ∃ b : Bool, qEq (.str (sh A)) (.str (sh B)) = some (.bl b) ∧ qEq (Ns A) (Ns B) = some (.bl b) := by
  refine ⟨decide (sh A = sh B), qEq_ss _ _, ?_⟩
  show orD none (pEq (Ns A) (Ns B)) = _
  rw [orD_none]
  unfold pEq
  rw [if_pos ⟨shN A, shN B⟩]
  have : eqD (Ns A) (Ns B) = decide (sh A = sh B) := by
    have e : eqD (Ns A) (Ns B) = eqDL (A.map Ly.d) (B.map Ly.d) := rfl
    rw [e]
    by_cases c : A = B
    · rw [decide_eq_true ((sh_inj hA hB lA lB).mpr c), (eqDL_d A B).mpr c]
    · rw [decide_eq_false fun z => c ((sh_inj hA hB lA lB).mp z)]
      cases e2 : eqDL (A.map Ly.d) (B.map Ly.d) with
      | false => rfl
      | true => exact absurd ((eqDL_d A B).mp e2) c
  rw [this]
theorem join_app (y : Str) : ∀ xs ys : List Str, xs ≠ [] → ys ≠ [] → Str.join y (xs ++ ys) = Str.join y xs ++ y ++ Str.join y ys
  | [], _, h, _ => absurd rfl h
  | [p], [], _, h => absurd rfl h
  | [p], q :: r, _, _ => rfl
  | p :: q :: r, ys, _, h => by
    show p ++ y ++ Str.join y (q :: r ++ ys) = p ++ y ++ Str.join y (q :: r) ++ y ++ Str.join y ys
    rw [join_app y (q :: r) ys (by simp) h]
    simp only [PySem.Str.append_assoc]
theorem sh_app {A B : List Ly} (a : A ≠ []) (b : B ≠ []) : sh (A ++ B) = Txt.join " / " [sh A, sh B] := by
  have e1 : sh (A ++ B) = Txt.join " / " ((A ++ B).map tx) := if_neg (by simp [a])
  have e2 : sh A = Txt.join " / " (A.map tx) := if_neg a
  have e3 : sh B = Txt.join " / " (B.map tx) := if_neg b
  rw [e1, e2, e3, TL.join_eq, TL.join_eq, TL.join_eq, TL.join_eq, List.map_append, join_app _ _ _ (fun z => a (List.map_eq_nil_iff.mp z)) (fun z => b (List.map_eq_nil_iff.mp z))]
  rfl
theorem num_ok {n : Nat} {s : D} (hs : Src n s) {top : Int} (h0 : 20 ≤ top) (hd : divOk top = true) (hn : n ≤ 900000000) : ∃ v s', r__law_number_drawn [s, .int top] = .ok (.int v) (some s') ∧ 0 ≤ v ∧ v < top ∧ Src (n + 3) s' := by
  obtain ⟨v1, s1, e1, a1, b1, hs1⟩ := FA.draw_ok hs (many := 9) (by decide) (by decide) (by omega)
  obtain ⟨v2, s2, e2, a2, b2, hs2⟩ := FA.draw_ok hs1 (many := top) (by omega) hd (by omega)
  obtain ⟨v3, s3, e3, a3, b3, hs3⟩ := FA.draw_ok hs2 (many := 4) (by decide) (by decide) (by omega)
  rw [← eq_draw] at e1 e2 e3
  have hx : ∃ v, pIx (.lst [.int 0, .int (1 + v1), .int v2, .int (top - 1)]) (.int v3) = some (.int v) ∧ 0 ≤ v ∧ v < top := by
    rcases (by omega : v3 = 0 ∨ v3 = 1 ∨ v3 = 2 ∨ v3 = 3) with rfl | rfl | rfl | rfl
    · exact ⟨0, rfl, by decide, by omega⟩
    · exact ⟨1 + v1, rfl, by omega, by omega⟩
    · exact ⟨v2, rfl, a2, b2⟩
    · exact ⟨top - 1, rfl, by omega, by omega⟩
  obtain ⟨v, hv, v0, v1'⟩ := hx
  have l4 : ∀ a b c d : D, lstD [a, b, c, d] = some (.lst [a, b, c, d]) := fun a b c d => rfl
  have key : WD (r__law_number_drawn [s, .int top]) (fun d o => d = .int v ∧ o = some s3) yF := by
    simp [r__law_number_drawn, d__law_number_drawn, e1, e2, e3, l4, hv]
  obtain ⟨d, o, e, rfl, rfl⟩ := key.of
  exact ⟨v, s3, e, v0, v1', hs3⟩
theorem any_ok {n : Nat} {s : D} (hs : Src n s) (hn : n ≤ 400000000) : ∃ (ls : List Ly) (s' : D), r__law_any_nesting [s] = .ok (Ns ls) (some s') ∧ (∀ l ∈ ls, Lk l) ∧ ls.length ≤ 8 ∧ Src (n + 1000) s' := by
  obtain ⟨v0, s0, e0, a0, b0, hs0⟩ := FA.draw_ok hs (many := 9) (by decide) (by decide) (by omega)
  have r1 : rng1 [.int v0] = some (rngD 0 v0.toNat) := FA.rng1_ok (by omega) (by omega)
  have DR := @FA.draw_ok
  rw [← eq_draw] at e0 DR
  have NU := @num_ok
  have p12 : iPow (.int 10) (.int 12) = some (.int 1000000000000) := iPow_10_12
  have p20 : iPow (.int 10) (.int 20) = some (.int 100000000000000000000) := iPow_10_20
  have key : WD (r__law_any_nesting [s]) (fun d o => ∃ (ls : List Ly) (s' : D), d = Ns ls ∧ o = some s' ∧ (∀ l ∈ ls, Lk l) ∧ ls.length ≤ 8 ∧ Src (n + 1000) s') yF := by
    unfold r__law_any_nesting d__law_any_nesting
    generalize r__law_number_drawn = rn at NU ⊢
    generalize r__law_draw = rd at e0 DR ⊢
    simp [e0, r1]
    refine WS_loopR (fun i r => ∃ (ls : List Ly) (s1 : D) (a b c d : Option D), r = [some s1, some (Ns ls), a, b, c, d, none] ∧ (∀ l ∈ ls, Lk l) ∧ ls.length ≤ i ∧ Src (n + 1 + 100 * i) s1) ⟨[], s0, none, none, none, none, rfl, fun l h => (nomatch h), Nat.le_refl _, hs0⟩ ?_ ?_
    · rintro i r hi ⟨ls, s1, a, b, c, d, rfl, ho, hl, hs1⟩
      obtain ⟨v1, s2, e1, a1, b1, hs2⟩ := DR hs1 (many := 3) (by decide) (by decide) (by omega)
      have hx : ∃ m : Int, pIx (.lst [.int 2, .int 5, .int 20]) (.int v1) = some (.int m) ∧ 0 < m ∧ m ≤ 20 := by
        rcases (by omega : v1 = 0 ∨ v1 = 1 ∨ v1 = 2) with rfl | rfl | rfl
        · exact ⟨2, rfl, by decide, by decide⟩
        · exact ⟨5, rfl, by decide, by decide⟩
        · exact ⟨20, rfl, by decide, by decide⟩
      obtain ⟨m, hm, m0, m1⟩ := hx
      obtain ⟨v2, s3, e2, a2, b2, hs3⟩ := DR hs2 (many := m) m0 (divOk_s (by omega) (by omega)) (by omega)
      have rv : rng1 [.int v2] = some (rngD 0 v2.toNat) := FA.rng1_ok (by omega) (by omega)
      have lv : (rngD 0 v2.toNat).length ≤ 100000 := by rw [rngD_len]; omega
      have hv2 : v2.toNat ≤ 20 := by omega
      have l3 : ∀ a b c : D, lstD [a, b, c] = some (.lst [a, b, c]) := fun a b c => rfl
      have l2 : ∀ a b : D, lstD [a, b] = some (.lst [a, b]) := fun a b => rfl
      have t2 : ∀ a b : D, tupD [a, b] = some (.tup [a, b]) := fun a b => rfl
      simp [e1, hm, e2, rv, lv, l3]
      generalize v2.toNat = M at *
      refine WR_compR (fun k acc r => ∃ (ws : List Int) (s4 : D), acc = ws.map D.int ∧ r = [some s4, some (Ns ls), some (.int (i : Int)), some (.int v2), c, d, none] ∧ (∀ w ∈ ws, Wt w) ∧ ws.length = k ∧ Src (n + 1 + 100 * i + 2 + 3 * k) s4) ⟨[], s3, rfl, by simp, (fun w h => nomatch h), rfl, hs3.mono (by omega)⟩ ?_ ?_
      · rintro k acc r hk ⟨ws, s4, rfl, rfl, hw, hlw, hs4⟩
        obtain ⟨w, s5, e5, w0, w1, hs5⟩ := NU hs4 (top := 1000000000000) (by decide) (by decide) (by omega)
        simp [p12, e5]
        exact ⟨ws ++ [w], by simp, snoc_w hw ⟨w0, by omega⟩, by simp [hlw], hs5.mono (by omega)⟩
      · rintro acc r ⟨ws, s4, rfl, rfl, hw, hlw, hs4⟩
        obtain ⟨z, s5, e5, z0, z1, hs5⟩ := NU hs4 (top := 100000000000000000000) (by decide) (by decide) (by omega)
        obtain ⟨w, s6, e6, w0, w1, hs6⟩ := NU hs5 (top := 1000000000000) (by decide) (by decide) (by omega)
        obtain ⟨u, s7, e7, u0, u1, hs7⟩ := DR hs6 (many := 2) (by decide) (by decide) (by omega)
        obtain ⟨zm, hzm, zm0, zm1⟩ : ∃ zm : Int, (if 1 < z then z else 1) = zm ∧ 1 ≤ zm ∧ zm < 2 ^ 70 := ⟨_, rfl, by split <;> omega, by split <;> omega⟩
        have pk : ∃ l : Ly, pIx (.lst [iL ws, .tup [.int w, .int zm]]) (.int u) = some l.d ∧ Lk l := by
          rcases (by omega : u = 0 ∨ u = 1) with rfl | rfl
          · exact ⟨.lst ws, rfl, hw, by omega⟩
          · exact ⟨.con w zm, rfl, ⟨w0, by omega⟩, zm0, zm1⟩
        obtain ⟨l, hp, hk⟩ := pk
        have ap : hAppend (ls.map Ly.d) [l.d] = some (.non, ls.map Ly.d ++ [l.d]) := hAppend_ok (by rw [List.length_map]; omega)
        have hp : pIx (.lst [.lst (ws.map D.int), .tup [.int w, .int zm]]) (.int u) = some l.d := hp
        have eN : (ls ++ [l]).map Ly.d = ls.map Ly.d ++ [l.d] := by rw [List.map_append]; rfl
        have al : ∀ x ∈ ls ++ [l], Lk x := fun x hx => by
          rcases List.mem_append.mp hx with h | h
          · exact ho x h
          · rw [List.mem_singleton.mp h]; exact hk
        generalize l.d = LD at *
        simp [p12, p20, e5, e6, e7, hzm, l2, t2, hp, ap]
        refine ⟨ls ++ [l], s7, ⟨rfl, by rw [eN]⟩, al, by simp; omega, hs7.mono (by omega)⟩
    · rintro r ⟨ls, s1, a, b, c, d, rfl, ho, hl, hs1⟩
      simp
      exact ⟨ls, rfl, ho, by omega, hs1.mono (by omega)⟩
  obtain ⟨d, o, e, ls, s', rfl, rfl, h⟩ := key.of
  exact ⟨ls, s', e, h⟩
end Lk43

namespace Lk43
open PySem PySem.Spec VL PG MP FP ST L2
open FA (Src)
theorem qNe_s (x : Str) : qNe (.str x) (.str x) = some (.bl false) := by simp [qNe, pNeS]
theorem qNe_b (b : Bool) : qNe (.bl b) (.bl b) = some (.bl false) := by cases b <;> rfl
structure Gd (A : List Ly) : Prop where
  lk : ∀ l ∈ A, Lk l
  len : A.length ≤ 9
def ks (A : List Ly) : List Str := if A = [] then [] else [sh A]
theorem both_eq {A B : List Ly} (h : A ++ B ≠ []) : Txt.join " / " (ks A ++ ks B) = sh (A ++ B) := by
  unfold ks
  by_cases a : A = []
  · subst a
    have b : B ≠ [] := h
    rw [if_pos rfl, if_neg b]
    rfl
  · by_cases b : B = []
    · subst b
      rw [if_neg a, if_pos rfl, List.append_nil, List.append_nil]
      rfl
    · rw [if_neg a, if_neg b, sh_app a b]
      rfl
theorem sh_len {A : List Ly} (h : Gd A) : (sh A).length ≤ 200000 := by
  unfold sh
  by_cases a : A = []
  · rw [if_pos a]; decide +kernel
  · rw [if_neg a]
    have := join_len " / " 13000 (A.map tx) fun p hp => by
      obtain ⟨l, hm, rfl⟩ := List.mem_map.mp hp
      exact tx_len (h.lk l hm)
    rw [List.length_map, one_len.2.2] at this
    have := h.len
    omega
theorem none_test {A : List Ly} (h : Gd A) : qNe (.str (sh A)) (.str "none") = some (.bl (!decide (A = []))) := by
  rw [qNe_ss]
  by_cases a : A = []
  · subst a
    have e : sh [] = "none" := rfl
    rw [decide_eq_true e, decide_eq_true (Eq.refl ([] : List Ly))]
  · rw [decide_eq_false (sh_ne h.lk a), decide_eq_false a]
theorem pj_ok {A B : List Ly} (hA : Gd A) (hB : Gd B) : pJoinS (.str " / ") (.lst ((ks A ++ ks B).map D.str)) = some (.str (Txt.join " / " (ks A ++ ks B))) := by
  show (match strsD ((ks A ++ ks B).map D.str) with
    | some (ys : List Str) => if (ys.map (fun y : Str => y.length)).sum + ys.length * ((" / " : Str)).length ≤ 1000000 then some (D.str (Txt.join " / " ys)) else none
    | none => none) = _
  rw [strsD_map]
  have hk : ∀ p ∈ ks A ++ ks B, p.length ≤ 200000 := fun p hp => by
    rcases List.mem_append.mp hp with h | h
    · unfold ks at h
      by_cases a : A = []
      · rw [if_pos a] at h; cases h
      · rw [if_neg a] at h; rw [List.mem_singleton.mp h]; exact sh_len hA
    · unfold ks at h
      by_cases b : B = []
      · rw [if_pos b] at h; cases h
      · rw [if_neg b] at h; rw [List.mem_singleton.mp h]; exact sh_len hB
  have l2 : (ks A ++ ks B).length ≤ 2 := by
    rw [List.length_append]
    have h1 : ∀ C : List Ly, (ks C).length ≤ 1 := fun C => by unfold ks; split <;> simp
    have := h1 A; have := h1 B
    omega
  have := sum_len (fun p : Str => p.length) 200000 (ks A ++ ks B) hk
  simp only
  rw [if_pos (by rw [one_len.2.2]; omega)]
def tS (A : List Ly) : D := .str (sh A)
def pr (A : List Ly) : D := .tup [Ns A, .str (sh A)]
theorem zip_eq : ∀ Ss : List (List Ly), List.zipWith (fun x y => D.tup [x, y]) (Ss.map Ns) (Ss.map tS) = Ss.map pr
  | [] => rfl
  | A :: Ss => by
    show D.tup [Ns A, tS A] :: List.zipWith _ (Ss.map Ns) (Ss.map tS) = _
    rw [zip_eq Ss]
    rfl
theorem Ns_app {A B : List Ly} (h : A.length + B.length ≤ 1000) : pCat (Ns A) (Ns B) = some (Ns (A ++ B)) := by
  show pCat (.lst (A.map Ly.d)) (.lst (B.map Ly.d)) = some (.lst ((A ++ B).map Ly.d))
  rw [List.map_append]
  exact pCat_ok (by rw [List.length_map, List.length_map]; omega)
theorem ne_nil (C : List Ly) : qNe (Ns C) (.lst []) = some (.bl (!decide (C = []))) := by
  cases C with
  | nil => rfl
  | cons l C => exact qNe_cons_nil l C
noncomputable def tailD (rsn rrd rsm rat : List D → DR) : Rho → SO := (dSeq (dSet 4 (lcD [5] (dItL (dVar 3)) (gSet 5) dTrue (dFn 1 rsn (dCons (dVar 5) dNil))))
  (dSeq (dFor (dIt zipD (dCons (dVar 3) (dCons (dVar 4) dNil))) (gTup 2 (gCons' (gSet 5) (gCons' (gSet 6) gNil'))) (dSeq (dSet 7 (dFn 1 rrd (dCons (dVar 6) dNil)))
  (dIf (dOrB (dNotB (dB (dFn 2 rsm (dCons (dVar 7) (dCons (dVar 5) dNil))))) (dOrB (dB (d2 qNe (dFn 1 rsn (dCons (dVar 7) dNil)) (dVar 6))) (dB (d2 qNe (dFn 1 rat (dCons (dVar 7) dNil)) (dFn 1 rat (dCons (dVar 5) dNil)))))) (dRet (dBl false)) dEnd)))
  (dFor (dIt zipD (dCons (dVar 3) (dCons (dVar 4) dNil))) (gTup 2 (gCons' (gSet 8) (gCons' (gSet 6) gNil'))) (dFor (dIt zipD (dCons (dVar 3) (dCons (dVar 4) dNil))) (gTup 2 (gCons' (gSet 9) (gCons' (gSet 10) gNil'))) (dSeq (dIf (dB (d2 qNe (d2 qEq (dVar 6) (dVar 10)) (d2 qEq (dVar 8) (dVar 9)))) (dRet (dBl false)) dEnd)
  (dSeq (dSet 11 (d2 pJoinS (dStr " / ") (lcD [12] (dItL (dLst (dCons (dVar 6) (dCons (dVar 10) dNil)))) (gSet 12) (dB (d2 qNe (dVar 12) (dStr "none"))) (dVar 12))))
  (dIf (dAndB (dB (d2 qNe (d2 pCat (dVar 8) (dVar 9)) (dLst dNil))) (dB (d2 qNe (dFn 1 rsn (dCons (d2 pCat (dVar 8) (dVar 9)) dNil)) (dVar 11)))) (dRet (dBl false)) dEnd)))))))
def gP (x0 x1 x2 : Option D) (S3 T4 : D) (r : Rho) : Prop := ∃ a b c d e f g h : Option D, r = [x0, x1, x2, some S3, some T4, a, b, c, d, e, f, g, h]
def hP (x0 x1 x2 : Option D) (S3 T4 NA SA : D) (r : Rho) : Prop := ∃ a c e f g h : Option D, r = [x0, x1, x2, some S3, some T4, a, some SA, c, some NA, e, f, g, h]
theorem turn {rsn rrd rsm rat : List D → DR} {Ss : List (List Ly)} (hS : ∀ A ∈ Ss, Gd A) (lS : Ss.length ≤ 20)
    (SW : ∀ A : List Ly, (∀ l ∈ A, Lk l) → A.length ≤ 20 → rsn [Ns A] = .ok (.str (sh A)) none) (RD : ∀ A : List Ly, (∀ l ∈ A, Lk l) → A.length ≤ 20 → rrd [.str (sh A)] = .ok (Ns A) none)
    (SA : ∀ A : List Ly, (∀ l ∈ A, Lk l) → A.length ≤ 1000 → rsm [Ns A, Ns A] = .ok (.bl true) none) (AT : ∀ A : List Ly, (∀ l ∈ A, l.Ok) → A.length ≤ 1000 → rat [Ns A] = .ok (.int (tot A)) none)
    {x0 x1 x2 x4 x5 x6 x7 x8 x9 x10 x11 x12 : Option D} {N : Rho → Prop} {Z : SO → Prop}
    (hN : ∀ r, gP x0 x1 x2 (.lst (Ss.map Ns)) (.lst (Ss.map tS)) r → N r) :
    WS (tailD rsn rrd rsm rat [x0, x1, x2, some (.lst (Ss.map Ns)), x4, x5, x6, x7, x8, x9, x10, x11, x12]) N Z := by
  unfold tailD
  have ll : (Ss.map Ns).length ≤ 100000 := by rw [List.length_map]; omega
  have ll2 : Ss.length ≤ 100000 := by omega
  have hz : zipD [.lst (Ss.map Ns), .lst (Ss.map tS)] = some (Ss.map pr) := by
    rw [zipD_lst, zip_eq]
  simp [ll2]
  refine WR_compM (fun i acc r => acc = (Ss.take i).map tS ∧ r = [x0, x1, x2, some (.lst (Ss.map Ns)), x4, none, x6, x7, x8, x9, x10, x11, x12]) ⟨rfl, rfl⟩ ?_ ?_
  · rintro i A acc r hi ⟨rfl, rfl⟩
    have g := hS A (List.mem_of_getElem? hi)
    have e := SW A g.lk (by have := g.len; omega)
    have es := take_succ hi
    have et : tS A = .str (sh A) := rfl
    generalize Ns A = NA at *
    simp [e, es, et]
  · rintro acc r ⟨rfl, rfl⟩
    rw [List.take_length]
    simp [-zipD_lst, hz]
    refine WS_loopM (fun i => gP x0 x1 x2 (.lst (Ss.map Ns)) (.lst (Ss.map tS))) ⟨_, _, _, _, _, _, _, _, rfl⟩ ?_ ?_
    · rintro i A r hi ⟨a, b, c, d, e, f, g, h, rfl⟩
      have g' := hS A (List.mem_of_getElem? hi)
      have l9 := g'.len
      have e1 := RD A g'.lk (by omega)
      have e2 := SA A g'.lk (by omega)
      have e3 := SW A g'.lk (by omega)
      have e4 := AT A (fun l hl => (g'.lk l hl).ok) (by omega)
      have q1 := qNe_s (sh A)
      have q2 := qNe_int (tot A) (tot A)
      have ep : pr A = .tup [Ns A, .str (sh A)] := rfl
      rw [ep]
      generalize Ns A = NA at *
      generalize sh A = SHA at *
      simp [e1, e2, e3, e4, q1, q2, turned]
      exact ⟨_, _, _, _, _, _, _, _, rfl⟩
    · rintro r ⟨a, b, c, d, e, f, g, h, rfl⟩
      simp [-zipD_lst, hz]
      refine WS_loopM (fun i => gP x0 x1 x2 (.lst (Ss.map Ns)) (.lst (Ss.map tS))) ⟨_, _, _, _, _, _, _, _, rfl⟩ ?_ ?_
      · rintro i A r hi ⟨a, b, c, d, e, f, g, h, rfl⟩
        have gA := hS A (List.mem_of_getElem? hi)
        have ep : pr A = .tup [Ns A, .str (sh A)] := rfl
        rw [ep]
        simp [-zipD_lst, hz]
        refine WS_loopM (fun i => hP x0 x1 x2 (.lst (Ss.map Ns)) (.lst (Ss.map tS)) (Ns A) (.str (sh A))) ⟨_, _, _, _, _, _, rfl⟩ ?_ ?_
        · rintro j B r hj ⟨a, c, e, f, g, h, rfl⟩
          have gB := hS B (List.mem_of_getElem? hj)
          have lA := gA.len
          have lB := gB.len
          obtain ⟨bb, q1, q2⟩ := eq_both gA.lk gB.lk (by omega) (by omega)
          have q3 := qNe_b bb
          have tA := none_test gA
          have tB := none_test gB
          have pj := pj_ok gA gB
          have pc := Ns_app (A := A) (B := B) (by omega)
          have qn := ne_nil (A ++ B)
          have kAB : ∀ l ∈ A ++ B, Lk l := fun l hl => by
            rcases List.mem_append.mp hl with h | h
            · exact gA.lk l h
            · exact gB.lk l h
          have sw := SW (A ++ B) kAB (by rw [List.length_append]; omega)
          have eb : pr B = .tup [Ns B, .str (sh B)] := rfl
          rw [eb]
          have l2 : ∀ a b : D, lstD [a, b] = some (.lst [a, b]) := fun a b => rfl
          have l0 : lstD [] = some (.lst []) := rfl
          have ksA : ks A = if A = [] then [] else [sh A] := rfl
          have ksB : ks B = if B = [] then [] else [sh B] := rfl
          have be : A ++ B ≠ [] → Txt.join " / " (ks A ++ ks B) = sh (A ++ B) := both_eq
          have qs := qNe_s (sh (A ++ B))
          simp [q1, q2, q3, l2]
          refine WR_comp (fun i acc r => acc = (match i with | 0 => [] | 1 => (ks A).map D.str | _ => (ks A ++ ks B).map D.str) ∧ r = [x0, x1, x2, some (.lst (Ss.map Ns)), some (.lst (Ss.map tS)), a, some (.str (sh A)), c, some (Ns A), some (Ns B), some (.str (sh B)), g, none]) ⟨rfl, rfl⟩ ?_ ?_
          · rintro i d acc r hd ⟨rfl, rfl⟩
            match i, hd with
            | 0, hd =>
              cases hd
              by_cases ca : A = []
              · rw [decide_eq_true ca] at tA
                rw [if_pos ca] at ksA
                have tA : qNe (.str (sh A)) (.str "none") = some (.bl false) := tA
                simp [tA, ksA]
              · rw [decide_eq_false ca] at tA
                rw [if_neg ca] at ksA
                have tA : qNe (.str (sh A)) (.str "none") = some (.bl true) := tA
                simp [tA, ksA]
            | 1, hd =>
              cases hd
              by_cases cb : B = []
              · rw [decide_eq_true cb] at tB
                rw [if_pos cb] at ksB
                have tB : qNe (.str (sh B)) (.str "none") = some (.bl false) := tB
                simp [tB, ksB]
              · rw [decide_eq_false cb] at tB
                rw [if_neg cb] at ksB
                have tB : qNe (.str (sh B)) (.str "none") = some (.bl true) := tB
                simp [tB, ksB]
          · rintro acc r ⟨rfl, rfl⟩
            have pj : pJoinS (.str " / ") (.lst ((ks A ++ ks B).map D.str)) = some (.str (Txt.join " / " (ks A ++ ks B))) := pj
            show kLst _ ((ks A ++ ks B).map D.str) _
            generalize (ks A ++ ks B).map D.str = KD at *
            by_cases c0 : A ++ B = []
            · rw [decide_eq_true c0] at qn
              have qn : qNe (Ns (A ++ B)) (.lst []) = some (.bl false) := qn
              generalize Ns (A ++ B) = NAB at *
              generalize Txt.join " / " (ks A ++ ks B) = JJ at *
              simp [pj, pc, qn, l0]
              exact ⟨_, _, _, _, _, _, rfl⟩
            · rw [decide_eq_false c0] at qn
              have qn : qNe (Ns (A ++ B)) (.lst []) = some (.bl true) := qn
              rw [be c0] at pj
              generalize Ns (A ++ B) = NAB at *
              generalize sh (A ++ B) = SAB at *
              simp [pj, pc, qn, l0, sw, qs]
              exact ⟨_, _, _, _, _, _, rfl⟩
        · rintro r ⟨a, c, e, f, g, h, rfl⟩
          exact ⟨_, _, _, _, _, _, _, _, rfl⟩
      · rintro r hp
        exact hN r hp
theorem cut_to {α : Type} (xs : List α) (n : Nat) : cutX xs none (some (n : Int)) = xs.take n := by
  unfold cutX
  rw [show HT.sIx xs.length xs.length (some (n : Int)) = min n xs.length from HT.sIx_nat xs.length xs.length n, HT.sIx_none, List.drop_zero, Nat.sub_zero]
  rcases Nat.le_total n xs.length with h | h
  · rw [Nat.min_eq_left h]
  · rw [Nat.min_eq_right h, List.take_length, List.take_of_length_le h]
theorem cut_l (A : List Ly) (n : Nat) : pSl (Ns A) none (some (n : Int)) = some (Ns (A.take n)) := by
  show some (D.lst (cutX (A.map Ly.d) none (some (n : Int)))) = _
  rw [cut_to, ← List.map_take]
theorem cut_last (A : List Ly) : pSl (Ns A) none (some (-1)) = some (Ns (A.take (A.length - 1))) := by
  show some (D.lst (cutX (A.map Ly.d) none (some (-1)))) = _
  have e : cutX (A.map Ly.d) none (some (-1)) = (A.take (A.length - 1)).map Ly.d := by
    unfold cutX
    have s2 : HT.sIx (A.map Ly.d).length (A.map Ly.d).length (some (-1)) = A.length - 1 := by
      have : HT.sIx (A.map Ly.d).length (A.map Ly.d).length (some (-1)) = ((-1 : Int) + (((A.map Ly.d).length : Nat) : Int)).toNat := by
        unfold HT.sIx
        exact if_pos (by decide)
      rw [this, List.length_map]
      omega
    rw [s2, HT.sIx_none, List.drop_zero, Nat.sub_zero, List.map_take]
  rw [e]
theorem Gd.sub {A B : List Ly} (h : Gd A) (hB : ∀ l ∈ B, l ∈ A) (lB : B.length ≤ 9) : Gd B := ⟨fun l hl => h.lk l (hB l hl), lB⟩
theorem Gd.add {A : List Ly} (h : Gd A) (hl : A.length ≤ 8) {l : Ly} (hk : Lk l) : Gd (A ++ [l]) := ⟨fun x hx => by
  rcases List.mem_append.mp hx with h1 | h1
  · exact h.lk x h1
  · rw [List.mem_singleton.mp h1]; exact hk, by rw [List.length_append]; show _ + 1 ≤ 9; omega⟩
def lP (ns : List Int) (n : Nat) (r : Rho) : Prop := ∃ (s : D) (a b c d e f g h i j k : Option D), r = [some (.scr ns), some s, a, b, c, d, e, f, g, h, i, j, k] ∧ Src n s
theorem plain (ns : List Int) (hl : ns.length ≤ 63) (hb : ∀ z ∈ ns, PySem.Builtin.Int.intBits z ≤ 1048576) : r_law [.scr ns] = .ok (.bl true) none := by
  obtain ⟨s0, e0, hs0⟩ := FA.source_ok ns (by omega)
  rw [← eq_source] at e0
  obtain ⟨m, hm, hm0, hm1⟩ : ∃ m : Int, m = (3 + if (ns.length : Int) < 8 then (ns.length : Int) else 8) ∧ 0 ≤ m ∧ m ≤ 11 := ⟨_, rfl, by split <;> omega, by split <;> omega⟩
  have r1 : rng1 [.int m] = some (rngD 0 m.toNat) := FA.rng1_ok hm0 (by omega)
  rw [hm] at r1
  have r6 : rng1 [.int 6] = some (rngD 0 6) := by rfl
  have l6 : (rngD 0 6).length ≤ 100000 := by rw [rngD_len]; omega
  have hmn : (3 + if (ns.length : Int) < 8 then (ns.length : Int) else 8).toNat ≤ 11 := by rw [← hm]; omega
  have AN := @any_ok
  have TU : ∀ {Ss : List (List Ly)}, (∀ A ∈ Ss, Gd A) → Ss.length ≤ 20 → ∀ {x0 x1 x2 x4 x5 x6 x7 x8 x9 x10 x11 x12 : Option D} {N : Rho → Prop} {Z : SO → Prop}
    (hN : ∀ r, gP x0 x1 x2 (.lst (Ss.map Ns)) (.lst (Ss.map tS)) r → N r),
    WS (tailD r_show_nesting r_read_nesting (r__law_same 6) r_attempts [x0, x1, x2, some (.lst (Ss.map Ns)), x4, x5, x6, x7, x8, x9, x10, x11, x12]) N Z := fun {Ss} hS lS => by
    intro x0 x1 x2 x4 x5 x6 x7 x8 x9 x10 x11 x12 N Z hN
    exact turn hS lS (fun A h l => show_ok A h l) (fun A h l => read_ok A h l) (fun A h l => same_Ns A h l) (fun A h l => attempts_ok A h l) hN
  unfold r_law d_law
  rw [show ((dSeq (dSet 4 (lcD [5] (dItL (dVar 3)) (gSet 5) dTrue (dFn 1 r_show_nesting (dCons (dVar 5) dNil))))
  (dSeq (dFor (dIt zipD (dCons (dVar 3) (dCons (dVar 4) dNil))) (gTup 2 (gCons' (gSet 5) (gCons' (gSet 6) gNil'))) (dSeq (dSet 7 (dFn 1 r_read_nesting (dCons (dVar 6) dNil)))
  (dIf (dOrB (dNotB (dB (dFn 2 (r__law_same 6) (dCons (dVar 7) (dCons (dVar 5) dNil))))) (dOrB (dB (d2 qNe (dFn 1 r_show_nesting (dCons (dVar 7) dNil)) (dVar 6))) (dB (d2 qNe (dFn 1 r_attempts (dCons (dVar 7) dNil)) (dFn 1 r_attempts (dCons (dVar 5) dNil)))))) (dRet (dBl false)) dEnd)))
  (dFor (dIt zipD (dCons (dVar 3) (dCons (dVar 4) dNil))) (gTup 2 (gCons' (gSet 8) (gCons' (gSet 6) gNil'))) (dFor (dIt zipD (dCons (dVar 3) (dCons (dVar 4) dNil))) (gTup 2 (gCons' (gSet 9) (gCons' (gSet 10) gNil'))) (dSeq (dIf (dB (d2 qNe (d2 qEq (dVar 6) (dVar 10)) (d2 qEq (dVar 8) (dVar 9)))) (dRet (dBl false)) dEnd)
  (dSeq (dSet 11 (d2 pJoinS (dStr " / ") (lcD [12] (dItL (dLst (dCons (dVar 6) (dCons (dVar 10) dNil)))) (gSet 12) (dB (d2 qNe (dVar 12) (dStr "none"))) (dVar 12))))
  (dIf (dAndB (dB (d2 qNe (d2 pCat (dVar 8) (dVar 9)) (dLst dNil))) (dB (d2 qNe (dFn 1 r_show_nesting (dCons (d2 pCat (dVar 8) (dVar 9)) dNil)) (dVar 11)))) (dRet (dBl false)) dEnd)))))))) = tailD r_show_nesting r_read_nesting (r__law_same 6) r_attempts from rfl]
  generalize tailD r_show_nesting r_read_nesting (r__law_same 6) r_attempts = TL at TU ⊢
  generalize r__law_source = rs at e0 ⊢
  generalize r__law_any_nesting = ra at AN ⊢
  refine WD.eq ?_
  simp [e0, r1]
  refine WS_loopR (fun i => lP ns (7000 * i)) ⟨s0, _, _, _, _, _, _, _, _, _, _, _, rfl, hs0⟩ ?_ ?_
  · rintro i r hi ⟨s, a2, a3, a4, a5, a6, a7, a8, a9, a10, a11, a12, rfl, hs⟩
    have hi11 : i < 11 := by omega
    have as4 : asI (.int 4) = some (some 4) := rfl
    have asm : asI (.int (-1)) = some (some (-1)) := rfl
    simp [r6, l6]
    refine WR_compR (fun k acc r => ∃ (Ss : List (List Ly)) (s1 : D), acc = Ss.map Ns ∧ r = [some (.scr ns), some s1, some (.int (i : Int)), a3, a4, a5, a6, a7, none, a9, a10, a11, a12] ∧ (∀ A ∈ Ss, Gd A ∧ A.length ≤ 4) ∧ Ss.length = k ∧ Src (7000 * i + 1000 * k) s1) ⟨[], s, rfl, by simp, (fun A h => nomatch h), rfl, hs⟩ ?_ ?_
    · rintro k acc r hk ⟨Ss, s1, rfl, rfl, hS, lS, hs1⟩
      obtain ⟨A, s2, y2, kA, lA, hs2⟩ := AN hs1 (by omega)
      have cl : pSl (Ns A) none (some 4) = some (Ns (A.take 4)) := cut_l A 4
      have gA : Gd (A.take 4) ∧ (A.take 4).length ≤ 4 := ⟨⟨fun l hl => kA l (List.mem_of_mem_take hl), by rw [List.length_take]; omega⟩, by rw [List.length_take]; omega⟩
      generalize A.take 4 = B at *
      have eN : Ss.map Ns ++ [Ns B] = (Ss ++ [B]).map Ns := by rw [List.map_append]; rfl
      simp [y2, as4, cl]
      refine ⟨Ss ++ [B], by rw [← eN], ?_, by simp [lS], hs2.mono (by omega)⟩
      intro C hC
      rcases List.mem_append.mp hC with h | h
      · exact hS C h
      · rw [List.mem_singleton.mp h]; exact gA
    · rintro acc r ⟨Ss, s1, rfl, rfl, hS, lS, hs1⟩
      match Ss, lS with
      | A0 :: A1 :: Ss, lS =>
        obtain ⟨g0, n0⟩ := hS A0 List.mem_cons_self
        obtain ⟨g1, n1⟩ := hS A1 (List.mem_cons_of_mem _ List.mem_cons_self)
        have c1 := cut_last A0
        have c2 : pCat (Ns A0) (.lst [.lst []]) = some (Ns (A0 ++ [.lst []])) := Ns_app (A := A0) (B := [.lst []]) (by show _ + 1 ≤ 1000; omega)
        have c3 : pCat (Ns A0) (.lst [.tup [.int 0, .int 1]]) = some (Ns (A0 ++ [.con 0 1])) := Ns_app (A := A0) (B := [.con 0 1]) (by show _ + 1 ≤ 1000; omega)
        have c4 : pRevL (Ns A1) = some (Ns A1.reverse) := by
          show some (D.lst (A1.map Ly.d).reverse) = some (D.lst (A1.reverse.map Ly.d))
          rw [List.map_reverse]
        have gB : ∀ A ∈ A0 :: A1 :: Ss ++ [A0.take (A0.length - 1), A0 ++ [.lst []], A0 ++ [.con 0 1], A1.reverse], Gd A := fun A hA => by
          rcases List.mem_append.mp hA with h | h
          · exact (hS A h).1
          · simp only [List.mem_cons, List.not_mem_nil, or_false] at h
            rcases h with h | h | h | h
            · rw [h]; exact g0.sub (fun l hl => List.mem_of_mem_take hl) (by rw [List.length_take]; omega)
            · rw [h]; exact g0.add (by omega) ⟨fun x hx => (nomatch hx), by decide⟩
            · rw [h]; exact g0.add (by omega) ⟨⟨by decide, by decide⟩, by decide, by decide⟩
            · rw [h]; exact g1.sub (fun l hl => List.mem_reverse.mp hl) (by rw [List.length_reverse]; omega)
        have lB : (A0 :: A1 :: Ss ++ [A0.take (A0.length - 1), A0 ++ [.lst []], A0 ++ [.con 0 1], A1.reverse]).length ≤ 20 := by
          rw [List.length_append, lS]
          show 6 + 4 ≤ 20
          omega
        have c5 : pCat (.lst ((A0 :: A1 :: Ss).map Ns)) (.lst [Ns (A0.take (A0.length - 1)), Ns (A0 ++ [.lst []]), Ns (A0 ++ [.con 0 1]), Ns A1.reverse]) = some (.lst ((A0 :: A1 :: Ss ++ [A0.take (A0.length - 1), A0 ++ [.lst []], A0 ++ [.con 0 1], A1.reverse]).map Ns)) := by
          rw [List.map_append]
          exact pCat_ok (by rw [List.length_map, lS]; show 6 + 4 ≤ _; omega)
        have i0 : pIx (.lst ((A0 :: A1 :: Ss).map Ns)) (.int 0) = some (Ns A0) := pIx_0
        have i1 : pIx (.lst ((A0 :: A1 :: Ss).map Ns)) (.int 1) = some (Ns A1) := pIx_1
        have t := fun {x0 x1 x2 x4 x5 x6 x7 x8 x9 x10 x11 x12 N Z} => @TU _ gB lB x0 x1 x2 x4 x5 x6 x7 x8 x9 x10 x11 x12 N Z
        have l0 : lstD [] = some (.lst []) := rfl
        have l1 : ∀ x : D, lstD [x] = some (.lst [x]) := fun x => rfl
        have l4 : ∀ a b c d : D, lstD [a, b, c, d] = some (.lst [a, b, c, d]) := fun a b c d => rfl
        have tp : ∀ a b : D, tupD [a, b] = some (.tup [a, b]) := fun a b => rfl
        generalize (A0 :: A1 :: Ss).map Ns = S6 at *
        generalize (A0 :: A1 :: Ss ++ [A0.take (A0.length - 1), A0 ++ [.lst []], A0 ++ [.con 0 1], A1.reverse]) = S10 at *
        generalize Ns (A0.take (A0.length - 1)) = N1 at *
        generalize Ns (A0 ++ [.lst []]) = N2 at *
        generalize Ns (A0 ++ [.con 0 1]) = N3 at *
        generalize Ns A1.reverse = N4 at *
        generalize Ns A0 = NA0 at *
        generalize Ns A1 = NA1 at *
        simp [i0, i1, asm, c1, c2, c3, c4, l0, l1, l4, tp, c5]
        refine t fun r hp => ?_
        obtain ⟨a, b, c, d, e, f, g, h, rfl⟩ := hp
        exact ⟨s1, _, _, _, _, _, _, _, _, _, _, _, rfl, hs1.mono (by omega)⟩
  · rintro r ⟨s, a2, a3, a4, a5, a6, a7, a8, a9, a10, a11, a12, rfl, hs⟩
    simp
end Lk43

open PySem PySem.W PyProof.Rows
set_option maxHeartbeats 0 in
theorem PySem.Challenge.cw_retrynest_k43_whole_texts_both_ways_holds : PySem.Challenge.rw_retrynest_k43_whole_texts_both_ways.Holds := by
  w_on; o_law; k_head; (case hw => w_witness2)
  k_fill
  refine VL.walkG (l := PySem.Challenge.rw_retrynest_k43_whole_texts_both_ways) (n := 63) (k := 8) (x := "script") (sp := fun K mg => VL.SpD K mg none 1 0 Lk43.r_law) rfl (by decide) rfl ⟨rfl, by decide, by decide⟩ (fun w h Y => PySem.W.kIn_of Y) ?F ?hsp
  case hsp =>
    intro w mg H a ns hl hbits only hS
    exact VL.hsp_of only hS (Lk43.plain ns hl hbits)
  case F =>
    intro w mg fa h KX G hmg
    refine' Lk43.all_mk (h := h) hmg (Lk43.facts_mk KX G ?a0 ?l0 ?c0 ?k0 ?a1 ?l1 ?c1 ?k1 ?a2 ?l2 ?c2 ?k2 ?a3 ?l3 ?c3 ?k3 ?a4 ?l4 ?c4 ?k4 ?a5 ?l5 ?c5 ?k5 ?a6 ?l6 ?c6 ?k6 ?a7 ?l7 ?c7 ?k7 ?a8 ?l8 ?c8 ?k8 ?a9 ?l9 ?c9 ?k9 ?a10 ?l10 ?c10 ?k10 ?a11 ?l11 ?c11 ?k11 ?a12 ?l12 ?c12 ?k12 ?a13 ?l13 ?c13 ?k13 ?a14 ?l14 ?c14 ?k14 ?a15 ?l15 ?c15 ?k15 ?z0 ?z1 ?z2 ?z3 ?z4 ?z5 ?z6 ?z7 ?z8 ?z9 ?z10 ?z11 ?z12 ?q0 ?q1 ?q2 ?q3 ?q4 ?q5 ?q6)
    (case a0 => k_is); (case l0 => k_is); (case c0 => k_is); (case k0 => k_is); (case a1 => k_is); (case l1 => k_is); (case c1 => k_is); (case k1 => k_is); (case a2 => k_is); (case l2 => k_is); (case c2 => k_is); (case k2 => k_is); (case a3 => k_is); (case l3 => k_is); (case c3 => k_is); (case k3 => k_is); (case a4 => k_is); (case l4 => k_is); (case c4 => k_is); (case k4 => k_is); (case a5 => k_is); (case l5 => k_is); (case c5 => k_is); (case k5 => k_is); (case a6 => k_is); (case l6 => k_is); (case c6 => k_is); (case k6 => k_is); (case a7 => k_is); (case l7 => k_is); (case c7 => k_is); (case k7 => k_is); (case a8 => k_is); (case l8 => k_is); (case c8 => k_is); (case k8 => k_is); (case a9 => k_is); (case l9 => k_is); (case c9 => k_is); (case k9 => k_is); (case a10 => k_is); (case l10 => k_is); (case c10 => k_is); (case k10 => k_is); (case a11 => k_is); (case l11 => k_is); (case c11 => k_is); (case k11 => k_is); (case a12 => k_is); (case l12 => k_is); (case c12 => k_is); (case k12 => k_is); (case a13 => k_is); (case l13 => k_is); (case c13 => k_is); (case k13 => k_is); (case a14 => k_is); (case l14 => k_is); (case c14 => k_is); (case k14 => k_is); (case a15 => k_is); (case l15 => k_is); (case c15 => k_is); (case k15 => k_is); (case z0 => k_is); (case z1 => k_is); (case z2 => k_is); (case z3 => k_is); (case z4 => k_is); (case z5 => k_is); (case z6 => k_is); (case z7 => k_is); (case z8 => k_is); (case z9 => k_is); (case z10 => k_is); (case z11 => k_is); (case z12 => k_is); (case q0 => k_is); (case q1 => k_is); (case q2 => k_is); (case q3 => k_is); (case q4 => k_is); (case q5 => k_is); (case q6 => k_is)
