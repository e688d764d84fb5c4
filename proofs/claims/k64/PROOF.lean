import PyProof.Rows.All
import Wide.All
import OpenK.AllK
import Wide.FinOn
import PySem.Challenge.RW_longtexts_k64_known_grammars
import HandS.ForMost
import HandS.Walk
import HandS.Wide
import HandS.TupAny
import HandS.TupMul
import PyProof.StrOps2
import KE.KEqNest
import PyProof.NeKinds
import KE.DataCmp
import KE.SortData
import KE.SortLaws
import PyProof.P3In
import PyProof.StrLawsIn
import HandS.Style
import HandS.Star
import HandS.IsInst
import HandS.Text
import HandS.TupLen
import HandS.Codes
import KE.KDictSum
import KE.DataMinMax
import KE.KDictCopyH
import HandS.Comp
import HandS.Defaults
import HandS.Words
import KE.GoesNew
import KE.GoesMore
import KE.GoesEnum
import HandS.DictComp
import KE.KDictZip
import PyProof.ListStr
import KE.KStateDown
import Lean
import HandS.Head0
import HandS.Head1
import HandS.Head2
import HandS.HeadEnd
import HandS.HeadHook1
import HandS.HeadHook2
set_option Elab.async false
set_option linter.all false
set_option maxRecDepth 100000
section
/-! Values as pure data, and how they stand in the abstract heap. -/
namespace Bv
open PySem PySem.Spec PyProof.Rows L2

/-- data: texts are their codes; c in ins: the class's name -/
inductive D where
  | non | bl (b : Bool) | int (i : Int) | str (x : List Nat)
  | tup (xs : List D) | lst (xs : List D) | dct (kvs : List (D × D))
  | ins (c : Nat) (fs : List (List Nat × D))

/-! ### equality of data, by structure -/
mutual
def D.beq : D → D → Bool
  | .non, .non => true
  | .bl a, .bl b => a == b
  | .int a, .int b => decide (a = b)
  | .str a, .str b => a == b
  | .tup a, .tup b => D.beqs a b
  | .lst a, .lst b => D.beqs a b
  | .dct a, .dct b => D.beqk a b
  | .ins c a, .ins e b => c == e && D.beqf a b
  | _, _ => false
def D.beqs : List D → List D → Bool
  | [], [] => true
  | a :: r, b :: t => D.beq a b && D.beqs r t
  | _, _ => false
def D.beqk : List (D × D) → List (D × D) → Bool
  | [], [] => true
  | (a, b) :: r, (c, d) :: t => D.beq a c && D.beq b d && D.beqk r t
  | _, _ => false
def D.beqf : List (List Nat × D) → List (List Nat × D) → Bool
  | [], [] => true
  | (a, b) :: r, (c, d) :: t => a == c && D.beq b d && D.beqf r t
  | _, _ => false
end
mutual
theorem D.beq_eq : ∀ a b : D, D.beq a b = true ↔ a = b
  | .non, b => by cases b <;> simp [D.beq]
  | .bl x, b => by cases b <;> simp [D.beq]
  | .int x, b => by cases b <;> simp [D.beq]
  | .str x, b => by cases b <;> simp [D.beq]
  | .tup x, b => by
    cases b with
    | tup y => rw [D.beq, D.beqs_eq x y, D.tup.injEq]
    | _ => simp [D.beq]
  | .lst x, b => by
    cases b with
    | lst y => rw [D.beq, D.beqs_eq x y, D.lst.injEq]
    | _ => simp [D.beq]
  | .dct x, b => by
    cases b with
    | dct y => rw [D.beq, D.beqk_eq x y, D.dct.injEq]
    | _ => simp [D.beq]
  | .ins c x, b => by
    cases b with
    | ins e y => rw [D.beq, Bool.and_eq_true, D.beqf_eq x y, D.ins.injEq, beq_iff_eq]
    | _ => simp [D.beq]
theorem D.beqs_eq : ∀ a b : List D, D.beqs a b = true ↔ a = b
  | [], b => by cases b <;> simp [D.beqs]
  | x :: r, b => by
    cases b with
    | nil => simp [D.beqs]
    | cons y t => rw [D.beqs, Bool.and_eq_true, D.beq_eq x y, D.beqs_eq r t, List.cons.injEq]
theorem D.beqk_eq : ∀ a b : List (D × D), D.beqk a b = true ↔ a = b
  | [], b => by cases b <;> simp [D.beqk]
  | (x, z) :: r, b => by
    cases b with
    | nil => simp [D.beqk]
    | cons y t =>
      obtain ⟨y1, y2⟩ := y
      rw [D.beqk, Bool.and_eq_true, Bool.and_eq_true, D.beq_eq x y1, D.beq_eq z y2, D.beqk_eq r t, List.cons.injEq, Prod.mk.injEq]
theorem D.beqf_eq : ∀ a b : List (List Nat × D), D.beqf a b = true ↔ a = b
  | [], b => by cases b <;> simp [D.beqf]
  | (x, z) :: r, b => by
    cases b with
    | nil => simp [D.beqf]
    | cons y t =>
      obtain ⟨y1, y2⟩ := y
      rw [D.beqf, Bool.and_eq_true, Bool.and_eq_true, beq_iff_eq, D.beq_eq z y2, D.beqf_eq r t, List.cons.injEq, Prod.mk.injEq]
end
instance : DecidableEq D := fun a b => if h : D.beq a b = true then isTrue ((D.beq_eq a b).mp h) else isFalse fun e => h ((D.beq_eq a b).mpr e)

/-! nothing in it can change -/
mutual
def im : D → Bool
  | .non => true | .bl _ => true | .int _ => true | .str _ => true
  | .tup xs => ims xs
  | _ => false
def ims : List D → Bool
  | [] => true
  | x :: r => im x && ims r
end

/-- a list of codes as a text -/
abbrev S' (x : List Nat) : Str := ⟨x.toArray⟩
theorem S'_cps (x : List Nat) : (S' x).cps.toList = x := rfl
theorem S'_of (z : Str) : S' z.cps.toList = z := rfl
theorem S'_inj {x y : List Nat} : S' x = S' y ↔ x = y := by
  constructor
  · intro h
    have := congrArg (fun z : Str => z.cps.toList) h
    exact this
  · intro h; rw [h]
theorem S'_length (x : List Nat) : (S' x).length = x.length := by simp [Str.length]

/-! ### keys of dicts -/
def keyD : Key → D
  | .inl i => .int i
  | .inr x => .str x.cps.toList
def keysD (l : List Key) : D := .tup (l.map keyD)
theorem keyD_inj : ∀ {a b : Key}, keyD a = keyD b → a = b
  | .inl i, .inl j, h => by cases h; rfl
  | .inr x, .inr y, h => by
    have e : x.cps.toList = y.cps.toList := D.str.inj h
    have : x = y := by rw [← S'_of x, ← S'_of y, e]
    rw [this]
  | .inl i, .inr y, h => by cases h
  | .inr x, .inl j, h => by cases h
theorem map_keyD_inj : ∀ {a b : List Key}, a.map keyD = b.map keyD → a = b
  | [], [], _ => rfl
  | [], _ :: _, h => by cases h
  | _ :: _, [], h => by cases h
  | x :: r, y :: t, h => by
    rw [List.map_cons, List.map_cons, List.cons.injEq] at h
    rw [keyD_inj h.1, map_keyD_inj h.2]
theorem keysD_inj {a b : List Key} (h : keysD a = keysD b) : a = b := map_keyD_inj (D.tup.inj h)
/-- the key that data is, if it is an int or a text -/
def toKey : D → Option Key
  | .int i => some (.inl i)
  | .str x => some (.inr (S' x))
  | _ => none
def toKeyL : List D → Option (List Key)
  | [] => some []
  | d :: r => match toKey d, toKeyL r with
    | some k, some ks => some (k :: ks)
    | _, _ => none
def toKeys : D → Option (List Key)
  | .tup ds => toKeyL ds
  | _ => none
theorem toKey_some {d : D} {k : Key} (h : toKey d = some k) : d = keyD k := by
  cases d <;> simp [toKey] at h <;> subst h <;> rfl
theorem toKeyL_some : ∀ {ds : List D} {ks : List Key}, toKeyL ds = some ks → ds = ks.map keyD
  | [], ks, h => by simp [toKeyL] at h; subst h; rfl
  | d :: r, ks, h => by
    unfold toKeyL at h
    split at h
    · rename_i k ks' h1 h2
      cases h
      rw [List.map_cons, ← toKey_some h1, ← toKeyL_some h2]
    · cases h
theorem toKeys_some {d : D} {ks : List Key} (h : toKeys d = some ks) : d = keysD ks := by
  cases d <;> simp [toKeys] at h
  unfold keysD
  rw [← toKeyL_some h]

/-! ### how data stands in the heap: d is the value v; F: the addresses of what can change in it -/
/-- the dict at a has these keys and values -/
def bd1 : D → Prop
  | .str x => x.length ≤ sizeLine
  | _ => True
def bd : D → Prop
  | .tup ds => ∀ d ∈ ds, bd1 d
  | d => bd1 d
def DictH (H : Hp) (a : Addr) (keys : List D) (vals : List V) : Prop :=
  (∀ d ∈ keys, bd d) ∧ ((∃ ks : List Key, keys = ks.map keyD ∧ ks.length = vals.length ∧ Rd H a (.dK (ks.zip vals))) ∨
  (∃ ks : List (List Key), keys = ks.map keysD ∧ ks.length = vals.length ∧ Rd H a (.dT (ks.zip vals))))
abbrev TupH (_ : PySem.W.Frag) (H : Hp) (a : Addr) (vs : List V) : Prop := H a = some (.tup vs)
section
variable (K : PySem.W.Frag) (cls : Nat → Addr) (H : Hp)
mutual
def Rep : D → V → List Addr → Prop
  | .non, v, F => v = .non ∧ F = []
  | .bl b, v, F => v = .bl b ∧ F = []
  | .int i, v, F => v = .int i ∧ F = []
  | .str x, v, F => v = .str (S' x) ∧ F = [] ∧ x.length ≤ sizeLine
  | .tup ds, v, F => ∃ a vs, v = .ref a ∧ TupH K H a vs ∧ Reps ds vs F
  | .lst ds, v, F => ∃ a vs G, v = .ref a ∧ F = a :: G ∧ H a = some (.lst vs) ∧ Reps ds vs G
  | .dct kvs, v, F => ∃ a vs G, v = .ref a ∧ F = a :: G ∧ DictH H a (kvs.map Prod.fst) vs ∧ RepV kvs vs G
  | .ins c fs, v, F => ∃ a dx vs G, v = .ref a ∧ F = a :: G ∧ H a = some (.ins (cls c) dx ((fs.map fun p => S' p.1).zip vs)) ∧ vs.length = fs.length ∧ RepF fs vs G
def Reps : List D → List V → List Addr → Prop
  | [], vs, F => vs = [] ∧ F = []
  | d :: ds, vs, F => ∃ v vr F1 F2, vs = v :: vr ∧ F = F1 ++ F2 ∧ Rep d v F1 ∧ Reps ds vr F2
def RepV : List (D × D) → List V → List Addr → Prop
  | [], vs, F => vs = [] ∧ F = []
  | (_, d) :: ds, vs, F => ∃ v vr F1 F2, vs = v :: vr ∧ F = F1 ++ F2 ∧ Rep d v F1 ∧ RepV ds vr F2
def RepF : List (List Nat × D) → List V → List Addr → Prop
  | [], vs, F => vs = [] ∧ F = []
  | (_, d) :: ds, vs, F => ∃ v vr F1 F2, vs = v :: vr ∧ F = F1 ++ F2 ∧ Rep d v F1 ∧ RepF ds vr F2
end
end
end Bv
end

section
/-! Laws of Rep; the slots and what they stand for. -/
namespace Bv
open PySem PySem.Spec PyProof.Rows L2
variable {K : PySem.W.Frag} {cls : Nat → Addr} {H H' : Hp}

def Keep (W : Addr → Prop) (H H' : Hp) : Prop := ∀ a o, H a = some o → ¬ W a → H' a = some o
def Same (H H' : Hp) : Prop := ∀ a o, H a = some o → H' a = some o
theorem Same.refl {H : Hp} : Same H H := fun _ _ e => e
theorem Same.trans {A B C : Hp} (h : Same A B) (g : Same B C) : Same A C := fun a o e => g a o (h a o e)
theorem Same.keep {W : Addr → Prop} (h : Same H H') : Keep W H H' := fun a o e _ => h a o e
theorem Same.new {p : Addr} {o : HO} (h : H p = none) : Same H (upd H p o) := fun b x e => by rw [upd_ne (ne_of_none e h)]; exact e
theorem Keep.same (h : Keep (fun _ => False) H H') : Same H H' := fun a o e => h a o e fun z => z
theorem Keep.mono {W W' : Addr → Prop} (h : Keep W H H') (i : ∀ a, W a → W' a) : Keep W' H H' := fun a o e n => h a o e fun w => n (i a w)
theorem Keep.refl {W : Addr → Prop} : Keep W H H := fun _ _ e _ => e
theorem Keep.trans {W W' : Addr → Prop} {H2 : Hp} (h : Keep W H H') (g : Keep W' H' H2) (i : ∀ a, W' a → W a ∨ H a = none) : Keep W H H2 := fun a o e n => by
  refine g a o (h a o e n) fun w => ?_
  rcases i a w with z | z
  · exact n z
  · rw [e] at z; cases z
theorem Same.rd {a : Addr} {u : HO} (h : Same H H') (r : Rd H a u) : Rd H' a u := by
  rcases r with r | ⟨o, r⟩
  · exact .inl (h _ _ r)
  · exact .inr ⟨o, h _ _ r⟩
theorem Keep.rd {W : Addr → Prop} {a : Addr} {u : HO} (h : Keep W H H') (n : ¬ W a) (r : Rd H a u) : Rd H' a u := by
  rcases r with r | ⟨o, r⟩
  · exact .inl (h _ _ r n)
  · exact .inr ⟨o, h _ _ r n⟩
theorem Keep.tup {W : Addr → Prop} {a : Addr} {xs : List V} (h : Keep W H H') (mu : ∀ a, W a → Mut (H a)) (r : H a = some (.tup xs)) : H' a = some (.tup xs) :=
  h _ _ r fun w => by have := mu a w; rw [r] at this; exact this
theorem Keep.dict {W : Addr → Prop} {a : Addr} {ks : List D} {vs : List V} (h : Keep W H H') (n : ¬ W a) (r : DictH H a ks vs) : DictH H' a ks vs := by
  obtain ⟨b, r⟩ := r
  refine ⟨b, ?_⟩
  rcases r with ⟨k, e1, e2, r⟩ | ⟨k, e1, e2, r⟩
  · exact .inl ⟨k, e1, e2, h.rd n r⟩
  · exact .inr ⟨k, e1, e2, h.rd n r⟩
section
variable {W : Addr → Prop} (mu : ∀ a, W a → Mut (H a)) (k : Keep W H H')
include mu k
mutual
theorem Rep.keep : ∀ (d : D) (v : V) (F : List Addr), (∀ a ∈ F, ¬ W a) → Rep K cls H d v F → Rep K cls H' d v F
  | .non, v, F, _, h => h
  | .bl _, v, F, _, h => h
  | .int _, v, F, _, h => h
  | .str _, v, F, _, h => h
  | .tup ds, v, F, n, h => by
    unfold Rep at h ⊢
    obtain ⟨a, vs, e, t, r⟩ := h
    exact ⟨a, vs, e, k.tup mu t, Reps.keep ds vs F n r⟩
  | .lst ds, v, F, n, h => by
    unfold Rep at h ⊢
    obtain ⟨a, vs, G, e, e2, t, r⟩ := h
    subst e2
    exact ⟨a, vs, G, e, rfl, k _ _ t (n a List.mem_cons_self), Reps.keep ds vs G (fun b hb => n b (List.mem_cons_of_mem _ hb)) r⟩
  | .dct ds, v, F, n, h => by
    unfold Rep at h ⊢
    obtain ⟨a, vs, G, e, e2, t, r⟩ := h
    subst e2
    exact ⟨a, vs, G, e, rfl, k.dict (n a List.mem_cons_self) t, RepV.keep ds vs G (fun b hb => n b (List.mem_cons_of_mem _ hb)) r⟩
  | .ins c ds, v, F, n, h => by
    unfold Rep at h ⊢
    obtain ⟨a, dx, vs, G, e, e2, t, l, r⟩ := h
    subst e2
    exact ⟨a, dx, vs, G, e, rfl, k _ _ t (n a List.mem_cons_self), l, RepF.keep ds vs G (fun b hb => n b (List.mem_cons_of_mem _ hb)) r⟩
theorem Reps.keep : ∀ (ds : List D) (vs : List V) (F : List Addr), (∀ a ∈ F, ¬ W a) → Reps K cls H ds vs F → Reps K cls H' ds vs F
  | [], _, _, _, h => h
  | d :: ds, vs, F, n, h => by
    unfold Reps at h ⊢
    obtain ⟨v, vr, F1, F2, e1, e2, h1, h2⟩ := h
    subst e2
    exact ⟨v, vr, F1, F2, e1, rfl, Rep.keep d v F1 (fun b hb => n b (List.mem_append_left _ hb)) h1, Reps.keep ds vr F2 (fun b hb => n b (List.mem_append_right _ hb)) h2⟩
theorem RepV.keep : ∀ (ds : List (D × D)) (vs : List V) (F : List Addr), (∀ a ∈ F, ¬ W a) → RepV K cls H ds vs F → RepV K cls H' ds vs F
  | [], _, _, _, h => h
  | (q, d) :: ds, vs, F, n, h => by
    unfold RepV at h ⊢
    obtain ⟨v, vr, F1, F2, e1, e2, h1, h2⟩ := h
    subst e2
    exact ⟨v, vr, F1, F2, e1, rfl, Rep.keep d v F1 (fun b hb => n b (List.mem_append_left _ hb)) h1, RepV.keep ds vr F2 (fun b hb => n b (List.mem_append_right _ hb)) h2⟩
theorem RepF.keep : ∀ (ds : List (List Nat × D)) (vs : List V) (F : List Addr), (∀ a ∈ F, ¬ W a) → RepF K cls H ds vs F → RepF K cls H' ds vs F
  | [], _, _, _, h => h
  | (q, d) :: ds, vs, F, n, h => by
    unfold RepF at h ⊢
    obtain ⟨v, vr, F1, F2, e1, e2, h1, h2⟩ := h
    subst e2
    exact ⟨v, vr, F1, F2, e1, rfl, Rep.keep d v F1 (fun b hb => n b (List.mem_append_left _ hb)) h1, RepF.keep ds vr F2 (fun b hb => n b (List.mem_append_right _ hb)) h2⟩
end
end
theorem Rep.same {d : D} {v : V} {F : List Addr} (k : Same H H') (h : Rep K cls H d v F) : Rep K cls H' d v F :=
  Rep.keep (W := fun _ => False) (fun _ z => z.elim) k.keep d v F (fun _ _ z => z) h
theorem Reps.same {d : List D} {v : List V} {F : List Addr} (k : Same H H') (h : Reps K cls H d v F) : Reps K cls H' d v F :=
  Reps.keep (W := fun _ => False) (fun _ z => z.elim) k.keep d v F (fun _ _ z => z) h
theorem RepV.same {d : List (D × D)} {v : List V} {F : List Addr} (k : Same H H') (h : RepV K cls H d v F) : RepV K cls H' d v F :=
  RepV.keep (W := fun _ => False) (fun _ z => z.elim) k.keep d v F (fun _ _ z => z) h

mutual
theorem Rep.im : ∀ (d : D) {v : V} {F : List Addr}, im d = true → Rep K cls H d v F → F = []
  | .non, _, _, _, h => by unfold Rep at h; exact h.2
  | .bl _, _, _, _, h => by unfold Rep at h; exact h.2
  | .int _, _, _, _, h => by unfold Rep at h; exact h.2
  | .str _, _, _, _, h => by unfold Rep at h; exact h.2.1
  | .tup ds, v, F, n, h => by
    unfold Rep at h
    obtain ⟨a, vs, e, t, r⟩ := h
    exact Reps.im ds (by unfold Bv.im at n; exact n) r
  | .lst _, _, _, n, _ => by unfold Bv.im at n; cases n
  | .dct _, _, _, n, _ => by unfold Bv.im at n; cases n
  | .ins _ _, _, _, n, _ => by unfold Bv.im at n; cases n
theorem Reps.im : ∀ (ds : List D) {vs : List V} {F : List Addr}, ims ds = true → Reps K cls H ds vs F → F = []
  | [], _, _, _, h => by unfold Reps at h; exact h.2
  | d :: ds, vs, F, n, h => by
    unfold Reps at h
    unfold ims at n
    obtain ⟨v, vr, F1, F2, e1, e2, h1, h2⟩ := h
    rw [Bool.and_eq_true] at n
    rw [e2, Rep.im d n.1 h1, Reps.im ds n.2 h2]
    rfl
end
mutual
theorem Rep.some_ : ∀ (d : D) {v : V} {F : List Addr}, Rep K cls H d v F → ∀ a ∈ F, H a ≠ none
  | .non, _, _, h => by unfold Rep at h; rw [h.2]; intro a m; cases m
  | .bl _, _, _, h => by unfold Rep at h; rw [h.2]; intro a m; cases m
  | .int _, _, _, h => by unfold Rep at h; rw [h.2]; intro a m; cases m
  | .str _, _, _, h => by unfold Rep at h; rw [h.2.1]; intro a m; cases m
  | .tup ds, v, F, h => by
    unfold Rep at h
    obtain ⟨a, vs, e, t, r⟩ := h
    exact Reps.some_ ds r
  | .lst ds, v, F, h => by
    unfold Rep at h
    obtain ⟨a, vs, G, e, rfl, t, r⟩ := h
    intro b m
    rcases List.mem_cons.mp m with rfl | m
    · rw [t]; exact fun z => by cases z
    · exact Reps.some_ ds r b m
  | .dct ds, v, F, h => by
    unfold Rep at h
    obtain ⟨a, vs, G, e, rfl, t, r⟩ := h
    intro b m
    rcases List.mem_cons.mp m with rfl | m
    · obtain ⟨_, t⟩ := t
      rcases t with ⟨_, _, _, t | ⟨_, t⟩⟩ | ⟨_, _, _, t | ⟨_, t⟩⟩ <;> rw [t] <;> exact fun z => by cases z
    · exact RepV.some_ ds r b m
  | .ins _ ds, v, F, h => by
    unfold Rep at h
    obtain ⟨a, dx, vs, G, e, rfl, t, _, r⟩ := h
    intro b m
    rcases List.mem_cons.mp m with rfl | m
    · rw [t]; exact fun z => by cases z
    · exact RepF.some_ ds r b m
theorem Reps.some_ : ∀ (ds : List D) {vs : List V} {F : List Addr}, Reps K cls H ds vs F → ∀ a ∈ F, H a ≠ none
  | [], _, _, h => by unfold Reps at h; rw [h.2]; intro a m; cases m
  | d :: ds, vs, F, h => by
    unfold Reps at h
    obtain ⟨v, vr, F1, F2, e1, rfl, h1, h2⟩ := h
    intro a m
    rcases List.mem_append.mp m with m | m
    · exact Rep.some_ d h1 a m
    · exact Reps.some_ ds h2 a m
theorem RepV.some_ : ∀ (ds : List (D × D)) {vs : List V} {F : List Addr}, RepV K cls H ds vs F → ∀ a ∈ F, H a ≠ none
  | [], _, _, h => by unfold RepV at h; rw [h.2]; intro a m; cases m
  | (_, d) :: ds, vs, F, h => by
    unfold RepV at h
    obtain ⟨v, vr, F1, F2, e1, rfl, h1, h2⟩ := h
    intro a m
    rcases List.mem_append.mp m with m | m
    · exact Rep.some_ d h1 a m
    · exact RepV.some_ ds h2 a m
theorem RepF.some_ : ∀ (ds : List (List Nat × D)) {vs : List V} {F : List Addr}, RepF K cls H ds vs F → ∀ a ∈ F, H a ≠ none
  | [], _, _, h => by unfold RepF at h; rw [h.2]; intro a m; cases m
  | (_, d) :: ds, vs, F, h => by
    unfold RepF at h
    obtain ⟨v, vr, F1, F2, e1, rfl, h1, h2⟩ := h
    intro a m
    rcases List.mem_append.mp m with m | m
    · exact Rep.some_ d h1 a m
    · exact RepF.some_ ds h2 a m
end
theorem ims_of {ds : List D} : ims ds = true ↔ ∀ d ∈ ds, Bv.im d = true := by
  induction ds with
  | nil => simp [ims]
  | cons d r ih => rw [ims, Bool.and_eq_true, ih]; simp
theorem ims_append {a b : List D} : ims (a ++ b) = (ims a && ims b) := by
  induction a with
  | nil => simp [ims]
  | cons d r ih => rw [List.cons_append, ims, ims, ih, Bool.and_assoc]

/-- items of which nothing can change -/
abbrev P0 (K : PySem.W.Frag) (cls : Nat → Addr) (H : Hp) (ds : List D) (vs : List V) : Prop := Paired (fun d v => Rep K cls H d v []) ds vs
theorem reps0 : ∀ {ds : List D} {vs : List V}, Reps K cls H ds vs [] ↔ P0 K cls H ds vs
  | [], vs => by
    unfold Reps
    constructor
    · rintro ⟨rfl, _⟩; exact .nil
    · intro h; cases h; exact ⟨rfl, rfl⟩
  | d :: ds, vs => by
    unfold Reps
    constructor
    · rintro ⟨v, vr, F1, F2, rfl, e, h1, h2⟩
      obtain ⟨rfl, rfl⟩ := List.append_eq_nil_iff.mp e.symm
      exact .cons h1 (reps0.mp h2)
    · intro h
      cases h with
      | cons h1 h2 => exact ⟨_, _, [], [], rfl, rfl, h1, reps0.mpr h2⟩
theorem Reps.length : ∀ {ds : List D} {vs : List V} {F : List Addr}, Reps K cls H ds vs F → ds.length = vs.length
  | [], _, _, h => by unfold Reps at h; rw [h.1]; rfl
  | d :: ds, vs, F, h => by
    unfold Reps at h
    obtain ⟨v, vr, F1, F2, e1, e2, h1, h2⟩ := h
    rw [e1, List.length_cons, List.length_cons, h2.length]
theorem Reps.append : ∀ {ds es : List D} {vs us : List V} {F G : List Addr}, Reps K cls H ds vs F → Reps K cls H es us G → Reps K cls H (ds ++ es) (vs ++ us) (F ++ G)
  | [], _, _, _, _, _, h, g => by
    unfold Reps at h
    obtain ⟨rfl, rfl⟩ := h
    exact g
  | d :: ds, es, vs, us, F, G, h, g => by
    unfold Reps at h
    obtain ⟨v, vr, F1, F2, rfl, rfl, h1, h2⟩ := h
    rw [List.cons_append, List.cons_append, List.append_assoc]
    unfold Reps
    exact ⟨v, vr ++ us, F1, F2 ++ G, rfl, rfl, h1, h2.append g⟩
theorem Rep.one {d : D} {v : V} {F : List Addr} (h : Rep K cls H d v F) : Reps K cls H [d] [v] F := by
  unfold Reps
  exact ⟨v, [], F, [], rfl, by simp, h, by unfold Reps; exact ⟨rfl, rfl⟩⟩
theorem Reps.nil : Reps K cls H [] [] [] := by unfold Reps; exact ⟨rfl, rfl⟩
theorem Rep.consR {d : D} {v : V} {F : List Addr} {ds : List D} {vs : List V} {G : List Addr} (h : Rep K cls H d v F) (g : Reps K cls H ds vs G) : Reps K cls H (d :: ds) (v :: vs) (F ++ G) := by
  unfold Reps
  exact ⟨v, vs, F, G, rfl, rfl, h, g⟩
theorem Reps.uncons {d : D} {ds : List D} {vs : List V} {F : List Addr} (h : Reps K cls H (d :: ds) vs F) : ∃ v vr F1 F2, vs = v :: vr ∧ F = F1 ++ F2 ∧ Rep K cls H d v F1 ∧ Reps K cls H ds vr F2 := by
  unfold Reps at h
  exact h
theorem Reps.split : ∀ {ds es : List D} {vs : List V} {F : List Addr}, Reps K cls H (ds ++ es) vs F →
    ∃ v1 v2 F1 F2, vs = v1 ++ v2 ∧ F = F1 ++ F2 ∧ Reps K cls H ds v1 F1 ∧ Reps K cls H es v2 F2
  | [], es, vs, F, h => ⟨[], vs, [], F, rfl, rfl, .nil, h⟩
  | d :: ds, es, vs, F, h => by
    obtain ⟨v, vr, F1, F2, rfl, rfl, h1, h2⟩ := Reps.uncons (ds := ds ++ es) h
    obtain ⟨v1, v2, G1, G2, rfl, rfl, h3, h4⟩ := h2.split
    exact ⟨v :: v1, v2, F1 ++ G1, G2, rfl, by rw [List.append_assoc], h1.consR h3, h4⟩
/-- the item at a place, what is ahead and behind -/
theorem Reps.at_ {ds : List D} {vs : List V} {F : List Addr} {i : Nat} {d : D} (h : Reps K cls H ds vs F) (e : ds[i]? = some d) :
    ∃ v A G B, vs[i]? = some v ∧ F = A ++ (G ++ B) ∧ Rep K cls H d v G ∧ Reps K cls H (ds.take i) (vs.take i) A ∧ Reps K cls H (ds.drop (i + 1)) (vs.drop (i + 1)) B := by
  obtain ⟨hi, e⟩ := List.getElem?_eq_some_iff.mp e
  have s : ds = ds.take i ++ d :: ds.drop (i + 1) := by rw [← e, ← List.drop_eq_getElem_cons hi, List.take_append_drop]
  rw [s] at h
  obtain ⟨v1, v2, F1, F2, e1, e2, h1, h2⟩ := h.split
  obtain ⟨v, vr, G, B, e3, e4, h3, h4⟩ := h2.uncons
  subst e3 e4 e1 e2
  have l1 : v1.length = i := by rw [← h1.length, List.length_take]; omega
  refine ⟨v, F1, G, B, ?_, rfl, h3, ?_, ?_⟩
  · rw [List.getElem?_append_right (by omega), l1, Nat.sub_self]; rfl
  · rw [List.take_append_of_le_length (by omega), List.take_of_length_le (l := v1) (by omega)]; exact h1
  · rw [List.drop_append, show List.drop (i + 1) v1 = [] from List.drop_eq_nil_of_le (by omega), show i + 1 - v1.length = 1 by omega, List.nil_append]; exact h4
theorem Reps.set_ {ds : List D} {vs : List V} {A B G : List Addr} {i : Nat} {d : D} {v : V} (hi : i < ds.length) (hv : i < vs.length) (h1 : Reps K cls H (ds.take i) (vs.take i) A) (h2 : Rep K cls H d v G) (h3 : Reps K cls H (ds.drop (i + 1)) (vs.drop (i + 1)) B) :
    Reps K cls H (ds.set i d) (vs.set i v) (A ++ (G ++ B)) := by
  rw [List.set_eq_take_append_cons_drop, List.set_eq_take_append_cons_drop, if_pos hi, if_pos hv]
  exact h1.append (h2.consR h3)
theorem P0.get {ds : List D} {vs : List V} : ∀ {i : Nat} {v : V}, P0 K cls H ds vs → vs[i]? = some v → ∃ d, ds[i]? = some d ∧ Rep K cls H d v [] := by
  induction vs generalizing ds with
  | nil => intro i v _ e; simp at e
  | cons x r ih =>
    intro i v h e
    cases h with
    | cons h1 h2 =>
      cases i with
      | zero => simp at e; subst e; exact ⟨_, rfl, h1⟩
      | succ i =>
        obtain ⟨d, e1, e2⟩ := ih (i := i) h2 (by simpa using e)
        exact ⟨d, by simpa using e1, e2⟩
theorem repV_iff : ∀ {ds : List (D × D)} {vs : List V} {F : List Addr}, RepV K cls H ds vs F ↔ Reps K cls H (ds.map Prod.snd) vs F
  | [], vs, F => by unfold RepV; rw [List.map_nil]; unfold Reps; exact Iff.rfl
  | (q, d) :: ds, vs, F => by
    unfold RepV
    rw [List.map_cons]
    unfold Reps
    constructor
    · rintro ⟨v, vr, F1, F2, e1, e2, h1, h2⟩; exact ⟨v, vr, F1, F2, e1, e2, h1, repV_iff.mp h2⟩
    · rintro ⟨v, vr, F1, F2, e1, e2, h1, h2⟩; exact ⟨v, vr, F1, F2, e1, e2, h1, repV_iff.mpr h2⟩
theorem repF_iff : ∀ {ds : List (List Nat × D)} {vs : List V} {F : List Addr}, RepF K cls H ds vs F ↔ Reps K cls H (ds.map Prod.snd) vs F
  | [], vs, F => by unfold RepF; rw [List.map_nil]; unfold Reps; exact Iff.rfl
  | (q, d) :: ds, vs, F => by
    unfold RepF
    rw [List.map_cons]
    unfold Reps
    constructor
    · rintro ⟨v, vr, F1, F2, e1, e2, h1, h2⟩; exact ⟨v, vr, F1, F2, e1, e2, h1, repF_iff.mp h2⟩
    · rintro ⟨v, vr, F1, F2, e1, e2, h1, h2⟩; exact ⟨v, vr, F1, F2, e1, e2, h1, repF_iff.mpr h2⟩
end Bv
end

section
/-! Slots, results, what a step leaves. -/
namespace Bv
open PySem PySem.Spec PyProof.Rows L2

/-- what a slot holds: nothing, data of the frame's own, data that is only read -/
inductive Sl where
  | dead | own (d : D) | ro (d : D)
inductive R (α : Type) where
  | ok (a : α) (s : List Sl)
  | exc (c : Nat) (d : D) (s : List Sl)
  | stuck
abbrev SE := List Sl → R D
/-- an expression's meaning; own: its value is new or nothing of it can change; roots: the slots whose data it may share; muts: the slots whose data it may change -/
structure EM where
  run : SE
  own : Bool
  roots : List Nat
  muts : List Nat

variable (K : PySem.W.Frag) (cls : Nat → Addr)
structure SRel (σ : L2.St) (S : List Sl) (H : Hp) (Fs : List (List Addr)) (Z : Addr → Prop) : Prop where
  len : S.length = Fs.length
  sl : σ.length = S.length
  ow : ∀ (i : Nat) (d : D), S[i]? = some (.own d) → ∃ v F, σ[i]? = some (some v) ∧ Fs[i]? = some F ∧ Rep K cls H d v F
  ro : ∀ (i : Nat) (d : D), S[i]? = some (.ro d) → ∃ v F, σ[i]? = some (some v) ∧ Rep K cls H d v F ∧ ∀ a ∈ F, Z a
  mu : ∀ a ∈ Fs.flatten, Mut (H a)
  nd : Fs.flatten.Nodup
  dj : ∀ a ∈ Fs.flatten, ¬ Z a
  zs : ∀ a, Z a → H a ≠ none
/-- of the slots ms -/
def Wm (Fs : List (List Addr)) (ms : List Nat) (a : Addr) : Prop := ∃ i ∈ ms, ∃ F, Fs[i]? = some F ∧ a ∈ F
/-- a step: what it may write and where what changes may go -/
structure Stp (ms : List Nat) (S : List Sl) (H : Hp) (Fs : List (List Addr)) (S' : List Sl) (H' : Hp) (Fs' : List (List Addr)) : Prop where
  keep : Keep (Wm Fs ms) H H'
  out : ∀ (i : Nat), i ∉ ms → S'[i]? = S[i]? ∧ Fs'[i]? = Fs[i]?
  inn : ∀ i ∈ ms, ∀ F', Fs'[i]? = some F' → ∀ a ∈ F', Wm Fs ms a ∨ H a = none
/-- a value that is held while others are reckoned -/
structure Held (ow : Bool) (rs : List Nat) (H : Hp) (Fs : List (List Addr)) (Z : Addr → Prop) (d : D) (v : V) (F : List Addr) : Prop where
  rep : Rep K cls H d v F
  own : ow = true → F.Nodup ∧ ∀ a ∈ F, Mut (H a) ∧ a ∉ Fs.flatten ∧ ¬ Z a
  bor : ow = false → ∀ a ∈ F, a ∈ Fs.flatten → Wm Fs rs a
/-- where the addresses of an own value come from -/
def Org (ow : Bool) (ms : List Nat) (H : Hp) (Fs : List (List Addr)) (F : List Addr) : Prop := ow = true → ∀ a ∈ F, Wm Fs ms a ∨ H a = none

variable {K cls}
variable {σ : L2.St} {S S1 S2 : List Sl} {H H1 H2 : Hp} {Fs Fs1 Fs2 : List (List Addr)} {Z : Addr → Prop} {ms ms1 ms2 rs rs2 : List Nat} {d : D} {v : V} {F : List Addr} {ow : Bool}
theorem mem_flat {a : Addr} : a ∈ Fs.flatten ↔ ∃ (i : Nat) (F : List Addr), Fs[i]? = some F ∧ a ∈ F := by
  constructor
  · intro h
    obtain ⟨F, hF, ha⟩ := List.mem_flatten.mp h
    obtain ⟨i, hi⟩ := List.mem_iff_getElem?.mp hF
    exact ⟨i, F, hi, ha⟩
  · rintro ⟨i, F, hi, ha⟩
    exact List.mem_flatten.mpr ⟨F, List.mem_of_getElem? hi, ha⟩
theorem Wm.flat {a : Addr} (h : Wm Fs ms a) : a ∈ Fs.flatten := by
  obtain ⟨i, _, F, e, m⟩ := h
  exact mem_flat.mpr ⟨i, F, e, m⟩
/-- an address stands in one slot's data -/
theorem flat_one : ∀ {Fs : List (List Addr)} {i j : Nat} {F G : List Addr} {a : Addr}, Fs.flatten.Nodup → Fs[i]? = some F → Fs[j]? = some G → a ∈ F → a ∈ G → i = j
  | [], i, j, F, G, a, _, h, _, _, _ => by simp at h
  | A :: r, i, j, F, G, a, nd, h, g, m, n => by
    rw [List.flatten_cons, List.nodup_append] at nd
    obtain ⟨_, nd2, dj⟩ := nd
    cases i with
    | zero =>
      cases j with
      | zero => rfl
      | succ j =>
        have e : A = F := by simpa using h
        subst e
        have g' : r[j]? = some G := by simpa using g
        exact absurd rfl (dj a m a (mem_flat.mpr ⟨j, G, g', n⟩))
    | succ i =>
      have h' : r[i]? = some F := by simpa using h
      cases j with
      | zero =>
        have e : A = G := by simpa using g
        subst e
        exact absurd rfl (dj a n a (mem_flat.mpr ⟨i, F, h', m⟩))
      | succ j =>
        have g' : r[j]? = some G := by simpa using g
        rw [flat_one nd2 h' g' m n]
theorem Wm.disj (nd : Fs.flatten.Nodup) (dj : ∀ i ∈ rs, i ∉ ms) {a : Addr} (h : Wm Fs rs a) : ¬ Wm Fs ms a := by
  rintro ⟨j, hj, G, g, n⟩
  obtain ⟨i, hi, F, e, m⟩ := h
  have := flat_one nd e g m n
  subst this
  exact dj i hi hj
theorem mut_ne {o : Option HO} (h : Mut o) : o ≠ none := fun e => by rw [e] at h; exact h
theorem SRel.wmut (r : SRel K cls σ S H Fs Z) : ∀ a, Wm Fs ms a → Mut (H a) := fun a w => r.mu a w.flat
theorem Stp.refl : Stp [] S H Fs S H Fs := ⟨Keep.refl, fun _ _ => ⟨rfl, rfl⟩, fun i h => absurd h (by simp)⟩
theorem Wm.app_l {a : Addr} (h : Wm Fs ms a) : Wm Fs (ms ++ ms2) a := let ⟨i, hi, r⟩ := h; ⟨i, List.mem_append_left _ hi, r⟩
theorem Wm.app_r {a : Addr} (h : Wm Fs ms2 a) : Wm Fs (ms ++ ms2) a := let ⟨i, hi, r⟩ := h; ⟨i, List.mem_append_right _ hi, r⟩
theorem Wm.mono {a : Addr} (h : Wm Fs ms a) (i : ∀ x ∈ ms, x ∈ ms2) : Wm Fs ms2 a := let ⟨j, hj, r⟩ := h; ⟨j, i j hj, r⟩
/-- what is written behind a step was written or new ahead of it -/
theorem Stp.back (s : Stp ms S H Fs S1 H1 Fs1) {a : Addr} (h : Wm Fs1 ms2 a) : Wm Fs (ms ++ ms2) a ∨ H a = none := by
  obtain ⟨i, hi, F, e, m⟩ := h
  by_cases q : i ∈ ms
  · exact (s.inn i q F e a m).imp (fun w => w.app_l) id
  · rw [(s.out i q).2] at e
    exact .inl ⟨i, List.mem_append_right _ hi, F, e, m⟩
theorem Stp.new (s : Stp ms S H Fs S1 H1 Fs1) (r : SRel K cls σ S H Fs Z) {a : Addr} (h : H1 a = none) : H a = none ∨ Wm Fs ms a := by
  cases e : H a with
  | none => exact .inl rfl
  | some o =>
    refine .inr (Classical.byContradiction fun n => ?_)
    rw [s.keep a o e n] at h
    cases h
theorem Stp.trans (r : SRel K cls σ S H Fs Z) (s : Stp ms S H Fs S1 H1 Fs1) (t : Stp ms2 S1 H1 Fs1 S2 H2 Fs2) : Stp (ms ++ ms2) S H Fs S2 H2 Fs2 := by
  refine ⟨(s.keep.mono fun a w => w.app_l).trans t.keep fun a w => s.back w, fun i h => ?_, fun i h F' e a m => ?_⟩
  · rw [List.mem_append, not_or] at h
    exact ⟨(t.out i h.2).1.trans (s.out i h.1).1, (t.out i h.2).2.trans (s.out i h.1).2⟩
  · by_cases q : i ∈ ms2
    · rcases t.inn i q F' e a m with w | w
      · exact s.back w
      · rcases s.new r w with z | z
        · exact .inr z
        · exact .inl z.app_l
    · rw [(t.out i q).2] at e
      have q1 : i ∈ ms := (List.mem_append.mp h).resolve_right q
      exact (s.inn i q1 F' e a m).imp (fun w => w.app_l) id
theorem Stp.mono (s : Stp ms S H Fs S1 H1 Fs1) (i : ∀ x ∈ ms, x ∈ ms2) : Stp ms2 S H Fs S1 H1 Fs1 := by
  refine ⟨s.keep.mono fun a w => w.mono i, fun j h => s.out j fun z => h (i j z), fun j h F' e a m => ?_⟩
  by_cases q : j ∈ ms
  · exact (s.inn j q F' e a m).imp (fun w => w.mono i) id
  · rw [(s.out j q).2] at e
    exact .inl ⟨j, h, F', e, m⟩
theorem Held.nW (h : Held K cls ow rs H Fs Z d v F) (nd : Fs.flatten.Nodup) (dj : ow = false → ∀ i ∈ rs, i ∉ ms) : ∀ a ∈ F, ¬ Wm Fs ms a := fun a m w => by
  cases ow with
  | true => exact ((h.own rfl).2 a m).2.1 w.flat
  | false => exact (h.bor rfl a m w.flat).disj nd (dj rfl) w
theorem Held.step (h : Held K cls ow rs H Fs Z d v F) (r : SRel K cls σ S H Fs Z) (s : Stp ms S H Fs S1 H1 Fs1) (dj : ow = false → ∀ i ∈ rs, i ∉ ms) : Held K cls ow rs H1 Fs1 Z d v F := by
  have nW := h.nW r.nd dj
  have back : ∀ a ∈ F, a ∈ Fs1.flatten → ∃ i F0, i ∉ ms ∧ Fs1[i]? = some F0 ∧ Fs[i]? = some F0 ∧ a ∈ F0 := fun a m z => by
    obtain ⟨i, G, e1, m1⟩ := mem_flat.mp z
    by_cases q1 : i ∈ ms
    · rcases s.inn i q1 G e1 a m1 with w | w
      · exact absurd w (nW a m)
      · exact absurd w (h.rep.some_ d a m)
    · exact ⟨i, G, q1, e1, by rw [← (s.out i q1).2]; exact e1, m1⟩
  refine ⟨Rep.keep r.wmut s.keep d v F nW h.rep, fun e => ?_, fun e a m z => ?_⟩
  · obtain ⟨n, q⟩ := h.own e
    refine ⟨n, fun a m => ⟨?_, fun z => ?_, (q a m).2.2⟩⟩
    · have mu := (q a m).1
      cases e2 : H a with
      | none => rw [e2] at mu; exact mu.elim
      | some o => rw [s.keep a o e2 (nW a m)]; rw [e2] at mu; exact mu
    · obtain ⟨i, G, _, _, e2, m2⟩ := back a m z
      exact (q a m).2.1 (mem_flat.mpr ⟨i, G, e2, m2⟩)
  · obtain ⟨i, G, q1, e1, e2, m2⟩ := back a m z
    obtain ⟨j, hj, G', e3, m3⟩ := h.bor e a m (mem_flat.mpr ⟨i, G, e2, m2⟩)
    have := flat_one r.nd e2 e3 m2 m3
    subst this
    exact ⟨i, hj, G, e1, m2⟩
/-- own is more than borrowed -/
theorem Held.weak (h : Held K cls ow rs H Fs Z d v F) (i : ow = false → ∀ x ∈ rs, x ∈ rs2) : Held K cls false rs2 H Fs Z d v F := by
  refine ⟨h.rep, (fun e => by cases e), fun _ a m z => ?_⟩
  cases ow with
  | true => exact absurd z ((h.own rfl).2 a m).2.1
  | false => exact (h.bor rfl a m z).mono (i rfl)
theorem Stp.nil (s : Stp [] S H Fs S1 H1 Fs1) : S1 = S ∧ Fs1 = Fs ∧ Same H H1 := by
  refine ⟨List.ext_getElem? fun i => (s.out i (by simp)).1, List.ext_getElem? fun i => (s.out i (by simp)).2, fun a o e => s.keep a o e ?_⟩
  rintro ⟨i, hi, _⟩
  simp at hi
theorem Stp.of_same (h : Same H H1) : Stp [] S H Fs S H1 Fs := ⟨h.keep, fun _ _ => ⟨rfl, rfl⟩, fun i q => absurd q (by simp)⟩
theorem SRel.same (r : SRel K cls σ S H Fs Z) (h : Same H H1) : SRel K cls σ S H1 Fs Z := by
  refine ⟨r.len, r.sl, fun i d e => ?_, fun i d e => ?_, fun a m => ?_, r.nd, r.dj, fun a z => ?_⟩
  · obtain ⟨v, F, e1, e2, q⟩ := r.ow i d e
    exact ⟨v, F, e1, e2, q.same h⟩
  · obtain ⟨v, F, e1, q, z⟩ := r.ro i d e
    exact ⟨v, F, e1, q.same h, z⟩
  · have mu := r.mu a m
    cases e2 : H a with
    | none => rw [e2] at mu; exact mu.elim
    | some o => rw [h a o e2]; rw [e2] at mu; exact mu
  · have n := r.zs a z
    cases e2 : H a with
    | none => exact absurd e2 n
    | some o => rw [h a o e2]; exact fun q => by cases q
theorem Held.scal (h : Rep K cls H d v []) : Held K cls true rs H Fs Z d v [] := ⟨h, fun _ => ⟨List.nodup_nil, fun a m => absurd m (by simp)⟩, fun e => by cases e⟩
theorem Org.nil : Org ow ms H Fs [] := fun _ a m => absurd m (by simp)
/-- a new changeable object, its parts such that nothing in them changes -/
theorem Held.new {p : Addr} (hp : H p = none) (mu : Mut (H1 p)) (r : SRel K cls σ S H Fs Z) (rep : Rep K cls H1 d v [p]) : Held K cls true rs H1 Fs Z d v [p] := by
  refine ⟨rep, fun _ => ⟨by simp, fun a m => ?_⟩, fun e => by cases e⟩
  have e : a = p := by simpa using m
  subst e
  exact ⟨mu, fun z => mut_ne (r.mu a z) hp, fun z => r.zs a z hp⟩
/-! ### readings -/
/-- what is wanted behind an expression that comes to d and S' -/
def Want (K : PySem.W.Frag) (cls : Nat → Addr) (m : EM) (σ : L2.St) (S : List Sl) (H : Hp) (Fs : List (List Addr)) (Z : Addr → Prop) (d : D) (S' : List Sl) (Q : VK) : Prop :=
  ∀ v H' Fs' F, SRel K cls σ S' H' Fs' Z → Stp m.muts S H Fs S' H' Fs' → Held K cls m.own m.roots H' Fs' Z d v F → Org m.own m.muts H Fs F → Q v H'
def tE (K : PySem.W.Frag) (cls : Nat → Addr) (W : WX) (m : EM) : TE := fun σ H Q => ∃ S Fs Z, SRel K cls σ S H Fs Z ∧
  match m.run S with
  | .ok d S' => Want K cls m σ S H Fs Z d S' Q
  | .exc _ _ _ => False
  | .stuck => False
theorem PE.imp {X : Cx} {e : Expr} {t t' : TE} (h : PE X e t) (i : ∀ σ H Q, t' σ H Q → t σ H Q) : PE X e t' := ⟨fun pins s σ H Q I q => h.run pins s σ H Q I (i σ H Q q)⟩
theorem PT.imp {X : Cx} {e : Expr} {t t' : TT} (h : PT X e t) (i : ∀ σ H Q, t' σ H Q → t σ H Q) : PT X e t' := ⟨fun pins s σ H Q I q => h.run pins s σ H Q I (i σ H Q q)⟩
theorem PS.imp {X : Cx} {e : Stmt} {t t' : TS} (h : PS X e t) (i : ∀ D σ H, t' D σ H → t D σ H) : PS X e t' := ⟨fun pins s σ H Q I q => h.run pins s σ H Q I (i Q σ H q)⟩
theorem PSs.imp {X : Cx} {e : List Stmt} {t t' : TS} (h : PSs X e t) (i : ∀ D σ H, t' D σ H → t D σ H) : PSs X e t' := ⟨fun pins s σ H Q I q => h.run pins s σ H Q I (i Q σ H q)⟩
end Bv
end

section
/-! Expressions: constants, names, operators, tests. -/
namespace Bv
open PySem PySem.Spec PyProof.Rows L2
variable {K : PySem.W.Frag} {cls : Nat → Addr}
variable {σ : L2.St} {S S1 S2 : List Sl} {H H1 H2 : Hp} {Fs Fs1 Fs2 : List (List Addr)} {Z : Addr → Prop} {ms ms1 ms2 rs rs2 : List Nat} {d : D} {v : V} {F : List Addr} {ow : Bool} {W : WX}

/-! ### constants and names -/
def eLit (d : D) : SE := fun s => .ok d s
def eVar (i : Nat) : SE := fun s => match s[i]? with
  | some (.own d) => .ok d s
  | some (.ro d) => .ok d s
  | _ => .stuck
/-- a name whose data goes on: what can change leaves the slot -/
def eMv (i : Nat) : SE := fun s => match s[i]? with
  | some (.own d) => if im d then .ok d s else .ok d (s.set i .dead)
  | some (.ro d) => if im d then .ok d s else .stuck
  | _ => .stuck
/-- nothing in it can change -/
def eCp (a : SE) : SE := fun s => match a s with
  | .ok d s' => if im d then .ok d s' else .stuck
  | r => r
def mLit (d : D) : EM := ⟨eLit d, true, [], []⟩
def mVar (i : Nat) : EM := ⟨eVar i, false, [i], []⟩
def mMv (i : Nat) : EM := ⟨eMv i, true, [], [i]⟩
def mCp (m : EM) : EM := ⟨eCp m.run, true, [], m.muts⟩

theorem tE_intro {m : EM} {Q : VK} (r : SRel K cls σ S H Fs Z) (h : match m.run S with
  | .ok d S' => Want K cls m σ S H Fs Z d S' Q
  | .exc _ _ _ => False
  | .stuck => False) : tE K cls W m σ H Q := ⟨S, Fs, Z, r, h⟩
/-- a scalar, the state as it was -/
theorem want_scal {m : EM} {Q : VK} (ho : m.own = true) (hm : m.muts = []) (r : SRel K cls σ S H Fs Z) (h : Want K cls m σ S H Fs Z d S Q) (rep : Rep K cls H d v []) : Q v H :=
  h v H Fs [] r (by rw [hm]; exact Stp.refl) (by rw [ho]; exact Held.scal rep) Org.nil

theorem Want.stay {m : EM} {Q : VK} (hm : m.muts = []) (r : SRel K cls σ S H Fs Z) (h : Want K cls m σ S H Fs Z d S Q) (hd : Held K cls m.own m.roots H Fs Z d v F) (ho : Org m.own [] H Fs F) : Q v H :=
  h v H Fs F r (by rw [hm]; exact Stp.refl) hd (by rw [hm]; exact ho)

section
variable {X : Cx} {pos : Pos}
theorem s_int {i j} : PE X (.Constant (.int i) j pos) (tE K cls W (mLit (.int i))) := PE.imp pe_int fun σ H Q ⟨S, Fs, Z, r, h⟩ =>
  want_scal (m := mLit (.int i)) rfl rfl r h (by unfold Rep; exact ⟨rfl, rfl⟩)
theorem s_bl {b j} : PE X (.Constant (.bool b) j pos) (tE K cls W (mLit (.bl b))) := PE.imp pe_bl fun σ H Q ⟨S, Fs, Z, r, h⟩ =>
  want_scal (m := mLit (.bl b)) rfl rfl r h (by unfold Rep; exact ⟨rfl, rfl⟩)
theorem s_non {j} : PE X (.Constant .none j pos) (tE K cls W (mLit .non)) := PE.imp pe_non fun σ H Q ⟨S, Fs, Z, r, h⟩ =>
  want_scal (m := mLit .non) rfl rfl r h (by unfold Rep; exact ⟨rfl, rfl⟩)
theorem s_str {x : Str} {j} (hl : x.cps.toList.length ≤ sizeLine) : PE X (.Constant (.str x) j pos) (tE K cls W (mLit (.str x.cps.toList))) := PE.imp pe_str fun σ H Q ⟨S, Fs, Z, r, h⟩ =>
  want_scal (m := mLit (.str x.cps.toList)) rfl rfl r h (by unfold Rep; exact ⟨rfl, rfl, hl⟩)
/-- a constant of the module -/
theorem s_glob {x : Str} {v : V} {u : Value} {d : D} (hg : Gl X x) (hm : X.mg x = some u) (rv : RelV v u) (rep : ∀ H, Rep K cls H d v []) (hd : (x == ("__debug__" : Str)) = false) :
    PE X (.Name x pos) (tE K cls W (mLit d)) := PE.imp (pe_glob hg hm rv hd) fun σ H Q ⟨S, Fs, Z, r, h⟩ => want_scal (m := mLit d) rfl rfl r h (rep H)

theorem s_var {i : Nat} {x : Str} (hN : X.N[i]? = some x) (hv : Vis X.env.scope x) (hd : (x == ("__debug__" : Str)) = false) (hcd : (x == ("__classdict__" : Str)) = false) :
    PE X (.Name x pos) (tE K cls W (mVar i)) := PE.imp (pe_var hN hv hd hcd) fun σ H Q ⟨S, Fs, Z, r, h⟩ => by
  unfold mVar eVar at h
  dsimp only at h
  split at h
  · rename_i d S' e
    split at e
    · rename_i d0 e0
      cases e
      obtain ⟨v, F, e1, e2, rep⟩ := r.ow i d e0
      refine ⟨v, e1, h v H Fs F r Stp.refl ⟨rep, (fun z => by cases z), fun _ a m _ => ⟨i, by simp, F, e2, m⟩⟩ (fun z => by cases z)⟩
    · rename_i d0 e0
      cases e
      obtain ⟨v, F, e1, rep, z⟩ := r.ro i d e0
      refine ⟨v, e1, h v H Fs F r Stp.refl ⟨rep, (fun z => by cases z), fun _ a m q => absurd (z a m) (r.dj a q)⟩ (fun z => by cases z)⟩
    · cases e
  · exact h.elim
  · exact h.elim

theorem flat_sub : ∀ {Fs : List (List Addr)} {i : Nat} {F G : List Addr}, Fs[i]? = some F → (∀ a ∈ G, a ∈ F) → ∀ a ∈ (Fs.set i G).flatten, a ∈ Fs.flatten := fun {Fs i F G} e s a m => by
  obtain ⟨j, F', e', m'⟩ := mem_flat.mp m
  by_cases q : i = j
  · subst q
    obtain ⟨hi, _⟩ := List.getElem?_eq_some_iff.mp e
    rw [List.getElem?_set_self hi] at e'
    cases e'
    exact mem_flat.mpr ⟨i, F, e, s a m'⟩
  · rw [List.getElem?_set_ne q] at e'
    exact mem_flat.mpr ⟨j, F', e', m'⟩
/-- a slot's addresses taken out: what is left has nothing twice, and none of them -/
theorem flat_out : ∀ {Fs : List (List Addr)} {i : Nat} {F : List Addr}, Fs.flatten.Nodup → Fs[i]? = some F → F.Nodup ∧ (Fs.set i []).flatten.Nodup ∧ (∀ a ∈ F, a ∉ (Fs.set i []).flatten)
  | [], _, _, _, e => by simp at e
  | A :: r, 0, F, nd, e => by
    have e : A = F := by simpa using e
    subst e
    rw [List.flatten_cons, List.nodup_append] at nd
    rw [List.set_cons_zero, List.flatten_cons, List.nil_append]
    exact ⟨nd.1, nd.2.1, fun a m n => nd.2.2 a m a n rfl⟩
  | A :: r, i + 1, F, nd, e => by
    rw [List.flatten_cons, List.nodup_append] at nd
    obtain ⟨n1, n2, n3⟩ := flat_out nd.2.1 (by simpa using e : r[i]? = some F)
    have hF : ∀ a ∈ F, a ∈ r.flatten := fun a m => mem_flat.mpr ⟨i, F, by simpa using e, m⟩
    have hs : ∀ a ∈ (r.set i []).flatten, a ∈ r.flatten := flat_sub (by simpa using e : r[i]? = some F) (fun a m => by cases m)
    rw [List.set_cons_succ, List.flatten_cons]
    refine ⟨n1, List.nodup_append.mpr ⟨nd.1, n2, fun a m b n z => nd.2.2 a m b (hs b n) z⟩, fun a m n => ?_⟩
    rcases List.mem_append.mp n with n | n
    · exact nd.2.2 a n a (hF a m) rfl
    · exact n3 a m n

theorem SRel.kill (r : SRel K cls σ S H Fs Z) {i : Nat} {F : List Addr} (e : Fs[i]? = some F) : SRel K cls σ (S.set i .dead) H (Fs.set i []) Z := by
  have hi : i < Fs.length := (List.getElem?_eq_some_iff.mp e).1
  have hs : i < S.length := by rw [r.len]; exact hi
  have sub := flat_sub (G := []) e (fun a m => by cases m)
  refine ⟨by rw [List.length_set, List.length_set, r.len], by rw [List.length_set, r.sl], fun j d q => ?_, fun j d q => ?_, fun a m => r.mu a (sub a m), (flat_out r.nd e).2.1, fun a m => r.dj a (sub a m), r.zs⟩
  · by_cases z : i = j
    · subst z; rw [List.getElem?_set_self hs] at q; cases q
    · rw [List.getElem?_set_ne z] at q
      rw [List.getElem?_set_ne z]
      exact r.ow j d q
  · by_cases z : i = j
    · subst z; rw [List.getElem?_set_self hs] at q; cases q
    · rw [List.getElem?_set_ne z] at q
      exact r.ro j d q

theorem s_mv {i : Nat} {x : Str} (hN : X.N[i]? = some x) (hv : Vis X.env.scope x) (hd : (x == ("__debug__" : Str)) = false) (hcd : (x == ("__classdict__" : Str)) = false) :
    PE X (.Name x pos) (tE K cls W (mMv i)) := PE.imp (pe_var hN hv hd hcd) fun σ H Q ⟨S, Fs, Z, r, h⟩ => by
  have im_ok : ∀ {d v F}, Bv.im d = true → Rep K cls H d v F → Want K cls (mMv i) σ S H Fs Z d S Q → Q v H := fun {d v F} hi rep h => by
    have e := Rep.im d hi rep
    subst e
    exact h v H Fs [] r (Stp.refl.mono fun x q => by simp at q) (Held.scal rep) Org.nil
  unfold mMv eMv at h
  dsimp only at h
  split at h
  · rename_i d S' e
    split at e
    · rename_i d0 e0
      obtain ⟨v, F, e1, e2, rep⟩ := r.ow i d0 e0
      split at e
      · rename_i hi
        cases e
        exact ⟨v, e1, im_ok hi rep h⟩
      · cases e
        obtain ⟨n1, n2, n3⟩ := flat_out r.nd e2
        refine ⟨v, e1, h v H (Fs.set i []) F (r.kill e2) ⟨Keep.refl, fun j hj => ?_, fun j hj F' e3 a m => ?_⟩ ⟨rep, fun _ => ⟨n1, fun a m => ?_⟩, (fun z => by cases z)⟩ fun _ a m => .inl ⟨i, by simp, F, e2, m⟩⟩
        · have hj : i ≠ j := fun z => hj (by simp [z])
          exact ⟨List.getElem?_set_ne hj, List.getElem?_set_ne hj⟩
        · have hj : j = i := by simpa using hj
          subst hj
          rw [List.getElem?_set_self (List.getElem?_eq_some_iff.mp e2).1] at e3
          cases e3
          cases m
        · have fl : a ∈ Fs.flatten := mem_flat.mpr ⟨i, F, e2, m⟩
          exact ⟨r.mu a fl, n3 a m, r.dj a fl⟩
    · rename_i d0 e0
      split at e
      · rename_i hi
        cases e
        obtain ⟨v, F, e1, rep, z⟩ := r.ro i d e0
        exact ⟨v, e1, im_ok hi rep h⟩
      · cases e
    · cases e
  · exact h.elim
  · exact h.elim

theorem s_cp {e : Expr} {m : EM} (h : PE X e (tE K cls W m)) : PE X e (tE K cls W (mCp m)) := PE.imp h fun σ H Q ⟨S, Fs, Z, r, h⟩ => by
  refine ⟨S, Fs, Z, r, ?_⟩
  unfold mCp eCp at h
  dsimp only at h
  split at h
  · rename_i d S' e
    split at e
    · rename_i d0 S0 e0
      split at e
      · rename_i hi
        cases e
        rw [e0]
        intro v H' Fs' F r' st hd ho
        have z := Rep.im d hi hd.rep
        subst z
        exact h v H' Fs' [] r' st (Held.scal hd.rep) Org.nil
      · cases e
    · rename_i ne
      exact absurd e (ne d S')
  · exact h.elim
  · exact h.elim
end
end Bv
end

section
/-! Operators over data, tests, and, or, not, chains, conditional expressions. -/
namespace Bv
open PySem PySem.Spec PyProof.Rows L2
variable {K : PySem.W.Frag} {cls : Nat → Addr}
variable {σ : L2.St} {S S1 S2 : List Sl} {H H1 H2 : Hp} {Fs Fs1 Fs2 : List (List Addr)} {Z : Addr → Prop} {ms ms1 ms2 rs rs2 : List Nat} {d : D} {v : V} {F : List Addr} {ow : Bool} {W : WX}

/-- new things alone -/
def Fresh (H H' : Hp) (F : List Addr) : Prop := F.Nodup ∧ ∀ a ∈ F, H a = none ∧ Mut (H' a)
theorem Fresh.nil : Fresh H H1 [] := ⟨List.nodup_nil, fun a m => by cases m⟩
theorem Fresh.one {p : Addr} (h : H p = none) (m : Mut (H1 p)) : Fresh H H1 [p] := ⟨by simp, fun a q => by
  have : a = p := by simpa using q
  subst this; exact ⟨h, m⟩⟩
/-- what an operation over data leaves -/
def After (K : PySem.W.Frag) (cls : Nat → Addr) (H : Hp) (d : D) (Q : VK) : Prop := ∀ v H' F, Same H H' → Rep K cls H' d v F → Fresh H H' F → Q v H'
theorem After.scal {Q : VK} (h : After K cls H d Q) (r : Rep K cls H d v []) : Q v H := h v H [] Same.refl r Fresh.nil
def rD1 (K : PySem.W.Frag) (cls : Nat → Addr) (op : D → Option D) : V → Hp → VK → Prop := fun x H Q => ∃ d1 F1 d, Rep K cls H d1 x F1 ∧ op d1 = some d ∧ After K cls H d Q
def rD2 (K : PySem.W.Frag) (cls : Nat → Addr) (op : D → D → Option D) : R2 := fun x y H Q => ∃ d1 d2 F1 F2 d, Rep K cls H d1 x F1 ∧ Rep K cls H d2 y F2 ∧ op d1 d2 = some d ∧ After K cls H d Q

def e1 (op : D → Option D) (a : SE) : SE := fun s => match a s with
  | .ok x s1 => (match op x with
    | some z => .ok z s1
    | none => .stuck)
  | r => r
def e2 (op : D → D → Option D) (a b : SE) : SE := fun s => match a s with
  | .ok x s1 => (match b s1 with
    | .ok y s2 => (match op x y with
      | some z => .ok z s2
      | none => .stuck)
    | r => r)
  | r => r
def m1 (op : D → Option D) (a : EM) : EM := ⟨e1 op a.run, true, [], a.muts⟩
def m2 (op : D → D → Option D) (a b : EM) : EM := ⟨e2 op a.run b.run, true, [], a.muts ++ b.muts⟩
/-- while b is reckoned a's value stays as it is -/
def apartB (a b : EM) : Bool := a.own || a.roots.all fun i => !b.muts.contains i
theorem apart_of {a b : EM} (h : apartB a b = true) : a.own = false → ∀ i ∈ a.roots, i ∉ b.muts := fun e i m n => by
  unfold apartB at h
  rw [e, Bool.false_or, List.all_eq_true] at h
  have := h i m
  simp [n] at this

theorem Fresh.held (f : Fresh H H1 F) (r : SRel K cls σ S H Fs Z) (rep : Rep K cls H1 d v F) : Held K cls true rs H1 Fs Z d v F := by
  refine ⟨rep, fun _ => ⟨f.1, fun a m => ?_⟩, fun e => by cases e⟩
  obtain ⟨h0, h1⟩ := f.2 a m
  exact ⟨h1, fun z => mut_ne (r.mu a z) h0, fun z => r.zs a z h0⟩
/-- an operation over data behind a step -/
theorem after_want {m : EM} {Q : VK} (ho : m.own = true) (st : Stp m.muts S H Fs S1 H1 Fs1) (r0 : SRel K cls σ S H Fs Z) (r : SRel K cls σ S1 H1 Fs1 Z) (w : Want K cls m σ S H Fs Z d S1 Q) : After K cls H1 d Q := fun v H' F sm rep f => by
  refine w v H' Fs1 F (r.same sm) ?_ ?_ ?_
  · have := st.trans r0 (Stp.of_same (S := S1) (Fs := Fs1) sm)
    rw [List.append_nil] at this
    exact this
  · rw [ho]; exact f.held r rep
  · intro _ a m
    exact (st.new r0 (f.2 a m).1).symm

theorem imp1 {a : EM} {op : D → Option D} {Q : VK} (h : tE K cls W (m1 op a) σ H Q) : tUn (rD1 K cls op) (tE K cls W a) σ H Q := by
  obtain ⟨S, Fs, Z, r, h⟩ := h
  refine ⟨S, Fs, Z, r, ?_⟩
  unfold m1 e1 at h
  dsimp only at h
  cases e : a.run S with
  | ok x S1 =>
    rw [e] at h
    dsimp only at h ⊢
    cases e2 : op x with
    | none => rw [e2] at h; exact h.elim
    | some z =>
      rw [e2] at h
      intro v H' Fs' F r' st hd ho
      exact ⟨x, F, z, hd.rep, e2, after_want (m := m1 op a) rfl st r r' h⟩
  | exc c d s => rw [e] at h; exact h
  | stuck => rw [e] at h; exact h
theorem imp2 {a b : EM} {op : D → D → Option D} {Q : VK} (hb : apartB a b = true) (h : tE K cls W (m2 op a b) σ H Q) : tOp (rD2 K cls op) (tE K cls W a) (tE K cls W b) σ H Q := by
  obtain ⟨S, Fs, Z, r, h⟩ := h
  refine ⟨S, Fs, Z, r, ?_⟩
  unfold m2 e2 at h
  dsimp only at h
  cases e : a.run S with
  | ok x S1 =>
    rw [e] at h
    dsimp only at h ⊢
    intro v H1 Fs1 F1 r1 st1 hd1 ho1
    refine ⟨S1, Fs1, Z, r1, ?_⟩
    cases e2 : b.run S1 with
    | ok y S2 =>
      rw [e2] at h
      dsimp only at h ⊢
      cases e3 : op x y with
      | none => rw [e3] at h; exact h.elim
      | some z =>
        rw [e3] at h
        intro v2 H2 Fs2 F2 r2 st2 hd2 ho2
        have hd1' := hd1.step r1 st2 (apart_of hb)
        exact ⟨x, y, F1, F2, z, hd1'.rep, hd2.rep, e3, after_want (m := m2 op a b) rfl (st1.trans r st2) r r2 h⟩
    | exc c d s => rw [e2] at h; exact h
    | stuck => rw [e2] at h; exact h
  | exc c d s => rw [e] at h; exact h
  | stuck => rw [e] at h; exact h
section
variable {X : Cx} {pos : Pos} {a b c : Expr} {ma mb mc : EM}
theorem s_bin {op : Operator} {f : D → D → Option D} (ho : OpR X (binaryOp op) (rD2 K cls f)) (ha : PE X a (tE K cls W ma)) (hb : PE X b (tE K cls W mb)) (ap : apartB ma mb = true) :
    PE X (.BinOp a op b pos) (tE K cls W (m2 f ma mb)) := PE.imp (pe_op ho ha hb) fun σ H Q h => imp2 ap h
theorem s_un {op : UnaryOp} {f : D → Option D} (ho : UnR X (unaryOp op) (rD1 K cls f)) (ha : PE X a (tE K cls W ma)) :
    PE X (.UnaryOp op a pos) (tE K cls W (m1 f ma)) := PE.imp (pe_un ho ha) fun σ H Q h => imp1 h
theorem s_cmp {op : CmpOp} {f : D → D → Option D} (ho : OpR X (compareOp op) (rD2 K cls f)) (ha : PE X a (tE K cls W ma)) (hb : PE X b (tE K cls W mb)) (hm : behindInMarks op b = false) (ap : apartB ma mb = true) :
    PE X (.Compare a [op] [b] pos) (tE K cls W (m2 f ma mb)) := PE.imp (pe_cmpR ho ha hb hm) fun σ H Q h => imp2 ap h
end
/-! ### tests -/
def truth : D → Option Bool
  | .non => some false
  | .bl b => some b
  | .int i => some (i != 0)
  | .str x => some (!x.isEmpty)
  | .tup x => some (!x.isEmpty)
  | .lst x => some (!x.isEmpty)
  | _ => none
def tT (K : PySem.W.Frag) (cls : Nat → Addr) (m : EM) : TT := fun σ H Q => ∃ S Fs Z, SRel K cls σ S H Fs Z ∧
  match m.run S with
  | .ok d S' => ∃ k, truth d = some k ∧ ∀ H' Fs', SRel K cls σ S' H' Fs' Z → Stp m.muts S H Fs S' H' Fs' → Q k H'
  | .exc _ _ _ => False
  | .stuck => False
theorem bool_ne {x : List Nat} : (!x.isEmpty) = ((x.length : Int) != 0) := by
  cases x with
  | nil => rfl
  | cons a r =>
    show true = _
    symm
    rw [bne_iff_ne]
    simp only [List.length_cons]
    omega
theorem tru_D {X : Cx} : TruR X (fun x H Q => ∃ d F k, Rep X.K cls H d x F ∧ truth d = some k ∧ Q k H) := by
  intro pins s σ H x v Q I rx h
  obtain ⟨d, F, k, rep, e, q⟩ := h
  refine tru_ok pins s σ H x v Q I rx ⟨k, ?_, q⟩
  cases d with
  | non => unfold Rep at rep; rw [rep.1]; cases e; rfl
  | bl b => unfold Rep at rep; rw [rep.1]; cases e; rfl
  | int i => unfold Rep at rep; rw [rep.1]; cases e; rfl
  | str x =>
    unfold Rep at rep
    rw [rep.1]
    cases e
    exact ⟨by rw [S'_length]; exact rep.2.2, by rw [S'_length]; exact bool_ne⟩
  | tup ds =>
    unfold Rep at rep
    obtain ⟨a, vs, rfl, t, r⟩ := rep
    cases e
    have := r.length
    refine .inr (.inl ⟨vs, SqT.of t, ?_⟩)
    cases ds <;> cases vs <;> simp at this ⊢
  | lst ds =>
    unfold Rep at rep
    obtain ⟨a, vs, G, rfl, _, t, r⟩ := rep
    cases e
    have := r.length
    refine .inl ⟨vs, SqL.of t, ?_⟩
    cases ds <;> cases vs <;> simp at this ⊢
  | dct _ => cases e
  | ins _ _ => cases e
/-- what a test of an expression asks, by its value -/
def PlainT (X : Cx) (e : Expr) : Prop := ∀ whole, isTrue e X.env whole = (do let v ← whole; standAt e.pos; holding [v] (truthy v))
section
variable {X : Cx} {pos : Pos} {a b c : Expr} {ma mb mc : EM}
theorem tt_of {m : EM} {Q : Bool → Hp → Prop} (h : tT K cls m σ H Q) : tE K cls W m σ H fun x H' => ∃ d F k, Rep K cls H' d x F ∧ truth d = some k ∧ Q k H' := by
  obtain ⟨S, Fs, Z, r, h⟩ := h
  refine ⟨S, Fs, Z, r, ?_⟩
  cases e : m.run S with
  | ok d S' =>
    rw [e] at h
    obtain ⟨k, ek, h⟩ := h
    intro v H' Fs' F r' st hd _
    exact ⟨d, F, k, hd.rep, ek, h H' Fs' r' st⟩
  | exc c d s => rw [e] at h; exact h
  | stuck => rw [e] at h; exact h
theorem t_plain {m : EM} (h : PE X a (tE X.K cls W m)) (he : PlainT X a) : PT X a (tT X.K cls m) := by
  refine ⟨fun pins s σ H Q I hw => ?_⟩
  exact isTrue_plain (thn (h.run pins s σ H _ I (tt_of hw)) fun v s1 ⟨x, H1, I1, r1, q1⟩ => tru_D pins s1 σ H1 x v Q I1 r1 q1) (he _)
/-- it comes to True or False -/
def Blm (m : EM) : Prop := ∀ S d S', m.run S = .ok d S' → ∃ k, d = .bl k
theorem Blm.m2 {f : D → D → Option D} (hf : ∀ x y z, f x y = some z → ∃ k, z = .bl k) : Blm (m2 f ma mb) := fun S d S' h => by
  unfold Bv.m2 Bv.e2 at h
  dsimp only at h
  split at h
  · split at h
    · split at h
      · rename_i e
        cases h
        exact hf _ _ _ e
      · cases h
    · rename_i ne
      exact absurd h (ne d S')
  · rename_i ne
    exact absurd h (ne d S')
theorem tt_bl {m : EM} {Q : Bool → Hp → Prop} (hb : Blm m) (h : tT K cls m σ H Q) : tE K cls W m σ H fun x H' => ∃ k, x = .bl k ∧ Q k H' := by
  obtain ⟨S, Fs, Z, r, h⟩ := h
  refine ⟨S, Fs, Z, r, ?_⟩
  cases e : m.run S with
  | ok d S' =>
    rw [e] at h
    obtain ⟨k, ek, h⟩ := h
    intro v H' Fs' F r' st hd _
    obtain ⟨k', rfl⟩ := hb S d S' e
    have rep := hd.rep
    unfold Rep at rep
    cases ek
    exact ⟨k, rep.1, h H' Fs' r' st⟩
  | exc c d s => rw [e] at h; exact h
  | stuck => rw [e] at h; exact h
theorem t_cmp {op : CmpOp} {f : D → D → Option D} (hf : ∀ x y z, f x y = some z → ∃ k, z = .bl k) (ho : OpR X (compareOp op) (rD2 X.K cls f)) (ha : PE X a (tE X.K cls W ma)) (hb : PE X b (tE X.K cls W mb)) (hm : behindInMarks op b = false) (ap : apartB ma mb = true) :
    PT X (.Compare a [op] [b] pos) (tT X.K cls (m2 f ma mb)) := PT.imp (pt_cmpR ho ha hb hm) fun σ H Q h => imp2 ap (tt_bl (Blm.m2 hf) h)

/-! ### chains: a < b < c -/
def eChain (f g : D → D → Option D) (a b c : SE) : SE := fun s => match a s with
  | .ok x s1 => (match b s1 with
    | .ok y s2 => (match f x y with
      | some (.bl true) => (match c s2 with
        | .ok z s3 => (match g y z with
          | some (.bl k) => .ok (.bl k) s3
          | _ => .stuck)
        | r => r)
      | some (.bl false) => .ok (.bl false) s2
      | _ => .stuck)
    | r => r)
  | r => r
def mChain (f g : D → D → Option D) (a b c : EM) : EM := ⟨eChain f g a.run b.run c.run, true, [], a.muts ++ b.muts ++ c.muts⟩
theorem impChain {f g : D → D → Option D} {Q : VK} (ab : apartB ma mb = true) (ac : apartB mb mc = true) (h : tE K cls W (mChain f g ma mb mc) σ H Q) : tChain (rD2 K cls f) (rD2 K cls g) (tE K cls W ma) (tE K cls W mb) (tE K cls W mc) σ H Q := by
  obtain ⟨S, Fs, Z, r, h⟩ := h
  refine ⟨S, Fs, Z, r, ?_⟩
  unfold mChain eChain at h
  dsimp only at h
  cases e : ma.run S with
  | exc c d s => rw [e] at h; exact h
  | stuck => rw [e] at h; exact h
  | ok x S1 =>
    rw [e] at h
    dsimp only at h ⊢
    intro v H1 Fs1 F1 r1 st1 hd1 ho1
    refine ⟨S1, Fs1, Z, r1, ?_⟩
    cases e2 : mb.run S1 with
    | exc c d s => rw [e2] at h; exact h
    | stuck => rw [e2] at h; exact h
    | ok y S2 =>
      rw [e2] at h
      dsimp only at h ⊢
      intro v2 H2 Fs2 F2 r2 st2 hd2 ho2
      have hd1' := hd1.step r1 st2 (apart_of ab)
      have st12 := st1.trans r st2
      cases e3 : f x y with
      | none => rw [e3] at h; exact h.elim
      | some zz =>
        rw [e3] at h
        cases zz with
        | bl kk =>
          cases kk with
          | true =>
            dsimp only at h
            refine ⟨x, y, F1, F2, .bl true, hd1'.rep, hd2.rep, e3, fun w H3 F3 sm rep f3 => ?_⟩
            unfold Rep at rep
            refine ⟨true, rep.1, ?_⟩
            rw [if_pos rfl]
            have r3 := r2.same sm
            have st3 := st12.trans r (Stp.of_same (S := S2) (Fs := Fs2) sm)
            rw [List.append_nil] at st3
            refine ⟨S2, Fs2, Z, r3, ?_⟩
            cases e4 : mc.run S2 with
            | exc c d s => rw [e4] at h; exact h
            | stuck => rw [e4] at h; exact h
            | ok z S3 =>
              rw [e4] at h
              dsimp only at h ⊢
              intro v3 H4 Fs4 F4 r4 st4 hd4 ho4
              have hd2' := (hd2.step r2 (Stp.of_same (S := S2) (Fs := Fs2) sm) (fun _ i _ q => by simp at q)).step r3 st4 (apart_of ac)
              cases e5 : g y z with
              | none => rw [e5] at h; exact h.elim
              | some q5 =>
                rw [e5] at h
                cases q5 with
                | bl k => exact ⟨y, z, F2, F4, .bl k, hd2'.rep, hd4.rep, e5, after_want (m := mChain f g ma mb mc) rfl (st3.trans r st4) r r4 h⟩
                | _ => exact h.elim
          | false =>
            dsimp only at h
            have A : After K cls H2 (.bl false) Q := after_want (m := mChain f g ma mb mc) rfl (st12.mono fun i q => List.mem_append_left _ q) r r2 h
            refine ⟨x, y, F1, F2, .bl false, hd1'.rep, hd2.rep, e3, fun w H3 F3 sm rep f3 => ?_⟩
            have q := A w H3 F3 sm rep f3
            unfold Rep at rep
            refine ⟨false, rep.1, ?_⟩
            rw [if_neg (by simp)]
            rw [rep.1] at q
            exact q
        | _ => exact h.elim
theorem Blm.chain {f g : D → D → Option D} : Blm (mChain f g ma mb mc) := fun S d S' h => by
  unfold mChain eChain at h
  dsimp only at h
  split at h
  · split at h
    · split at h
      · split at h
        · split at h
          · cases h; exact ⟨_, rfl⟩
          · cases h
        · rename_i ne; exact absurd h (ne d S')
      · cases h; exact ⟨_, rfl⟩
      · cases h
    · rename_i ne; exact absurd h (ne d S')
  · rename_i ne; exact absurd h (ne d S')
theorem s_chain {op op' : CmpOp} {f g : D → D → Option D} (ho : OpR X (compareOp op) (rD2 K cls f)) (ho' : OpR X (compareOp op') (rD2 K cls g)) (ha : PE X a (tE K cls W ma)) (hb : PE X b (tE K cls W mb)) (hc : PE X c (tE K cls W mc))
    (hm : lastMarks [op, op'] [b, c] = false) (ab : apartB ma mb = true) (ac : apartB mb mc = true) : PE X (.Compare a [op, op'] [b, c] pos) (tE K cls W (mChain f g ma mb mc)) :=
  PE.imp (pe_chain ho ho' ha hb hc hm) fun σ H Q h => impChain ab ac h
theorem t_chain {op op' : CmpOp} {f g : D → D → Option D} (ho : OpR X (compareOp op) (rD2 X.K cls f)) (ho' : OpR X (compareOp op') (rD2 X.K cls g)) (ha : PE X a (tE X.K cls W ma)) (hb : PE X b (tE X.K cls W mb)) (hc : PE X c (tE X.K cls W mc))
    (hm : lastMarks [op, op'] [b, c] = false) (ab : apartB ma mb = true) (ac : apartB mb mc = true) : PT X (.Compare a [op, op'] [b, c] pos) (tT X.K cls (mChain f g ma mb mc)) :=
  PT.imp (pt_chain ho ho' ha hb hc hm) fun σ H Q h => impChain ab ac (tt_bl Blm.chain h)

/-! ### and, or, not, conditional expressions -/
def eAnd (a b : SE) : SE := fun s => match a s with
  | .ok (.bl true) s1 => b s1
  | .ok (.bl false) s1 => .ok (.bl false) s1
  | .ok _ _ => .stuck
  | r => r
def eOr (a b : SE) : SE := fun s => match a s with
  | .ok (.bl false) s1 => b s1
  | .ok (.bl true) s1 => .ok (.bl true) s1
  | .ok _ _ => .stuck
  | r => r
/-- by a test -/
def eIf (c a b : SE) : SE := fun s => match c s with
  | .ok x s1 => (match truth x with
    | some true => a s1
    | some false => b s1
    | none => .stuck)
  | r => r
def mAnd (a b : EM) : EM := ⟨eAnd a.run b.run, b.own, b.roots, a.muts ++ b.muts⟩
def mOr (a b : EM) : EM := ⟨eOr a.run b.run, b.own, b.roots, a.muts ++ b.muts⟩
def mIf (c a b : EM) : EM := ⟨eIf c.run a.run b.run, a.own && b.own, (if a.own then [] else a.roots) ++ (if b.own then [] else b.roots), c.muts ++ (a.muts ++ b.muts)⟩
def opNot (d : D) : Option D := (truth d).map fun k => .bl !k
theorem and_run {Q : VK} (h : tE K cls W (mAnd ma mb) σ H Q) : tE K cls W ma σ H fun x H1 => ∃ c, x = .bl c ∧ if c = true then tE K cls W mb σ H1 Q else Q (.bl false) H1 := by
  obtain ⟨S, Fs, Z, r, h⟩ := h
  refine ⟨S, Fs, Z, r, ?_⟩
  unfold mAnd eAnd at h
  dsimp only at h
  cases e : ma.run S with
  | exc c d s => rw [e] at h; exact h
  | stuck => rw [e] at h; exact h
  | ok x S1 =>
    rw [e] at h
    dsimp only at h ⊢
    intro v H1 Fs1 F1 r1 st1 hd1 ho1
    have rep := hd1.rep
    cases x with
    | bl k =>
      unfold Rep at rep
      refine ⟨k, rep.1, ?_⟩
      cases k with
      | true =>
        rw [if_pos rfl]
        refine ⟨S1, Fs1, Z, r1, ?_⟩
        dsimp only at h
        cases e2 : mb.run S1 with
        | exc c d s => rw [e2] at h; exact h
        | stuck => rw [e2] at h; exact h
        | ok y S2 =>
          rw [e2] at h
          intro v2 H2 Fs2 F2 r2 st2 hd2 ho2
          exact h v2 H2 Fs2 F2 r2 (st1.trans r st2) hd2 fun eo a m => by
            rcases ho2 eo a m with w | w
            · exact st1.back w
            · exact (st1.new r w).symm.imp (fun w => w.app_l) id
      | false =>
        rw [if_neg (by simp)]
        dsimp only at h
        exact h (.bl false) H1 Fs1 [] r1 (st1.mono fun i q => List.mem_append_left _ q) ⟨by unfold Rep; exact ⟨rfl, rfl⟩, fun _ => ⟨List.nodup_nil, fun a m => by cases m⟩, fun _ a m => by cases m⟩ Org.nil
    | _ => exact h.elim
theorem or_run {Q : VK} (h : tE K cls W (mOr ma mb) σ H Q) : tE K cls W ma σ H fun x H1 => ∃ c, x = .bl c ∧ if c = true then Q (.bl true) H1 else tE K cls W mb σ H1 Q := by
  obtain ⟨S, Fs, Z, r, h⟩ := h
  refine ⟨S, Fs, Z, r, ?_⟩
  unfold mOr eOr at h
  dsimp only at h
  cases e : ma.run S with
  | exc c d s => rw [e] at h; exact h
  | stuck => rw [e] at h; exact h
  | ok x S1 =>
    rw [e] at h
    dsimp only at h ⊢
    intro v H1 Fs1 F1 r1 st1 hd1 ho1
    have rep := hd1.rep
    cases x with
    | bl k =>
      unfold Rep at rep
      refine ⟨k, rep.1, ?_⟩
      cases k with
      | false =>
        rw [if_neg (by simp)]
        refine ⟨S1, Fs1, Z, r1, ?_⟩
        dsimp only at h
        cases e2 : mb.run S1 with
        | exc c d s => rw [e2] at h; exact h
        | stuck => rw [e2] at h; exact h
        | ok y S2 =>
          rw [e2] at h
          intro v2 H2 Fs2 F2 r2 st2 hd2 ho2
          exact h v2 H2 Fs2 F2 r2 (st1.trans r st2) hd2 fun eo a m => by
            rcases ho2 eo a m with w | w
            · exact st1.back w
            · exact (st1.new r w).symm.imp (fun w => w.app_l) id
      | true =>
        rw [if_pos rfl]
        dsimp only at h
        exact h (.bl true) H1 Fs1 [] r1 (st1.mono fun i q => List.mem_append_left _ q) ⟨by unfold Rep; exact ⟨rfl, rfl⟩, fun _ => ⟨List.nodup_nil, fun a m => by cases m⟩, fun _ a m => by cases m⟩ Org.nil
    | _ => exact h.elim
theorem s_and {rest : List Expr} (ha : PE X a (tE K cls W ma)) (hb : PE X (.BoolOp .And (b :: rest) pos) (tE K cls W mb)) : PE X (.BoolOp .And (a :: b :: rest) pos) (tE K cls W (mAnd ma mb)) := PE.imp (pe_and ha hb) fun _ _ _ h => and_run h
theorem s_or {rest : List Expr} (ha : PE X a (tE K cls W ma)) (hb : PE X (.BoolOp .Or (b :: rest) pos) (tE K cls W mb)) : PE X (.BoolOp .Or (a :: b :: rest) pos) (tE K cls W (mOr ma mb)) := PE.imp (pe_or ha hb) fun _ _ _ h => or_run h
theorem s_one {op : BoolOp} (ha : PE X a (tE K cls W ma)) : PE X (.BoolOp op [a] pos) (tE K cls W ma) := pe_one ha
/-- a test: the first operand's answer, then the second's -/
theorem tand_run {Q : Bool → Hp → Prop} (h : tT K cls (mAnd ma mb) σ H Q) : tAnd (tT K cls ma) (tT K cls mb) σ H Q := by
  obtain ⟨S, Fs, Z, r, h⟩ := h
  refine ⟨S, Fs, Z, r, ?_⟩
  unfold mAnd eAnd at h
  dsimp only at h
  cases e : ma.run S with
  | exc c d s => rw [e] at h; exact h
  | stuck => rw [e] at h; exact h
  | ok x S1 =>
    rw [e] at h
    cases x with
    | bl k =>
      refine ⟨k, rfl, fun H1 Fs1 r1 st1 => ?_⟩
      cases k with
      | true =>
        rw [if_pos rfl]
        refine ⟨S1, Fs1, Z, r1, ?_⟩
        dsimp only at h
        cases e2 : mb.run S1 with
        | exc c d s => rw [e2] at h; exact h
        | stuck => rw [e2] at h; exact h
        | ok y S2 =>
          rw [e2] at h
          obtain ⟨k, ek, h⟩ := h
          exact ⟨k, ek, fun H2 Fs2 r2 st2 => h H2 Fs2 r2 (st1.trans r st2)⟩
      | false =>
        rw [if_neg (by simp)]
        dsimp only at h
        obtain ⟨k, ek, h⟩ := h
        cases ek
        exact h H1 Fs1 r1 (st1.mono fun i q => List.mem_append_left _ q)
    | _ => exact h.elim
theorem tor_run {Q : Bool → Hp → Prop} (h : tT K cls (mOr ma mb) σ H Q) : tOr (tT K cls ma) (tT K cls mb) σ H Q := by
  obtain ⟨S, Fs, Z, r, h⟩ := h
  refine ⟨S, Fs, Z, r, ?_⟩
  unfold mOr eOr at h
  dsimp only at h
  cases e : ma.run S with
  | exc c d s => rw [e] at h; exact h
  | stuck => rw [e] at h; exact h
  | ok x S1 =>
    rw [e] at h
    cases x with
    | bl k =>
      refine ⟨k, rfl, fun H1 Fs1 r1 st1 => ?_⟩
      cases k with
      | false =>
        rw [if_neg (by simp)]
        refine ⟨S1, Fs1, Z, r1, ?_⟩
        dsimp only at h
        cases e2 : mb.run S1 with
        | exc c d s => rw [e2] at h; exact h
        | stuck => rw [e2] at h; exact h
        | ok y S2 =>
          rw [e2] at h
          obtain ⟨k, ek, h⟩ := h
          exact ⟨k, ek, fun H2 Fs2 r2 st2 => h H2 Fs2 r2 (st1.trans r st2)⟩
      | true =>
        rw [if_pos rfl]
        dsimp only at h
        obtain ⟨k, ek, h⟩ := h
        cases ek
        exact h H1 Fs1 r1 (st1.mono fun i q => List.mem_append_left _ q)
    | _ => exact h.elim
theorem PW.imp {e : Expr} {t t' : TT} (h : PW X e t) (i : ∀ σ H Q, t' σ H Q → t σ H Q) : PW X e t' := ⟨fun wh pins s σ H Q I q => h.run wh pins s σ H Q I (i σ H Q q)⟩
theorem w_and {rest : List Expr} (ha : PT X a (tT K cls ma)) (hb : PW X (.BoolOp .And (b :: rest) pos) (tT K cls mb)) : PW X (.BoolOp .And (a :: b :: rest) pos) (tT K cls (mAnd ma mb)) := PW.imp (pw_and ha hb) fun _ _ _ h => tand_run h
theorem w_or {rest : List Expr} (ha : PT X a (tT K cls ma)) (hb : PW X (.BoolOp .Or (b :: rest) pos) (tT K cls mb)) : PW X (.BoolOp .Or (a :: b :: rest) pos) (tT K cls (mOr ma mb)) := PW.imp (pw_or ha hb) fun _ _ _ h => tor_run h

/-! not -/
theorem s_not (ha : PE X a (tE X.K cls W ma)) : PE X (.UnaryOp .Not a pos) (tE X.K cls W (m1 opNot ma)) := by
  refine ⟨fun pins s σ H Q I h => ?_⟩
  have h' := imp1 h
  refine UnaryOp_ (thn (ha.run pins s σ H _ I h') fun v s1 ⟨x, H1, I1, r1, d1, F1, d, rep, e, af⟩ => ?_)
  unfold opNot at e
  cases ek : truth d1 with
  | none => rw [ek] at e; cases e
  | some k =>
    rw [ek] at e
    cases e
    refine not_of (thn (tru_D (cls := cls) pins s1 σ H1 x v (fun c H2 => Q (.bl (!c)) H2) I1 r1 ⟨d1, F1, k, rep, ek, ?_⟩) fun c s2 ⟨H2, I2, q2⟩ => ⟨.bl (!c), H2, I2, rfl, q2⟩)
    exact After.scal af (by unfold Rep; exact ⟨rfl, rfl⟩)
theorem t_not (ha : PT X a (tT K cls ma)) : PT X (.UnaryOp .Not a pos) (tT K cls (m1 opNot ma)) := PT.imp (pt_not ha) fun σ H Q ⟨S, Fs, Z, r, h⟩ => by
  refine ⟨S, Fs, Z, r, ?_⟩
  unfold m1 e1 at h
  dsimp only at h
  cases e : ma.run S with
  | exc c d s => rw [e] at h; exact h
  | stuck => rw [e] at h; exact h
  | ok x S1 =>
    rw [e] at h
    dsimp only at h
    unfold opNot at h
    cases ek : truth x with
    | none => rw [ek] at h; exact h.elim
    | some k =>
      rw [ek] at h
      obtain ⟨k', e', h⟩ := h
      cases e'
      exact ⟨k, ek, h⟩

/-! a if c else b -/
theorem if_run {Q : VK} (h : tE K cls W (mIf mc ma mb) σ H Q) : tIf (tT K cls mc) (tE K cls W ma) (tE K cls W mb) σ H Q := by
  obtain ⟨S, Fs, Z, r, h⟩ := h
  refine ⟨S, Fs, Z, r, ?_⟩
  unfold mIf eIf at h
  dsimp only at h
  cases e : mc.run S with
  | exc c d s => rw [e] at h; exact h
  | stuck => rw [e] at h; exact h
  | ok x S1 =>
    rw [e] at h
    dsimp only at h
    have part : ∀ (m : EM) (H1 : Hp) (Fs1 : List (List Addr)), ((ma.own && mb.own) = true → m.own = true) → (m.own = false → ∀ i ∈ m.roots, i ∈ (if ma.own = true then [] else ma.roots) ++ (if mb.own = true then [] else mb.roots)) → (∀ i ∈ m.muts, i ∈ ma.muts ++ mb.muts) →
        SRel K cls σ S1 H1 Fs1 Z → Stp mc.muts S H Fs S1 H1 Fs1 → (match m.run S1 with
          | .ok d S' => Want K cls (mIf mc ma mb) σ S H Fs Z d S' Q
          | .exc _ _ _ => False
          | .stuck => False) → tE K cls W m σ H1 Q := fun m H1 Fs1 ho hr hm r1 st1 h => by
      refine ⟨S1, Fs1, Z, r1, ?_⟩
      cases e2 : m.run S1 with
      | exc c d s => rw [e2] at h; exact h
      | stuck => rw [e2] at h; exact h
      | ok y S2 =>
        rw [e2] at h
        intro v2 H2 Fs2 F2 r2 st2 hd2 ho2
        have st := st1.trans r st2
        refine h v2 H2 Fs2 F2 r2 (st.mono fun i q => ?_) ?_ fun eo a q => ?_
        · rcases List.mem_append.mp q with q | q
          · exact List.mem_append_left _ q
          · exact List.mem_append_right _ (hm i q)
        · show Held K cls (ma.own && mb.own) _ _ _ _ _ _ _
          cases eo : (ma.own && mb.own) with
          | true =>
            have em := ho eo
            exact ⟨hd2.rep, fun _ => hd2.own em, fun z => by cases z⟩
          | false => exact hd2.weak hr
        · have em := ho eo
          rcases ho2 em a q with w | w
          · exact (st1.back w).imp (fun w => w.mono fun i q => by
              rcases List.mem_append.mp q with q | q
              · exact List.mem_append_left _ q
              · exact List.mem_append_right _ (hm i q)) id
          · exact (st1.new r w).symm.imp (fun w => w.app_l) id
    cases ek : truth x with
    | none => rw [ek] at h; exact h.elim
    | some k =>
      rw [ek] at h
      refine ⟨k, ek, fun H1 Fs1 r1 st1 => ?_⟩
      cases k with
      | true =>
        rw [if_pos rfl]
        exact part ma H1 Fs1 (fun z => (Bool.and_eq_true_iff.mp z).1) (fun eo i q => List.mem_append_left _ (by rw [eo]; exact q)) (fun i q => List.mem_append_left _ q) r1 st1 h
      | false =>
        rw [if_neg (by simp)]
        exact part mb H1 Fs1 (fun z => (Bool.and_eq_true_iff.mp z).2) (fun eo i q => List.mem_append_right _ (by rw [eo]; exact q)) (fun i q => List.mem_append_right _ q) r1 st1 h
theorem s_if (hc : PT X c (tT K cls mc)) (ha : PE X a (tE K cls W ma)) (hb : PE X b (tE K cls W mb)) : PE X (.IfExp c a b pos) (tE K cls W (mIf mc ma mb)) := PE.imp (pe_ifExp hc ha hb) fun _ _ _ h => if_run h
end
end Bv
end

section
/-! Arithmetic over data. -/
namespace Bv
open PySem PySem.Spec PyProof.Rows L2
variable {cls : Nat → Addr} {X : Cx}

def lineN : Nat := 16777216
theorem lineN_eq : lineN = sizeLine := sizeLine_eq.symm
def small64 (i : Int) : Bool := decide (-18446744073709551616 < i) && decide (i < 18446744073709551616)
theorem S'_append (x y : List Nat) : S' x ++ S' y = S' (x ++ y) := by
  show (⟨x.toArray ++ y.toArray⟩ : Str) = ⟨(x ++ y).toArray⟩
  simp
def dAdd : D → D → Option D
  | .int i, .int j => some (.int (i + j))
  | .str x, .str y => if x.length + y.length ≤ lineN then some (.str (x ++ y)) else none
  | .lst x, .lst y => if ims x && ims y && decide (x.length + y.length ≤ lineN) then some (.lst (x ++ y)) else none
  | .tup x, .tup y => if ims x && ims y && decide (x.length + y.length ≤ lineN) then some (.tup (x ++ y)) else none
  | _, _ => none
def dSub : D → D → Option D
  | .int i, .int j => some (.int (i - j))
  | _, _ => none
def dMul : D → D → Option D
  | .int i, .int j => if small64 i || small64 j then some (.int (i * j)) else none
  | .str x, .int k => if decide (-1000000000 < k) && decide (k < 1000000000) && decide (x.length * k.toNat ≤ lineN) then some (.str (List.replicate k.toNat x).flatten) else none
  | .lst x, .int k => if ims x && decide (-1000000000 < k) && decide (k < 1000000000) && decide (x.length * k.toNat ≤ lineN) then some (.lst (List.replicate k.toNat x).flatten) else none
  | .tup x, .int k => if ims x && decide (2 ≤ k) && decide (k ≤ 1000) && decide (x.length ≤ 1000) && !x.isEmpty then some (.tup (List.replicate k.toNat x).flatten) else none
  | _, _ => none
def dFdiv : D → D → Option D
  | .int i, .int j => if decide (0 < j) && decide (j.natAbs.log2 < 9000) then some (.int (i / j)) else none
  | _, _ => none
def dMod : D → D → Option D
  | .int i, .int j => if 0 < j then some (.int (i % j)) else none
  | _, _ => none
def dPow : D → D → Option D
  | .int i, .int j => if decide (0 ≤ j) && decide (j ≤ 1000) && small64 i then some (.int (i ^ j.toNat)) else none
  | _, _ => none
def dNeg : D → Option D
  | .int i => some (.int (-i))
  | _ => none

section
variable {K : PySem.W.Frag} {H : Hp} {v : V} {F : List Addr}
theorem rInt {i : Int} : Rep K cls H (.int i) (.int i) [] := by unfold Rep; exact ⟨rfl, rfl⟩
theorem rBl {i : Bool} : Rep K cls H (.bl i) (.bl i) [] := by unfold Rep; exact ⟨rfl, rfl⟩
theorem rNon : Rep K cls H .non .non [] := by unfold Rep; exact ⟨rfl, rfl⟩
theorem rStr {x : List Nat} (h : x.length ≤ sizeLine) : Rep K cls H (.str x) (.str (S' x)) [] := by unfold Rep; exact ⟨rfl, rfl, h⟩
theorem rInt' {i : Int} (h : Rep K cls H (.int i) v F) : v = .int i := by unfold Rep at h; exact h.1
theorem rBl' {i : Bool} (h : Rep K cls H (.bl i) v F) : v = .bl i := by unfold Rep at h; exact h.1
theorem rNon' (h : Rep K cls H .non v F) : v = .non := by unfold Rep at h; exact h.1
theorem rStr' {x : List Nat} (h : Rep K cls H (.str x) v F) : v = .str (S' x) ∧ x.length ≤ sizeLine := by unfold Rep at h; exact ⟨h.1, h.2.2⟩
theorem rLst' {x : List D} (h : Rep K cls H (.lst x) v F) : ∃ a vs G, v = .ref a ∧ F = a :: G ∧ H a = some (.lst vs) ∧ Reps K cls H x vs G := by unfold Rep at h; exact h
theorem rTup' {x : List D} (h : Rep K cls H (.tup x) v F) : ∃ a vs, v = .ref a ∧ SqT K H a vs ∧ Reps K cls H x vs F := by
  unfold Rep at h
  obtain ⟨a, vs, e, t, r⟩ := h
  exact ⟨a, vs, e, SqT.of t, r⟩
theorem rTupS {x : List D} (h : Rep K cls H (.tup x) v F) : ∃ a vs, v = .ref a ∧ H a = some (.tup vs) ∧ Reps K cls H x vs F := by unfold Rep at h; exact h
theorem rLst {x : List D} {a : Addr} {vs : List V} {G : List Addr} (h : H a = some (.lst vs)) (r : Reps K cls H x vs G) : Rep K cls H (.lst x) (.ref a) (a :: G) := by unfold Rep; exact ⟨a, vs, G, rfl, rfl, h, r⟩
theorem rTup {x : List D} {a : Addr} {vs : List V} {G : List Addr} (h : H a = some (.tup vs)) (r : Reps K cls H x vs G) : Rep K cls H (.tup x) (.ref a) G := by unfold Rep; exact ⟨a, vs, rfl, h, r⟩
/-- a new list of items of which nothing can change -/
theorem After.lst {x : List D} {Q : VK} {vs : List V} {p : Addr} (h : After K cls H (.lst x) Q) (hp : H p = none) (r : Reps K cls H x vs []) : Q (.ref p) (upd H p (.lst vs)) :=
  h (.ref p) _ [p] (Same.new hp) (rLst upd_same (r.same (Same.new hp))) (Fresh.one hp (by rw [upd_same]; exact True.intro))
theorem After.tup {x : List D} {Q : VK} {vs : List V} {p : Addr} (h : After K cls H (.tup x) Q) (hp : H p = none) (r : Reps K cls H x vs []) : Q (.ref p) (upd H p (.tup vs)) :=
  h (.ref p) _ [] (Same.new hp) (rTup upd_same (r.same (Same.new hp))) Fresh.nil
end
theorem o_add : OpR X (binaryOp .Add) (rD2 X.K cls dAdd) := by
  rintro pins s σ H x y v u Q I rx ry ⟨d1, d2, F1, F2, d, h1, h2, e, af⟩
  unfold dAdd at e
  split at e
  · cases e
    rw [rInt' h1] at rx
    rw [rInt' h2] at ry
    exact op_add pins s σ H _ _ v u Q I rx ry ⟨_, _, rfl, rfl, af.scal rInt⟩
  · split at e
    · rename_i hl
      cases e
      rw [lineN_eq] at hl
      rw [(rStr' h1).1] at rx
      rw [(rStr' h2).1] at ry
      refine op_add_str pins s σ H _ _ v u Q I rx ry ⟨_, _, rfl, rfl, by rw [S'_length, S'_length]; exact hl, ?_⟩
      rw [S'_append]
      exact af.scal (rStr (by rw [List.length_append]; exact hl))
    · cases e
  · split at e
    · rename_i hl
      cases e
      simp only [Bool.and_eq_true, decide_eq_true_eq] at hl
      obtain ⟨⟨i1, i2⟩, hl⟩ := hl
      rw [lineN_eq] at hl
      obtain ⟨a, vs, G, rfl, _, t1, r1⟩ := rLst' h1
      obtain ⟨b, us, G', rfl, _, t2, r2⟩ := rLst' h2
      have g1 := r1.im _ i1
      have g2 := r2.im _ i2
      subst g1 g2
      exact op_cat pins s σ H _ _ v u Q I rx ry ⟨a, b, vs, us, rfl, rfl, t1, t2, by rw [← r1.length, ← r2.length]; exact hl, fun p hp => af.lst hp (r1.append r2)⟩
    · cases e
  · split at e
    · rename_i hl
      cases e
      simp only [Bool.and_eq_true, decide_eq_true_eq] at hl
      obtain ⟨⟨i1, i2⟩, hl⟩ := hl
      rw [lineN_eq] at hl
      obtain ⟨a, vs, rfl, t1, r1⟩ := rTupS h1
      obtain ⟨b, us, rfl, t2, r2⟩ := rTupS h2
      have g1 := r1.im _ i1
      have g2 := r2.im _ i2
      subst g1 g2
      refine op_catA pins s σ H _ _ v u Q I rx ry ⟨a, b, vs, us, rfl, rfl, SqT.of t1, SqT.of t2, by rw [← r1.length, ← r2.length]; exact hl, fun z => ?_, fun _ z => ?_, fun _ _ p hp => af.tup hp (r1.append r2)⟩
      · refine af (.ref b) H [] Same.refl (rTup t2 ?_) Fresh.nil
        have := r1.append r2
        subst z
        exact this
      · refine af (.ref a) H [] Same.refl (rTup t1 ?_) Fresh.nil
        have := r1.append r2
        subst z
        rw [List.append_nil] at this
        exact this
    · cases e
  · cases e
theorem o_sub : OpR X (binaryOp .Sub) (rD2 X.K cls dSub) := by
  rintro pins s σ H x y v u Q I rx ry ⟨d1, d2, F1, F2, d, h1, h2, e, af⟩
  unfold dSub at e
  split at e
  · cases e
    rw [rInt' h1] at rx
    rw [rInt' h2] at ry
    exact op_sub pins s σ H _ _ v u Q I rx ry ⟨_, _, rfl, rfl, af.scal rInt⟩
  · cases e
theorem small64_of {i : Int} (h : small64 i = true) : -(2 ^ 64) < i ∧ i < 2 ^ 64 := by
  unfold small64 at h
  simp only [Bool.and_eq_true, decide_eq_true_eq] at h
  exact h
theorem foldl_cps (x : List Nat) : ∀ (k : Nat) (acc : List Nat), List.foldl (fun a b : Array Nat => a ++ b) acc.toArray (List.replicate k x.toArray) = (acc ++ (List.replicate k x).flatten).toArray
  | 0, acc => by simp
  | k + 1, acc => by
    have e : acc.toArray ++ x.toArray = (acc ++ x).toArray := by simp
    rw [List.replicate_succ, List.replicate_succ, List.foldl_cons, List.flatten_cons, e, foldl_cps x k, List.append_assoc]
theorem len_rep (x : List Nat) : ∀ k : Nat, (List.replicate k x).flatten.length = x.length * k
  | 0 => by simp
  | k + 1 => by rw [List.replicate_succ, List.flatten_cons, List.length_append, len_rep x k, Nat.mul_succ, Nat.add_comm]
theorem rep_str {pins : List (Addr × Obj)} {s : Shared} {σ : L2.St} {H : Hp} {x : List Nat} {k : Int} {t u : Tok} {Q : VK} (I : Inv X pins σ H s) (h1 : -1000000000 < k) (h2 : k < 1000000000) (hl : x.length * k.toNat ≤ sizeLine)
    (q : Q (.str (S' (List.replicate k.toNat x).flatten)) H) : wpAny (model X.prog X.w) X.A (binaryOp .Mult (.str (S' x) t) (.int k u)) (EP X pins σ Q) X.xe s := by
  have e1 : decide (k < -(2 ^ 63 : Int)) = false := decide_eq_false (by omega)
  have e2 : decide (k ≥ 2 ^ 63) = false := decide_eq_false (by omega)
  have hs : sizeLine = 16777216 := sizeLine_eq
  have hl' : (S' x).length * k.toNat ≤ 16777216 := by rw [S'_length]; omega
  refine PySem.P.mul_str (by rw [e1, e2]; rfl) (fun a _ => ?_) (fun a _ => ?_) ?_
  · have h5 : ((S' x).length : Int) ≤ 16777216 := by
      have : (S' x).length * 1 ≤ (S' x).length * k.toNat := Nat.mul_le_mul_left _ (by omega)
      omega
    have h6 : (1000000000 : Int) ≤ (2 ^ 63 - 1) / k := by
      refine (Int.le_ediv_iff_mul_le (by omega)).mpr ?_
      omega
    omega
  · show Builtin.Str.tooLong _ = false
    unfold Builtin.Str.tooLong
    simp
    omega
  · by_cases hk : k < 1
    · rw [if_pos hk]
      have : k.toNat = 0 := by omega
      rw [this] at q
      exact ⟨by decide, .str Str.empty, H, I.tok _, ⟨_, rfl⟩, q⟩
    · rw [if_neg hk]
      split
      · rename_i z
        have e : (List.replicate k.toNat x).flatten = x := by
          rw [Bool.or_eq_true] at z
          rcases z with z | z
          · have : k = 1 := by simpa using z
            subst this
            simp
          · have : x = [] := by
              have : (S' x).length = 0 := by simpa using z
              rw [S'_length] at this
              exact List.eq_nil_of_length_eq_zero this
            subst this
            simp
        rw [e] at q
        exact ⟨.str (S' x), H, I, ⟨_, rfl⟩, q⟩
      · have e := foldl_cps x k.toNat []
        rw [List.nil_append] at e
        have e' : (⟨List.foldl (fun a b => a ++ b) #[] (List.replicate k.toNat (S' x).cps)⟩ : Str) = S' (List.replicate k.toNat x).flatten := by
          show (⟨List.foldl (fun a b => a ++ b) #[] (List.replicate k.toNat x.toArray)⟩ : Str) = _
          rw [e]
        rw [e']
        refine ⟨?_, .str _, H, I.tok _, ⟨_, rfl⟩, q⟩
        rw [S'_length, len_rep]
        omega
theorem Reps.rep {H : Hp} {x : List D} {vs : List V} (r : Reps X.K cls H x vs []) : ∀ k : Nat, Reps X.K cls H (List.replicate k x).flatten (List.replicate k vs).flatten []
  | 0 => by simp; exact Reps.nil
  | k + 1 => by
    rw [List.replicate_succ, List.replicate_succ, List.flatten_cons, List.flatten_cons]
    exact r.append (Reps.rep r k)
theorem o_mul : OpR X (binaryOp .Mult) (rD2 X.K cls dMul) := by
  rintro pins s σ H x y v u Q I rx ry ⟨d1, d2, F1, F2, d, h1, h2, e, af⟩
  unfold dMul at e
  split at e
  · split at e
    · rename_i hl
      cases e
      rw [rInt' h1] at rx
      rw [rInt' h2] at ry
      rw [Bool.or_eq_true] at hl
      exact op_mul pins s σ H _ _ v u Q I rx ry ⟨_, _, rfl, rfl, hl.imp small64_of small64_of, af.scal rInt⟩
    · cases e
  · split at e
    · rename_i hl
      cases e
      simp only [Bool.and_eq_true, decide_eq_true_eq] at hl
      obtain ⟨⟨l1, l2⟩, hl⟩ := hl
      rw [lineN_eq] at hl
      rw [(rStr' h1).1] at rx
      rw [rInt' h2] at ry
      obtain ⟨t, rfl⟩ := rx
      obtain ⟨t', rfl⟩ := ry
      refine rep_str I l1 l2 hl (af.scal (rStr ?_))
      rw [len_rep]
      exact hl
    · cases e
  · split at e
    · rename_i hl
      cases e
      simp only [Bool.and_eq_true, decide_eq_true_eq] at hl
      obtain ⟨⟨⟨i1, l1⟩, l2⟩, hl⟩ := hl
      rw [lineN_eq] at hl
      obtain ⟨a, vs, G, rfl, _, t1, r1⟩ := rLst' h1
      have g1 := r1.im _ i1
      subst g1
      rw [rInt' h2] at ry
      exact op_rep pins s σ H _ _ v u Q I rx ry ⟨a, _, vs, rfl, rfl, t1, by omega, by omega, by rw [← r1.length]; exact hl, fun p hp => af.lst hp (Reps.rep r1 _)⟩
    · cases e
  · split at e
    · rename_i hl
      cases e
      simp only [Bool.and_eq_true, decide_eq_true_eq, Bool.not_eq_true'] at hl
      obtain ⟨⟨⟨⟨i1, l1⟩, l2⟩, l3⟩, l4⟩ := hl
      obtain ⟨a, vs, rfl, t1, r1⟩ := rTup' h1
      have g1 := r1.im _ i1
      subst g1
      rw [rInt' h2] at ry
      have len := r1.length
      refine op_repT pins s σ H _ _ v u Q I rx ry ⟨a, _, vs, rfl, rfl, t1, fun z => ?_, l1, l2, by omega, fun p hp => af.tup hp (Reps.rep r1 _)⟩
      subst z
      simp at len
      rw [len] at l4
      simp at l4
    · cases e
  · cases e
theorem o_fdiv : OpR X (binaryOp .FloorDiv) (rD2 X.K cls dFdiv) := by
  rintro pins s σ H x y v u Q I rx ry ⟨d1, d2, F1, F2, d, h1, h2, e, af⟩
  unfold dFdiv at e
  split at e
  · split at e
    · rename_i hl
      cases e
      simp only [Bool.and_eq_true, decide_eq_true_eq] at hl
      rw [rInt' h1] at rx
      rw [rInt' h2] at ry
      exact op_fdivW pins s σ H _ _ v u Q I rx ry ⟨_, _, rfl, rfl, hl, af.scal rInt⟩
    · cases e
  · cases e
theorem o_mod : OpR X (binaryOp .Mod) (rD2 X.K cls dMod) := by
  rintro pins s σ H x y v u Q I rx ry ⟨d1, d2, F1, F2, d, h1, h2, e, af⟩
  unfold dMod at e
  split at e
  · split at e
    · rename_i hl
      cases e
      rw [rInt' h1] at rx
      rw [rInt' h2] at ry
      exact op_mod pins s σ H _ _ v u Q I rx ry ⟨_, _, rfl, rfl, hl, af.scal rInt⟩
    · cases e
  · cases e
theorem o_pow : OpR X (binaryOp .Pow) (rD2 X.K cls dPow) := by
  rintro pins s σ H x y v u Q I rx ry ⟨d1, d2, F1, F2, d, h1, h2, e, af⟩
  unfold dPow at e
  split at e
  · split at e
    · rename_i hl
      cases e
      simp only [Bool.and_eq_true, decide_eq_true_eq] at hl
      rw [rInt' h1] at rx
      rw [rInt' h2] at ry
      have := small64_of hl.2
      exact op_pow pins s σ H _ _ v u Q I rx ry ⟨_, _, rfl, rfl, ⟨hl.1.1, by omega, by omega⟩, af.scal rInt⟩
    · cases e
  · cases e
theorem o_neg : UnR X (unaryOp .USub) (rD1 X.K cls dNeg) := by
  rintro pins s σ H x v Q I rx ⟨d1, F1, d, h1, e, af⟩
  unfold dNeg at e
  split at e
  · cases e
    rw [rInt' h1] at rx
    exact un_neg pins s σ H _ v Q I rx ⟨_, rfl, af.scal rInt⟩
  · cases e
end Bv
end

section
/-! == and != of data. -/
namespace Bv
open PySem PySem.Spec PyProof.Rows L2
variable {cls : Nat → Addr} {X : Cx}

/-- the value of a key -/
def dget : List (D × D) → D → Option D
  | [], _ => none
  | (k, v) :: r, q => if k = q then some v else dget r q
def deqL (f : D → D → Option Bool) : List D → List D → Option Bool
  | x :: r, y :: t => match f x y, deqL f r t with
    | some a, some b => some (a && b)
    | _, _ => none
  | _, _ => some true
def deqK (f : D → D → Option Bool) (o : List (D × D)) : List (D × D) → Option Bool
  | [] => some true
  | (k, v) :: r => match dget o k with
    | none => (deqK f o r).map fun _ => false
    | some y => match f v y, deqK f o r with
      | some a, some b => some (a && b)
      | _, _ => none
/-- int and text keys alone -/
def keysOk : List (D × D) → Bool
  | [] => true
  | (k, _) :: r => (toKey k).isSome && keysOk r
def deq : Nat → D → D → Option Bool
  | 0, _, _ => none
  | n + 1, x, y => match x, y with
    | .non, .non => some true
    | .non, .bl _ => some false
    | .non, .int _ => some false
    | .non, .str _ => some false
    | .non, .tup _ => some false
    | .non, .lst _ => some false
    | .bl _, .non => some false
    | .bl a, .bl b => some (a == b)
    | .bl a, .int b => some ((if a then 1 else 0) == b)
    | .bl _, .str _ => some false
    | .bl _, .tup _ => some false
    | .bl _, .lst _ => some false
    | .int _, .non => some false
    | .int a, .bl b => some (a == (if b then 1 else 0))
    | .int a, .int b => some (decide (a = b))
    | .int _, .str _ => some false
    | .int _, .tup _ => some false
    | .int _, .lst _ => some false
    | .str _, .non => some false
    | .str _, .bl _ => some false
    | .str _, .int _ => some false
    | .str a, .str b => some (a == b)
    | .str _, .tup _ => some false
    | .str _, .lst _ => some false
    | .tup _, .non => some false
    | .tup _, .bl _ => some false
    | .tup _, .int _ => some false
    | .tup _, .str _ => some false
    | .tup a, .tup b => (deqL (deq n) a b).map fun r => r && a.length == b.length
    | .tup _, .lst _ => some false
    | .lst _, .non => some false
    | .lst _, .bl _ => some false
    | .lst _, .int _ => some false
    | .lst _, .str _ => some false
    | .lst _, .tup _ => some false
    | .lst a, .lst b => if a.length = b.length then deqL (deq n) a b else some false
    | .dct a, .dct b => if a.isEmpty || b.isEmpty then some (a.isEmpty && b.isEmpty) else if keysOk a && keysOk b then (deqK (deq n) b a).map fun r => a.length == b.length && r else none
    | _, _ => none

/-! what stands at a value is one thing -/
theorem Rd.inj {H : Hp} {a : Addr} {u w : HO} (nf : ∀ o x, u ≠ .frz o x) (nf' : ∀ o x, w ≠ .frz o x) (h : Rd H a u) (g : Rd H a w) : u = w := by
  rcases h with h | ⟨o, h⟩ <;> rcases g with g | ⟨o', g⟩ <;> rw [h] at g <;> cases g
  · rfl
  · exact absurd rfl (nf _ _)
  · exact absurd rfl (nf' _ _)
  · rfl
section
variable {K : PySem.W.Frag} {H : Hp}
theorem zip_inj {α β : Type} : ∀ {a b : List α} {c d : List β}, a.length = c.length → b.length = d.length → a.zip c = b.zip d → a = b ∧ c = d
  | [], [], [], [], _, _, _ => ⟨rfl, rfl⟩
  | [], [], _ :: _, _, h, _, _ => by simp at h
  | [], [], [], _ :: _, _, h, _ => by simp at h
  | [], _ :: _, [], [], _, h, _ => by simp at h
  | [], _ :: _, [], _ :: _, _, _, h => by simp at h
  | [], _ :: _, _ :: _, _, h, _, _ => by simp at h
  | _ :: _, [], [], _, h, _, _ => by simp at h
  | _ :: _, [], _ :: _, [], _, _, h => by simp at h
  | _ :: _, [], _ :: _, _ :: _, _, h, _ => by simp at h
  | _ :: _, _ :: _, [], _, h, _, _ => by simp at h
  | _ :: _, _ :: _, _ :: _, [], _, h, _ => by simp at h
  | x :: a, y :: b, z :: c, w :: d, h1, h2, h3 => by
    rw [List.zip_cons_cons, List.zip_cons_cons, List.cons.injEq, Prod.mk.injEq] at h3
    obtain ⟨e1, e2⟩ := zip_inj (by simpa using h1) (by simpa using h2) h3.2
    exact ⟨by rw [h3.1.1, e1], by rw [h3.1.2, e2]⟩
theorem DictH.inj {a : Addr} {k1 k2 : List D} {v1 v2 : List V} (h : DictH H a k1 v1) (g : DictH H a k2 v2) : k1 = k2 ∧ v1 = v2 := by
  obtain ⟨_, h⟩ := h
  obtain ⟨_, g⟩ := g
  rcases h with ⟨ks, rfl, l1, h⟩ | ⟨ks, rfl, l1, h⟩ <;> rcases g with ⟨ls, rfl, l2, g⟩ | ⟨ls, rfl, l2, g⟩
  · have e := Rd.inj (fun _ _ z => by cases z) (fun _ _ z => by cases z) h g
    obtain ⟨e1, e2⟩ := zip_inj l1 l2 (HO.dK.inj e)
    exact ⟨by rw [e1], e2⟩
  · have e := Rd.inj (fun _ _ z => by cases z) (fun _ _ z => by cases z) h g
    cases e
  · have e := Rd.inj (fun _ _ z => by cases z) (fun _ _ z => by cases z) h g
    cases e
  · have e := Rd.inj (fun _ _ z => by cases z) (fun _ _ z => by cases z) h g
    obtain ⟨e1, e2⟩ := zip_inj l1 l2 (HO.dT.inj e)
    exact ⟨by rw [e1], e2⟩
end
section
variable {pins : List (Addr × Obj)} {σ : L2.St} {H : Hp} {s : Shared}
theorem deqL_same {f : D → D → Option Bool} {K : PySem.W.Frag} (ih : ∀ x y v F G b, f x y = some b → Rep K cls H x v F → Rep K cls H y v G → b = true) :
    ∀ {a c : List D} {vs : List V} {F G : List Addr} {b : Bool}, deqL f a c = some b → Reps K cls H a vs F → Reps K cls H c vs G → b = true
  | [], c, _, _, _, b, h, _, _ => by
    cases c <;> (unfold deqL at h; cases h; rfl)
  | x :: a, [], vs, F, G, b, h, r, q => by
    have := r.length.trans q.length.symm
    simp at this
  | x :: a, y :: c, vs, F, G, b, h, r, q => by
    obtain ⟨v, vr, F1, F2, rfl, rfl, r1, r2⟩ := r.uncons
    obtain ⟨v', vr', G1, G2, e, rfl, q1, q2⟩ := q.uncons
    cases e
    unfold deqL at h
    split at h
    · rename_i b1 b2 e1 e2
      cases h
      rw [ih _ _ _ _ _ _ e1 r1 q1, deqL_same ih e2 r2 q2]
      rfl
    · cases h
theorem dget_mem : ∀ {o : List (D × D)} {k v : D}, dget o k = some v → (k, v) ∈ o
  | [], _, _, h => by cases h
  | (q, w) :: r, k, v, h => by
    unfold dget at h
    split at h
    · rename_i e; cases h; subst e; exact List.mem_cons_self
    · exact List.mem_cons_of_mem _ (dget_mem h)
theorem dget_of : ∀ {o : List (D × D)} {k v : D}, (o.map Prod.fst).Nodup → (k, v) ∈ o → dget o k = some v
  | (q, w) :: r, k, v, nd, h => by
    rw [List.map_cons, List.nodup_cons] at nd
    unfold dget
    rcases List.mem_cons.mp h with e | h
    · cases e; rw [if_pos rfl]
    · rw [if_neg (fun e => nd.1 (List.mem_map.mpr ⟨(k, v), h, e.symm⟩))]
      exact dget_of nd.2 h
theorem split_zip {ks : List Key} : ∀ {vs : List V} {ws : List (Key × Value)}, ks.length = vs.length → KV (ks.zip vs) ws → ∃ us, ws = ks.zip us ∧ Vals vs us := by
  induction ks with
  | nil =>
    intro vs ws e h
    cases vs with
    | nil => cases h; exact ⟨[], rfl, .nil⟩
    | cons _ _ => simp at e
  | cons k ks ih =>
    intro vs ws e h
    cases vs with
    | nil => simp at e
    | cons v vs =>
      cases h with
      | cons h1 h2 =>
        obtain ⟨us, rfl, q⟩ := ih (by simpa using e) h2
        rename_i p
        obtain ⟨pk, pv⟩ := p
        obtain ⟨e1, e2⟩ := h1
        have e1 : k = pk := e1
        subst e1
        exact ⟨pv :: us, rfl, .cons e2 q⟩
/-- a dict of int and text keys, in the state's own heap -/
theorem dictOf (I : Inv X pins σ H s) {a : Addr} {kvs : List (D × D)} {vs : List V} (h : DictH H a (kvs.map Prod.fst) vs) (ko : keysOk kvs = true) (ne : kvs ≠ []) :
    ∃ (ks : List Key) (us : List Value), kvs.map Prod.fst = ks.map keyD ∧ ks.length = vs.length ∧ Vals vs us ∧ (a == sysModules) = false ∧ s.heap.DictOf (mixKind X.prog X.w) a (ks.zip us) ∧ ks.Nodup := by
  obtain ⟨_, h⟩ := h
  rcases h with ⟨ks, e1, e2, r⟩ | ⟨ks, e1, e2, r⟩
  · obtain ⟨_, na, ws, kv, dd⟩ := dk_rd I.hok r
    obtain ⟨us, e3, q⟩ := split_zip e2 kv
    subst e3
    obtain ⟨_, _, _, _, _, _, _, _, nd⟩ := id dd
    have e4 : (ks.zip us).map (·.1) = ks := List.map_fst_zip (Nat.le_of_eq (e2.trans q.length))
    rw [e4] at nd
    exact ⟨ks, us, e1, e2, q, na, dd, nd⟩
  · cases kvs with
    | nil => exact absurd rfl ne
    | cons p kr =>
      exfalso
      obtain ⟨k, d⟩ := p
      unfold keysOk at ko
      rw [Bool.and_eq_true] at ko
      cases ks with
      | nil => simp at e1
      | cons t ts =>
        have : k = keysD t := by simpa using (List.cons.inj e1).1
        rw [this] at ko
        unfold keysD at ko
        simp [toKey] at ko
/-- the dict's own object -/
theorem dictRaw (I : Inv X pins σ H s) {a : Addr} {keys : List D} {vs : List V} (h : DictH H a keys vs) : (a == sysModules) = false ∧ ∃ o es ep, s.heap.get? a = some o ∧ o.ExactDict ∧ o.data = .dict es ep ∧ es.size = keys.length := by
  obtain ⟨_, h⟩ := h
  rcases h with ⟨ks, rfl, e2, r⟩ | ⟨ks, rfl, e2, r⟩
  · obtain ⟨_, na, ws, kv, dd⟩ := dk_rd I.hok r
    obtain ⟨o, es, ep, h1, h2, h3, _, h4, _⟩ := id dd
    have l1 := kv.length
    have l2 := h4.length
    rw [List.length_zip] at l1
    refine ⟨na, o, es, ep, h1, h2, h3, ?_⟩
    rw [Array.length_toList] at l2
    rw [List.length_map]
    omega
  · obtain ⟨_, na, xs, kv, dd⟩ := dt_rd I.hok r
    obtain ⟨o, es, ep, h1, h2, h3, h4, _⟩ := id dd
    have l1 : (ks.zip vs).length = xs.length := Paired.length kv
    have l2 := congrArg List.length h4
    rw [List.length_zip] at l1
    rw [List.length_map, Array.length_toList] at l2
    refine ⟨na, o, es, ep, h1, h2, h3, ?_⟩
    rw [List.length_map]
    omega
/-- the comparison of two dicts by what samePairs answers -/
theorem dict_eq {prog : Program} {w : World} {A : Around} {a b : Addr} {r : Bool} {Q : Value → Shared → Prop} {E : Value → Shared → Prop} (ta : s.TypeIs (.ref a) "dict") (tb : s.TypeIs (.ref b) "dict") (hu : A.units < cLine)
    (key : ∀ nm : String, wpAny (model prog w) A.in1 (Builtin.Dict.samePairs nm a b) (fun k s' => k = r ∧ s' = s) (fun _ _ => False) s) (h : Q (.bool r) s) : wpAny (model prog w) A (richCompare .Eq (.ref a) (.ref b)) Q E s := by
  refine wpAny_richCompare_same_room (op := .Eq) ta tb PySem.F.slot_dict_eq (wpAny_call_entry PySem.F.slot_dict_eq ta PySem.F.entry_dict_eq ?_ (PySem.F.args_dict_eq_2 _ _)) hu
  show wpAny _ _ (Builtin.Dict.dictSlotArgs "__eq__" ⟨[.ref a, .ref b], []⟩ >>= _) _ _ s
  refine wpAny_bind ?_
  unfold Builtin.Dict.dictSlotArgs
  refine wpAny_bind (wpAny_notOrdered_dict ta ?_)
  show wpAny _ _ (pure (Value.ref a, Value.ref b)) _ _ s
  refine wpAny_pure ?_
  refine wpAny_bind (wpAny_isInstance (T := "dict") tb PySem.F.sub_dict_dict ?_)
  simp only [Bool.not_true, Bool.false_eq_true, if_false]
  refine wpAny_bind (wpAny_pure (wpAny_bind (wpAny_pure ?_)))
  refine wpAny_bind (wpAny_mono (key _) (fun k s' hk => ?_) fun _ _ z => z.elim)
  obtain ⟨rfl, rfl⟩ := hk
  refine wpAny_pure ⟨_, rfl, ?_, ?_⟩
  · exact fun x => nomatch x
  · simpa using h
theorem dict_ne {prog : Program} {w : World} {A : Around} {a b : Addr} {r : Bool} {Q : Value → Shared → Prop} {E : Value → Shared → Prop} (ta : s.TypeIs (.ref a) "dict") (tb : s.TypeIs (.ref b) "dict") (hu : A.units < cLine)
    (key : ∀ nm : String, wpAny (model prog w) A.in1 (Builtin.Dict.samePairs nm a b) (fun k s' => k = r ∧ s' = s) (fun _ _ => False) s) (h : Q (.bool (!r)) s) : wpAny (model prog w) A (richCompare .NotEq (.ref a) (.ref b)) Q E s := by
  refine wpAny_richCompare_same_room (op := .NotEq) ta tb PySem.F.slot_dict_ne (wpAny_call_entry PySem.F.slot_dict_ne ta PySem.F.entry_dict_ne ?_ (PySem.F.args_dict_ne_2 _ _)) hu
  show wpAny _ _ (Builtin.Dict.dictSlotArgs "__ne__" ⟨[.ref a, .ref b], []⟩ >>= _) _ _ s
  refine wpAny_bind ?_
  unfold Builtin.Dict.dictSlotArgs
  refine wpAny_bind (wpAny_notOrdered_dict ta ?_)
  show wpAny _ _ (pure (Value.ref a, Value.ref b)) _ _ s
  refine wpAny_pure ?_
  refine wpAny_bind (wpAny_isInstance (T := "dict") tb PySem.F.sub_dict_dict ?_)
  simp only [Bool.not_true, Bool.false_eq_true, if_false]
  refine wpAny_bind (wpAny_pure (wpAny_bind (wpAny_pure ?_)))
  refine wpAny_bind (wpAny_mono (key _) (fun k s' hk => ?_) fun _ _ z => z.elim)
  obtain ⟨rfl, rfl⟩ := hk
  refine wpAny_pure ⟨_, rfl, ?_, ?_⟩
  · exact fun x => nomatch x
  · simpa using h
/-- two dicts, one of them empty -/
theorem same_raw {prog : Program} {w : World} {A : Around} {a b : Addr} {oa ob : Obj} {es es' : Array DictEntry} {ep ep' : Nat} (ha : (a == sysModules) = false) (hb : (b == sysModules) = false)
    (hoa : s.heap.get? a = some oa) (hda : oa.data = .dict es ep) (hob : s.heap.get? b = some ob) (hdb : ob.data = .dict es' ep') (hz : es.size = 0 ∨ es'.size = 0) (nm : String) :
    wpAny (model prog w) A (Builtin.Dict.samePairs nm a b) (fun k s' => k = (es.size == es'.size) ∧ s' = s) (fun _ _ => False) s := by
  unfold Builtin.Dict.samePairs Builtin.Dict.showsAll
  rw [if_neg (show ¬ (a == sysModules) = true by rw [ha]; exact Bool.false_ne_true), if_neg (show ¬ (b == sysModules) = true by rw [hb]; exact Bool.false_ne_true)]
  refine wpAny_bind (wpAny_pure (wpAny_bind (wpAny_pure ?_)))
  refine wpAny_bind (wpAny_dictEntries hoa hda ?_)
  dsimp only
  refine wpAny_bind (wpAny_dictEntries hob hdb ?_)
  by_cases hsz : es.size = es'.size
  · rw [if_neg (by rw [hsz]; simp)]
    have z : es.size = 0 := by omega
    refine wpAny_bind (wpAny_dictEpoch hoa hda ?_)
    rw [z]
    refine wpAny_bind ?_
    rw [Std.Legacy.Range.forIn_eq_forIn_range']
    simp only [Std.Legacy.Range.size, Nat.sub_zero, Nat.add_sub_cancel, Nat.div_one]
    refine wpAny_pure ?_
    exact wpAny_pure ⟨by rw [← hsz, z]; rfl, rfl⟩
  · rw [if_pos (by simpa using hsz)]
    exact wpAny_bind (wpAny_rule (wpAny_pure ⟨by simpa using hsz, rfl⟩))
theorem deqK_same {f : D → D → Option Bool} {K : PySem.W.Frag} (ih : ∀ x y v F G b, f x y = some b → Rep K cls H x v F → Rep K cls H y v G → b = true) {o : List (D × D)} :
    ∀ {a : List (D × D)} {vs : List V} {F : List Addr} {b : Bool}, deqK f o a = some b → RepV K cls H a vs F → (∀ (i : Nat) (k d : D) (v : V), a[i]? = some (k, d) → vs[i]? = some v → ∃ y G, dget o k = some y ∧ Rep K cls H y v G) → b = true
  | [], _, _, b, h, _, _ => by unfold deqK at h; cases h; rfl
  | (k, x) :: a, vs, F, b, h, r, q => by
    unfold RepV at r
    obtain ⟨v, vr, F1, F2, rfl, rfl, r1, r2⟩ := r
    obtain ⟨y, G, e, ry⟩ := q 0 k x v rfl rfl
    unfold deqK at h
    rw [e] at h
    dsimp only at h
    split at h
    · rename_i b1 b2 e1 e2
      cases h
      rw [ih _ _ _ _ _ _ e1 r1 ry, deqK_same ih e2 r2 fun i k' d' v' h1 h2 => q (i + 1) k' d' v' (by simpa using h1) (by simpa using h2)]
      rfl
    · cases h
theorem RepV.get {K : PySem.W.Frag} : ∀ {a : List (D × D)} {vs : List V} {F : List Addr} {i : Nat} {k d : D} {v : V}, RepV K cls H a vs F → a[i]? = some (k, d) → vs[i]? = some v → ∃ G, Rep K cls H d v G
  | [], _, _, _, _, _, _, _, h, _ => by simp at h
  | (k, x) :: a, vs, F, i, k', d, v, r, h, g => by
    unfold RepV at r
    obtain ⟨w, vr, F1, F2, rfl, rfl, r1, r2⟩ := r
    cases i with
    | zero =>
      simp at h g
      obtain ⟨_, rfl⟩ := h
      subst g
      exact ⟨F1, r1⟩
    | succ i => exact r2.get (by simpa using h) (by simpa using g)
theorem tup_lst (I : Inv X pins σ H s) {x y : List D} {v : V} {F G : List Addr} (r : Rep X.K cls H (.tup x) v F) (q : Rep X.K cls H (.lst y) v G) : False := by
  obtain ⟨a, vs, rfl, t, _⟩ := rTup' r
  obtain ⟨b, us, _, e, _, t2, _⟩ := rLst' q
  cases e
  obtain ⟨its, _, p, _⟩ := I.tuple t
  obtain ⟨_, its2, n, _, e2⟩ := I.hok a _ t2
  obtain ⟨o, e3, c, _⟩ := p
  rw [e2] at e3
  cases e3
  have c : Value.type "list" = Value.type "tuple" := c
  have := Value.type.inj c
  revert this
  decide
theorem dct_ref {K : PySem.W.Frag} {kvs : List (D × D)} {v : V} {F : List Addr} (r : Rep K cls H (.dct kvs) v F) : ∃ a vs G, v = .ref a ∧ F = a :: G ∧ DictH H a (kvs.map Prod.fst) vs ∧ RepV K cls H kvs vs G := by unfold Rep at r; exact r
theorem nd_keys {ks : List Key} (h : ks.Nodup) : (ks.map keyD).Nodup := by
  induction ks with
  | nil => exact List.nodup_nil
  | cons k r ih =>
    rw [List.nodup_cons] at h
    rw [List.map_cons, List.nodup_cons]
    refine ⟨fun m => ?_, ih h.2⟩
    obtain ⟨k', m', e⟩ := List.mem_map.mp m
    rw [keyD_inj e] at m'
    exact h.1 m'
/-- which value data has, by its kind -/
def kindV : D → V → Prop
  | .non, v => v = .non
  | .bl b, v => v = .bl b
  | .int i, v => v = .int i
  | .str x, v => v = .str (S' x)
  | _, v => ∃ a, v = .ref a
theorem Rep.kind {K : PySem.W.Frag} : ∀ {d : D} {v : V} {F : List Addr}, Rep K cls H d v F → kindV d v
  | .non, _, _, h => rNon' h
  | .bl _, _, _, h => rBl' h
  | .int _, _, _, h => rInt' h
  | .str _, _, _, h => (rStr' h).1
  | .tup _, _, _, h => let ⟨a, _, e, _⟩ := rTup' h; ⟨a, e⟩
  | .lst _, _, _, h => let ⟨a, _, _, e, _⟩ := rLst' h; ⟨a, e⟩
  | .dct _, _, _, h => let ⟨a, _, _, e, _⟩ := dct_ref h; ⟨a, e⟩
  | .ins _ _, _, _, h => by unfold Rep at h; obtain ⟨a, _, _, _, e, _⟩ := h; exact ⟨a, e⟩
theorem beq_self {α : Type} [BEq α] [LawfulBEq α] (a : α) : (a == a) = true := by simp
theorem SqT.eq (I : Inv X pins σ H s) {a : Addr} {vs us : List V} (h : SqT X.K H a vs) (g : SqT X.K H a us) : vs = us := I.tuple_inj h g
/-- what is one and the same is equal -/
theorem deq_same (I : Inv X pins σ H s) : ∀ (n : Nat) (x y : D) (v : V) (F G : List Addr) (b : Bool), deq n x y = some b → Rep X.K cls H x v F → Rep X.K cls H y v G → b = true
  | 0, x, y, _, _, _, _, h, _, _ => by unfold deq at h; cases h
  | n + 1, x, y, v, F, G, b, h, r, q => by
    have ih := deq_same I n
    have kx := r.kind
    have ky := q.kind
    unfold deq at h
    cases x <;> cases y
    all_goals first
      | (cases h; done)
      | (simp only [kindV] at kx ky; subst kx; cases ky; done)
      | (simp only [kindV] at kx ky; obtain ⟨_, rfl⟩ := kx; cases ky; done)
      | (simp only [kindV] at kx ky; obtain ⟨_, rfl⟩ := ky; cases kx; done)
      | (exact absurd (tup_lst I r q) id)
      | (exact absurd (tup_lst I q r) id)
      | (cases h; rfl)
      | skip
    case bl.bl a c =>
      have h : some (a == c) = some b := h
      have e : V.bl a = V.bl c := kx.symm.trans ky
      cases e
      cases h
      simp
    case int.int a c =>
      have h : some (decide (a = c)) = some b := h
      have e : V.int a = V.int c := kx.symm.trans ky
      cases e
      cases h
      simp
    case str.str a c =>
      have h : some (a == c) = some b := h
      have e : V.str (S' a) = V.str (S' c) := kx.symm.trans ky
      have e := S'_inj.mp (V.str.inj e)
      subst e
      cases h
      simp
    case tup.tup a c =>
      have h : (deqL (deq n) a c).map (fun r => r && a.length == c.length) = some b := h
      obtain ⟨p, vs, rfl, t1, r1⟩ := rTup' r
      obtain ⟨p2, us, e, t2, r2⟩ := rTup' q
      cases e
      have e := SqT.eq I t1 t2
      subst e
      cases e : deqL (deq n) a c with
      | none => rw [e] at h; cases h
      | some k =>
        rw [e] at h
        cases h
        rw [deqL_same ih e r1 r2, r1.length, r2.length]
        simp
    case lst.lst a c =>
      have h : (if a.length = c.length then deqL (deq n) a c else some false) = some b := h
      obtain ⟨p, vs, _, rfl, _, t1, r1⟩ := rLst' r
      obtain ⟨p2, us, _, e, _, t2, r2⟩ := rLst' q
      cases e
      rw [t1] at t2
      cases t2
      rw [if_pos (r1.length.trans r2.length.symm)] at h
      exact deqL_same ih h r1 r2
    case dct.dct a c =>
      have h : (if a.isEmpty || c.isEmpty then some (a.isEmpty && c.isEmpty) else if keysOk a && keysOk c then (deqK (deq n) c a).map fun r => a.length == c.length && r else none) = some b := h
      obtain ⟨p, vs, _, rfl, _, t1, r1⟩ := dct_ref r
      obtain ⟨p2, us, _, e, _, t2, r2⟩ := dct_ref q
      cases e
      obtain ⟨ek, ev⟩ := t1.inj t2
      subst ev
      have el : a.length = c.length := by
        have := congrArg List.length ek
        simpa using this
      split at h
      · rename_i z
        cases h
        rw [Bool.or_eq_true] at z
        have ha : a.isEmpty = c.isEmpty := by
          cases a <;> cases c <;> simp at el ⊢
        rw [ha] at z ⊢
        rcases z with z | z <;> rw [z] <;> rfl
      · rename_i z
        split at h
        · rename_i ko
          rw [Bool.and_eq_true] at ko
          have hne : c ≠ [] := fun e => z (by subst e; simp)
          obtain ⟨ks, us, e1, e2, _, _, _, nd⟩ := dictOf I t2 ko.2 hne
          have ndc : (c.map Prod.fst).Nodup := by
            rw [e1]
            exact nd_keys nd
          cases e : deqK (deq n) c a with
          | none => rw [e] at h; cases h
          | some k =>
            rw [e] at h
            cases h
            rw [deqK_same ih e r1 fun i k' d' v' h1 h2 => ?_, el]
            · simp
            · have hi : i < c.length := by rw [← el]; exact (List.getElem?_eq_some_iff.mp h1).1
              have hk : (c.map Prod.fst)[i]? = some k' := by rw [← ek, List.getElem?_map, h1]; rfl
              rw [List.getElem?_map, List.getElem?_eq_getElem hi] at hk
              have ek' : c[i].1 = k' := by simpa using hk
              have hc : c[i]? = some (k', c[i].2) := by rw [List.getElem?_eq_getElem hi, ← ek']
              obtain ⟨G, rr⟩ := r2.get hc h2
              exact ⟨c[i].2, G, dget_of ndc (List.mem_of_getElem? hc), rr⟩
        · cases h
theorem deqL_get {f : D → D → Option Bool} : ∀ {a c : List D} {b : Bool}, deqL f a c = some b → (∀ (j : Nat) (x y : D), a[j]? = some x → c[j]? = some y → (f x y).isSome = true) ∧ b = (List.range (min a.length c.length)).all fun j => (match a[j]?, c[j]? with
    | some x, some y => (f x y).getD false
    | _, _ => false)
  | [], c, b, h => by
    cases c <;> (unfold deqL at h; cases h; exact ⟨fun j x y e => by simp at e, by simp⟩)
  | x :: a, [], b, h => by
    unfold deqL at h
    cases h
    exact ⟨fun j x y _ e => by simp at e, by simp⟩
  | x :: a, y :: c, b, h => by
    unfold deqL at h
    split at h
    · rename_i b1 b2 e1 e2
      cases h
      obtain ⟨h1, h2⟩ := deqL_get e2
      refine ⟨fun j x' y' ex ey => ?_, ?_⟩
      · cases j with
        | zero =>
          simp at ex ey
          subst ex ey
          rw [e1]; rfl
        | succ j => exact h1 j x' y' (by simpa using ex) (by simpa using ey)
      · rw [h2]
        rw [List.length_cons, List.length_cons, Nat.succ_min_succ, List.range_succ_eq_map, List.all_cons, List.all_map]
        simp only [List.getElem?_cons_zero, e1, Option.getD_some]
        congr 1
    · cases h
theorem vget {vs : List V} {us : List Value} (r : Vals vs us) {j : Nat} (h : j < us.toArray.size) : ∃ v, vs[j]? = some v ∧ RelV v us.toArray[j] := by
  have hj : j < us.length := by simpa using h
  have hv : j < vs.length := by rw [r.length]; exact hj
  obtain ⟨u, e, q⟩ := r.get (List.getElem?_eq_getElem hv)
  rw [List.getElem?_eq_getElem hj] at e
  cases e
  exact ⟨vs[j], List.getElem?_eq_getElem hv, by simpa using q⟩
theorem Reps.get_ {K : PySem.W.Frag} {ds : List D} {vs : List V} {F : List Addr} (r : Reps K cls H ds vs F) {j : Nat} {v : V} (h : vs[j]? = some v) : ∃ d G, ds[j]? = some d ∧ Rep K cls H d v G := by
  have hj : j < ds.length := by rw [r.length]; exact (List.getElem?_eq_some_iff.mp h).1
  obtain ⟨w, A, G, B, e1, _, e3, _, _⟩ := r.at_ (List.getElem?_eq_getElem hj)
  rw [h] at e1
  cases e1
  exact ⟨ds[j], G, List.getElem?_eq_getElem hj, e3⟩
theorem vget' {vs : List V} {us : List Value} (r : Vals vs us) {j : Nat} {u : Value} (h : us[j]? = some u) : ∃ v, vs[j]? = some v ∧ RelV v u := by
  obtain ⟨hj, e⟩ := List.getElem?_eq_some_iff.mp h
  have hv : j < vs.length := by rw [r.length]; exact hj
  obtain ⟨u', e', q⟩ := r.get (List.getElem?_eq_getElem hv)
  rw [h] at e'
  cases e'
  exact ⟨vs[j], List.getElem?_eq_getElem hv, q⟩
theorem deqK_get {f : D → D → Option Bool} {o : List (D × D)} : ∀ {a : List (D × D)} {b : Bool}, deqK f o a = some b → (∀ k v, (k, v) ∈ a → ∀ y, dget o k = some y → (f v y).isSome = true) ∧ b = a.all fun p => (match dget o p.1 with
    | none => false
    | some y => (f p.2 y).getD false)
  | [], b, h => by unfold deqK at h; cases h; exact ⟨(fun k v m => by cases m), rfl⟩
  | (k, x) :: a, b, h => by
    unfold deqK at h
    cases e : dget o k with
    | none =>
      rw [e] at h
      dsimp only at h
      cases e2 : deqK f o a with
      | none => rw [e2] at h; cases h
      | some b' =>
        rw [e2] at h
        cases h
        obtain ⟨h1, _⟩ := deqK_get e2
        refine ⟨fun k' v' m y hy => ?_, by rw [List.all_cons]; simp only [e]; rfl⟩
        rcases List.mem_cons.mp m with z | m
        · cases z; rw [e] at hy; cases hy
        · exact h1 k' v' m y hy
    | some y =>
      rw [e] at h
      dsimp only at h
      split at h
      · rename_i b1 b2 e1 e2
        cases h
        obtain ⟨h1, h2⟩ := deqK_get e2
        refine ⟨fun k' v' m y' hy => ?_, by rw [List.all_cons, h2]; simp only [e, e1]; rfl⟩
        rcases List.mem_cons.mp m with z | m
        · cases z; rw [e] at hy; cases hy; rw [e1]; rfl
        · exact h1 k' v' m y' hy
      · cases h
/-- what two dicts' values of one key answer -/
def eK (f : D → D → Option Bool) (a c : List (D × D)) (q : Key) : Bool := match dget a (keyD q), dget c (keyD q) with
  | some v, some y => (f v y).getD false
  | _, _ => false
theorem all_fst {α β : Type} (g : α → Bool) : ∀ {ks : List α} {us : List β}, ks.length = us.length → ((ks.zip us).all fun p => g p.1) = ks.all g
  | [], us, _ => by simp
  | k :: ks, [], h => by simp at h
  | k :: ks, u :: us, h => by rw [List.zip_cons_cons, List.all_cons, List.all_cons, all_fst g (by simpa using h)]
theorem all_congr {α : Type} {g h : α → Bool} : ∀ {l : List α}, (∀ x ∈ l, g x = h x) → l.all g = l.all h
  | [], _ => rfl
  | x :: l, e => by rw [List.all_cons, List.all_cons, e x List.mem_cons_self, all_congr fun y m => e y (List.mem_cons_of_mem _ m)]
theorem all_keys {a : List (D × D)} {ks : List Key} (nd : (a.map Prod.fst).Nodup) (e : a.map Prod.fst = ks.map keyD) (g : D → D → Bool) : (a.all fun p => g p.1 p.2) = ks.all fun q => (match dget a (keyD q) with
    | some v => g (keyD q) v
    | none => false) := by
  have h1 : (a.all fun p => g p.1 p.2) = a.all fun p => (match dget a p.1 with
    | some v => g p.1 v
    | none => false) := all_congr fun p m => by rw [dget_of nd (show (p.1, p.2) ∈ a from m)]
  have h2 : (a.all fun p => (match dget a p.1 with
    | some v => g p.1 v
    | none => false)) = (a.map Prod.fst).all fun q => (match dget a q with
    | some v => g q v
    | none => false) := by rw [List.all_map]; rfl
  rw [h1, h2, e, List.all_map]
  rfl
theorem vat : ∀ {ls : List Key} {us : List Value} {c : List (D × D)}, c.map Prod.fst = ls.map keyD → ls.length = us.length → ∀ k : Key, (valueAt (ls.zip us) k = none ∧ dget c (keyD k) = none) ∨
    ∃ (j : Nat) (y : Value) (d : D), valueAt (ls.zip us) k = some y ∧ dget c (keyD k) = some d ∧ us[j]? = some y ∧ c[j]? = some (keyD k, d)
  | [], us, c, e, _, k => by
    cases c with
    | nil => exact .inl ⟨by simp [valueAt], rfl⟩
    | cons _ _ => simp at e
  | q :: ls, [], c, _, h, k => by simp at h
  | q :: ls, u :: us, c, e, h, k => by
    cases c with
    | nil => simp at e
    | cons p c =>
      obtain ⟨pk, pd⟩ := p
      rw [List.map_cons, List.map_cons, List.cons.injEq] at e
      obtain ⟨e1, e2⟩ := e
      have e1 : pk = keyD q := e1
      subst e1
      by_cases hq : q = k
      · subst hq
        refine .inr ⟨0, u, pd, ?_, ?_, rfl, rfl⟩
        · simp [valueAt, List.zip_cons_cons, List.find?_cons]
        · unfold dget; rw [if_pos rfl]
      · have hk : ¬ keyD q = keyD k := fun z => hq (keyD_inj z)
        have v1 : valueAt ((q :: ls).zip (u :: us)) k = valueAt (ls.zip us) k := by
          simp [valueAt, List.zip_cons_cons, List.find?_cons, hq]
        have v2 : dget ((keyD q, pd) :: c) (keyD k) = dget c (keyD k) := by
          rw [dget, if_neg hk]
        rw [v1, v2]
        rcases vat e2 (by simpa using h) k with w | ⟨j, y, d, w1, w2, w3, w4⟩
        · exact .inl w
        · exact .inr ⟨j + 1, y, d, w1, w2, by simpa using w3, by simpa using w4⟩
section
open SeqAt PySem.W
def Kids (X : Cx) (cls : Nat → Addr) (H : Hp) (s : Shared) (n : Nat) : Prop := ∀ (x y : D) (b : Bool) (v v' : V) (F G : List Addr) (u u' : Value), deq n x y = some b → Rep X.K cls H x v F → Rep X.K cls H y v' G → RelV v u → RelV v' u' → EqTree X.prog X.w s n u u' b
def eJ (f : D → D → Option Bool) (a c : List D) (j : Nat) : Bool := match a[j]?, c[j]? with
  | some x, some y => (f x y).getD false
  | _, _ => false
theorem seqKids {n : Nat} (ih : Kids X cls H s n) {a c : List D} {vs ws : List V} {us us' : List Value} {F G : List Addr} {k : Bool} (h : deqL (deq n) a c = some k) (r : Reps X.K cls H a vs F) (q : Reps X.K cls H c ws G) (rv : Vals vs us) (rw' : Vals ws us') :
    (∀ j (h1 : j < us.toArray.size) (h2 : j < us'.toArray.size), EqTree X.prog X.w s n us.toArray[j] us'.toArray[j] (eJ (deq n) a c j)) ∧ k = (List.range (min us.toArray.size us'.toArray.size)).all fun j => eJ (deq n) a c j := by
  obtain ⟨h1, h2⟩ := deqL_get h
  refine ⟨fun j j1 j2 => ?_, ?_⟩
  · obtain ⟨v1, e1, r1⟩ := vget rv j1
    obtain ⟨v2, e2, r2⟩ := vget rw' j2
    obtain ⟨d1, G1, e3, r3⟩ := r.get_ e1
    obtain ⟨d2, G2, e4, r4⟩ := q.get_ e2
    have := h1 j d1 d2 e3 e4
    cases e : deq n d1 d2 with
    | none => rw [e] at this; cases this
    | some k' =>
      unfold eJ
      rw [e3, e4]
      dsimp only
      rw [e]
      exact ih _ _ _ _ _ _ _ _ _ e r3 r4 r1 r2
  · rw [h2, r.length, q.length, rv.length, rw'.length]
    simp [eJ]
theorem dictKids (I : Inv X pins σ H s) {n : Nat} (ih : Kids X cls H s n) {p p' : Addr} {a c : List (D × D)} {vs ws : List V} {F G : List Addr} {k : Bool} (t1 : DictH H p (a.map Prod.fst) vs) (r1 : RepV X.K cls H a vs F) (t2 : DictH H p' (c.map Prod.fst) ws) (r2 : RepV X.K cls H c ws G)
    (z1 : a ≠ []) (z2 : c ≠ []) (ka : keysOk a = true) (kc : keysOk c = true) (e2 : deqK (deq n) c a = some k) : ∃ (va vb : List (Key × Value)), (p == sysModules) = false ∧ (p' == sysModules) = false ∧ s.heap.DictOf (mixKind X.prog X.w) p va ∧ s.heap.DictOf (mixKind X.prog X.w) p' vb ∧
      (∀ q val y, (q, val) ∈ va → valueAt vb q = some y → EqTree X.prog X.w s n val y (eK (deq n) a c q)) ∧ (a.length == c.length && k) = (va.length == vb.length && va.all fun p => (valueAt vb p.1).isSome && eK (deq n) a c p.1) := by
  obtain ⟨ks, us, k1, l1, rv, na, da, nd1⟩ := dictOf I t1 ka z1
  obtain ⟨ls, us', k2, l2, rw', nb, db, nd2⟩ := dictOf I t2 kc z2
  obtain ⟨g1, g2⟩ := deqK_get e2
  have nda : (a.map Prod.fst).Nodup := by rw [k1]; exact nd_keys nd1
  have ndc : (c.map Prod.fst).Nodup := by rw [k2]; exact nd_keys nd2
  have lu : ks.length = us.length := l1.trans rv.length
  have lu' : ls.length = us'.length := l2.trans rw'.length
  have ev : (a.length == c.length && k) = ((ks.zip us).length == (ls.zip us').length && (ks.zip us).all fun p => (valueAt (ls.zip us') p.1).isSome && eK (deq n) a c p.1) := by
    have la : a.length = ks.length := by have := congrArg List.length k1; simpa using this
    have lc : c.length = ls.length := by have := congrArg List.length k2; simpa using this
    rw [List.length_zip, List.length_zip, ← lu, ← lu', Nat.min_self, Nat.min_self, la, lc, g2]
    congr 1
    rw [all_fst (fun q => (valueAt (ls.zip us') q).isSome && eK (deq n) a c q) lu, all_keys nda k1 (fun q v => match dget c q with
      | none => false
      | some y => ((deq n) v y).getD false)]
    refine all_congr fun q _ => ?_
    unfold eK
    rcases vat k2 lu' q with ⟨w1, w2⟩ | ⟨j, y, d, w1, w2, _, _⟩
    · rw [w1, w2]
      cases dget a (keyD q) <;> rfl
    · rw [w1, w2]
      cases dget a (keyD q) <;> simp
  refine ⟨_, _, na, nb, da, db, fun q val y hm hv => ?_, ev⟩
  obtain ⟨i, hi⟩ := List.mem_iff_getElem?.mp hm
  rw [List.getElem?_zip_eq_some] at hi
  rcases vat k2 lu' q with ⟨w1, _⟩ | ⟨j, y', d', w1, w2, w3, w4⟩
  · rw [w1] at hv; cases hv
  · rw [w1] at hv
    cases hv
    have ha : (a.map Prod.fst)[i]? = some (keyD q) := by rw [k1, List.getElem?_map, hi.1]; rfl
    rw [List.getElem?_map] at ha
    cases ea : a[i]? with
    | none => rw [ea] at ha; cases ha
    | some pr =>
      rw [ea] at ha
      obtain ⟨pk, pd⟩ := pr
      have ep : pk = keyD q := by simpa using ha
      subst ep
      have dg : dget a (keyD q) = some pd := dget_of nda (List.mem_of_getElem? ea)
      obtain ⟨x1, hx1, rx1⟩ := vget' rv hi.2
      obtain ⟨x2, hx2, rx2⟩ := vget' rw' w3
      obtain ⟨G1, rr1⟩ := r1.get ea hx1
      obtain ⟨G2, rr2⟩ := r2.get w4 hx2
      have iss := g1 _ _ (List.mem_of_getElem? ea) _ w2
      unfold eK
      rw [dg, w2]
      cases ef : deq n pd d' with
      | none => rw [ef] at iss; cases iss
      | some kk =>
        dsimp only
        rw [ef]
        exact ih _ _ _ _ _ _ _ _ _ ef rr1 rr2 rx1 rx2
theorem eqTree (I : Inv X pins σ H s) : ∀ (n : Nat) (x y : D) (b : Bool) (v v' : V) (F G : List Addr) (u u' : Value), deq n x y = some b → Rep X.K cls H x v F → Rep X.K cls H y v' G → RelV v u → RelV v' u' → EqTree X.prog X.w s n u u' b
  | 0, _, _, _, _, _, _, _, _, _, h, _, _, _, _ => by unfold deq at h; cases h
  | n + 1, x, y, b, v, v', F, G, u, u', h, r, q, ru, ru' => by
    have ih := eqTree I n
    have same := deq_same (cls := cls) I (n + 1) x y
    unfold deq at h
    have kx := r.kind
    have ky := q.kind
    cases x <;> cases y
    all_goals first
      | (cases h; done)
      | skip
    case non.non =>
      cases (show v = V.non from kx)
      cases (show u = Value.none from ru)
      cases (show v' = V.non from ky)
      cases (show u' = Value.none from ru')
      cases h
      exact .leaf fun A hA => EqAt.same _
    case non.bl c =>
      cases (show v = V.non from kx)
      cases (show u = Value.none from ru)
      cases (show v' = V.bl c from ky)
      cases (show u' = Value.bool c from ru')
      cases h
      exact .leaf fun A hA => EqAt.none_bool _
    case non.int c =>
      cases (show v = V.non from kx)
      cases (show u = Value.none from ru)
      cases (show v' = V.int c from ky)
      obtain ⟨t', rfl⟩ := (show ∃ t, u' = Value.int c t from ru')
      cases h
      exact .leaf fun A hA => EqAt.none_int _ _
    case non.str c =>
      cases (show v = V.non from kx)
      cases (show u = Value.none from ru)
      cases (show v' = V.str (S' c) from ky)
      obtain ⟨t', rfl⟩ := (show ∃ t, u' = Value.str (S' c) t from ru')
      cases h
      exact .leaf fun A hA => EqAt.none_str _ _
    case non.tup c =>
      cases (show v = V.non from kx)
      cases (show u = Value.none from ru)
      obtain ⟨p', ws, rfl, t2, r2⟩ := rTup' q
      cases (show u' = Value.ref p' from ru')
      obtain ⟨us', rw', pl', _⟩ := I.tuple t2
      cases h
      exact .leaf fun A hA => EqAt.none_tuple pl' (by omega)
    case non.lst c =>
      cases (show v = V.non from kx)
      cases (show u = Value.none from ru)
      obtain ⟨p', ws, _, rfl, _, t2, r2⟩ := rLst' q
      cases (show u' = Value.ref p' from ru')
      obtain ⟨us', rw', pl', _⟩ := I.list (SqL.of t2)
      cases h
      exact .leaf fun A hA => EqAt.none_list pl'.isList (by omega)
    case bl.non a =>
      cases (show v = V.bl a from kx)
      cases (show u = Value.bool a from ru)
      cases (show v' = V.non from ky)
      cases (show u' = Value.none from ru')
      cases h
      exact .leaf fun A hA => EqAt.bool_none _
    case bl.bl a c =>
      cases (show v = V.bl a from kx)
      cases (show u = Value.bool a from ru)
      cases (show v' = V.bl c from ky)
      cases (show u' = Value.bool c from ru')
      cases h
      exact .leaf fun A hA => EqAt.bool_bool _ _
    case bl.int a c =>
      cases (show v = V.bl a from kx)
      cases (show u = Value.bool a from ru)
      cases (show v' = V.int c from ky)
      obtain ⟨t', rfl⟩ := (show ∃ t, u' = Value.int c t from ru')
      cases h
      exact .leaf fun A hA => EqAt.bool_int _ _ _
    case bl.str a c =>
      cases (show v = V.bl a from kx)
      cases (show u = Value.bool a from ru)
      cases (show v' = V.str (S' c) from ky)
      obtain ⟨t', rfl⟩ := (show ∃ t, u' = Value.str (S' c) t from ru')
      cases h
      exact .leaf fun A hA => EqAt.bool_str _ _ _
    case bl.tup a c =>
      cases (show v = V.bl a from kx)
      cases (show u = Value.bool a from ru)
      obtain ⟨p', ws, rfl, t2, r2⟩ := rTup' q
      cases (show u' = Value.ref p' from ru')
      obtain ⟨us', rw', pl', _⟩ := I.tuple t2
      cases h
      exact .leaf fun A hA => EqAt.bool_tuple _ pl' (by omega)
    case bl.lst a c =>
      cases (show v = V.bl a from kx)
      cases (show u = Value.bool a from ru)
      obtain ⟨p', ws, _, rfl, _, t2, r2⟩ := rLst' q
      cases (show u' = Value.ref p' from ru')
      obtain ⟨us', rw', pl', _⟩ := I.list (SqL.of t2)
      cases h
      exact .leaf fun A hA => EqAt.bool_list _ pl'.isList (by omega)
    case int.non a =>
      cases (show v = V.int a from kx)
      obtain ⟨t, rfl⟩ := (show ∃ t, u = Value.int a t from ru)
      cases (show v' = V.non from ky)
      cases (show u' = Value.none from ru')
      cases h
      exact .leaf fun A hA => EqAt.int_none _ _
    case int.bl a c =>
      cases (show v = V.int a from kx)
      obtain ⟨t, rfl⟩ := (show ∃ t, u = Value.int a t from ru)
      cases (show v' = V.bl c from ky)
      cases (show u' = Value.bool c from ru')
      cases h
      exact .leaf fun A hA => EqAt.int_bool _ _ _
    case int.int a c =>
      cases (show v = V.int a from kx)
      obtain ⟨t, rfl⟩ := (show ∃ t, u = Value.int a t from ru)
      cases (show v' = V.int c from ky)
      obtain ⟨t', rfl⟩ := (show ∃ t, u' = Value.int c t from ru')
      have h : some (decide (a = c)) = some b := h
      cases h
      rw [← Bool.beq_eq_decide_eq]
      exact .leaf fun A hA => EqAt.int_int _ _ _ _
    case int.str a c =>
      cases (show v = V.int a from kx)
      obtain ⟨t, rfl⟩ := (show ∃ t, u = Value.int a t from ru)
      cases (show v' = V.str (S' c) from ky)
      obtain ⟨t', rfl⟩ := (show ∃ t, u' = Value.str (S' c) t from ru')
      cases h
      exact .leaf fun A hA => EqAt.int_str _ _ _ _
    case int.tup a c =>
      cases (show v = V.int a from kx)
      obtain ⟨t, rfl⟩ := (show ∃ t, u = Value.int a t from ru)
      obtain ⟨p', ws, rfl, t2, r2⟩ := rTup' q
      cases (show u' = Value.ref p' from ru')
      obtain ⟨us', rw', pl', _⟩ := I.tuple t2
      cases h
      exact .leaf fun A hA => EqAt.int_tuple _ _ pl' (by omega)
    case int.lst a c =>
      cases (show v = V.int a from kx)
      obtain ⟨t, rfl⟩ := (show ∃ t, u = Value.int a t from ru)
      obtain ⟨p', ws, _, rfl, _, t2, r2⟩ := rLst' q
      cases (show u' = Value.ref p' from ru')
      obtain ⟨us', rw', pl', _⟩ := I.list (SqL.of t2)
      cases h
      exact .leaf fun A hA => EqAt.int_list _ _ pl'.isList (by omega)
    case str.non a =>
      cases (show v = V.str (S' a) from kx)
      obtain ⟨t, rfl⟩ := (show ∃ t, u = Value.str (S' a) t from ru)
      cases (show v' = V.non from ky)
      cases (show u' = Value.none from ru')
      cases h
      exact .leaf fun A hA => EqAt.str_none _ _
    case str.bl a c =>
      cases (show v = V.str (S' a) from kx)
      obtain ⟨t, rfl⟩ := (show ∃ t, u = Value.str (S' a) t from ru)
      cases (show v' = V.bl c from ky)
      cases (show u' = Value.bool c from ru')
      cases h
      exact .leaf fun A hA => EqAt.str_bool _ _ _
    case str.int a c =>
      cases (show v = V.str (S' a) from kx)
      obtain ⟨t, rfl⟩ := (show ∃ t, u = Value.str (S' a) t from ru)
      cases (show v' = V.int c from ky)
      obtain ⟨t', rfl⟩ := (show ∃ t, u' = Value.int c t from ru')
      cases h
      exact .leaf fun A hA => EqAt.str_int _ _ _ _
    case str.str a c =>
      cases (show v = V.str (S' a) from kx)
      obtain ⟨t, rfl⟩ := (show ∃ t, u = Value.str (S' a) t from ru)
      cases (show v' = V.str (S' c) from ky)
      obtain ⟨t', rfl⟩ := (show ∃ t, u' = Value.str (S' c) t from ru')
      have h : some (a == c) = some b := h
      cases h
      have e : (a == c) = (S' a == S' c) := by rw [Bool.eq_iff_iff]; simp [S'_inj]
      rw [e]
      exact .leaf fun A hA => EqAt.str_str _ _ _ _
    case str.tup a c =>
      cases (show v = V.str (S' a) from kx)
      obtain ⟨t, rfl⟩ := (show ∃ t, u = Value.str (S' a) t from ru)
      obtain ⟨p', ws, rfl, t2, r2⟩ := rTup' q
      cases (show u' = Value.ref p' from ru')
      obtain ⟨us', rw', pl', _⟩ := I.tuple t2
      cases h
      exact .leaf fun A hA => EqAt.str_tuple _ _ pl' (by omega)
    case str.lst a c =>
      cases (show v = V.str (S' a) from kx)
      obtain ⟨t, rfl⟩ := (show ∃ t, u = Value.str (S' a) t from ru)
      obtain ⟨p', ws, _, rfl, _, t2, r2⟩ := rLst' q
      cases (show u' = Value.ref p' from ru')
      obtain ⟨us', rw', pl', _⟩ := I.list (SqL.of t2)
      cases h
      exact .leaf fun A hA => EqAt.str_list _ _ pl'.isList (by omega)
    case tup.non a =>
      obtain ⟨p, vs, rfl, t1, r1⟩ := rTup' r
      cases (show u = Value.ref p from ru)
      obtain ⟨us, rv, pl, _⟩ := I.tuple t1
      cases (show v' = V.non from ky)
      cases (show u' = Value.none from ru')
      cases h
      exact .leaf fun A hA => EqAt.tuple_none pl (by omega)
    case tup.bl a c =>
      obtain ⟨p, vs, rfl, t1, r1⟩ := rTup' r
      cases (show u = Value.ref p from ru)
      obtain ⟨us, rv, pl, _⟩ := I.tuple t1
      cases (show v' = V.bl c from ky)
      cases (show u' = Value.bool c from ru')
      cases h
      exact .leaf fun A hA => EqAt.tuple_bool _ pl (by omega)
    case tup.int a c =>
      obtain ⟨p, vs, rfl, t1, r1⟩ := rTup' r
      cases (show u = Value.ref p from ru)
      obtain ⟨us, rv, pl, _⟩ := I.tuple t1
      cases (show v' = V.int c from ky)
      obtain ⟨t', rfl⟩ := (show ∃ t, u' = Value.int c t from ru')
      cases h
      exact .leaf fun A hA => EqAt.tuple_int _ _ pl (by omega)
    case tup.str a c =>
      obtain ⟨p, vs, rfl, t1, r1⟩ := rTup' r
      cases (show u = Value.ref p from ru)
      obtain ⟨us, rv, pl, _⟩ := I.tuple t1
      cases (show v' = V.str (S' c) from ky)
      obtain ⟨t', rfl⟩ := (show ∃ t, u' = Value.str (S' c) t from ru')
      cases h
      exact .leaf fun A hA => EqAt.tuple_str _ _ pl (by omega)
    case tup.tup a c =>
      obtain ⟨p, vs, rfl, t1, r1⟩ := rTup' r
      cases (show u = Value.ref p from ru)
      obtain ⟨us, rv, pl, _⟩ := I.tuple t1
      obtain ⟨p', ws, rfl, t2, r2⟩ := rTup' q
      cases (show u' = Value.ref p' from ru')
      obtain ⟨us', rw', pl', _⟩ := I.tuple t2
      by_cases e : p = p'
      · subst e
        have eb := same _ _ _ b (by unfold deq; exact h) r q
        subst eb
        exact .same
      · have h : (deqL (deq n) a c).map (fun r => r && a.length == c.length) = some b := h
        cases e2 : deqL (deq n) a c with
        | none => rw [e2] at h; cases h
        | some k =>
          rw [e2] at h
          cases h
          obtain ⟨h1, h2⟩ := seqKids ih e2 r1 r2 rv rw'
          rw [h2, show (a.length == c.length) = (us.toArray.size == us'.toArray.size) by rw [r1.length, r2.length, rv.length, rw'.length]; simp]
          exact .tuples e pl pl' h1
    case tup.lst a c =>
      obtain ⟨p, vs, rfl, t1, r1⟩ := rTup' r
      cases (show u = Value.ref p from ru)
      obtain ⟨us, rv, pl, _⟩ := I.tuple t1
      obtain ⟨p', ws, _, rfl, _, t2, r2⟩ := rLst' q
      cases (show u' = Value.ref p' from ru')
      obtain ⟨us', rw', pl', _⟩ := I.list (SqL.of t2)
      cases h
      exact .leaf fun A hA => EqAt.tuple_list pl pl'.isList (by omega)
    case lst.non a =>
      obtain ⟨p, vs, _, rfl, _, t1, r1⟩ := rLst' r
      cases (show u = Value.ref p from ru)
      obtain ⟨us, rv, pl, _⟩ := I.list (SqL.of t1)
      cases (show v' = V.non from ky)
      cases (show u' = Value.none from ru')
      cases h
      exact .leaf fun A hA => EqAt.list_none pl.isList (by omega)
    case lst.bl a c =>
      obtain ⟨p, vs, _, rfl, _, t1, r1⟩ := rLst' r
      cases (show u = Value.ref p from ru)
      obtain ⟨us, rv, pl, _⟩ := I.list (SqL.of t1)
      cases (show v' = V.bl c from ky)
      cases (show u' = Value.bool c from ru')
      cases h
      exact .leaf fun A hA => EqAt.list_bool _ pl.isList (by omega)
    case lst.int a c =>
      obtain ⟨p, vs, _, rfl, _, t1, r1⟩ := rLst' r
      cases (show u = Value.ref p from ru)
      obtain ⟨us, rv, pl, _⟩ := I.list (SqL.of t1)
      cases (show v' = V.int c from ky)
      obtain ⟨t', rfl⟩ := (show ∃ t, u' = Value.int c t from ru')
      cases h
      exact .leaf fun A hA => EqAt.list_int _ _ pl.isList (by omega)
    case lst.str a c =>
      obtain ⟨p, vs, _, rfl, _, t1, r1⟩ := rLst' r
      cases (show u = Value.ref p from ru)
      obtain ⟨us, rv, pl, _⟩ := I.list (SqL.of t1)
      cases (show v' = V.str (S' c) from ky)
      obtain ⟨t', rfl⟩ := (show ∃ t, u' = Value.str (S' c) t from ru')
      cases h
      exact .leaf fun A hA => EqAt.list_str _ _ pl.isList (by omega)
    case lst.tup a c =>
      obtain ⟨p, vs, _, rfl, _, t1, r1⟩ := rLst' r
      cases (show u = Value.ref p from ru)
      obtain ⟨us, rv, pl, _⟩ := I.list (SqL.of t1)
      obtain ⟨p', ws, rfl, t2, r2⟩ := rTup' q
      cases (show u' = Value.ref p' from ru')
      obtain ⟨us', rw', pl', _⟩ := I.tuple t2
      cases h
      exact .leaf fun A hA => EqAt.list_tuple pl.isList pl' (by omega)
    case lst.lst a c =>
      obtain ⟨p, vs, _, rfl, _, t1, r1⟩ := rLst' r
      cases (show u = Value.ref p from ru)
      obtain ⟨us, rv, pl, _⟩ := I.list (SqL.of t1)
      obtain ⟨p', ws, _, rfl, _, t2, r2⟩ := rLst' q
      cases (show u' = Value.ref p' from ru')
      obtain ⟨us', rw', pl', _⟩ := I.list (SqL.of t2)
      by_cases e : p = p'
      · subst e
        have eb := same _ _ _ b (by unfold deq; exact h) r q
        subst eb
        exact .same
      · have h : (if a.length = c.length then deqL (deq n) a c else some false) = some b := h
        by_cases el : a.length = c.length
        · rw [if_pos el] at h
          obtain ⟨h1, h2⟩ := seqKids ih h r1 r2 rv rw'
          have ez : us.toArray.size = us'.toArray.size := by simp only [List.size_toArray]; rw [← rv.length, ← rw'.length, ← r1.length, ← r2.length]; exact el
          rw [← ez, Nat.min_self] at h2
          rw [h2]
          exact .lists e pl.isList pl'.isList ez h1
        · rw [if_neg el] at h
          cases h
          exact .listsLen e pl.isList pl'.isList (by simp only [List.size_toArray]; rw [← rv.length, ← rw'.length, ← r1.length, ← r2.length]; simpa using el)
    case dct.dct a c =>
      obtain ⟨p, vs, _, rfl, _, t1, r1⟩ := dct_ref r
      obtain ⟨p', ws, _, rfl, _, t2, r2⟩ := dct_ref q
      cases (show u = Value.ref p from ru)
      cases (show u' = Value.ref p' from ru')
      by_cases e : p = p'
      · subst e
        have eb := same _ _ _ b (by unfold deq; exact h) r q
        subst eb
        exact .same
      · have h : (if a.isEmpty || c.isEmpty then some (a.isEmpty && c.isEmpty) else if keysOk a && keysOk c then (deqK (deq n) c a).map fun r => a.length == c.length && r else none) = some b := h
        by_cases z : (a.isEmpty || c.isEmpty) = true
        · rw [if_pos z] at h
          cases h
          obtain ⟨na, oa, es, ep, h1, h2, h3, h4⟩ := dictRaw I t1
          obtain ⟨nb, ob, es', ep', g1, g2, g3, g4⟩ := dictRaw I t2
          rw [List.length_map] at h4 g4
          have ev : (a.isEmpty && c.isEmpty) = (es.size == es'.size) := by
            rw [h4, g4]
            cases a <;> cases c <;> simp at z ⊢
          rw [ev]
          refine .leaf fun A hA => EqAt.of_refs e fun prog w E Q hq => dict_eq ⟨_, h1, h2.1⟩ ⟨_, g1, g2.1⟩ (by omega) (same_raw na nb h1 h3 g1 g3 ?_) hq
          rw [h4, g4]
          cases a <;> cases c <;> simp at z ⊢
        · rw [if_neg z] at h
          split at h
          · rename_i ko
            rw [Bool.and_eq_true] at ko
            have z1 : a ≠ [] := fun q => z (by subst q; simp)
            have z2 : c ≠ [] := fun q => z (by subst q; simp)
            cases e2 : deqK (deq n) c a with
            | none => rw [e2] at h; cases h
            | some k =>
              rw [e2] at h
              cases h
              obtain ⟨va, vb, na, nb, da, db, kids, ev⟩ := dictKids I ih t1 r1 t2 r2 z1 z2 ko.1 ko.2 e2
              show EqTree X.prog X.w s (n + 1) (Value.ref p) (Value.ref p') (a.length == c.length && k)
              rw [ev]
              exact .dicts e na nb da db kids
          · cases h
end
end
end Bv
end

section
/-! != of lists and tuples whose items answer == in one model; != of dicts. -/
namespace PySem.SeqAt
open AutoSeq1 (wpAny_loadPart')
open MeetsSeq MeetsSeq2 MeetsSeq3 SeqRoads2
section
variable {prog : Program} {w : World}
theorem bv_ne_loop (l b : Addr) (xs ys : Array Value) (n n2 : Nat) (dd dd2 : Option Addr) (sl sl2 : Array (Option Value)) (hsz : xs.size = ys.size) (e : Nat → Bool) : ∀ (k i : Nat), xs.size - i = k →
    MeetsIn prog w (Builtin.«list.__eq__.loop» ⟨[.ref l, .ref b, rawInt i, rawInt 3], []⟩)
      (fun A R s => s.heap.get? l = some { cls := .type "list", dict := dd, data := .seq xs n, slots := sl } ∧ s.heap.get? b = some { cls := .type "list", dict := dd2, data := .seq ys n2, slots := sl2 } ∧
        (∀ j (h1 : j < xs.size) (h2 : j < ys.size), EqIn prog w A.in1 s xs[j] ys[j] (e j)) ∧ R (.ok (.ret (.bool (!((List.range xs.size).drop i).all e)))) s)
  | 0, i, hk => by
    intro A R s h
    obtain ⟨hp, g, d, tk, os⟩ := s
    obtain ⟨hl, hb, he, h⟩ := h
    wp_walk using wpAny_loadPart' hl, wpAny_loadPart' hb
    have x1 : xs[((i : Nat) : Int).toNat]? = none := by simp; omega
    have x2 : ys[((i : Nat) : Int).toNat]? = none := by simp; omega
    have x3 : (List.range xs.size).drop i = [] := by simp; omega
    rw [x3] at h
    rw [x1, x2]
    wp_walk using wpAny_loadPart' hl, wpAny_loadPart' hb
    show R (.ok (.ret (.bool (xs.size != ys.size)))) _
    rw [hsz]
    simpa using h
  | k + 1, i, hk => by
    intro A R s h
    obtain ⟨hp, g, d, tk, os⟩ := s
    obtain ⟨hl, hb, he, h⟩ := h
    wp_walk using wpAny_loadPart' hl, wpAny_loadPart' hb
    have l1 : i < xs.size := by omega
    have l2 : i < ys.size := by omega
    have x1 : xs[((i : Nat) : Int).toNat]? = some xs[i] := by simp [l1]
    have x2 : ys[((i : Nat) : Int).toNat]? = some ys[i] := by simp [l2]
    have x3 : (List.range xs.size).drop i = i :: (List.range xs.size).drop (i + 1) := by simp [List.drop_eq_getElem_cons, l1]
    have x4 : ((i : Int) + 1) = ((i + 1 : Nat) : Int) := by push_cast; rfl
    rw [x3, List.all_cons] at h
    rw [x1, x2]
    refine wpAny_bind (he i l1 l2 _ _ ?_)
    cases q : e i with
    | true =>
      rw [q] at h
      wp_walk
      rw [x4]
      exact ⟨plainId_quiet plain_eq_loop _, codeAny_builtin entry_eq_loop (by
        rw [Around.under_plainId plain_eq_loop _]
        exact bv_ne_loop l b xs ys n n2 dd dd2 sl sl2 hsz e k (i + 1) (by omega) A R _ ⟨hl, hb, he, by simpa using h⟩)⟩
    | false =>
      rw [q] at h
      wp_walk using wpAny_loadPart' hl, wpAny_loadPart' hb
      rw [x1, x2]
      wp_walk
      simpa using h
theorem bv_ne_list (l b : Addr) (xs ys : Array Value) (n n2 : Nat) (dd dd2 : Option Addr) (sl sl2 : Array (Option Value)) (hsz : xs.size = ys.size) (e : Nat → Bool) :
    MeetsIn prog w (Builtin.«list.__ne__» ⟨[.ref l, .ref b], []⟩)
      (fun A R s => s.heap.get? l = some { cls := .type "list", dict := dd, data := .seq xs n, slots := sl } ∧ s.heap.get? b = some { cls := .type "list", dict := dd2, data := .seq ys n2, slots := sl2 } ∧
        (∀ j (h1 : j < xs.size) (h2 : j < ys.size), EqIn prog w A.in1 s xs[j] ys[j] (e j)) ∧ R (.ok (.ret (.bool (!(List.range xs.size).all e)))) s) := by
  intro A R s h
  obtain ⟨hp, g, d, tk, os⟩ := s
  obtain ⟨hl, hb, he, h⟩ := h
  have f3 := AutoSeq1.sub_list_list
  have hne : ¬ (xs.size != ys.size) = true := by simp [hsz]
  wp_walk using wpAny_loadPart' hl, wpAny_loadPart' hb
  exact ⟨plainId_quiet plain_eq_loop _, codeAny_builtin entry_eq_loop (by
    rw [Around.under_plainId plain_eq_loop _]
    exact bv_ne_loop l b xs ys n n2 dd dd2 sl sl2 hsz e _ 0 rfl A R _ ⟨hl, hb, he, by simpa using h⟩)⟩
theorem bv_ne_tup (l b : Addr) (xs ys : Array Value) (n n2 : Nat) (dd dd2 : Option Addr) (sl sl2 : Array (Option Value)) (e : Nat → Bool) :
    MeetsIn prog w (Builtin.«tuple.__ne__» ⟨[.ref l, .ref b], []⟩)
      (fun A R s => s.heap.get? l = some { cls := .type "tuple", dict := dd, data := .seq xs n, slots := sl } ∧ s.heap.get? b = some { cls := .type "tuple", dict := dd2, data := .seq ys n2, slots := sl2 } ∧
        (∀ j (h1 : j < xs.size) (h2 : j < ys.size), EqIn prog w A.in1 s xs[j] ys[j] (e j)) ∧ R (.ok (.ret (.bool (!((List.range (min xs.size ys.size)).all e && xs.size == ys.size))))) s) :=
  .of_wp fun A R s h => by
    obtain ⟨hp, g, d, tk, os⟩ := s
    obtain ⟨hl, hb, he, h⟩ := h
    have f2 := AutoSeq1.sub_tuple_tuple
    have zl : (xs.toList.zip ys.toList).length = min xs.size ys.size := by simp
    wp_walk using wpAny_loadPart' hl, wpAny_loadPart' hb, wpAny_forIn_list _ (fun rest b s' => b.1 = none ∧ s' = ⟨hp, g, d, tk, os⟩ ∧ ∃ i, rest = (xs.toList.zip ys.toList).drop i ∧
      R (.ok (.ret (.bool (!(((List.range (min xs.size ys.size)).drop i).all e && xs.size == ys.size))))) ⟨hp, g, d, tk, os⟩) _
    case turn =>
      rintro ⟨y, x⟩ rest b s' ⟨_, rfl, i, hz, hR⟩
      have lt : i < (xs.toList.zip ys.toList).length := by
        rcases Nat.lt_or_ge i (xs.toList.zip ys.toList).length with q | q
        · exact q
        · rw [List.drop_of_length_le q] at hz; cases hz
      have hm : i < min xs.size ys.size := zl ▸ lt
      have h1 : i < xs.size := Nat.lt_of_lt_of_le hm (Nat.min_le_left _ _)
      have h2 : i < ys.size := Nat.lt_of_lt_of_le hm (Nat.min_le_right _ _)
      rw [List.drop_eq_getElem_cons lt] at hz
      injection hz with e1 e2
      have hy : y = xs[i] := by have := congrArg Prod.fst e1; simpa using this
      have hx : x = ys[i] := by have := congrArg Prod.snd e1; simpa using this
      subst hy hx
      have hd : (List.range (min xs.size ys.size)).drop i = i :: (List.range (min xs.size ys.size)).drop (i + 1) := by simp [List.drop_eq_getElem_cons, hm]
      rw [hd, List.all_cons] at hR
      refine wpAny_bind (he i h1 h2 _ _ ?_)
      cases q : e i with
      | true =>
        rw [q] at hR
        wp_walk
        exact ⟨rfl, rfl, i + 1, e2, by simpa using hR⟩
      | false =>
        rw [q] at hR
        wp_walk
        exact ⟨_, rfl, by simpa using hR⟩
    case fin =>
      rintro ⟨b1, b2⟩ s' ⟨z, rfl, i, hz, hR⟩
      simp only at z
      subst z
      have ge : min xs.size ys.size ≤ i := by
        rcases Nat.lt_or_ge i (xs.toList.zip ys.toList).length with q | q
        · rw [List.drop_eq_getElem_cons q] at hz; cases hz
        · exact zl ▸ q
      rw [List.drop_of_length_le (by simpa using ge)] at hR
      wp_walk
      exact ⟨_, rfl, by simpa [Builtin.Tuple.tupleCompareSizes, bne] using hR⟩
    case h =>
      exact ⟨rfl, rfl, 0, rfl, by simpa using h⟩
theorem bv_rcNe_lists {A : Around} {E : Value → Shared → Prop} {s : Shared} {l b : Addr} {xs ys : Array Value} {e : Nat → Bool} {Q : Value → Shared → Prop} (hl : s.heap.IsList l xs) (hb : s.heap.IsList b ys) (hsz : xs.size = ys.size) (hu : A.units < cLine)
    (he : ∀ j (h1 : j < xs.size) (h2 : j < ys.size), EqIn prog w A.in1 s xs[j] ys[j] (e j)) (h : Q (.bool (!(List.range xs.size).all e)) s) : wpAny (model prog w) A (richCompare .NotEq (.ref l) (.ref b)) Q E s := by
  obtain ⟨⟨c, dd, data, sl⟩, ho, hc, n, hd⟩ := id hl
  obtain ⟨⟨c2, dd2, data2, sl2⟩, ho2, hc2, n2, hd2⟩ := id hb
  simp only at hc hd hc2 hd2
  subst hc hd hc2 hd2
  exact wpAny_richCompare_same_room (T := "list") (op := .NotEq) ⟨_, ho, rfl⟩ ⟨_, ho2, rfl⟩ F.slot_list_ne (call_meetsIn F.slot_list_ne ⟨_, ho, rfl⟩ F.entry_list_ne (F.args_list_ne_2 _ _) (bv_ne_list l b xs ys n n2 dd dd2 sl sl2 hsz e)
    ⟨ho, ho2, he, show Value.bool (!(List.range xs.size).all e) ≠ Value.notImplemented ∧ Q (.bool (!(List.range xs.size).all e)) s from ⟨(fun x => nomatch x), h⟩⟩) hu
theorem bv_rcNe_tuples {A : Around} {E : Value → Shared → Prop} {s : Shared} {l b : Addr} {xs ys : Array Value} {e : Nat → Bool} {Q : Value → Shared → Prop} (hl : s.heap.IsTuple l xs) (hb : s.heap.IsTuple b ys) (hu : A.units < cLine)
    (he : ∀ j (h1 : j < xs.size) (h2 : j < ys.size), EqIn prog w A.in1 s xs[j] ys[j] (e j)) (h : Q (.bool (!((List.range (min xs.size ys.size)).all e && xs.size == ys.size))) s) : wpAny (model prog w) A (richCompare .NotEq (.ref l) (.ref b)) Q E s := by
  obtain ⟨⟨c, dd, data, sl⟩, ho, hc, n, hd⟩ := id hl
  obtain ⟨⟨c2, dd2, data2, sl2⟩, ho2, hc2, n2, hd2⟩ := id hb
  simp only at hc hd hc2 hd2
  subst hc hd hc2 hd2
  exact wpAny_richCompare_same_room (T := "tuple") (op := .NotEq) ⟨_, ho, rfl⟩ ⟨_, ho2, rfl⟩ F.slot_tuple_ne (call_meetsIn F.slot_tuple_ne ⟨_, ho, rfl⟩ F.entry_tuple_ne (F.args_tuple_ne_2 _ _) (bv_ne_tup l b xs ys n n2 dd dd2 sl sl2 e)
    ⟨ho, ho2, he, show Value.bool (!((List.range (min xs.size ys.size)).all e && xs.size == ys.size)) ≠ Value.notImplemented ∧ Q (.bool (!((List.range (min xs.size ys.size)).all e && xs.size == ys.size))) s from ⟨(fun x => nomatch x), h⟩⟩) hu
end
end PySem.SeqAt
end

section
/-! == and != as operators over data. -/
namespace Bv
open PySem PySem.Spec PyProof.Rows L2 SeqAt PySem.W
variable {cls : Nat → Addr} {X : Cx}
def dEq (x y : D) : Option D := (deq 60 x y).map fun k => .bl k
theorem o_eq (hu : X.A.units + 64 < cLine) : OpR X (compareOp .Eq) (rD2 X.K cls dEq) := by
  rintro pins s σ H x y v u Q I rx ry ⟨d1, d2, F1, F2, d, h1, h2, e, af⟩
  unfold dEq at e
  cases h : deq 60 d1 d2 with
  | none => rw [h] at e; cases e
  | some b =>
    rw [h] at e
    cases e
    have q := af.scal rBl
    have ih : Kids X cls H s 59 := eqTree I 59
    unfold deq at h
    have kx := h1.kind
    have ky := h2.kind
    cases d1 <;> cases d2
    all_goals first
      | (cases h; done)
      | skip
    case non.non =>
      cases (show x = V.non from kx)
      cases (show v = Value.none from rx)
      cases (show y = V.non from ky)
      cases (show u = Value.none from ry)
      cases h
      exact RcAt.none_none X.prog X.w _ _ (fin_bl I q rfl)
    case non.bl c =>
      cases (show x = V.non from kx)
      cases (show v = Value.none from rx)
      cases (show y = V.bl c from ky)
      cases (show u = Value.bool c from ry)
      cases h
      exact RcAt.none_bool _ X.prog X.w _ _ (fin_bl I q rfl)
    case non.int c =>
      cases (show x = V.non from kx)
      cases (show v = Value.none from rx)
      cases (show y = V.int c from ky)
      obtain ⟨t', rfl⟩ := (show ∃ t, u = Value.int c t from ry)
      cases h
      exact RcAt.none_int _ _ X.prog X.w _ _ (fin_bl I q rfl)
    case non.str c =>
      cases (show x = V.non from kx)
      cases (show v = Value.none from rx)
      cases (show y = V.str (S' c) from ky)
      obtain ⟨t', rfl⟩ := (show ∃ t, u = Value.str (S' c) t from ry)
      cases h
      exact RcAt.none_str _ _ X.prog X.w _ _ (fin_bl I q rfl)
    case non.tup c =>
      cases (show x = V.non from kx)
      cases (show v = Value.none from rx)
      obtain ⟨p', ws, rfl, t2, r2⟩ := rTup' h2
      cases (show u = Value.ref p' from ry)
      obtain ⟨us', rw', pl', _⟩ := I.tuple t2
      cases h
      exact RcAt.none_tuple pl' (by omega) X.prog X.w _ _ (fin_bl I q rfl)
    case non.lst c =>
      cases (show x = V.non from kx)
      cases (show v = Value.none from rx)
      obtain ⟨p', ws, _, rfl, _, t2, r2⟩ := rLst' h2
      cases (show u = Value.ref p' from ry)
      obtain ⟨us', rw', pl', _⟩ := I.list (SqL.of t2)
      cases h
      exact RcAt.none_list pl'.isList (by omega) X.prog X.w _ _ (fin_bl I q rfl)
    case bl.non a =>
      cases (show x = V.bl a from kx)
      cases (show v = Value.bool a from rx)
      cases (show y = V.non from ky)
      cases (show u = Value.none from ry)
      cases h
      exact RcAt.bool_none _ X.prog X.w _ _ (fin_bl I q rfl)
    case bl.bl a c =>
      cases (show x = V.bl a from kx)
      cases (show v = Value.bool a from rx)
      cases (show y = V.bl c from ky)
      cases (show u = Value.bool c from ry)
      cases h
      exact RcAt.bool_bool _ _ X.prog X.w _ _ (fin_bl I q rfl)
    case bl.int a c =>
      cases (show x = V.bl a from kx)
      cases (show v = Value.bool a from rx)
      cases (show y = V.int c from ky)
      obtain ⟨t', rfl⟩ := (show ∃ t, u = Value.int c t from ry)
      cases h
      exact RcAt.bool_int _ _ _ X.prog X.w _ _ (fin_bl I q rfl)
    case bl.str a c =>
      cases (show x = V.bl a from kx)
      cases (show v = Value.bool a from rx)
      cases (show y = V.str (S' c) from ky)
      obtain ⟨t', rfl⟩ := (show ∃ t, u = Value.str (S' c) t from ry)
      cases h
      exact RcAt.bool_str _ _ _ X.prog X.w _ _ (fin_bl I q rfl)
    case bl.tup a c =>
      cases (show x = V.bl a from kx)
      cases (show v = Value.bool a from rx)
      obtain ⟨p', ws, rfl, t2, r2⟩ := rTup' h2
      cases (show u = Value.ref p' from ry)
      obtain ⟨us', rw', pl', _⟩ := I.tuple t2
      cases h
      exact RcAt.bool_tuple _ pl' (by omega) X.prog X.w _ _ (fin_bl I q rfl)
    case bl.lst a c =>
      cases (show x = V.bl a from kx)
      cases (show v = Value.bool a from rx)
      obtain ⟨p', ws, _, rfl, _, t2, r2⟩ := rLst' h2
      cases (show u = Value.ref p' from ry)
      obtain ⟨us', rw', pl', _⟩ := I.list (SqL.of t2)
      cases h
      exact RcAt.bool_list _ pl'.isList (by omega) X.prog X.w _ _ (fin_bl I q rfl)
    case int.non a =>
      cases (show x = V.int a from kx)
      obtain ⟨t, rfl⟩ := (show ∃ t, v = Value.int a t from rx)
      cases (show y = V.non from ky)
      cases (show u = Value.none from ry)
      cases h
      exact RcAt.int_none _ _ X.prog X.w _ _ (fin_bl I q rfl)
    case int.bl a c =>
      cases (show x = V.int a from kx)
      obtain ⟨t, rfl⟩ := (show ∃ t, v = Value.int a t from rx)
      cases (show y = V.bl c from ky)
      cases (show u = Value.bool c from ry)
      cases h
      exact RcAt.int_bool _ _ _ X.prog X.w _ _ (fin_bl I q rfl)
    case int.int a c =>
      cases (show x = V.int a from kx)
      obtain ⟨t, rfl⟩ := (show ∃ t, v = Value.int a t from rx)
      cases (show y = V.int c from ky)
      obtain ⟨t', rfl⟩ := (show ∃ t, u = Value.int c t from ry)
      have h : some (decide (a = c)) = some b := h
      cases h
      rw [← Bool.beq_eq_decide_eq] at q
      exact RcAt.int_int _ _ _ _ X.prog X.w _ _ (fin_bl I q rfl)
    case int.str a c =>
      cases (show x = V.int a from kx)
      obtain ⟨t, rfl⟩ := (show ∃ t, v = Value.int a t from rx)
      cases (show y = V.str (S' c) from ky)
      obtain ⟨t', rfl⟩ := (show ∃ t, u = Value.str (S' c) t from ry)
      cases h
      exact RcAt.int_str _ _ _ _ X.prog X.w _ _ (fin_bl I q rfl)
    case int.tup a c =>
      cases (show x = V.int a from kx)
      obtain ⟨t, rfl⟩ := (show ∃ t, v = Value.int a t from rx)
      obtain ⟨p', ws, rfl, t2, r2⟩ := rTup' h2
      cases (show u = Value.ref p' from ry)
      obtain ⟨us', rw', pl', _⟩ := I.tuple t2
      cases h
      exact RcAt.int_tuple _ _ pl' (by omega) X.prog X.w _ _ (fin_bl I q rfl)
    case int.lst a c =>
      cases (show x = V.int a from kx)
      obtain ⟨t, rfl⟩ := (show ∃ t, v = Value.int a t from rx)
      obtain ⟨p', ws, _, rfl, _, t2, r2⟩ := rLst' h2
      cases (show u = Value.ref p' from ry)
      obtain ⟨us', rw', pl', _⟩ := I.list (SqL.of t2)
      cases h
      exact RcAt.int_list _ _ pl'.isList (by omega) X.prog X.w _ _ (fin_bl I q rfl)
    case str.non a =>
      cases (show x = V.str (S' a) from kx)
      obtain ⟨t, rfl⟩ := (show ∃ t, v = Value.str (S' a) t from rx)
      cases (show y = V.non from ky)
      cases (show u = Value.none from ry)
      cases h
      exact RcAt.str_none _ _ X.prog X.w _ _ (fin_bl I q rfl)
    case str.bl a c =>
      cases (show x = V.str (S' a) from kx)
      obtain ⟨t, rfl⟩ := (show ∃ t, v = Value.str (S' a) t from rx)
      cases (show y = V.bl c from ky)
      cases (show u = Value.bool c from ry)
      cases h
      exact RcAt.str_bool _ _ _ X.prog X.w _ _ (fin_bl I q rfl)
    case str.int a c =>
      cases (show x = V.str (S' a) from kx)
      obtain ⟨t, rfl⟩ := (show ∃ t, v = Value.str (S' a) t from rx)
      cases (show y = V.int c from ky)
      obtain ⟨t', rfl⟩ := (show ∃ t, u = Value.int c t from ry)
      cases h
      exact RcAt.str_int _ _ _ _ X.prog X.w _ _ (fin_bl I q rfl)
    case str.str a c =>
      cases (show x = V.str (S' a) from kx)
      obtain ⟨t, rfl⟩ := (show ∃ t, v = Value.str (S' a) t from rx)
      cases (show y = V.str (S' c) from ky)
      obtain ⟨t', rfl⟩ := (show ∃ t, u = Value.str (S' c) t from ry)
      have h : some (a == c) = some b := h
      cases h
      have e : (a == c) = (S' a == S' c) := by rw [Bool.eq_iff_iff]; simp [S'_inj]
      rw [e] at q
      exact RcAt.str_str _ _ _ _ X.prog X.w _ _ (fin_bl I q rfl)
    case str.tup a c =>
      cases (show x = V.str (S' a) from kx)
      obtain ⟨t, rfl⟩ := (show ∃ t, v = Value.str (S' a) t from rx)
      obtain ⟨p', ws, rfl, t2, r2⟩ := rTup' h2
      cases (show u = Value.ref p' from ry)
      obtain ⟨us', rw', pl', _⟩ := I.tuple t2
      cases h
      exact RcAt.str_tuple _ _ pl' (by omega) X.prog X.w _ _ (fin_bl I q rfl)
    case str.lst a c =>
      cases (show x = V.str (S' a) from kx)
      obtain ⟨t, rfl⟩ := (show ∃ t, v = Value.str (S' a) t from rx)
      obtain ⟨p', ws, _, rfl, _, t2, r2⟩ := rLst' h2
      cases (show u = Value.ref p' from ry)
      obtain ⟨us', rw', pl', _⟩ := I.list (SqL.of t2)
      cases h
      exact RcAt.str_list _ _ pl'.isList (by omega) X.prog X.w _ _ (fin_bl I q rfl)
    case tup.non a =>
      obtain ⟨p, vs, rfl, t1, r1⟩ := rTup' h1
      cases (show v = Value.ref p from rx)
      obtain ⟨us, rv, pl, _⟩ := I.tuple t1
      cases (show y = V.non from ky)
      cases (show u = Value.none from ry)
      cases h
      exact RcAt.tuple_none pl (by omega) X.prog X.w _ _ (fin_bl I q rfl)
    case tup.bl a c =>
      obtain ⟨p, vs, rfl, t1, r1⟩ := rTup' h1
      cases (show v = Value.ref p from rx)
      obtain ⟨us, rv, pl, _⟩ := I.tuple t1
      cases (show y = V.bl c from ky)
      cases (show u = Value.bool c from ry)
      cases h
      exact RcAt.tuple_bool _ pl (by omega) X.prog X.w _ _ (fin_bl I q rfl)
    case tup.int a c =>
      obtain ⟨p, vs, rfl, t1, r1⟩ := rTup' h1
      cases (show v = Value.ref p from rx)
      obtain ⟨us, rv, pl, _⟩ := I.tuple t1
      cases (show y = V.int c from ky)
      obtain ⟨t', rfl⟩ := (show ∃ t, u = Value.int c t from ry)
      cases h
      exact RcAt.tuple_int _ _ pl (by omega) X.prog X.w _ _ (fin_bl I q rfl)
    case tup.str a c =>
      obtain ⟨p, vs, rfl, t1, r1⟩ := rTup' h1
      cases (show v = Value.ref p from rx)
      obtain ⟨us, rv, pl, _⟩ := I.tuple t1
      cases (show y = V.str (S' c) from ky)
      obtain ⟨t', rfl⟩ := (show ∃ t, u = Value.str (S' c) t from ry)
      cases h
      exact RcAt.tuple_str _ _ pl (by omega) X.prog X.w _ _ (fin_bl I q rfl)
    case tup.tup a c =>
      obtain ⟨p, vs, rfl, t1, r1⟩ := rTup' h1
      cases (show v = Value.ref p from rx)
      obtain ⟨us, rv, pl, _⟩ := I.tuple t1
      obtain ⟨p', ws, rfl, t2, r2⟩ := rTup' h2
      cases (show u = Value.ref p' from ry)
      obtain ⟨us', rw', pl', _⟩ := I.tuple t2
      have h : (deqL (deq 59) a c).map (fun r => r && a.length == c.length) = some b := h
      cases e2 : deqL (deq 59) a c with
      | none => rw [e2] at h; cases h
      | some k =>
        rw [e2] at h
        cases h
        obtain ⟨g1, g2⟩ := seqKids ih e2 r1 r2 rv rw'
        have q : Q (.bl ((k && a.length == c.length))) H := q
        rw [g2, show (a.length == c.length) = (us.toArray.size == us'.toArray.size) by rw [r1.length, r2.length, rv.length, rw'.length]; simp] at q
        exact eq_tuplesT pl pl' g1 (by omega) (fin_bl I q rfl)
    case tup.lst a c =>
      obtain ⟨p, vs, rfl, t1, r1⟩ := rTup' h1
      cases (show v = Value.ref p from rx)
      obtain ⟨us, rv, pl, _⟩ := I.tuple t1
      obtain ⟨p', ws, _, rfl, _, t2, r2⟩ := rLst' h2
      cases (show u = Value.ref p' from ry)
      obtain ⟨us', rw', pl', _⟩ := I.list (SqL.of t2)
      cases h
      exact RcAt.tuple_list pl pl'.isList (by omega) X.prog X.w _ _ (fin_bl I q rfl)
    case lst.non a =>
      obtain ⟨p, vs, _, rfl, _, t1, r1⟩ := rLst' h1
      cases (show v = Value.ref p from rx)
      obtain ⟨us, rv, pl, _⟩ := I.list (SqL.of t1)
      cases (show y = V.non from ky)
      cases (show u = Value.none from ry)
      cases h
      exact RcAt.list_none pl.isList (by omega) X.prog X.w _ _ (fin_bl I q rfl)
    case lst.bl a c =>
      obtain ⟨p, vs, _, rfl, _, t1, r1⟩ := rLst' h1
      cases (show v = Value.ref p from rx)
      obtain ⟨us, rv, pl, _⟩ := I.list (SqL.of t1)
      cases (show y = V.bl c from ky)
      cases (show u = Value.bool c from ry)
      cases h
      exact RcAt.list_bool _ pl.isList (by omega) X.prog X.w _ _ (fin_bl I q rfl)
    case lst.int a c =>
      obtain ⟨p, vs, _, rfl, _, t1, r1⟩ := rLst' h1
      cases (show v = Value.ref p from rx)
      obtain ⟨us, rv, pl, _⟩ := I.list (SqL.of t1)
      cases (show y = V.int c from ky)
      obtain ⟨t', rfl⟩ := (show ∃ t, u = Value.int c t from ry)
      cases h
      exact RcAt.list_int _ _ pl.isList (by omega) X.prog X.w _ _ (fin_bl I q rfl)
    case lst.str a c =>
      obtain ⟨p, vs, _, rfl, _, t1, r1⟩ := rLst' h1
      cases (show v = Value.ref p from rx)
      obtain ⟨us, rv, pl, _⟩ := I.list (SqL.of t1)
      cases (show y = V.str (S' c) from ky)
      obtain ⟨t', rfl⟩ := (show ∃ t, u = Value.str (S' c) t from ry)
      cases h
      exact RcAt.list_str _ _ pl.isList (by omega) X.prog X.w _ _ (fin_bl I q rfl)
    case lst.tup a c =>
      obtain ⟨p, vs, _, rfl, _, t1, r1⟩ := rLst' h1
      cases (show v = Value.ref p from rx)
      obtain ⟨us, rv, pl, _⟩ := I.list (SqL.of t1)
      obtain ⟨p', ws, rfl, t2, r2⟩ := rTup' h2
      cases (show u = Value.ref p' from ry)
      obtain ⟨us', rw', pl', _⟩ := I.tuple t2
      cases h
      exact RcAt.list_tuple pl.isList pl' (by omega) X.prog X.w _ _ (fin_bl I q rfl)
    case lst.lst a c =>
      obtain ⟨p, vs, _, rfl, _, t1, r1⟩ := rLst' h1
      cases (show v = Value.ref p from rx)
      obtain ⟨us, rv, pl, _⟩ := I.list (SqL.of t1)
      obtain ⟨p', ws, _, rfl, _, t2, r2⟩ := rLst' h2
      cases (show u = Value.ref p' from ry)
      obtain ⟨us', rw', pl', _⟩ := I.list (SqL.of t2)
      have h : (if a.length = c.length then deqL (deq 59) a c else some false) = some b := h
      by_cases el : a.length = c.length
      · rw [if_pos el] at h
        obtain ⟨g1, g2⟩ := seqKids ih h r1 r2 rv rw'
        have ez : us.toArray.size = us'.toArray.size := by simp only [List.size_toArray]; rw [← rv.length, ← rw'.length, ← r1.length, ← r2.length]; exact el
        rw [← ez, Nat.min_self] at g2
        rw [g2] at q
        exact eq_listsT pl.isList pl'.isList ez g1 (by omega) (fin_bl I q rfl)
      · rw [if_neg el] at h
        cases h
        exact RcAt.lists_lengths pl.isList pl'.isList (by simp only [List.size_toArray]; rw [← rv.length, ← rw'.length, ← r1.length, ← r2.length]; simpa using el) (by omega) X.prog X.w _ _ (fin_bl I q rfl)
    case dct.dct a c =>
      obtain ⟨p, vs, _, rfl, _, t1, r1⟩ := dct_ref h1
      obtain ⟨p', ws, _, rfl, _, t2, r2⟩ := dct_ref h2
      cases (show v = Value.ref p from rx)
      cases (show u = Value.ref p' from ry)
      obtain ⟨na, oa, es, ep, k1, k2, k3, k4⟩ := dictRaw I t1
      obtain ⟨nb, ob, es', ep', g1, g2, g3, g4⟩ := dictRaw I t2
      have h : (if a.isEmpty || c.isEmpty then some (a.isEmpty && c.isEmpty) else if keysOk a && keysOk c then (deqK (deq 59) c a).map fun r => a.length == c.length && r else none) = some b := h
      by_cases z : (a.isEmpty || c.isEmpty) = true
      · rw [if_pos z] at h
        cases h
        rw [List.length_map] at k4 g4
        have ev : (a.isEmpty && c.isEmpty) = (es.size == es'.size) := by
          rw [k4, g4]
          cases a <;> cases c <;> simp at z ⊢
        rw [ev] at q
        refine dict_eq ⟨_, k1, k2.1⟩ ⟨_, g1, g2.1⟩ (by omega) (same_raw na nb k1 k3 g1 g3 ?_) (fin_bl I q rfl)
        rw [k4, g4]
        cases a <;> cases c <;> simp at z ⊢
      · rw [if_neg z] at h
        split at h
        · rename_i ko
          rw [Bool.and_eq_true] at ko
          have z1 : a ≠ [] := fun q => z (by subst q; simp)
          have z2 : c ≠ [] := fun q => z (by subst q; simp)
          cases e2 : deqK (deq 59) c a with
          | none => rw [e2] at h; cases h
          | some k =>
            rw [e2] at h
            cases h
            obtain ⟨va, vb, na, nb, da, db, kids, ev⟩ := dictKids I ih t1 r1 t2 r2 z1 z2 ko.1 ko.2 e2
            have q : Q (.bl ((a.length == c.length && k))) H := q
            rw [ev] at q
            exact dict_eq ⟨_, k1, k2.1⟩ ⟨_, g1, g2.1⟩ (by omega) (fun nm => PySem.W.keq_samePairsIn na nb da db (fun _ => PySem.W.KeqHitsIn.of _ fun q val y hm hv => (kids q val y hm hv).at X.A.in1 (by show X.A.units + 1 + 59 < cLine; omega)) ⟨rfl, rfl⟩) (fin_bl I q rfl)
        · cases h
def dNe (x y : D) : Option D := (deq 60 x y).map fun k => .bl (!k)
theorem o_ne (hu : X.A.units + 64 < cLine) : OpR X (compareOp .NotEq) (rD2 X.K cls dNe) := by
  rintro pins s σ H x y v u Q I rx ry ⟨d1, d2, F1, F2, d, h1, h2, e, af⟩
  unfold dNe at e
  cases h : deq 60 d1 d2 with
  | none => rw [h] at e; cases e
  | some b =>
    rw [h] at e
    cases e
    have q := af.scal rBl
    have ih : Kids X cls H s 59 := eqTree I 59
    unfold deq at h
    have kx := h1.kind
    have ky := h2.kind
    cases d1 <;> cases d2
    all_goals first
      | (cases h; done)
      | skip
    case non.non =>
      cases (show x = V.non from kx)
      cases (show v = Value.none from rx)
      cases (show y = V.non from ky)
      cases (show u = Value.none from ry)
      cases h
      exact RcNeAt.none_none X.prog X.w _ _ (fin_bl I q rfl)
    case non.bl c =>
      cases (show x = V.non from kx)
      cases (show v = Value.none from rx)
      cases (show y = V.bl c from ky)
      cases (show u = Value.bool c from ry)
      cases h
      exact RcNeAt.none_bool _ X.prog X.w _ _ (fin_bl I q rfl)
    case non.int c =>
      cases (show x = V.non from kx)
      cases (show v = Value.none from rx)
      cases (show y = V.int c from ky)
      obtain ⟨t', rfl⟩ := (show ∃ t, u = Value.int c t from ry)
      cases h
      exact RcNeAt.none_int _ _ X.prog X.w _ _ (fin_bl I q rfl)
    case non.str c =>
      cases (show x = V.non from kx)
      cases (show v = Value.none from rx)
      cases (show y = V.str (S' c) from ky)
      obtain ⟨t', rfl⟩ := (show ∃ t, u = Value.str (S' c) t from ry)
      cases h
      exact RcNeAt.none_str _ _ X.prog X.w _ _ (fin_bl I q rfl)
    case non.tup c =>
      cases (show x = V.non from kx)
      cases (show v = Value.none from rx)
      obtain ⟨p', ws, rfl, t2, r2⟩ := rTup' h2
      cases (show u = Value.ref p' from ry)
      obtain ⟨us', rw', pl', _⟩ := I.tuple t2
      cases h
      exact RcNeAt.none_tuple pl' (by omega) X.prog X.w _ _ (fin_bl I q rfl)
    case non.lst c =>
      cases (show x = V.non from kx)
      cases (show v = Value.none from rx)
      obtain ⟨p', ws, _, rfl, _, t2, r2⟩ := rLst' h2
      cases (show u = Value.ref p' from ry)
      obtain ⟨us', rw', pl', _⟩ := I.list (SqL.of t2)
      cases h
      exact RcNeAt.none_list pl'.isList (by omega) X.prog X.w _ _ (fin_bl I q rfl)
    case bl.non a =>
      cases (show x = V.bl a from kx)
      cases (show v = Value.bool a from rx)
      cases (show y = V.non from ky)
      cases (show u = Value.none from ry)
      cases h
      exact RcNeAt.bool_none _ X.prog X.w _ _ (fin_bl I q rfl)
    case bl.bl a c =>
      cases (show x = V.bl a from kx)
      cases (show v = Value.bool a from rx)
      cases (show y = V.bl c from ky)
      cases (show u = Value.bool c from ry)
      cases h
      exact RcNeAt.bool_bool _ _ X.prog X.w _ _ (fin_bl I q rfl)
    case bl.int a c =>
      cases (show x = V.bl a from kx)
      cases (show v = Value.bool a from rx)
      cases (show y = V.int c from ky)
      obtain ⟨t', rfl⟩ := (show ∃ t, u = Value.int c t from ry)
      cases h
      exact RcNeAt.bool_int _ _ _ X.prog X.w _ _ (fin_bl I q rfl)
    case bl.str a c =>
      cases (show x = V.bl a from kx)
      cases (show v = Value.bool a from rx)
      cases (show y = V.str (S' c) from ky)
      obtain ⟨t', rfl⟩ := (show ∃ t, u = Value.str (S' c) t from ry)
      cases h
      exact RcNeAt.bool_str _ _ _ X.prog X.w _ _ (fin_bl I q rfl)
    case bl.tup a c =>
      cases (show x = V.bl a from kx)
      cases (show v = Value.bool a from rx)
      obtain ⟨p', ws, rfl, t2, r2⟩ := rTup' h2
      cases (show u = Value.ref p' from ry)
      obtain ⟨us', rw', pl', _⟩ := I.tuple t2
      cases h
      exact RcNeAt.bool_tuple _ pl' (by omega) X.prog X.w _ _ (fin_bl I q rfl)
    case bl.lst a c =>
      cases (show x = V.bl a from kx)
      cases (show v = Value.bool a from rx)
      obtain ⟨p', ws, _, rfl, _, t2, r2⟩ := rLst' h2
      cases (show u = Value.ref p' from ry)
      obtain ⟨us', rw', pl', _⟩ := I.list (SqL.of t2)
      cases h
      exact RcNeAt.bool_list _ pl'.isList (by omega) X.prog X.w _ _ (fin_bl I q rfl)
    case int.non a =>
      cases (show x = V.int a from kx)
      obtain ⟨t, rfl⟩ := (show ∃ t, v = Value.int a t from rx)
      cases (show y = V.non from ky)
      cases (show u = Value.none from ry)
      cases h
      exact RcNeAt.int_none _ _ X.prog X.w _ _ (fin_bl I q rfl)
    case int.bl a c =>
      cases (show x = V.int a from kx)
      obtain ⟨t, rfl⟩ := (show ∃ t, v = Value.int a t from rx)
      cases (show y = V.bl c from ky)
      cases (show u = Value.bool c from ry)
      cases h
      exact RcNeAt.int_bool _ _ _ X.prog X.w _ _ (fin_bl I q rfl)
    case int.int a c =>
      cases (show x = V.int a from kx)
      obtain ⟨t, rfl⟩ := (show ∃ t, v = Value.int a t from rx)
      cases (show y = V.int c from ky)
      obtain ⟨t', rfl⟩ := (show ∃ t, u = Value.int c t from ry)
      have h : some (decide (a = c)) = some b := h
      cases h
      rw [← Bool.beq_eq_decide_eq] at q
      exact RcNeAt.int_int _ _ _ _ X.prog X.w _ _ (fin_bl I q rfl)
    case int.str a c =>
      cases (show x = V.int a from kx)
      obtain ⟨t, rfl⟩ := (show ∃ t, v = Value.int a t from rx)
      cases (show y = V.str (S' c) from ky)
      obtain ⟨t', rfl⟩ := (show ∃ t, u = Value.str (S' c) t from ry)
      cases h
      exact RcNeAt.int_str _ _ _ _ X.prog X.w _ _ (fin_bl I q rfl)
    case int.tup a c =>
      cases (show x = V.int a from kx)
      obtain ⟨t, rfl⟩ := (show ∃ t, v = Value.int a t from rx)
      obtain ⟨p', ws, rfl, t2, r2⟩ := rTup' h2
      cases (show u = Value.ref p' from ry)
      obtain ⟨us', rw', pl', _⟩ := I.tuple t2
      cases h
      exact RcNeAt.int_tuple _ _ pl' (by omega) X.prog X.w _ _ (fin_bl I q rfl)
    case int.lst a c =>
      cases (show x = V.int a from kx)
      obtain ⟨t, rfl⟩ := (show ∃ t, v = Value.int a t from rx)
      obtain ⟨p', ws, _, rfl, _, t2, r2⟩ := rLst' h2
      cases (show u = Value.ref p' from ry)
      obtain ⟨us', rw', pl', _⟩ := I.list (SqL.of t2)
      cases h
      exact RcNeAt.int_list _ _ pl'.isList (by omega) X.prog X.w _ _ (fin_bl I q rfl)
    case str.non a =>
      cases (show x = V.str (S' a) from kx)
      obtain ⟨t, rfl⟩ := (show ∃ t, v = Value.str (S' a) t from rx)
      cases (show y = V.non from ky)
      cases (show u = Value.none from ry)
      cases h
      exact RcNeAt.str_none _ _ X.prog X.w _ _ (fin_bl I q rfl)
    case str.bl a c =>
      cases (show x = V.str (S' a) from kx)
      obtain ⟨t, rfl⟩ := (show ∃ t, v = Value.str (S' a) t from rx)
      cases (show y = V.bl c from ky)
      cases (show u = Value.bool c from ry)
      cases h
      exact RcNeAt.str_bool _ _ _ X.prog X.w _ _ (fin_bl I q rfl)
    case str.int a c =>
      cases (show x = V.str (S' a) from kx)
      obtain ⟨t, rfl⟩ := (show ∃ t, v = Value.str (S' a) t from rx)
      cases (show y = V.int c from ky)
      obtain ⟨t', rfl⟩ := (show ∃ t, u = Value.int c t from ry)
      cases h
      exact RcNeAt.str_int _ _ _ _ X.prog X.w _ _ (fin_bl I q rfl)
    case str.str a c =>
      cases (show x = V.str (S' a) from kx)
      obtain ⟨t, rfl⟩ := (show ∃ t, v = Value.str (S' a) t from rx)
      cases (show y = V.str (S' c) from ky)
      obtain ⟨t', rfl⟩ := (show ∃ t, u = Value.str (S' c) t from ry)
      have h : some (a == c) = some b := h
      cases h
      have e : (a == c) = (S' a == S' c) := by rw [Bool.eq_iff_iff]; simp [S'_inj]
      rw [e] at q
      exact RcNeAt.str_str _ _ _ _ X.prog X.w _ _ (fin_bl I q rfl)
    case str.tup a c =>
      cases (show x = V.str (S' a) from kx)
      obtain ⟨t, rfl⟩ := (show ∃ t, v = Value.str (S' a) t from rx)
      obtain ⟨p', ws, rfl, t2, r2⟩ := rTup' h2
      cases (show u = Value.ref p' from ry)
      obtain ⟨us', rw', pl', _⟩ := I.tuple t2
      cases h
      exact RcNeAt.str_tuple _ _ pl' (by omega) X.prog X.w _ _ (fin_bl I q rfl)
    case str.lst a c =>
      cases (show x = V.str (S' a) from kx)
      obtain ⟨t, rfl⟩ := (show ∃ t, v = Value.str (S' a) t from rx)
      obtain ⟨p', ws, _, rfl, _, t2, r2⟩ := rLst' h2
      cases (show u = Value.ref p' from ry)
      obtain ⟨us', rw', pl', _⟩ := I.list (SqL.of t2)
      cases h
      exact RcNeAt.str_list _ _ pl'.isList (by omega) X.prog X.w _ _ (fin_bl I q rfl)
    case tup.non a =>
      obtain ⟨p, vs, rfl, t1, r1⟩ := rTup' h1
      cases (show v = Value.ref p from rx)
      obtain ⟨us, rv, pl, _⟩ := I.tuple t1
      cases (show y = V.non from ky)
      cases (show u = Value.none from ry)
      cases h
      exact RcNeAt.tuple_none pl (by omega) X.prog X.w _ _ (fin_bl I q rfl)
    case tup.bl a c =>
      obtain ⟨p, vs, rfl, t1, r1⟩ := rTup' h1
      cases (show v = Value.ref p from rx)
      obtain ⟨us, rv, pl, _⟩ := I.tuple t1
      cases (show y = V.bl c from ky)
      cases (show u = Value.bool c from ry)
      cases h
      exact RcNeAt.tuple_bool _ pl (by omega) X.prog X.w _ _ (fin_bl I q rfl)
    case tup.int a c =>
      obtain ⟨p, vs, rfl, t1, r1⟩ := rTup' h1
      cases (show v = Value.ref p from rx)
      obtain ⟨us, rv, pl, _⟩ := I.tuple t1
      cases (show y = V.int c from ky)
      obtain ⟨t', rfl⟩ := (show ∃ t, u = Value.int c t from ry)
      cases h
      exact RcNeAt.tuple_int _ _ pl (by omega) X.prog X.w _ _ (fin_bl I q rfl)
    case tup.str a c =>
      obtain ⟨p, vs, rfl, t1, r1⟩ := rTup' h1
      cases (show v = Value.ref p from rx)
      obtain ⟨us, rv, pl, _⟩ := I.tuple t1
      cases (show y = V.str (S' c) from ky)
      obtain ⟨t', rfl⟩ := (show ∃ t, u = Value.str (S' c) t from ry)
      cases h
      exact RcNeAt.tuple_str _ _ pl (by omega) X.prog X.w _ _ (fin_bl I q rfl)
    case tup.tup a c =>
      obtain ⟨p, vs, rfl, t1, r1⟩ := rTup' h1
      cases (show v = Value.ref p from rx)
      obtain ⟨us, rv, pl, _⟩ := I.tuple t1
      obtain ⟨p', ws, rfl, t2, r2⟩ := rTup' h2
      cases (show u = Value.ref p' from ry)
      obtain ⟨us', rw', pl', _⟩ := I.tuple t2
      have h : (deqL (deq 59) a c).map (fun r => r && a.length == c.length) = some b := h
      cases e2 : deqL (deq 59) a c with
      | none => rw [e2] at h; cases h
      | some k =>
        rw [e2] at h
        cases h
        obtain ⟨g1, g2⟩ := seqKids ih e2 r1 r2 rv rw'
        have q : Q (.bl (!(k && a.length == c.length))) H := q
        rw [g2, show (a.length == c.length) = (us.toArray.size == us'.toArray.size) by rw [r1.length, r2.length, rv.length, rw'.length]; simp] at q
        exact SeqAt.bv_rcNe_tuples pl pl' (by omega) (fun j j1 j2 => (g1 j j1 j2).at X.A.in1 (by show X.A.units + 1 + 59 < cLine; omega)) (fin_bl I q rfl)
    case tup.lst a c =>
      obtain ⟨p, vs, rfl, t1, r1⟩ := rTup' h1
      cases (show v = Value.ref p from rx)
      obtain ⟨us, rv, pl, _⟩ := I.tuple t1
      obtain ⟨p', ws, _, rfl, _, t2, r2⟩ := rLst' h2
      cases (show u = Value.ref p' from ry)
      obtain ⟨us', rw', pl', _⟩ := I.list (SqL.of t2)
      cases h
      exact RcNeAt.tuple_list pl pl'.isList (by omega) X.prog X.w _ _ (fin_bl I q rfl)
    case lst.non a =>
      obtain ⟨p, vs, _, rfl, _, t1, r1⟩ := rLst' h1
      cases (show v = Value.ref p from rx)
      obtain ⟨us, rv, pl, _⟩ := I.list (SqL.of t1)
      cases (show y = V.non from ky)
      cases (show u = Value.none from ry)
      cases h
      exact RcNeAt.list_none pl.isList (by omega) X.prog X.w _ _ (fin_bl I q rfl)
    case lst.bl a c =>
      obtain ⟨p, vs, _, rfl, _, t1, r1⟩ := rLst' h1
      cases (show v = Value.ref p from rx)
      obtain ⟨us, rv, pl, _⟩ := I.list (SqL.of t1)
      cases (show y = V.bl c from ky)
      cases (show u = Value.bool c from ry)
      cases h
      exact RcNeAt.list_bool _ pl.isList (by omega) X.prog X.w _ _ (fin_bl I q rfl)
    case lst.int a c =>
      obtain ⟨p, vs, _, rfl, _, t1, r1⟩ := rLst' h1
      cases (show v = Value.ref p from rx)
      obtain ⟨us, rv, pl, _⟩ := I.list (SqL.of t1)
      cases (show y = V.int c from ky)
      obtain ⟨t', rfl⟩ := (show ∃ t, u = Value.int c t from ry)
      cases h
      exact RcNeAt.list_int _ _ pl.isList (by omega) X.prog X.w _ _ (fin_bl I q rfl)
    case lst.str a c =>
      obtain ⟨p, vs, _, rfl, _, t1, r1⟩ := rLst' h1
      cases (show v = Value.ref p from rx)
      obtain ⟨us, rv, pl, _⟩ := I.list (SqL.of t1)
      cases (show y = V.str (S' c) from ky)
      obtain ⟨t', rfl⟩ := (show ∃ t, u = Value.str (S' c) t from ry)
      cases h
      exact RcNeAt.list_str _ _ pl.isList (by omega) X.prog X.w _ _ (fin_bl I q rfl)
    case lst.tup a c =>
      obtain ⟨p, vs, _, rfl, _, t1, r1⟩ := rLst' h1
      cases (show v = Value.ref p from rx)
      obtain ⟨us, rv, pl, _⟩ := I.list (SqL.of t1)
      obtain ⟨p', ws, rfl, t2, r2⟩ := rTup' h2
      cases (show u = Value.ref p' from ry)
      obtain ⟨us', rw', pl', _⟩ := I.tuple t2
      cases h
      exact RcNeAt.list_tuple pl.isList pl' (by omega) X.prog X.w _ _ (fin_bl I q rfl)
    case lst.lst a c =>
      obtain ⟨p, vs, _, rfl, _, t1, r1⟩ := rLst' h1
      cases (show v = Value.ref p from rx)
      obtain ⟨us, rv, pl, _⟩ := I.list (SqL.of t1)
      obtain ⟨p', ws, _, rfl, _, t2, r2⟩ := rLst' h2
      cases (show u = Value.ref p' from ry)
      obtain ⟨us', rw', pl', _⟩ := I.list (SqL.of t2)
      have h : (if a.length = c.length then deqL (deq 59) a c else some false) = some b := h
      by_cases el : a.length = c.length
      · rw [if_pos el] at h
        obtain ⟨g1, g2⟩ := seqKids ih h r1 r2 rv rw'
        have ez : us.toArray.size = us'.toArray.size := by simp only [List.size_toArray]; rw [← rv.length, ← rw'.length, ← r1.length, ← r2.length]; exact el
        rw [← ez, Nat.min_self] at g2
        rw [g2] at q
        exact SeqAt.bv_rcNe_lists pl.isList pl'.isList ez (by omega) (fun j j1 j2 => (g1 j j1 j2).at X.A.in1 (by show X.A.units + 1 + 59 < cLine; omega)) (fin_bl I q rfl)
      · rw [if_neg el] at h
        cases h
        exact RcNeAt.lists_lengths pl.isList pl'.isList (by simp only [List.size_toArray]; rw [← rv.length, ← rw'.length, ← r1.length, ← r2.length]; simpa using el) (by omega) X.prog X.w _ _ (fin_bl I q rfl)
    case dct.dct a c =>
      obtain ⟨p, vs, _, rfl, _, t1, r1⟩ := dct_ref h1
      obtain ⟨p', ws, _, rfl, _, t2, r2⟩ := dct_ref h2
      cases (show v = Value.ref p from rx)
      cases (show u = Value.ref p' from ry)
      obtain ⟨na, oa, es, ep, k1, k2, k3, k4⟩ := dictRaw I t1
      obtain ⟨nb, ob, es', ep', g1, g2, g3, g4⟩ := dictRaw I t2
      have h : (if a.isEmpty || c.isEmpty then some (a.isEmpty && c.isEmpty) else if keysOk a && keysOk c then (deqK (deq 59) c a).map fun r => a.length == c.length && r else none) = some b := h
      by_cases z : (a.isEmpty || c.isEmpty) = true
      · rw [if_pos z] at h
        cases h
        rw [List.length_map] at k4 g4
        have ev : (a.isEmpty && c.isEmpty) = (es.size == es'.size) := by
          rw [k4, g4]
          cases a <;> cases c <;> simp at z ⊢
        rw [ev] at q
        refine dict_ne ⟨_, k1, k2.1⟩ ⟨_, g1, g2.1⟩ (by omega) (same_raw na nb k1 k3 g1 g3 ?_) (fin_bl I q rfl)
        rw [k4, g4]
        cases a <;> cases c <;> simp at z ⊢
      · rw [if_neg z] at h
        split at h
        · rename_i ko
          rw [Bool.and_eq_true] at ko
          have z1 : a ≠ [] := fun q => z (by subst q; simp)
          have z2 : c ≠ [] := fun q => z (by subst q; simp)
          cases e2 : deqK (deq 59) c a with
          | none => rw [e2] at h; cases h
          | some k =>
            rw [e2] at h
            cases h
            obtain ⟨va, vb, na, nb, da, db, kids, ev⟩ := dictKids I ih t1 r1 t2 r2 z1 z2 ko.1 ko.2 e2
            have q : Q (.bl (!(a.length == c.length && k))) H := q
            rw [ev] at q
            exact dict_ne ⟨_, k1, k2.1⟩ ⟨_, g1, g2.1⟩ (by omega) (fun nm => PySem.W.keq_samePairsIn na nb da db (fun _ => PySem.W.KeqHitsIn.of _ fun q val y hm hv => (kids q val y hm hv).at X.A.in1 (by show X.A.units + 1 + 59 < cLine; omega)) ⟨rfl, rfl⟩) (fin_bl I q rfl)
        · cases h
end Bv
end

section
/-! The order of data. -/
namespace Bv
open PySem PySem.Spec PyProof.Rows L2 PySem.W
variable {cls : Nat → Addr} {X : Cx}

mutual
def toP : D → PyData
  | .non => .none
  | .bl b => .bool b
  | .int i => .int i
  | .str x => .str (S' x)
  | .tup x => .tuple (toPs x)
  | .lst x => .list (toPs x)
  | .dct _ => .dict []
  | .ins _ _ => .dict []
def toPs : List D → List PyData
  | [] => []
  | x :: r => toP x :: toPs r
end
theorem toPs_map : ∀ x : List D, toPs x = x.map toP
  | [] => rfl
  | _ :: r => by rw [toPs, List.map_cons, toPs_map r]
/-! no dicts and instances within -/
mutual
def pl : D → Bool
  | .tup x => pls x
  | .lst x => pls x
  | .dct _ => false
  | .ins _ _ => false
  | _ => true
def pls : List D → Bool
  | [] => true
  | x :: r => pl x && pls r
end
mutual
def dep : D → Nat
  | .tup x => deps x + 1
  | .lst x => deps x + 1
  | .dct _ => 1
  | .ins _ _ => 1
  | _ => 0
def deps : List D → Nat
  | [] => 0
  | x :: r => max (dep x) (deps r)
end
mutual
def alk : D → D → Bool
  | .non, .non => true
  | .bl _, .bl _ => true
  | .int _, .int _ => true
  | .str _, .str _ => true
  | .lst x, .lst y => alks x y
  | .tup x, .tup y => alks x y
  | _, _ => false
def alks : List D → List D → Bool
  | x :: r, y :: t => alk x y && alks r t
  | [], _ => true
  | _ :: _, [] => true
end
def ltT : List Nat → List Nat → Bool
  | [], [] => false
  | [], _ :: _ => true
  | _ :: _, [] => false
  | x :: r, y :: t => if x = y then ltT r t else Nat.blt x y
mutual
def dlt : D → D → Bool
  | .bl a, .bl b => !a && b
  | .int a, .int b => decide (a < b)
  | .str a, .str b => ltT a b
  | .lst x, .lst y => dlts x y
  | .tup x, .tup y => dlts x y
  | _, _ => false
def dlts : List D → List D → Bool
  | [], [] => false
  | [], _ :: _ => true
  | _ :: _, [] => false
  | x :: r, y :: t => if x.beq y then dlts r t else dlt x y
end
mutual
theorem alk_toP : ∀ x y : D, alike (toP x) (toP y) = alk x y
  | .non, y => by cases y <;> simp [toP, alike, alk]
  | .bl _, y => by cases y <;> simp [toP, alike, alk]
  | .int _, y => by cases y <;> simp [toP, alike, alk]
  | .str _, y => by cases y <;> simp [toP, alike, alk]
  | .dct _, y => by cases y <;> simp [toP, alike, alk]
  | .ins _ _, y => by cases y <;> simp [toP, alike, alk]
  | .tup a, y => by
    cases y with
    | tup b => simp only [toP, alike, alk]; exact alks_toP a b
    | _ => simp [toP, alike, alk]
  | .lst a, y => by
    cases y with
    | lst b => simp only [toP, alike, alk]; exact alks_toP a b
    | _ => simp [toP, alike, alk]
theorem alks_toP : ∀ x y : List D, alikeAll (toPs x) (toPs y) = alks x y
  | [], y => by cases y <;> simp [toPs, alikeAll, alks]
  | a :: x, [] => by simp [toPs, alikeAll, alks]
  | a :: x, b :: y => by simp only [toPs, alikeAll, alks]; rw [alk_toP a b, alks_toP x y]
end
mutual
theorem dep_toP : ∀ x : D, (toP x).depth = dep x
  | .non => by simp [toP, PyData.depth, dep]
  | .bl _ => by simp [toP, PyData.depth, dep]
  | .int _ => by simp [toP, PyData.depth, dep]
  | .str _ => by simp [toP, PyData.depth, dep]
  | .dct _ => by simp [toP, PyData.depth, PyData.depthKv, dep]
  | .ins _ _ => by simp [toP, PyData.depth, PyData.depthKv, dep]
  | .tup a => by simp only [toP, PyData.depth, dep]; rw [deps_toP a]
  | .lst a => by simp only [toP, PyData.depth, dep]; rw [deps_toP a]
theorem deps_toP : ∀ x : List D, PyData.depthAll (toPs x) = deps x
  | [] => by simp [toPs, PyData.depthAll, deps]
  | a :: x => by simp only [toPs, PyData.depthAll, deps]; rw [dep_toP a, deps_toP x]
end
theorem ltT_eq : ∀ x y : List Nat, ltT x y = decide (x < y)
  | [], [] => by simp [ltT]
  | [], _ :: _ => by simp [ltT]
  | _ :: _, [] => by simp [ltT]
  | x :: r, y :: t => by
    unfold ltT
    rw [ltT_eq r t]
    by_cases e : x = y
    · subst e
      rw [if_pos rfl]
      simp [List.cons_lt_cons_iff]
    · rw [if_neg e, Bool.eq_iff_iff, Nat.blt_eq]
      simp [List.cons_lt_cons_iff, e]
mutual
theorem eqv_beq : ∀ x y : D, alk x y = true → PyData.eqv (toP x) (toP y) = x.beq y
  | .non, y, h => by cases y <;> simp [toP, PyData.eqv, D.beq, alk] at h ⊢
  | .bl _, y, h => by cases y <;> simp [toP, PyData.eqv, D.beq, alk] at h ⊢
  | .int _, y, h => by cases y <;> simp [toP, PyData.eqv, D.beq, alk] at h ⊢; exact Bool.beq_eq_decide_eq _ _
  | .str _, y, h => by
    cases y with
    | str z =>
      simp only [toP, PyData.eqv, D.beq]
      rw [Bool.eq_iff_iff]
      simp [S'_inj]
    | _ => simp [alk] at h
  | .dct _, y, h => by cases y <;> simp [alk] at h
  | .ins _ _, y, h => by cases y <;> simp [alk] at h
  | .tup a, y, h => by
    cases y with
    | tup b => simp only [toP, PyData.eqv, D.beq]; exact eqvs_beq a b (by simpa [alk] using h)
    | _ => simp [alk] at h
  | .lst a, y, h => by
    cases y with
    | lst b => simp only [toP, PyData.eqv, D.beq]; exact eqvs_beq a b (by simpa [alk] using h)
    | _ => simp [alk] at h
theorem eqvs_beq : ∀ x y : List D, alks x y = true → PyData.eqvAll (toPs x) (toPs y) = D.beqs x y
  | [], y, h => by cases y <;> simp [toPs, PyData.eqvAll, D.beqs]
  | a :: x, [], h => by simp [toPs, PyData.eqvAll, D.beqs]
  | a :: x, b :: y, h => by
    rw [alks, Bool.and_eq_true] at h
    simp only [toPs, PyData.eqvAll, D.beqs]
    rw [eqv_beq a b h.1, eqvs_beq x y h.2]
end
mutual
theorem dlt_eq : ∀ x y : D, alk x y = true → x ≠ .non → dataLt (toP x) (toP y) = dlt x y
  | .non, y, h, n => absurd rfl n
  | .bl a, y, h, _ => by
    cases y with
    | bl b => simp only [toP, dlt]; rw [dataLt_bool]; cases a <;> cases b <;> rfl
    | _ => simp [alk] at h
  | .int a, y, h, _ => by
    cases y with
    | int b => simp only [toP, dlt]; rw [dataLt_int]
    | _ => simp [alk] at h
  | .str a, y, h, _ => by
    cases y with
    | str b => simp only [toP, dlt]; rw [dataLt_str, ltT_eq]
    | _ => simp [alk] at h
  | .dct _, y, h, _ => by cases y <;> simp [alk] at h
  | .ins _ _, y, h, _ => by cases y <;> simp [alk] at h
  | .tup a, y, h, _ => by
    cases y with
    | tup b => simp only [toP, dlt]; rw [dataLt_tuple]; exact dlts_eq a b (by simpa [alk] using h)
    | _ => simp [alk] at h
  | .lst a, y, h, _ => by
    cases y with
    | lst b => simp only [toP, dlt]; rw [dataLt_list]; exact dlts_eq a b (by simpa [alk] using h)
    | _ => simp [alk] at h
theorem dlts_eq : ∀ x y : List D, alks x y = true → PyProof.Rows.lexLt itemOrd (keyToksAll (toPs x)) (keyToksAll (toPs y)) = dlts x y
  | [], [], h => by simp only [toPs, dlts]; exact lex_irrefl _
  | [], b :: y, h => by
    simp only [toPs, dlts]
    rw [toks_all_cons, keyToksAll, lex_cons]
    rfl
  | a :: x, [], h => by
    simp only [toPs, dlts]
    rw [toks_all_cons, keyToksAll, lex_cons]
    rfl
  | a :: x, b :: y, h => by
    rw [alks, Bool.and_eq_true] at h
    simp only [toPs]
    unfold dlts
    have ha : alike (toP a) (toP b) = true := by rw [alk_toP]; exact h.1
    by_cases e : a.beq b = true
    · rw [if_pos e, dataLt_all_yes ha (by rw [eqv_beq a b h.1]; exact e)]
      exact dlts_eq x y h.2
    · rw [if_neg e, dataLt_all_no ha (by rw [eqv_beq a b h.1]; simpa using e)]
      exact dlt_eq a b h.1 fun z => e (by
        subst z
        cases b <;> simp [alk] at h
        simp [D.beq])
end
mutual
theorem Rep.dp {K : PySem.W.Frag} {H : Hp} : ∀ {d : D} {v : V} {F : List Addr}, pl d = true → Rep K cls H d v F → Dp K H v (toP d)
  | .non, _, _, _, h => by rw [rNon' h, toP]; exact .non
  | .bl _, _, _, _, h => by rw [rBl' h, toP]; exact .bl _
  | .int _, _, _, _, h => by rw [rInt' h, toP]; exact .int _
  | .str _, _, _, _, h => by rw [(rStr' h).1, toP]; exact .str _
  | .dct _, _, _, p, _ => by simp [pl] at p
  | .ins _ _, _, _, p, _ => by simp [pl] at p
  | .tup x, v, F, p, h => by
    obtain ⟨a, vs, rfl, t, r⟩ := rTup' h
    rw [toP]
    exact .tup t (Reps.dp (by simpa [pl] using p) r)
  | .lst x, v, F, p, h => by
    obtain ⟨a, vs, G, rfl, _, t, r⟩ := rLst' h
    rw [toP]
    exact .lst (SqL.of t) (Reps.dp (by simpa [pl] using p) r)
theorem Reps.dp {K : PySem.W.Frag} {H : Hp} : ∀ {d : List D} {v : List V} {F : List Addr}, pls d = true → Reps K cls H d v F → DpAll K H v (toPs d)
  | [], _, _, _, h => by unfold Reps at h; rw [h.1, toPs]; exact .nil
  | x :: d, v, F, p, h => by
    obtain ⟨w, vr, F1, F2, rfl, rfl, h1, h2⟩ := h.uncons
    rw [pls, Bool.and_eq_true] at p
    rw [toPs]
    exact .cons (Rep.dp p.1 h1) (Reps.dp p.2 h2)
end
def cmpOk (x y : D) : Bool := match x, y with
  | .int _, .int _ => true
  | .str _, .str _ => true
  | .non, _ => false
  | x, y => alk x y && pl x && pl y && decide (dep x ≤ 60)
theorem cmpOk_of {x y : D} (h : cmpOk x y = true) : alk x y = true ∧ x ≠ .non ∧ pl x = true ∧ pl y = true ∧ dep x ≤ 60 := by
  unfold cmpOk at h
  split at h
  · exact ⟨by simp [alk], (by intro z; cases z), by simp [pl], by simp [pl], by simp [dep]⟩
  · exact ⟨by simp [alk], (by intro z; cases z), by simp [pl], by simp [pl], by simp [dep]⟩
  · cases h
  · simp only [Bool.and_eq_true, decide_eq_true_eq] at h
    exact ⟨h.1.1.1, (fun z => by simp_all), h.1.1.2, h.1.2, h.2⟩
theorem alk_comm (x y : D) : alk x y = alk y x := by rw [← alk_toP, ← alk_toP, alike_comm]
theorem non_comm {x y : D} (a : alk x y = true) (n : x ≠ .non) : y ≠ .non := by
  intro z
  subst z
  cases x <;> simp [alk] at a n
def dLt (x y : D) : Option D := if cmpOk x y then some (.bl (dlt x y)) else none
theorem o_lt (hu : X.A.units + 64 < cLine) : OpR X (compareOp .Lt) (rD2 X.K cls dLt) := by
  rintro pins s σ H x y v u Q I rx ry ⟨d1, d2, F1, F2, d, h1, h2, e, af⟩
  unfold dLt at e
  split at e
  · rename_i ok
    cases e
    obtain ⟨a, n, p1, p2, dp⟩ := cmpOk_of ok
    obtain ⟨as, r1⟩ := Dp.reads I _ x v (Rep.dp p1 h1) rx
    obtain ⟨bs, r2⟩ := Dp.reads I _ y u (Rep.dp p2 h2) ry
    refine lt_data r1 r2 (by rw [alk_toP]; exact a) (by cases d1 <;> simp [toP] at n ⊢) (by rw [dep_toP]; omega) ?_
    rw [dlt_eq _ _ a n]
    exact fin_bl I (af.scal rBl) rfl
  · cases e
def dGt (x y : D) : Option D := if cmpOk x y then some (.bl (dlt y x)) else none
theorem o_gt (hu : X.A.units + 64 < cLine) : OpR X (compareOp .Gt) (rD2 X.K cls dGt) := by
  rintro pins s σ H x y v u Q I rx ry ⟨d1, d2, F1, F2, d, h1, h2, e, af⟩
  unfold dGt at e
  split at e
  · rename_i ok
    cases e
    obtain ⟨a, n, p1, p2, dp⟩ := cmpOk_of ok
    obtain ⟨as, r1⟩ := Dp.reads I _ x v (Rep.dp p1 h1) rx
    obtain ⟨bs, r2⟩ := Dp.reads I _ y u (Rep.dp p2 h2) ry
    refine gt_data r1 r2 (by rw [alk_toP]; exact a) (by cases d1 <;> simp [toP] at n ⊢) (by rw [dep_toP]; omega) ?_
    rw [dlt_eq _ _ (by rw [alk_comm]; exact a) (non_comm a n)]
    exact fin_bl I (af.scal rBl) rfl
  · cases e
def dLe (x y : D) : Option D := if cmpOk x y then some (.bl (!dlt y x)) else none
theorem o_le (hu : X.A.units + 64 < cLine) : OpR X (compareOp .LtE) (rD2 X.K cls dLe) := by
  rintro pins s σ H x y v u Q I rx ry ⟨d1, d2, F1, F2, d, h1, h2, e, af⟩
  unfold dLe at e
  split at e
  · rename_i ok
    cases e
    obtain ⟨a, n, p1, p2, dp⟩ := cmpOk_of ok
    obtain ⟨as, r1⟩ := Dp.reads I _ x v (Rep.dp p1 h1) rx
    obtain ⟨bs, r2⟩ := Dp.reads I _ y u (Rep.dp p2 h2) ry
    refine le_data r1 r2 (by rw [alk_toP]; exact a) (by cases d1 <;> simp [toP] at n ⊢) (by rw [dep_toP]; omega) ?_
    rw [dlt_eq _ _ (by rw [alk_comm]; exact a) (non_comm a n)]
    exact fin_bl I (af.scal rBl) rfl
  · cases e
def dGe (x y : D) : Option D := if cmpOk x y then some (.bl (!dlt x y)) else none
theorem o_ge (hu : X.A.units + 64 < cLine) : OpR X (compareOp .GtE) (rD2 X.K cls dGe) := by
  rintro pins s σ H x y v u Q I rx ry ⟨d1, d2, F1, F2, d, h1, h2, e, af⟩
  unfold dGe at e
  split at e
  · rename_i ok
    cases e
    obtain ⟨a, n, p1, p2, dp⟩ := cmpOk_of ok
    obtain ⟨as, r1⟩ := Dp.reads I _ x v (Rep.dp p1 h1) rx
    obtain ⟨bs, r2⟩ := Dp.reads I _ y u (Rep.dp p2 h2) ry
    refine ge_data r1 r2 (by rw [alk_toP]; exact a) (by cases d1 <;> simp [toP] at n ⊢) (by rw [dep_toP]; omega) ?_
    rw [dlt_eq _ _ a n]
    exact fin_bl I (af.scal rBl) rfl
  · cases e
end Bv
end

section
/-! is None; in, not in. -/
namespace Bv
open PySem PySem.Spec PyProof.Rows L2 PySem.W
variable {cls : Nat → Addr} {X : Cx}

def isNon : D → Bool
  | .non => true
  | _ => false
def dIs (x y : D) : Option D := match y with
  | .non => some (.bl (isNon x))
  | _ => none
def dIsNot (x y : D) : Option D := match y with
  | .non => some (.bl (!isNon x))
  | _ => none
theorem isNon_rep {K : PySem.W.Frag} {H : Hp} {d : D} {v : V} {F : List Addr} (h : Rep K cls H d v F) : decide (v = .non) = isNon d := by
  have k := h.kind
  cases d <;> simp only [kindV] at k
  case non => subst k; rfl
  all_goals first
    | (subst k; rfl)
    | (obtain ⟨a, rfl⟩ := k; rfl)
theorem o_is : OpR X (compareOp .Is) (rD2 X.K cls dIs) := by
  rintro pins s σ H x y v u Q I rx ry ⟨d1, d2, F1, F2, d, h1, h2, e, af⟩
  unfold dIs at e
  split at e
  · cases e
    rw [rNon' h2] at ry
    exact op_isN pins s σ H x _ v u Q I rx ry ⟨rfl, by rw [isNon_rep h1]; exact af.scal rBl⟩
  · cases e
theorem o_isNot : OpR X (compareOp .IsNot) (rD2 X.K cls dIsNot) := by
  rintro pins s σ H x y v u Q I rx ry ⟨d1, d2, F1, F2, d, h1, h2, e, af⟩
  unfold dIsNot at e
  split at e
  · cases e
    rw [rNon' h2] at ry
    exact op_notN pins s σ H x _ v u Q I rx ry ⟨rfl, by rw [isNon_rep h1]; exact af.scal rBl⟩
  · cases e

/-! ### a text within another -/
/-- s begins with sub -/
def preT : List Nat → List Nat → Bool
  | [], _ => true
  | _ :: _, [] => false
  | a :: r, b :: t => if a = b then preT r t else false
def inT (sub : List Nat) : List Nat → Bool
  | [] => sub.isEmpty
  | b :: t => preT sub (b :: t) || inT sub t
theorem preT_iff : ∀ sub s : List Nat, preT sub s = true ↔ sub.length ≤ s.length ∧ s.take sub.length = sub
  | [], s => by simp [preT]
  | a :: r, [] => by simp [preT]
  | a :: r, b :: t => by
    unfold preT
    by_cases e : a = b
    · subst e
      rw [if_pos rfl, preT_iff r t]
      simp
    · rw [if_neg e]
      simp
      intro _ z
      exact absurd z.symm e
theorem preT_app : ∀ sub s : List Nat, preT sub s = true ↔ ∃ t, s = sub ++ t
  | sub, s => by
    rw [preT_iff]
    constructor
    · rintro ⟨h1, h2⟩
      exact ⟨s.drop sub.length, by rw [← h2, List.length_take, Nat.min_eq_left h1]; rw [List.take_append_drop]⟩
    · rintro ⟨t, rfl⟩
      simp
theorem inT_iff (sub : List Nat) : ∀ s : List Nat, inT sub s = true ↔ ∃ i, i + sub.length ≤ s.length ∧ preT sub (s.drop i) = true
  | [] => by
    unfold inT
    constructor
    · intro h
      have : sub = [] := by simpa using h
      subst this
      exact ⟨0, by simp, rfl⟩
    · rintro ⟨i, h, _⟩
      have h : i + sub.length ≤ 0 := h
      have : sub.length = 0 := by omega
      simpa using this
  | b :: t => by
    unfold inT
    rw [Bool.or_eq_true, inT_iff sub t]
    constructor
    · rintro (h | ⟨i, h1, h2⟩)
      · exact ⟨0, by have := ((preT_iff _ _).mp h).1; simpa using this, h⟩
      · exact ⟨i + 1, by simp; omega, by simpa using h2⟩
    · rintro ⟨i, h1, h2⟩
      cases i with
      | zero => exact .inl (by simpa using h2)
      | succ i => exact .inr ⟨i, by simp at h1; omega, by simpa using h2⟩
theorem subAt_pre (x y : List Nat) (i : Nat) (h : i + y.length ≤ x.length) : Builtin.Str.subAt (S' x) (S' y) i = preT y (x.drop i) := by
  rw [Bool.eq_iff_iff, preT_iff]
  unfold Builtin.Str.subAt
  rw [S'_length, beq_iff_eq]
  show x.toArray.extract i (i + y.length) = y.toArray ↔ _
  rw [List.extract_toArray]
  constructor
  · intro e
    have e := congrArg Array.toList e
    have e : List.take (i + y.length - i) (List.drop i x) = y := by simpa using e
    refine ⟨by rw [List.length_drop]; omega, ?_⟩
    rw [show i + y.length - i = y.length by omega] at e
    exact e
  · rintro ⟨_, e⟩
    have : List.take (i + y.length - i) (List.drop i x) = y := by
      rw [show i + y.length - i = y.length by omega]
      exact e
    simpa using this
theorem occ_inT (x y : List Nat) : (!(Builtin.Str.occurrences (S' x) (S' y) 0 (S' x).length 1).isEmpty) = inT y x := by
  rw [Bool.eq_iff_iff, PySem.StrLaws.found_iff, inT_iff]
  simp only [S'_length]
  constructor
  · rintro ⟨i, h1, h2⟩
    exact ⟨i, h1, by rw [← subAt_pre x y i h1]; exact h2⟩
  · rintro ⟨i, h1, h2⟩
    exact ⟨i, h1, by rw [subAt_pre x y i h1]; exact h2⟩
/-! nothing that is no plain data in it, codes of signs alone -/
mutual
def lay : D → Bool
  | .str x => x.all fun c => Nat.blt c 0x110000
  | .tup x => lays x
  | .lst x => lays x
  | .dct _ => false
  | .ins _ _ => false
  | _ => true
def lays : List D → Bool
  | [] => true
  | x :: r => lay x && lays r
end
mutual
theorem lay_toP : ∀ d : D, lay d = true → (toP d).canLay0 = true
  | .non, _ => by simp [toP, PyData.canLay0]
  | .bl _, _ => by simp [toP, PyData.canLay0]
  | .int _, _ => by simp [toP, PyData.canLay0]
  | .str x, h => by
    simp only [toP, PyData.canLay0]
    unfold lay at h
    unfold PyData.strOk
    rw [List.all_eq_true] at h
    rw [← Array.all_toList, List.all_eq_true]
    intro c hc
    have := h c hc
    simpa [Nat.blt_eq] using this
  | .dct _, h => by simp [lay] at h
  | .ins _ _, h => by simp [lay] at h
  | .tup x, h => by simp only [toP, PyData.canLay0]; exact lays_toP x (by simpa [lay] using h)
  | .lst x, h => by simp only [toP, PyData.canLay0]; exact lays_toP x (by simpa [lay] using h)
theorem lays_toP : ∀ d : List D, lays d = true → PyData.canLayAll0 (toPs d) = true
  | [], _ => by simp [toPs, PyData.canLayAll0]
  | x :: r, h => by
    rw [lays, Bool.and_eq_true] at h
    simp only [toPs, PyData.canLayAll0]
    rw [lay_toP x h.1, lays_toP r h.2]
    rfl
end
mutual
theorem lay_pl : ∀ d : D, lay d = true → pl d = true
  | .non, _ => rfl
  | .bl _, _ => rfl
  | .int _, _ => rfl
  | .str x, h => rfl
  | .dct _, h => by simp [lay] at h
  | .ins _ _, h => by simp [lay] at h
  | .tup x, h => by rw [pl]; exact lays_pl x (by simpa [lay] using h)
  | .lst x, h => by rw [pl]; exact lays_pl x (by simpa [lay] using h)
theorem lays_pl : ∀ d : List D, lays d = true → pls d = true
  | [], _ => rfl
  | x :: r, h => by
    rw [lays, Bool.and_eq_true] at h
    rw [pls, lay_pl x h.1, lays_pl r h.2]
    rfl
end
/-! == of data without dicts, as the library's equality -/
mutual
def eqp : D → D → Bool
  | .non, .non => true
  | .bl a, .bl b => a == b
  | .bl a, .int j => decide ((if a then 1 else 0) = j)
  | .int i, .bl b => decide (i = (if b then 1 else 0))
  | .int i, .int j => decide (i = j)
  | .str x, .str y => x == y
  | .lst x, .lst y => eqps x y
  | .tup x, .tup y => eqps x y
  | _, _ => false
def eqps : List D → List D → Bool
  | [], [] => true
  | x :: r, y :: t => eqp x y && eqps r t
  | _, _ => false
end
mutual
theorem eqp_toP : ∀ x y : D, pl x = true → pl y = true → PyData.eqv (toP x) (toP y) = eqp x y
  | .non, y, _, q => by cases y <;> simp [toP, PyData.eqv, eqp, pl] at q ⊢
  | .bl _, y, _, q => by cases y <;> simp [toP, PyData.eqv, eqp, pl] at q ⊢ <;> exact Bool.beq_eq_decide_eq _ _
  | .int _, y, _, q => by cases y <;> simp [toP, PyData.eqv, eqp, pl] at q ⊢ <;> exact Bool.beq_eq_decide_eq _ _
  | .str _, y, _, q => by
    cases y with
    | str z =>
      simp only [toP, PyData.eqv, eqp]
      rw [Bool.eq_iff_iff]
      simp [S'_inj]
    | _ => simp [toP, PyData.eqv, eqp, pl] at q ⊢
  | .dct _, _, p, _ => by simp [pl] at p
  | .ins _ _, _, p, _ => by simp [pl] at p
  | .tup a, y, p, q => by
    cases y with
    | tup b => simp only [toP, PyData.eqv, eqp]; exact eqps_toP a b (by simpa [pl] using p) (by simpa [pl] using q)
    | _ => simp [toP, PyData.eqv, eqp, pl] at q ⊢
  | .lst a, y, p, q => by
    cases y with
    | lst b => simp only [toP, PyData.eqv, eqp]; exact eqps_toP a b (by simpa [pl] using p) (by simpa [pl] using q)
    | _ => simp [toP, PyData.eqv, eqp, pl] at q ⊢
theorem eqps_toP : ∀ x y : List D, pls x = true → pls y = true → PyData.eqvAll (toPs x) (toPs y) = eqps x y
  | [], y, _, _ => by cases y <;> simp [toPs, PyData.eqvAll, eqps]
  | a :: x, [], _, _ => by simp [toPs, PyData.eqvAll, eqps]
  | a :: x, b :: y, p, q => by
    rw [pls, Bool.and_eq_true] at p q
    simp only [toPs, PyData.eqvAll, eqps]
    rw [eqp_toP a b p.1 q.1, eqps_toP x y p.2 q.2]
end
def flatD : D → Bool
  | .non => true | .bl _ => true | .int _ => true | .str _ => true
  | _ => false
def anyD (p : D → Bool) : List D → Bool
  | [] => false
  | x :: r => if p x then true else anyD p r
theorem anyD_eq (p : D → Bool) : ∀ l, anyD p l = l.any p
  | [] => rfl
  | x :: r => by
    unfold anyD
    rw [List.any_cons, anyD_eq p r]
    cases p x <;> rfl
def inSeq (x : D) (ys : List D) : Option Bool :=
  if flatD x && ys.all flatD then some (anyD (fun y => eqp y x) ys)
  else if lay x && lays ys && Nat.ble (dep x) 60 then some (anyD (fun y => eqp y x) ys) else none
/-- ints and texts: 0; tuples of them: 1 -/
def kkind (d : D) : Nat := match toKey d with
  | some _ => 0
  | none => match toKeys d with
    | some _ => 1
    | none => 2
/-- x can be looked for in it -/
def keyOk (kvs : List (D × D)) (x : D) : Bool := match kvs with
  | [] => Nat.blt (kkind x) 2
  | (k, _) :: _ => Nat.blt (kkind x) 2 && kkind k == kkind x
def dIn (x y : D) : Option D := match y with
  | .str s => (match x with
    | .str t => some (.bl (inT t s))
    | _ => none)
  | .tup ys => (inSeq x ys).map fun k => .bl k
  | .lst ys => (inSeq x ys).map fun k => .bl k
  | .dct kvs => if keyOk kvs x then some (.bl (dget kvs x).isSome) else none
  | _ => none
def dNotIn (x y : D) : Option D := match dIn x y with
  | some (.bl k) => some (.bl !k)
  | _ => none
theorem toKeyL_map : ∀ q : List Key, toKeyL (q.map keyD) = some q
  | [] => rfl
  | z :: q => by rw [List.map_cons, toKeyL, toKeyL_map q]; cases z <;> rfl
theorem vget_of {κ : Type} [DecidableEq κ] (f : κ → D) (inj : ∀ a b, f a = f b → a = b) : ∀ {kvs : List (D × D)} {ks : List κ} {vs : List V}, kvs.map Prod.fst = ks.map f → ks.length = vs.length → ∀ k : κ,
    (valV (ks.zip vs) k = none ∧ dget kvs (f k) = none) ∨ ∃ (j : Nat) (y : V) (d : D), valV (ks.zip vs) k = some y ∧ dget kvs (f k) = some d ∧ vs[j]? = some y ∧ kvs[j]? = some (f k, d)
  | [], [], vs, _, _, k => .inl ⟨rfl, rfl⟩
  | [], _ :: _, _, e, _, _ => by cases e
  | _ :: _, [], _, e, _, _ => by cases e
  | p :: c, q :: ls, [], _, h, _ => by cases h
  | p :: c, q :: ls, u :: us, e, h, k => by
    obtain ⟨pk, pd⟩ := p
    rw [List.map_cons, List.map_cons, List.cons.injEq] at e
    obtain ⟨e1, e2⟩ := e
    have e1 : pk = f q := e1
    subst e1
    rw [List.zip_cons_cons]
    by_cases hq : q = k
    · subst hq
      exact .inr ⟨0, u, pd, valV_pos rfl, by unfold dget; rw [if_pos rfl], rfl, rfl⟩
    · have hk : ¬ f q = f k := fun z => hq (inj _ _ z)
      rw [valV_neg hq, dget, if_neg hk]
      rcases vget_of f inj e2 (by simpa using h) k with w | ⟨j, y, d, w1, w2, w3, w4⟩
      · exact .inl w
      · exact .inr ⟨j + 1, y, d, w1, w2, by simpa using w3, by simpa using w4⟩
section
variable {pins : List (Addr × Obj)} {σ : L2.St} {H : Hp} {s : Shared}
theorem dict_empty (I : Inv X pins σ H s) {a : Addr} {vs : List V} (h : DictH H a [] vs) : (a == sysModules) = false ∧ s.heap.DictOf (mixKind X.prog X.w) a [] ∧ s.heap.DictOfH (tupleKind (mixKind X.prog X.w)) a [] := by
  obtain ⟨_, ⟨ks, e, l, r⟩ | ⟨ks, e, l, r⟩⟩ := h
  · have : ks = [] := by cases ks with | nil => rfl | cons _ _ => cases e
    subst this
    have : vs = [] := by cases vs with | nil => rfl | cons _ _ => cases l
    subst this
    obtain ⟨_, z, ws, kv, dd⟩ := dk_rd I.hok r
    cases kv
    obtain ⟨o, es, ep, h1, h2, h3, h4, h5, h6⟩ := id dd
    have he : es.toList = [] := by
      generalize es.toList = l at h5
      cases h5
      rfl
    exact ⟨z, dd, o, es, ep, h1, h2, h3, by rw [he]; rfl, (fun x hx => by cases hx), List.nodup_nil⟩
  · have : ks = [] := by cases ks with | nil => rfl | cons _ _ => cases e
    subst this
    have : vs = [] := by cases vs with | nil => rfl | cons _ _ => cases l
    subst this
    obtain ⟨_, z, ws, kv, dd⟩ := dt_rd I.hok r
    cases kv
    obtain ⟨o, es, ep, h1, h2, h3, h4, h5, h6⟩ := id dd
    have he : es.toList = [] := h4
    have he' : es = #[] := by rw [← Array.toList_eq_nil_iff]; exact he
    refine ⟨z, ⟨o, es, ep, h1, h2, h3, ?_, ?_, List.nodup_nil⟩, dd⟩
    · subst he'
      intro i en
      simp at en
    · rw [he]; exact .nil
theorem keyV {d : D} {v : V} {F : List Addr} {k : Key} {K : PySem.W.Frag} (r : Rep K cls H d v F) (h : d = keyD k) : v = kV k := by
  subst h
  cases k with
  | inl i => exact rInt' r
  | inr x => rw [(rStr' r).1]; rfl
theorem keysV {K : PySem.W.Frag} : ∀ {k : List Key} {vs : List V} {F : List Addr}, Reps K cls H (k.map keyD) vs F → vs = k.map kV
  | [], vs, F, r => by unfold Reps at r; exact r.1
  | q :: k, vs, F, r => by
    rw [List.map_cons] at r
    obtain ⟨v, vr, F1, F2, rfl, rfl, h1, h2⟩ := r.uncons
    rw [keyV h1 rfl, keysV h2]
    rfl
/-- a key of a dict, as the library looks for it -/
theorem dict_get {K : PySem.W.Frag} {a : Addr} {kvs : List (D × D)} {vs : List V} {x : D} {y : V} {F : List Addr} (h : DictH H a (kvs.map Prod.fst) vs) (ne : kvs ≠ []) (ok : keyOk kvs x = true) (r : Rep K cls H x y F) :
    ∃ o, DGet H a y o ∧ ((o = none ∧ dget kvs x = none) ∨ ∃ (j : Nat) (z : V) (d : D), o = some z ∧ dget kvs x = some d ∧ vs[j]? = some z ∧ kvs[j]? = some (x, d)) := by
  cases kvs with
  | nil => exact absurd rfl ne
  | cons p c =>
    obtain ⟨pk, pd⟩ := p
    unfold keyOk at ok
    rw [Bool.and_eq_true, beq_iff_eq] at ok
    obtain ⟨ok1, ok2⟩ := ok
    obtain ⟨_, ⟨ks, e, l, rd⟩ | ⟨ks, e, l, rd⟩⟩ := h
    · have hk : kkind pk = 0 := by
        cases ks with
        | nil => cases e
        | cons q ks =>
          rw [List.map_cons, List.map_cons, List.cons.injEq] at e
          have : pk = keyD q := e.1
          subst this
          cases q <;> rfl
      rw [hk] at ok2
      obtain ⟨k, ek⟩ : ∃ k, toKey x = some k := by
        unfold kkind at ok2
        cases hx : toKey x with
        | some k => exact ⟨k, rfl⟩
        | none => rw [hx] at ok2; dsimp only at ok2; split at ok2 <;> cases ok2
      have ex := toKey_some ek
      refine ⟨_, .inl ⟨_, k, rd, keyV r ex, rfl⟩, ?_⟩
      rw [ex]
      exact vget_of keyD (fun _ _ => keyD_inj) e l k
    · have hk : kkind pk = 1 := by
        cases ks with
        | nil => cases e
        | cons q ks =>
          rw [List.map_cons, List.map_cons, List.cons.injEq] at e
          have : pk = keysD q := e.1
          subst this
          have t : toKeys (keysD q) = some q := toKeyL_map q
          unfold kkind
          rw [t]
          rfl
      rw [hk] at ok2
      obtain ⟨k, ek⟩ : ∃ k, toKeys x = some k := by
        unfold kkind at ok2
        cases hx : toKeys x with
        | some k => exact ⟨k, rfl⟩
        | none => rw [hx] at ok2; dsimp only at ok2; split at ok2 <;> cases ok2
      have ex := toKeys_some ek
      rw [ex] at r ⊢
      obtain ⟨b, ws, rfl, t, r⟩ := rTupS r
      have := keysV r
      subst this
      exact ⟨_, .inr ⟨_, k, b, rd, rfl, t, rfl⟩, vget_of keysD (fun _ _ => keysD_inj) e l k⟩
theorem flatV_D {K : PySem.W.Frag} {d : D} {v : V} {F : List Addr} (r : Rep K cls H d v F) (f : flatD d = true) : flatV v = true := by
  cases d <;> simp [flatD] at f
  · rw [rNon' r]; rfl
  · rw [rBl' r]; rfl
  · rw [rInt' r]; rfl
  · rw [(rStr' r).1]; rfl
theorem flatV_Ds {K : PySem.W.Frag} : ∀ {d : List D} {v : List V} {F : List Addr}, Reps K cls H d v F → d.all flatD = true → v.all flatV = true
  | [], v, F, r, _ => by unfold Reps at r; rw [r.1]; rfl
  | x :: d, v, F, r, f => by
    obtain ⟨v, vr, F1, F2, rfl, rfl, h1, h2⟩ := r.uncons
    rw [List.all_cons, Bool.and_eq_true] at f
    rw [List.all_cons, flatV_D h1 f.1, flatV_Ds h2 f.2]
    rfl
theorem eqV_D {K : PySem.W.Frag} {d e : D} {v u : V} {F G : List Addr} (r : Rep K cls H d v F) (q : Rep K cls H e u G) (f : flatD d = true) (g : flatD e = true) : eqV v u = eqp d e := by
  cases d <;> simp [flatD] at f <;> cases e <;> simp [flatD] at g <;>
  (first | rw [rNon' r] | rw [rBl' r] | rw [rInt' r] | rw [(rStr' r).1]) <;>
  (first | rw [rNon' q] | rw [rBl' q] | rw [rInt' q] | rw [(rStr' q).1]) <;> try rfl
  all_goals (simp only [eqV, eqp]; rw [Bool.eq_iff_iff]; simp [S'_inj])
theorem inV_D {K : PySem.W.Frag} {x : D} {v : V} {G : List Addr} (q : Rep K cls H x v G) (g : flatD x = true) : ∀ {d : List D} {w : List V} {F : List Addr}, Reps K cls H d w F → d.all flatD = true → inV v w = anyD (fun y => eqp y x) d
  | [], w, F, r, _ => by unfold Reps at r; rw [r.1]; rfl
  | y :: d, w, F, r, f => by
    obtain ⟨w, vr, F1, F2, rfl, rfl, h1, h2⟩ := r.uncons
    rw [List.all_cons, Bool.and_eq_true] at f
    unfold anyD
    rw [show inV v (w :: vr) = (eqV w v || inV v vr) from rfl, eqV_D h1 q f.1 g, inV_D q g h2 f.2]
    cases eqp y x <;> rfl
theorem anyP : ∀ {d : List D} {x : D}, pls d = true → pl x = true → ((toPs d).any fun y => PyData.eqv y (toP x)) = anyD (fun y => eqp y x) d
  | [], x, _, _ => by rw [toPs]; rfl
  | y :: d, x, h, hx => by
    rw [pls, Bool.and_eq_true] at h
    rw [toPs, List.any_cons, eqp_toP y x h.1 hx, anyP h.2 hx]
    show _ = (if eqp y x = true then true else anyD (fun y => eqp y x) d)
    cases eqp y x <;> rfl
end
section
variable {pins : List (Addr × Obj)} {σ : L2.St} {H : Hp} {s : Shared}
theorem room_in (hu : X.A.units + 64 < cLine) (n m : Nat) (h : m ≤ 60) : X.A.units + 1 + min n m < cLine := by omega
theorem o_in (hu : X.A.units + 64 < cLine) : OpR X (compareOp .In) (rD2 X.K cls dIn) := by
  rintro pins s σ H x y v u Q I rx ry ⟨d1, d2, F1, F2, d, h1, h2, e, af⟩
  have hu1 : X.A.units + 1 < cLine := by omega
  unfold dIn at e
  split at e
  · split at e
    · cases e
      rw [(rStr' h1).1] at rx
      rw [(rStr' h2).1] at ry
      refine op_in_str pins s σ H _ _ v u Q I rx ry ⟨_, _, rfl, rfl, ?_⟩
      rw [occ_inT]
      exact af.scal rBl
    · cases e
  · rename_i ys
    unfold inSeq at e
    split at e
    · rename_i c
      cases e
      rw [Bool.and_eq_true] at c
      obtain ⟨a, vs, rfl, t, r⟩ := rTup' h2
      refine op_in_seq pins s σ H _ _ v u Q I rx ry ⟨a, vs, rfl, .inr t, flatV_D h1 c.1, flatV_Ds r c.2, ?_⟩
      rw [if_neg (by simp), inV_D h1 c.1 r c.2]
      exact af.scal rBl
    · split at e
      · rename_i c
        cases e
        rw [Bool.and_eq_true, Bool.and_eq_true] at c
        have hd := Nat.le_of_ble_eq_true c.2
        obtain ⟨as, r1⟩ := Dp.reads I _ x v (Rep.dp (lay_pl _ c.1.1) h1) rx
        obtain ⟨bs, r2⟩ := Dp.reads I _ y u (Rep.dp (d := .tup ys) (by rw [pl]; exact lays_pl _ c.1.2) h2) ry
        refine SeqAt.in_tuple_reads r2 r1 (lays_toP _ c.1.2) (lay_toP _ c.1.1) (room_in hu _ _ (by rw [dep_toP]; exact hd)) ⟨.bl _, H, I, rfl, ?_⟩
        rw [anyP (lays_pl _ c.1.2) (lay_pl _ c.1.1)]
        exact af.scal rBl
      · cases e
  · rename_i ys
    unfold inSeq at e
    split at e
    · rename_i c
      cases e
      rw [Bool.and_eq_true] at c
      obtain ⟨a, vs, G, rfl, _, t, r⟩ := rLst' h2
      refine op_in_seq pins s σ H _ _ v u Q I rx ry ⟨a, vs, rfl, .inl (SqL.of t), flatV_D h1 c.1, flatV_Ds r c.2, ?_⟩
      rw [if_neg (by simp), inV_D h1 c.1 r c.2]
      exact af.scal rBl
    · split at e
      · rename_i c
        cases e
        rw [Bool.and_eq_true, Bool.and_eq_true] at c
        have hd := Nat.le_of_ble_eq_true c.2
        obtain ⟨as, r1⟩ := Dp.reads I _ x v (Rep.dp (lay_pl _ c.1.1) h1) rx
        obtain ⟨bs, r2⟩ := Dp.reads I _ y u (Rep.dp (d := .lst ys) (by rw [pl]; exact lays_pl _ c.1.2) h2) ry
        refine SeqAt.in_list_reads r2 r1 (lays_toP _ c.1.2) (lay_toP _ c.1.1) (room_in hu _ _ (by rw [dep_toP]; exact hd)) ⟨.bl _, H, I, rfl, ?_⟩
        rw [anyP (lays_pl _ c.1.2) (lay_pl _ c.1.1)]
        exact af.scal rBl
      · cases e
  · rename_i kvs
    split at e
    · rename_i ok
      cases e
      obtain ⟨a, vs, G, rfl, _, t, r⟩ := dct_ref h2
      cases (show u = Value.ref a from ry)
      by_cases ne : kvs = []
      · subst ne
        have q := af.scal rBl
        obtain ⟨z, dk, dt⟩ := dict_empty I t
        unfold keyOk kkind at ok
        dsimp only at ok
        split at ok
        · rename_i k hk
          have := keyV h1 (toKey_some hk)
          subst this
          refine wpAny_in_of (kV_is rx) z dk.mapOf ?_
          exact ⟨.bl false, H, I.tok _, rfl, q⟩
        · split at ok
          · rename_i k hk
            have ex := toKeys_some hk
            rw [ex] at h1
            obtain ⟨b, ws, rfl, t1, r1⟩ := rTupS h1
            have := keysV r1
            subst this
            cases (show v = Value.ref b from rx)
            refine wpAny_in_heap (tupleKind_room_in1 hu1) (key_of I.hok t1) z dt ?_
            exact ⟨.bl false, H, I.tok _, rfl, q⟩
          · cases ok
      · obtain ⟨o, g, c⟩ := dict_get t ne ok h1
        refine d_in hu1 I g rx fun s' I' => ⟨.bl _, H, I', rfl, ?_⟩
        rcases c with ⟨rfl, c⟩ | ⟨j, z, d, rfl, c, _⟩
        · rw [c] at af; exact af.scal rBl
        · rw [c] at af; exact af.scal rBl
    · cases e
  · cases e
theorem o_notIn (hu : X.A.units + 64 < cLine) : OpR X (compareOp .NotIn) (rD2 X.K cls dNotIn) := by
  rintro pins s σ H x y v u Q I rx ry ⟨d1, d2, F1, F2, d, h1, h2, e, af⟩
  have hu1 : X.A.units + 1 < cLine := by omega
  unfold dNotIn at e
  split at e
  · rename_i k e1
    cases e
    unfold dIn at e1
    split at e1
    · split at e1
      · cases e1
        rw [(rStr' h1).1] at rx
        rw [(rStr' h2).1] at ry
        refine op_notIn_str pins s σ H _ _ v u Q I rx ry ⟨_, _, rfl, rfl, ?_⟩
        rw [occ_inT]
        exact af.scal rBl
      · cases e1
    · rename_i ys
      unfold inSeq at e1
      split at e1
      · rename_i c
        cases e1
        rw [Bool.and_eq_true] at c
        obtain ⟨a, vs, rfl, t, r⟩ := rTup' h2
        refine op_notIn_seq pins s σ H _ _ v u Q I rx ry ⟨a, vs, rfl, .inr t, flatV_D h1 c.1, flatV_Ds r c.2, ?_⟩
        rw [if_pos rfl, inV_D h1 c.1 r c.2]
        exact af.scal rBl
      · split at e1
        · rename_i c
          cases e1
          rw [Bool.and_eq_true, Bool.and_eq_true] at c
          have hd := Nat.le_of_ble_eq_true c.2
          obtain ⟨as, r1⟩ := Dp.reads I _ x v (Rep.dp (lay_pl _ c.1.1) h1) rx
          obtain ⟨bs, r2⟩ := Dp.reads I _ y u (Rep.dp (d := .tup ys) (by rw [pl]; exact lays_pl _ c.1.2) h2) ry
          refine SeqAt.notIn_tuple_reads r2 r1 (lays_toP _ c.1.2) (lay_toP _ c.1.1) (room_in hu _ _ (by rw [dep_toP]; exact hd)) ⟨.bl _, H, I, rfl, ?_⟩
          rw [anyP (lays_pl _ c.1.2) (lay_pl _ c.1.1)]
          exact af.scal rBl
        · cases e1
    · rename_i ys
      unfold inSeq at e1
      split at e1
      · rename_i c
        cases e1
        rw [Bool.and_eq_true] at c
        obtain ⟨a, vs, G, rfl, _, t, r⟩ := rLst' h2
        refine op_notIn_seq pins s σ H _ _ v u Q I rx ry ⟨a, vs, rfl, .inl (SqL.of t), flatV_D h1 c.1, flatV_Ds r c.2, ?_⟩
        rw [if_pos rfl, inV_D h1 c.1 r c.2]
        exact af.scal rBl
      · split at e1
        · rename_i c
          cases e1
          rw [Bool.and_eq_true, Bool.and_eq_true] at c
          have hd := Nat.le_of_ble_eq_true c.2
          obtain ⟨as, r1⟩ := Dp.reads I _ x v (Rep.dp (lay_pl _ c.1.1) h1) rx
          obtain ⟨bs, r2⟩ := Dp.reads I _ y u (Rep.dp (d := .lst ys) (by rw [pl]; exact lays_pl _ c.1.2) h2) ry
          refine SeqAt.notIn_list_reads r2 r1 (lays_toP _ c.1.2) (lay_toP _ c.1.1) (room_in hu _ _ (by rw [dep_toP]; exact hd)) ⟨.bl _, H, I, rfl, ?_⟩
          rw [anyP (lays_pl _ c.1.2) (lay_pl _ c.1.1)]
          exact af.scal rBl
        · cases e1
    · rename_i kvs
      split at e1
      · rename_i ok
        cases e1
        obtain ⟨a, vs, G, rfl, _, t, r⟩ := dct_ref h2
        cases (show u = Value.ref a from ry)
        by_cases ne : kvs = []
        · subst ne
          have q := af.scal rBl
          obtain ⟨z, dk, dt⟩ := dict_empty I t
          unfold keyOk kkind at ok
          dsimp only at ok
          split at ok
          · rename_i k hk
            have := keyV h1 (toKey_some hk)
            subst this
            refine wpAny_notIn_of (kV_is rx) z dk.mapOf ?_
            exact ⟨.bl true, H, I.tok _, rfl, q⟩
          · split at ok
            · rename_i k hk
              have ex := toKeys_some hk
              rw [ex] at h1
              obtain ⟨b, ws, rfl, t1, r1⟩ := rTupS h1
              have := keysV r1
              subst this
              cases (show v = Value.ref b from rx)
              refine wpAny_notIn_heap (tupleKind_room_in1 hu1) (key_of I.hok t1) z dt ?_
              exact ⟨.bl true, H, I.tok _, rfl, q⟩
            · cases ok
        · obtain ⟨o, g, c⟩ := dict_get t ne ok h1
          refine d_notIn hu1 I g rx fun s' I' => ⟨.bl _, H, I', rfl, ?_⟩
          rcases c with ⟨rfl, c⟩ | ⟨j, z, d, rfl, c, _⟩
          · rw [c] at af; exact af.scal rBl
          · rw [c] at af; exact af.scal rBl
      · cases e1
    · cases e1
  · cases e
end
end Bv
end

section
/-! Displays, places, slices. -/
namespace Bv
open PySem PySem.Spec PyProof.Rows L2
variable {K : PySem.W.Frag} {cls : Nat → Addr} {X : Cx}
variable {σ : L2.St} {S S1 S2 : List Sl} {H H1 H2 : Hp} {Fs Fs1 Fs2 : List (List Addr)} {Z : Addr → Prop} {ms ms1 ms2 rs rs2 : List Nat} {d : D} {v : V} {F F1 F2 : List Addr} {ow : Bool} {W : WX}

/-! ### written items, all of them own -/
structure HeldO (K : PySem.W.Frag) (cls : Nat → Addr) (H : Hp) (Fs : List (List Addr)) (Z : Addr → Prop) (ds : List D) (vs : List V) (F : List Addr) : Prop where
  rep : Reps K cls H ds vs F
  nd : F.Nodup
  own : ∀ a ∈ F, Mut (H a) ∧ a ∉ Fs.flatten ∧ ¬ Z a
theorem HeldO.nil : HeldO K cls H Fs Z [] [] [] := ⟨Reps.nil, List.nodup_nil, fun a m => by cases m⟩
theorem HeldO.step {ds : List D} {vs : List V} (h : HeldO K cls H Fs Z ds vs F) (r : SRel K cls σ S H Fs Z) (s : Stp ms S H Fs S1 H1 Fs1) : HeldO K cls H1 Fs1 Z ds vs F := by
  have nW : ∀ a ∈ F, ¬ Wm Fs ms a := fun a m w => (h.own a m).2.1 w.flat
  refine ⟨Reps.keep r.wmut s.keep ds vs F nW h.rep, h.nd, fun a m => ?_⟩
  obtain ⟨mu, nf, nz⟩ := h.own a m
  refine ⟨?_, fun z => ?_, nz⟩
  · cases e2 : H a with
    | none => rw [e2] at mu; exact mu.elim
    | some o => rw [s.keep a o e2 (nW a m)]; rw [e2] at mu; exact mu
  · obtain ⟨i, G, e1, m1⟩ := mem_flat.mp z
    by_cases q1 : i ∈ ms
    · rcases s.inn i q1 G e1 a m1 with w | w
      · exact nW a m w
      · rw [w] at mu; exact mu
    · rw [(s.out i q1).2] at e1
      exact nf (mem_flat.mpr ⟨i, G, e1, m1⟩)
theorem HeldO.app {d1 d2 : List D} {v1 v2 : List V} (a : HeldO K cls H Fs Z d1 v1 F1) (b : HeldO K cls H Fs Z d2 v2 F2) (dj : ∀ x ∈ F1, x ∉ F2) : HeldO K cls H Fs Z (d1 ++ d2) (v1 ++ v2) (F1 ++ F2) :=
  ⟨a.rep.append b.rep, List.nodup_append.mpr ⟨a.nd, b.nd, fun x m y n e => dj x m (e ▸ n)⟩, fun x m => (List.mem_append.mp m).elim (a.own x) (b.own x)⟩
theorem Held.toO (h : Held K cls true rs H Fs Z d v F) : HeldO K cls H Fs Z [d] [v] F := ⟨h.rep.one, (h.own rfl).1, (h.own rfl).2⟩
/-- the items of a starred value, nothing in them can change -/
def itemsD : D → Option (List D)
  | .tup x => if ims x then some x else none
  | .lst x => if ims x then some x else none
  | _ => none
def eArgs : List (Bool × EM) → List Sl → R (List D)
  | [], s => .ok [] s
  | (st, m) :: r, s => match m.run s with
    | .ok d s1 => (match st with
      | true => (match itemsD d with
        | some xs => (match eArgs r s1 with
          | .ok ds s2 => .ok (xs ++ ds) s2
          | .exc c d s => .exc c d s
          | .stuck => .stuck)
        | none => .stuck)
      | false => (match eArgs r s1 with
        | .ok ds s2 => .ok (d :: ds) s2
        | .exc c d s => .exc c d s
        | .stuck => .stuck))
    | .exc c d s => .exc c d s
    | .stuck => .stuck
def aMuts : List (Bool × EM) → List Nat
  | [] => []
  | p :: r => p.2.muts ++ aMuts r
def tAO (K : PySem.W.Frag) (cls : Nat → Addr) (l : List (Bool × EM)) : TA := fun σ H Q => ∃ S Fs Z, SRel K cls σ S H Fs Z ∧ match eArgs l S with
  | .ok ds S' => ∀ vs H' Fs' F, SRel K cls σ S' H' Fs' Z → Stp (aMuts l) S H Fs S' H' Fs' → HeldO K cls H' Fs' Z ds vs F → Org true (aMuts l) H Fs F → Q vs H'
  | .exc _ _ _ => False
  | .stuck => False
theorem PA.imp {es : List Expr} {t t' : TA} (h : PA X es t) (i : ∀ σ H Q, t' σ H Q → t σ H Q) : PA X es t' := ⟨fun pos pins s σ H Q I q => h.run pos pins s σ H Q I (i σ H Q q)⟩
theorem ao_nil : PA X [] (tAO K cls []) := PA.imp pa_nil fun σ H Q ⟨S, Fs, Z, r, h⟩ => h [] H Fs [] r Stp.refl HeldO.nil (fun _ a m => by cases m)
/-- what a later step makes is none of what is held -/
theorem Org.apart {ds : List D} {vs : List V} (h : HeldO K cls H Fs Z ds vs F1) (o : Org true ms H Fs F2) : ∀ x ∈ F1, x ∉ F2 := fun x m n => by
  obtain ⟨mu, nf, _⟩ := h.own x m
  rcases o rfl x n with w | w
  · exact nf w.flat
  · rw [w] at mu; exact mu
theorem Org.back (st : Stp ms S H Fs S1 H1 Fs1) (r : SRel K cls σ S H Fs Z) (o : Org true ms2 H1 Fs1 F) : Org true (ms ++ ms2) H Fs F := fun e a m => by
  rcases o e a m with w | w
  · exact st.back w
  · exact (st.new r w).symm.imp (fun w => w.app_l) id
theorem Org.front (o : Org true ms H Fs F) : Org true (ms ++ ms2) H Fs F := fun e a m => (o e a m).imp (fun w => w.app_l) id
theorem ao_cons {e : Expr} {es : List Expr} {m : EM} {l : List (Bool × EM)} (he : PE X e (tE K cls W m)) (hr : PA X es (tAO K cls l)) (ho : m.own = true) (hs : starEach (e :: es) X.env = (false, eval e X.env) :: starEach es X.env) :
    PA X (e :: es) (tAO K cls ((false, m) :: l)) := PA.imp (pa_cons he hr hs) fun σ H Q ⟨S, Fs, Z, r, h⟩ => by
  refine ⟨S, Fs, Z, r, ?_⟩
  unfold eArgs at h
  cases e1 : m.run S with
  | exc c d s => rw [e1] at h; exact h
  | stuck => rw [e1] at h; exact h
  | ok d S1 =>
    rw [e1] at h
    dsimp only at h ⊢
    intro v H1 Fs1 F1 r1 st1 hd1 ho1
    rw [ho] at hd1 ho1
    refine ⟨S1, Fs1, Z, r1, ?_⟩
    cases e2 : eArgs l S1 with
    | exc c d s => rw [e2] at h; exact h
    | stuck => rw [e2] at h; exact h
    | ok ds S2 =>
      rw [e2] at h
      intro vs H2 Fs2 F2 r2 st2 hd2 ho2
      have hA := hd1.toO.step r1 st2
      exact h (v :: vs) H2 Fs2 (F1 ++ F2) r2 (st1.trans r st2) (hA.app hd2 (Org.apart hd1.toO ho2)) (fun z a n => (List.mem_append.mp n).elim (ho1.front z a) (Org.back st1 r ho2 z a))
theorem items_rep {xs : List D} (e : itemsD d = some xs) (r : Rep K cls H d v F) : F = [] ∨ True := .inr trivial
theorem ao_star {e : Expr} {es : List Expr} {m : EM} {l : List (Bool × EM)} {p : Pos} (he : PE X e (tE X.K cls W m)) (hr : PA X es (tAO X.K cls l)) (hs : starEach (.Starred e p :: es) X.env = (true, eval e X.env) :: starEach es X.env) :
    PA X (.Starred e p :: es) (tAO X.K cls ((true, m) :: l)) := PA.imp (StX.pa_star he hr hs) fun σ H Q ⟨S, Fs, Z, r, h⟩ => by
  refine ⟨S, Fs, Z, r, ?_⟩
  unfold eArgs at h
  cases e1 : m.run S with
  | exc c d s => rw [e1] at h; exact h
  | stuck => rw [e1] at h; exact h
  | ok d S1 =>
    rw [e1] at h
    dsimp only at h ⊢
    intro v H1 Fs1 F1 r1 st1 hd1 ho1
    cases ei : itemsD d with
    | none => rw [ei] at h; exact h.elim
    | some xs =>
      rw [ei] at h
      dsimp only at h
      obtain ⟨a, ws, ev, hq, hw⟩ : ∃ a ws, v = V.ref a ∧ (SqT X.K H1 a ws ∨ SqL X.K H1 a ws) ∧ Reps X.K cls H1 xs ws [] := by
        have rep := hd1.rep
        unfold itemsD at ei
        split at ei
        · split at ei
          · rename_i hi
            cases ei
            obtain ⟨a, vs, rfl, t, r⟩ := rTup' rep
            have g := r.im _ hi
            subst g
            exact ⟨a, vs, rfl, .inl t, r⟩
          · cases ei
        · split at ei
          · rename_i hi
            cases ei
            obtain ⟨a, vs, G, rfl, _, t, r⟩ := rLst' rep
            have g := r.im _ hi
            subst g
            exact ⟨a, vs, rfl, .inr (SqL.of t), r⟩
          · cases ei
        · cases ei
      refine ⟨a, ws, ev, hq, S1, Fs1, Z, r1, ?_⟩
      cases e2 : eArgs l S1 with
      | exc c d s => rw [e2] at h; exact h
      | stuck => rw [e2] at h; exact h
      | ok ds S2 =>
        rw [e2] at h
        intro vs H2 Fs2 F2 r2 st2 hd2 ho2
        have hA : HeldO X.K cls H1 Fs1 Z xs ws [] := ⟨hw, List.nodup_nil, fun a m => by cases m⟩
        exact h (ws ++ vs) H2 Fs2 ([] ++ F2) r2 (st1.trans r st2) ((hA.step r1 st2).app hd2 (fun x m => by cases m)) (fun z a n => Org.back st1 r ho2 z a n)
def eTup (l : List (Bool × EM)) : SE := fun s => match eArgs l s with
  | .ok ds s' => if Nat.ble ds.length lineN then .ok (.tup ds) s' else .stuck
  | .exc c d s => .exc c d s
  | .stuck => .stuck
def eLst (l : List (Bool × EM)) : SE := fun s => match eArgs l s with
  | .ok ds s' => if Nat.ble ds.length lineN then .ok (.lst ds) s' else .stuck
  | .exc c d s => .exc c d s
  | .stuck => .stuck
def mTup (l : List (Bool × EM)) : EM := ⟨eTup l, true, [], aMuts l⟩
def mLst (l : List (Bool × EM)) : EM := ⟨eLst l, true, [], aMuts l⟩
theorem HeldO.tup {ds : List D} {vs : List V} {p : Addr} {q : List Nat} (h : HeldO K cls H Fs Z ds vs F) (hp : H p = none) (r : SRel K cls σ S H Fs Z) : Held K cls true q (upd H p (.tup vs)) Fs Z (.tup ds) (.ref p) F := by
  have sm : Same H (upd H p (.tup vs)) := Same.new hp
  refine ⟨rTup upd_same (h.rep.same sm), fun _ => ⟨h.nd, fun a m => ?_⟩, fun e => by cases e⟩
  obtain ⟨mu, b, c⟩ := h.own a m
  refine ⟨?_, b, c⟩
  cases e2 : H a with
  | none => rw [e2] at mu; exact mu.elim
  | some o => rw [sm a o e2]; rw [e2] at mu; exact mu
theorem HeldO.lst {ds : List D} {vs : List V} {p : Addr} {q : List Nat} (h : HeldO K cls H Fs Z ds vs F) (hp : H p = none) (r : SRel K cls σ S H Fs Z) : Held K cls true q (upd H p (.lst vs)) Fs Z (.lst ds) (.ref p) (p :: F) := by
  have sm : Same H (upd H p (.lst vs)) := Same.new hp
  refine ⟨rLst upd_same (h.rep.same sm), fun _ => ⟨List.nodup_cons.mpr ⟨fun m => ?_, h.nd⟩, fun a m => ?_⟩, fun e => by cases e⟩
  · have := (h.own p m).1
    rw [hp] at this
    exact this
  · rcases List.mem_cons.mp m with rfl | m
    · exact ⟨by rw [upd_same]; exact True.intro, fun z => mut_ne (r.mu a z) hp, fun z => r.zs a z hp⟩
    · obtain ⟨mu, b, c⟩ := h.own a m
      refine ⟨?_, b, c⟩
      cases e2 : H a with
      | none => rw [e2] at mu; exact mu.elim
      | some o => rw [sm a o e2]; rw [e2] at mu; exact mu
section
variable {pos : Pos} {es : List Expr} {l : List (Bool × EM)}
theorem s_tup {x1} (h : PA X es (tAO K cls l)) : PE X (.Tuple es x1 pos) (tE K cls W (mTup l)) := PE.imp (pe_tup h) fun σ H Q ⟨S, Fs, Z, r, h⟩ => by
  refine ⟨S, Fs, Z, r, ?_⟩
  unfold mTup eTup at h
  dsimp only at h
  cases e : eArgs l S with
  | exc c d s => rw [e] at h; exact h
  | stuck => rw [e] at h; exact h
  | ok ds S1 =>
    rw [e] at h
    dsimp only at h ⊢
    intro vs H1 Fs1 F r1 st hd ho
    split at h
    · rename_i d' S' e'
      split at e'
      · rename_i hl
        cases e'
        have hl := Nat.le_of_ble_eq_true hl
        rw [lineN_eq] at hl
        refine ⟨by rw [← hd.rep.length]; exact hl, fun p hp => ?_⟩
        have sm : Same H1 (upd H1 p (.tup vs)) := Same.new hp
        have st' := st.trans r (Stp.of_same (S := S1) (Fs := Fs1) sm)
        rw [List.append_nil] at st'
        exact h (.ref p) _ Fs1 F (r1.same sm) st' (hd.tup hp r1) ho
      · cases e'
    · exact h.elim
    · exact h.elim
theorem s_lst (h : PA X es (tAO K cls l)) : PE X (.List es pos) (tE K cls W (mLst l)) := PE.imp (pe_lst h) fun σ H Q ⟨S, Fs, Z, r, h⟩ => by
  refine ⟨S, Fs, Z, r, ?_⟩
  unfold mLst eLst at h
  dsimp only at h
  cases e : eArgs l S with
  | exc c d s => rw [e] at h; exact h
  | stuck => rw [e] at h; exact h
  | ok ds S1 =>
    rw [e] at h
    dsimp only at h ⊢
    intro vs H1 Fs1 F r1 st hd ho
    split at h
    · rename_i d' S' e'
      split at e'
      · rename_i hl
        cases e'
        have hl := Nat.le_of_ble_eq_true hl
        rw [lineN_eq] at hl
        refine ⟨by rw [← hd.rep.length]; exact hl, fun p hp => ?_⟩
        have sm : Same H1 (upd H1 p (.lst vs)) := Same.new hp
        have st' := st.trans r (Stp.of_same (S := S1) (Fs := Fs1) sm)
        rw [List.append_nil] at st'
        refine h (.ref p) _ Fs1 (p :: F) (r1.same sm) st' (hd.lst hp r1) (fun z a m => ?_)
        rcases List.mem_cons.mp m with rfl | m
        · exact (st.new r hp).symm
        · exact ho z a m
      · cases e'
    · exact h.elim
    · exact h.elim
end

/-! ### places -/
def nthL {α : Type} : List α → Nat → Option α
  | [], _ => none
  | x :: _, 0 => some x
  | _ :: r, n + 1 => nthL r n
theorem nthL_eq {α : Type} : ∀ (l : List α) (n : Nat), nthL l n = l[n]?
  | [], _ => by simp [nthL]
  | x :: r, 0 => by simp [nthL]
  | x :: r, n + 1 => by rw [nthL, nthL_eq r n]; simp
def atD {α : Type} (l : List α) : Int → Option α
  | .ofNat n => nthL l n
  | .negSucc n => if Nat.blt n l.length then nthL l (l.length - 1 - n) else none
theorem atD_eq {α : Type} (l : List α) (i : Int) : atD l i = atI l i := by
  cases i with
  | ofNat n =>
    unfold atD atI ixN
    dsimp only
    rw [nthL_eq]
    simp only [Int.ofNat_eq_natCast]
    rw [if_pos (Int.natCast_nonneg n)]
    by_cases h : n < l.length
    · rw [if_pos (by omega)]
      rfl
    · rw [if_neg (by omega)]
      simp
      omega
  | negSucc n =>
    unfold atD atI ixN
    dsimp only
    rw [Int.negSucc_eq, if_neg (show ¬ (0 : Int) ≤ -((n : Int) + 1) by omega)]
    by_cases h : n < l.length
    · rw [if_pos (by rw [Nat.blt_eq]; exact h), if_pos (by omega), nthL_eq]
      show _ = l[(-((n : Int) + 1) + (l.length : Int)).toNat]?
      congr 1
      omega
    · rw [if_neg (by rw [Nat.blt_eq]; exact h), if_neg (by omega)]
      rfl
def dIdx : D → D → Option D
  | .lst xs, .int i => atD xs i
  | .tup xs, .int i => atD xs i
  | .str x, .int i => (atD x i).map fun c => .str [c]
  | .dct kvs, k => (match kvs with
    | [] => none
    | _ :: _ => if keyOk kvs k then dget kvs k else none)
  | _, _ => none
theorem ix_dict (hu : X.A.units + 1 < cLine) : IxR X (fun x y H Q => ∃ a v, x = .ref a ∧ DGet H a y (some v) ∧ Q v H) := by
  intro value slice pins s σ H x y v u Q I rx ry h hs
  obtain ⟨a, w, rfl, g, q⟩ := h
  cases rx
  exact tail_any (dict_typeIs I g) PySem.F.slot_dict_getitem.lookup (d_getItem hu I g ry fun w' s3 I3 rw' => ⟨w, H, I3, rw', q⟩) hs
theorem Reps.part {ds : List D} {vs : List V} {F : List Addr} {i : Nat} {v : V} (r : Reps K cls H ds vs F) (e : vs[i]? = some v) : ∃ d G, ds[i]? = some d ∧ Rep K cls H d v G ∧ G.Sublist F := by
  induction ds generalizing vs F i with
  | nil => unfold Reps at r; rw [r.1] at e; simp at e
  | cons d ds ih =>
    obtain ⟨w, vr, F1, F2, rfl, rfl, h1, h2⟩ := r.uncons
    cases i with
    | zero =>
      have : w = v := by simpa using e
      subst this
      exact ⟨d, F1, rfl, h1, List.sublist_append_left _ _⟩
    | succ i =>
      obtain ⟨d', G, e1, e2, e3⟩ := ih h2 (by simpa using e)
      exact ⟨d', G, by simpa using e1, e2, e3.trans (List.sublist_append_right _ _)⟩
theorem at_vals {ds : List D} {vs : List V} {F : List Addr} {i : Int} {d : D} (r : Reps K cls H ds vs F) (e : atD ds i = some d) : ∃ v G, atI vs i = some v ∧ Rep K cls H d v G ∧ G.Sublist F := by
  rw [atD_eq] at e
  unfold atI at e ⊢
  rw [← r.length]
  cases ex : ixN ds.length i with
  | none => rw [ex] at e; cases e
  | some j =>
    rw [ex] at e
    have e : ds[j]? = some d := e
    have hj : j < vs.length := by rw [← r.length]; exact (List.getElem?_eq_some_iff.mp e).1
    obtain ⟨d', G, e1, e2, e3⟩ := r.part (List.getElem?_eq_getElem hj)
    rw [e] at e1
    cases e1
    exact ⟨vs[j], G, List.getElem?_eq_getElem hj, e2, e3⟩
theorem idx_rule {d1 d2 d : D} {x y : V} {Q : VK} (h1 : Rep K cls H d1 x F1) (h2 : Rep K cls H d2 y F2) (e : dIdx d1 d2 = some d) (q : ∀ v G, G.Sublist F1 → Rep K cls H d v G → Q v H) :
    (rIx K x y H Q ∨ ∃ a v, x = .ref a ∧ DGet H a y (some v) ∧ Q v H) := by
  unfold dIdx at e
  split at e
  · rename_i xs i
    obtain ⟨a, vs, G, rfl, eG, t, r⟩ := rLst' h1
    obtain ⟨v, G', e1, e2, e3⟩ := at_vals r e
    subst eG
    exact .inl (.inl ⟨a, vs, i, v, rfl, rInt' h2, SqL.of t, e1, q v G' (e3.trans (List.sublist_cons_self _ _)) e2⟩)
  · rename_i xs i
    obtain ⟨a, vs, rfl, t, r⟩ := rTup' h1
    obtain ⟨v, G', e1, e2, e3⟩ := at_vals r e
    exact .inl (.inr (.inl ⟨a, vs, i, v, rfl, rInt' h2, t, e1, q v G' e3 e2⟩))
  · rename_i xs i
    obtain ⟨e1, hl⟩ := rStr' h1
    cases ec : atD xs i with
    | none => rw [ec] at e; cases e
    | some c =>
      rw [ec] at e
      cases e
      rw [atD_eq] at ec
      exact .inl (.inr (.inr ⟨S' xs, i, c, e1, rInt' h2, by rw [S'_length]; exact hl, ec, q _ [] (List.nil_sublist _) (rStr (by simp [sizeLine]))⟩))
  · rename_i kvs k
    split at e
    · cases e
    · rename_i p kvs
      split at e
      · rename_i ok
        obtain ⟨a, vs, G, rfl, eG, t, r⟩ := dct_ref h1
        obtain ⟨o, g, c⟩ := dict_get t (by simp) ok h2
        rcases c with ⟨_, c⟩ | ⟨j, z, d', rfl, c, e1, e2⟩
        · rw [c] at e; cases e
        · rw [c] at e
          cases e
          rw [repV_iff] at r
          obtain ⟨d'', G', e3, e4, e5⟩ := r.part e1
          rw [List.getElem?_map, e2] at e3
          cases e3
          subst eG
          exact .inr ⟨a, z, rfl, g, q z G' (e5.trans (List.sublist_cons_self _ _)) e4⟩
      · cases e
  · cases e
theorem Held.sub {d' : D} {v' : V} {G : List Addr} (h : Held K cls ow rs H Fs Z d v F) (r : Rep K cls H d' v' G) (s : G.Sublist F) : Held K cls ow rs H Fs Z d' v' G :=
  ⟨r, fun e => ⟨(h.own e).1.sublist s, fun a m => (h.own e).2 a (s.subset m)⟩, fun e a m => h.bor e a (s.subset m)⟩
def mIdx (a b : EM) : EM := ⟨e2 dIdx a.run b.run, a.own, a.roots, a.muts ++ b.muts⟩
section
variable {pos : Pos} {a b : Expr} {ma mb : EM}
theorem s_idx (hu : X.A.units + 1 < cLine) (ha : PE X a (tE X.K cls W ma)) (hb : PE X b (tE X.K cls W mb)) (hs : PlainIx b) (ap : apartB ma mb = true) : PE X (.Subscript a b pos) (tE X.K cls W (mIdx ma mb)) :=
  PE.imp (pe_ix (ix_seq.or (ix_dict hu)) ha hb hs) fun σ H Q ⟨S, Fs, Z, r, h⟩ => by
  refine ⟨S, Fs, Z, r, ?_⟩
  unfold mIdx e2 at h
  dsimp only at h
  cases e : ma.run S with
  | exc c d s => rw [e] at h; exact h
  | stuck => rw [e] at h; exact h
  | ok x S1 =>
    rw [e] at h
    dsimp only at h ⊢
    intro v H1 Fs1 F1 r1 st1 hd1 ho1
    refine ⟨S1, Fs1, Z, r1, ?_⟩
    cases e2 : mb.run S1 with
    | exc c d s => rw [e2] at h; exact h
    | stuck => rw [e2] at h; exact h
    | ok y S2 =>
      rw [e2] at h
      dsimp only at h ⊢
      cases e3 : dIdx x y with
      | none => rw [e3] at h; exact h.elim
      | some z =>
        rw [e3] at h
        intro v2 H2 Fs2 F2 r2 st2 hd2 ho2
        have hd1' := hd1.step r1 st2 (apart_of ap)
        refine idx_rule hd1'.rep hd2.rep e3 fun v3 G sb rep => h v3 H2 Fs2 G r2 (st1.trans r st2) (hd1'.sub rep sb) fun eo a m => ?_
        exact (ho1 eo a (sb.subset m)).imp (fun w => w.app_l) id
end

/-! ### slices -/
def cutD {α : Type} (xs : List α) (lo hi : Option Int) : List α := (xs.drop (HT.sIx xs.length 0 lo)).take (HT.sIx xs.length xs.length hi - HT.sIx xs.length 0 lo)
def dSl : D → Option Int → Option Int → Option D
  | .lst x, lo, hi => if ims x then some (.lst (cutD x lo hi)) else none
  | .tup x, lo, hi => if ims x then some (.tup (cutD x lo hi)) else none
  | .str x, lo, hi => some (.str (cutD x lo hi))
  | _, _, _ => none
def eOpt : Option EM → List Sl → R (Option Int)
  | none, s => .ok none s
  | some m, s => match m.run s with
    | .ok (.int i) s' => .ok (some i) s'
    | .ok _ _ => .stuck
    | .exc c d s => .exc c d s
    | .stuck => .stuck
def oMuts : Option EM → List Nat
  | none => []
  | some m => m.muts
def eSl (a : SE) (lo hi : Option EM) : SE := fun s => match a s with
  | .ok x s1 => (match eOpt lo s1 with
    | .ok l s2 => (match eOpt hi s2 with
      | .ok u s3 => (match dSl x l u with
        | some z => .ok z s3
        | none => .stuck)
      | .exc c d s => .exc c d s
      | .stuck => .stuck)
    | .exc c d s => .exc c d s
    | .stuck => .stuck)
  | r => r
def mSl (a : EM) (lo hi : Option EM) : EM := ⟨eSl a.run lo hi, true, [], a.muts ++ oMuts lo ++ oMuts hi⟩
def apartO (a : EM) (o : Option EM) : Bool := a.own || a.roots.all fun i => !(oMuts o).contains i
theorem apartO_of {a : EM} {o : Option EM} (h : apartO a o = true) : a.own = false → ∀ i ∈ a.roots, i ∉ oMuts o := fun e i m n => by
  unfold apartO at h
  rw [e, Bool.false_or, List.all_eq_true] at h
  have := h i m
  simp [n] at this
/-- a slice's part -/
def tO (K : PySem.W.Frag) (cls : Nat → Addr) (m : Option EM) : TO := fun σ H Q => ∃ S Fs Z, SRel K cls σ S H Fs Z ∧ match eOpt m S with
  | .ok o S' => ∀ H' Fs', SRel K cls σ S' H' Fs' Z → Stp (oMuts m) S H Fs S' H' Fs' → Q o H'
  | .exc _ _ _ => False
  | .stuck => False
theorem PO.imp {e : Option Expr} {t t' : TO} (h : PO X e t) (i : ∀ σ H Q, t' σ H Q → t σ H Q) : PO X e t' := ⟨fun pins s σ H Q I q => h.run pins s σ H Q I (i σ H Q q)⟩
theorem so_none : PO X none (tO K cls none) := PO.imp po_none fun σ H Q ⟨S, Fs, Z, r, h⟩ => h H Fs r Stp.refl
theorem so_some {e : Expr} {m : EM} (he : PE X e (tE K cls W m)) : PO X (some e) (tO K cls (some m)) := PO.imp (po_some he) fun σ H Q ⟨S, Fs, Z, r, h⟩ => by
  refine ⟨S, Fs, Z, r, ?_⟩
  unfold eOpt at h
  dsimp only at h
  cases e : m.run S with
  | exc c d s => rw [e] at h; exact h
  | stuck => rw [e] at h; exact h
  | ok x S1 =>
    rw [e] at h
    dsimp only at h ⊢
    intro v H1 Fs1 F1 r1 st1 hd1 ho1
    cases x with
    | int i => exact ⟨i, rInt' hd1.rep, h H1 Fs1 r1 st1⟩
    | _ => exact h.elim
theorem pdrop {α β : Type} {R : α → β → Prop} : ∀ (n : Nat) {a : List α} {b : List β}, Paired R a b → Paired R (a.drop n) (b.drop n)
  | 0, _, _, r => r
  | n + 1, _, _, .nil => .nil
  | n + 1, _, _, .cons _ r => by rw [List.drop_succ_cons, List.drop_succ_cons]; exact pdrop n r
theorem ptake {α β : Type} {R : α → β → Prop} : ∀ (n : Nat) {a : List α} {b : List β}, Paired R a b → Paired R (a.take n) (b.take n)
  | 0, _, _, r => by rw [List.take_zero, List.take_zero]; exact .nil
  | n + 1, _, _, .nil => .nil
  | n + 1, _, _, .cons h r => by rw [List.take_succ_cons, List.take_succ_cons]; exact .cons h (ptake n r)
theorem cut_reps {ds : List D} {vs : List V} {lo hi : Option Int} (r : Reps K cls H ds vs []) : Reps K cls H (cutD ds lo hi) (cutV vs lo hi) [] := by
  unfold cutD cutV
  rw [r.length]
  have dr : ∀ (n : Nat) {ds : List D} {vs : List V}, Reps K cls H ds vs [] → Reps K cls H (ds.drop n) (vs.drop n) [] := fun n ds vs r => by
    rw [reps0] at r ⊢
    exact pdrop n r
  have tk : ∀ (n : Nat) {ds : List D} {vs : List V}, Reps K cls H ds vs [] → Reps K cls H (ds.take n) (vs.take n) [] := fun n ds vs r => by
    rw [reps0] at r ⊢
    exact ptake n r
  exact tk _ (dr _ r)
theorem sl_rule {d1 d : D} {x : V} {lo hi : Option Int} {Q : VK} (h1 : Rep K cls H d1 x F1) (e : dSl d1 lo hi = some d) (af : After K cls H d Q) : (rSlL K x lo hi H Q ∨ rSlA K x lo hi H Q) ∨ rSlS x lo hi H Q := by
  unfold dSl at e
  split at e
  · split at e
    · rename_i hi'
      cases e
      obtain ⟨a, vs, G, rfl, eG, t, r⟩ := rLst' h1
      have g := r.im _ hi'
      subst g
      exact .inl (.inl ⟨a, vs, rfl, SqL.of t, fun p hp => af.lst hp (cut_reps r)⟩)
    · cases e
  · split at e
    · rename_i hi'
      cases e
      obtain ⟨a, vs, rfl, t, r⟩ := rTupS h1
      have g := r.im _ hi'
      subst g
      refine .inl (.inr ⟨a, vs, rfl, SqT.of t, fun w => ?_, fun _ p hp => af.tup hp (cut_reps r)⟩)
      refine af (.ref a) H [] Same.refl (rTup t ?_) Fresh.nil
      have c := cut_reps (lo := lo) (hi := hi) r
      unfold cutV at c
      rw [w.1, w.2] at c
      simpa using c
    · cases e
  · cases e
    obtain ⟨e1, hl⟩ := rStr' h1
    rename_i xs
    refine .inr ⟨S' xs, e1, by rw [S'_length]; exact hl, ?_⟩
    have e2 : cutS (S' xs) lo hi = S' (cutD xs lo hi) := by
      unfold cutS cutD
      rw [S'_length]
    rw [e2]
    refine af.scal (rStr ?_)
    have := cutS_length (S' xs) lo hi
    rw [e2, S'_length, S'_length] at this
    omega
  · cases e
section
variable {pos p2 : Pos} {a : Expr} {lo hi : Option Expr} {ma : EM} {ml mh : Option EM}
theorem s_sl (ha : PE X a (tE X.K cls W ma)) (hl : PO X lo (tO X.K cls ml)) (hh : PO X hi (tO X.K cls mh)) (al : apartO ma ml = true) (ah : apartO ma mh = true) : PE X (.Subscript a (.Slice lo hi none p2) pos) (tE X.K cls W (mSl ma ml mh)) :=
  PE.imp (pe_slice ((sl_list.or sl_tupA).or sl_str) ha hl hh) fun σ H Q ⟨S, Fs, Z, r, h⟩ => by
  refine ⟨S, Fs, Z, r, ?_⟩
  unfold mSl eSl at h
  dsimp only at h
  cases e : ma.run S with
  | exc c d s => rw [e] at h; exact h
  | stuck => rw [e] at h; exact h
  | ok x S1 =>
    rw [e] at h
    dsimp only at h ⊢
    intro v H1 Fs1 F1 r1 st1 hd1 ho1
    refine ⟨S1, Fs1, Z, r1, ?_⟩
    cases e2 : eOpt ml S1 with
    | exc c d s => rw [e2] at h; exact h
    | stuck => rw [e2] at h; exact h
    | ok y S2 =>
      rw [e2] at h
      dsimp only at h ⊢
      intro H2 Fs2 r2 st2
      refine ⟨S2, Fs2, Z, r2, ?_⟩
      cases e3 : eOpt mh S2 with
      | exc c d s => rw [e3] at h; exact h
      | stuck => rw [e3] at h; exact h
      | ok z S3 =>
        rw [e3] at h
        dsimp only at h ⊢
        intro H3 Fs3 r3 st3
        cases e4 : dSl x y z with
        | none => rw [e4] at h; exact h.elim
        | some w =>
          rw [e4] at h
          have hd1' := (hd1.step r1 st2 (apartO_of al)).step r2 st3 (apartO_of ah)
          exact sl_rule hd1'.rep e4 (after_want (m := mSl ma ml mh) rfl ((st1.trans r st2).trans r st3) r r3 h)
end
end Bv
end

section
/-! Calls of built-in functions and methods by data. -/
namespace Bv
open PySem PySem.Spec PyProof.Rows L2
variable {K : PySem.W.Frag} {cls : Nat → Addr} {X : Cx}
variable {σ σ' : L2.St} {S S1 S2 : List Sl} {H H' H1 H2 : Hp} {Fs Fs1 Fs2 : List (List Addr)} {Z : Addr → Prop} {ms ms1 ms2 rs rs2 : List Nat} {d d' : D} {v v' : V} {F F' F1 F2 : List Addr} {ow : Bool} {W : WX}

/-! ### arguments, each held as it is -/
def eAL : List EM → List Sl → R (List D)
  | [], s => .ok [] s
  | m :: r, s => match m.run s with
    | .ok d s1 => (match eAL r s1 with
      | .ok ds s2 => .ok (d :: ds) s2
      | .exc c d s => .exc c d s
      | .stuck => .stuck)
    | .exc c d s => .exc c d s
    | .stuck => .stuck
def lMuts : List EM → List Nat
  | [] => []
  | m :: r => m.muts ++ lMuts r
def lRoots : List EM → List Nat
  | [] => []
  | m :: r => (if m.own then [] else m.roots) ++ lRoots r
def apartL : List EM → Bool
  | [] => true
  | m :: r => (m.own || m.roots.all fun i => !(lMuts r).contains i) && apartL r
/-- each argument is held; those of all: F -/
def HeldL (K : PySem.W.Frag) (cls : Nat → Addr) (H : Hp) (Fs : List (List Addr)) (Z : Addr → Prop) : List EM → List D → List V → List Addr → Prop
  | [], ds, vs, F => ds = [] ∧ vs = [] ∧ F = []
  | m :: r, ds, vs, F => ∃ d dr v vr F1 F2, ds = d :: dr ∧ vs = v :: vr ∧ F = F1 ++ F2 ∧ Held K cls m.own m.roots H Fs Z d v F1 ∧ HeldL K cls H Fs Z r dr vr F2
theorem HeldL.reps : ∀ {l : List EM} {ds : List D} {vs : List V} {F : List Addr}, HeldL K cls H Fs Z l ds vs F → Reps K cls H ds vs F
  | [], ds, vs, F, h => by obtain ⟨rfl, rfl, rfl⟩ := h; exact Reps.nil
  | m :: r, ds, vs, F, h => by
    obtain ⟨d, dr, v, vr, F1, F2, rfl, rfl, rfl, h1, h2⟩ := h
    exact h1.rep.consR h2.reps
theorem HeldL.step : ∀ {l : List EM} {ds : List D} {vs : List V} {F : List Addr}, HeldL K cls H Fs Z l ds vs F → SRel K cls σ S H Fs Z → Stp ms S H Fs S1 H1 Fs1 → (∀ i ∈ lRoots l, i ∉ ms) → HeldL K cls H1 Fs1 Z l ds vs F
  | [], ds, vs, F, h, _, _, _ => h
  | m :: r, ds, vs, F, h, sr, st, dj => by
    obtain ⟨d, dr, v, vr, F1, F2, rfl, rfl, rfl, h1, h2⟩ := h
    refine ⟨d, dr, v, vr, F1, F2, rfl, rfl, rfl, h1.step sr st (fun e i hi => dj i ?_), h2.step sr st fun i hi => dj i ?_⟩
    · unfold lRoots
      rw [e]
      exact List.mem_append_left _ hi
    · unfold lRoots
      exact List.mem_append_right _ hi
/-- where what of it lies in slots lies -/
theorem HeldL.bor : ∀ {l : List EM} {ds : List D} {vs : List V} {F : List Addr}, HeldL K cls H Fs Z l ds vs F → ∀ a ∈ F, a ∈ Fs.flatten → Wm Fs (lRoots l) a
  | [], ds, vs, F, h, a, m, _ => by obtain ⟨rfl, rfl, rfl⟩ := h; cases m
  | e :: r, ds, vs, F, h, a, m, z => by
    obtain ⟨d, dr, v, vr, F1, F2, rfl, rfl, rfl, h1, h2⟩ := h
    unfold lRoots
    rcases List.mem_append.mp m with m | m
    · cases eo : e.own with
      | true => rw [eo] at h1; exact absurd z ((h1.own rfl).2 a m).2.1
      | false => rw [eo] at h1; exact (h1.bor rfl a m z).app_l
    · exact (h2.bor a m z).app_r
def tAL (K : PySem.W.Frag) (cls : Nat → Addr) (l : List EM) : TA := fun σ H Q => ∃ S Fs Z, SRel K cls σ S H Fs Z ∧ match eAL l S with
  | .ok ds S' => ∀ vs H' Fs' F, SRel K cls σ S' H' Fs' Z → Stp (lMuts l) S H Fs S' H' Fs' → HeldL K cls H' Fs' Z l ds vs F → Q vs H'
  | .exc _ _ _ => False
  | .stuck => False
theorem al_nil : PA X [] (tAL K cls []) := PA.imp pa_nil fun σ H Q ⟨S, Fs, Z, r, h⟩ => h [] H Fs [] r Stp.refl ⟨rfl, rfl, rfl⟩
theorem al_cons {e : Expr} {es : List Expr} {m : EM} {l : List EM} (he : PE X e (tE K cls W m)) (hr : PA X es (tAL K cls l)) (ap : (m.own || m.roots.all fun i => !(lMuts l).contains i) = true) (hs : starEach (e :: es) X.env = (false, eval e X.env) :: starEach es X.env) :
    PA X (e :: es) (tAL K cls (m :: l)) := PA.imp (pa_cons he hr hs) fun σ H Q ⟨S, Fs, Z, r, h⟩ => by
  refine ⟨S, Fs, Z, r, ?_⟩
  unfold eAL at h
  cases e1 : m.run S with
  | exc c d s => rw [e1] at h; exact h
  | stuck => rw [e1] at h; exact h
  | ok d S1 =>
    rw [e1] at h
    dsimp only at h ⊢
    intro v H1 Fs1 F1 r1 st1 hd1 ho1
    refine ⟨S1, Fs1, Z, r1, ?_⟩
    cases e2 : eAL l S1 with
    | exc c d s => rw [e2] at h; exact h
    | stuck => rw [e2] at h; exact h
    | ok ds S2 =>
      rw [e2] at h
      intro vs H2 Fs2 F2 r2 st2 hd2
      refine h (v :: vs) H2 Fs2 (F1 ++ F2) r2 (st1.trans r st2) ⟨d, ds, v, vs, F1, F2, rfl, rfl, rfl, hd1.step r1 st2 fun eo i m n => ?_, hd2⟩
      rw [eo, Bool.false_or, List.all_eq_true] at ap
      have := ap i m
      simp [n] at this

/-! ### f(..), f a built-in function that changes nothing -/
def rDn (K : PySem.W.Frag) (cls : Nat → Addr) (op : List D → Option D) : List V → Hp → VK → Prop := fun xs H Q => ∃ ds F d, Reps K cls H ds xs F ∧ op ds = some d ∧ After K cls H d Q
def eP (op : List D → Option D) (l : List EM) : SE := fun s => match eAL l s with
  | .ok ds s' => (match op ds with
    | some d => .ok d s'
    | none => .stuck)
  | .exc c d s => .exc c d s
  | .stuck => .stuck
def mP (op : List D → Option D) (l : List EM) : EM := ⟨eP op l, true, [], lMuts l⟩
theorem impP {op : List D → Option D} {l : List EM} {Q : VK} (h : tE K cls W (mP op l) σ H Q) : tCB (rDn K cls op) (tAL K cls l) σ H Q := by
  obtain ⟨S, Fs, Z, r, h⟩ := h
  refine ⟨S, Fs, Z, r, ?_⟩
  unfold mP eP at h
  dsimp only at h
  cases e : eAL l S with
  | exc c d s => rw [e] at h; exact h
  | stuck => rw [e] at h; exact h
  | ok ds S1 =>
    rw [e] at h
    dsimp only at h ⊢
    intro vs H1 Fs1 F r1 st hd
    cases e2 : op ds with
    | none => rw [e2] at h; exact h.elim
    | some d =>
      rw [e2] at h
      exact ⟨ds, F, d, hd.reps, e2, after_want (m := mP op l) rfl st r r1 h⟩
/-- o.m(..), m a built-in method that changes nothing: the object first -/
def rDm (K : PySem.W.Frag) (cls : Nat → Addr) (op : List D → Option D) : V → List V → Hp → VK → Prop := fun x xs H Q => rDn K cls op (x :: xs) H Q
/-- what can be told of a type by data -/
def tyD : String → D → Bool
  | "str", .str _ => true
  | "list", .lst _ => true
  | "dict", .dct _ => true
  | _, _ => false
def ePm (T : String) (op : List D → Option D) (a : SE) (l : List EM) : SE := fun s => match a s with
  | .ok x s1 => if tyD T x then (match eAL l s1 with
    | .ok ds s' => (match op (x :: ds) with
      | some d => .ok d s'
      | none => .stuck)
    | .exc c d s => .exc c d s
    | .stuck => .stuck) else .stuck
  | .exc c d s => .exc c d s
  | .stuck => .stuck
def mPm (T : String) (op : List D → Option D) (a : EM) (l : List EM) : EM := ⟨ePm T op a.run l, true, [], a.muts ++ lMuts l⟩
def apartM (a : EM) (l : List EM) : Bool := a.own || a.roots.all fun i => !(lMuts l).contains i
theorem apartM_of {a : EM} {l : List EM} (h : apartM a l = true) : a.own = false → ∀ i ∈ a.roots, i ∉ lMuts l := fun e i m n => by
  unfold apartM at h
  rw [e, Bool.false_or, List.all_eq_true] at h
  have := h i m
  simp [n] at this
/-- none of its dicts is locked: dicts by dK, dT -/
theorem tyV_D {T : String} (h : tyD T d = true) (r : Rep K cls H d v F) (hT : T ≠ "dict") : tyV K T v H := by
  unfold tyD at h
  split at h
  · rw [(rStr' r).1]; rfl
  · obtain ⟨a, vs, G, rfl, _, t, _⟩ := rLst' r
    exact .inl ⟨rfl, vs, SqL.of t⟩
  · exact absurd rfl hT
  · cases h
theorem impPm {T : String} {op : List D → Option D} {ma : EM} {l : List EM} {Q : VK} (ap : apartM ma l = true) (hT : T ≠ "dict") (h : tE K cls W (mPm T op ma l) σ H Q) : tBM K T (rDm K cls op) (tE K cls W ma) (tAL K cls l) σ H Q := by
  obtain ⟨S, Fs, Z, r, h⟩ := h
  refine ⟨S, Fs, Z, r, ?_⟩
  unfold mPm ePm at h
  dsimp only at h
  cases e0 : ma.run S with
  | exc c d s => rw [e0] at h; exact h
  | stuck => rw [e0] at h; exact h
  | ok x S1 =>
    rw [e0] at h
    dsimp only at h ⊢
    intro v H1 Fs1 F1 r1 st1 hd1 ho1
    split at h
    · rename_i d S' ee
      split at ee
      · rename_i hty
        refine ⟨tyV_D hty hd1.rep hT, S1, Fs1, Z, r1, ?_⟩
        cases e : eAL l S1 with
        | exc c d s => rw [e] at ee; cases ee
        | stuck => rw [e] at ee; cases ee
        | ok ds S2 =>
          rw [e] at ee
          dsimp only at ee ⊢
          intro vs H2 Fs2 F2 r2 st2 hd2
          cases e2 : op (x :: ds) with
          | none => rw [e2] at ee; cases ee
          | some d =>
            rw [e2] at ee
            cases ee
            have hd1' := hd1.step r1 st2 (apartM_of ap)
            exact ⟨x :: ds, F1 ++ F2, d, hd1'.rep.consR hd2.reps, e2, after_want (m := mPm T op ma l) rfl (st1.trans r st2) r r2 h⟩
      · cases ee
    · exact h.elim
    · exact h.elim

/-! ### the built-in functions -/
theorem reps1 {x : D} {xs : List V} {F : List Addr} (r : Reps K cls H [x] xs F) : ∃ v, xs = [v] ∧ Rep K cls H x v F := by
  obtain ⟨v, vr, F1, F2, rfl, rfl, h1, h2⟩ := r.uncons
  unfold Reps at h2
  obtain ⟨rfl, rfl⟩ := h2
  exact ⟨v, rfl, by rw [List.append_nil]; exact h1⟩
theorem reps2 {x y : D} {xs : List V} {F : List Addr} (r : Reps K cls H [x, y] xs F) : ∃ v w F1 F2, xs = [v, w] ∧ Rep K cls H x v F1 ∧ Rep K cls H y w F2 := by
  obtain ⟨v, vr, F1, F2, rfl, rfl, h1, h2⟩ := r.uncons
  obtain ⟨w, rfl, h3⟩ := reps1 h2
  exact ⟨v, w, F1, F2, rfl, h1, h3⟩
def dLen : List D → Option D
  | [.str x] => some (.int x.length)
  | [.lst x] => some (.int x.length)
  | [.tup x] => some (.int x.length)
  | [.dct x] => some (.int x.length)
  | _ => none
/-- len(d), d a dict of either kind -/
theorem dict_len {pins : List (Addr × Obj)} {s : Shared} (I : Inv X pins σ H s) {a : Addr} {keys : List D} {vs : List V} (h : DictH H a keys vs) {Q : VK} (q : Q (.int keys.length) H) :
    wpAny (model X.prog X.w) X.A (call (.builtin "len") [.ref a]) (EP X pins σ Q) X.xe s := by
  obtain ⟨_, ⟨ks, e, l, rd⟩ | ⟨ks, e, l, rd⟩⟩ := h
  · refine d_len I rd fun t s' I' => ⟨.int _, H, I', ⟨t, rfl⟩, ?_⟩
    rw [List.length_zip, ← l, Nat.min_self]
    rw [e, List.length_map] at q
    exact q
  · obtain ⟨z, hd, xs, rel, dd⟩ := dt_rd I.hok rd
    have hl : (ks.zip vs).length = xs.length := Paired.length rel
    refine call_len_dictH hd dd (by rw [← hl]; rw [sizeLine_eq] at z; omega) ?_
    rw [← hl]
    rw [List.length_zip, ← l, Nat.min_self]
    rw [e, List.length_map] at q
    exact ⟨.int _, H, I.tok _, ⟨_, rfl⟩, q⟩
theorem c_len : CallR X (.builtin "len") (rDn X.K cls dLen) := by
  rintro pins s σ H xs us Q I rx ⟨ds, F, d, h, e, af⟩
  unfold dLen at e
  split at e
  · cases e
    obtain ⟨v, rfl, h1⟩ := reps1 h
    obtain ⟨e1, hl⟩ := rStr' h1
    subst e1
    exact call_len pins s σ H _ us Q I rx ⟨_, _, rfl, ⟨by rw [S'_length]; exact hl, (S'_length _).symm⟩, af.scal rInt⟩
  · cases e
    obtain ⟨v, rfl, h1⟩ := reps1 h
    obtain ⟨a, vs, G, rfl, _, t, r⟩ := rLst' h1
    rw [r.length] at af
    exact call_len pins s σ H _ us Q I rx ⟨_, vs.length, rfl, .inl ⟨vs, SqL.of t, rfl⟩, af.scal rInt⟩
  · cases e
    obtain ⟨v, rfl, h1⟩ := reps1 h
    obtain ⟨a, vs, rfl, t, r⟩ := rTup' h1
    rw [r.length] at af
    exact call_len pins s σ H _ us Q I rx ⟨_, vs.length, rfl, .inr ⟨vs, t, rfl⟩, af.scal rInt⟩
  · cases e
    obtain ⟨v, rfl, h1⟩ := reps1 h
    obtain ⟨a, vs, G, rfl, _, t, r⟩ := dct_ref h1
    obtain ⟨u, rfl, ru⟩ := vals1 rx
    cases ru
    refine dict_len I t ?_
    rw [List.length_map]
    exact af.scal rInt
  · cases e

/-! lists of one kind -/
def boolsD : List D → Option (List Bool)
  | [] => some []
  | .bl b :: r => (boolsD r).map (b :: ·)
  | _ => none
def intsD : List D → Option (List Int)
  | [] => some []
  | .int b :: r => (intsD r).map (b :: ·)
  | _ => none
def strsD : List D → Option (List (List Nat))
  | [] => some []
  | .str b :: r => (strsD r).map (b :: ·)
  | _ => none
theorem bools_rep : ∀ {ds : List D} {vs : List V} {F : List Addr} {bs : List Bool}, boolsD ds = some bs → Reps K cls H ds vs F → vs = bs.map V.bl
  | [], vs, F, bs, e, r => by unfold Reps at r; cases e; exact r.1
  | x :: ds, vs, F, bs, e, r => by
    obtain ⟨v, vr, F1, F2, rfl, rfl, h1, h2⟩ := r.uncons
    cases x <;> simp [boolsD] at e
    obtain ⟨br, e, rfl⟩ := e
    rw [bools_rep e h2, rBl' h1]
    rfl
theorem ints_rep : ∀ {ds : List D} {vs : List V} {F : List Addr} {bs : List Int}, intsD ds = some bs → Reps K cls H ds vs F → vs = bs.map V.int
  | [], vs, F, bs, e, r => by unfold Reps at r; cases e; exact r.1
  | x :: ds, vs, F, bs, e, r => by
    obtain ⟨v, vr, F1, F2, rfl, rfl, h1, h2⟩ := r.uncons
    cases x <;> simp [intsD] at e
    obtain ⟨br, e, rfl⟩ := e
    rw [ints_rep e h2, rInt' h1]
    rfl
theorem strs_rep : ∀ {ds : List D} {vs : List V} {F : List Addr} {bs : List (List Nat)}, strsD ds = some bs → Reps K cls H ds vs F → vs = (bs.map S').map V.str
  | [], vs, F, bs, e, r => by unfold Reps at r; cases e; exact r.1
  | x :: ds, vs, F, bs, e, r => by
    obtain ⟨v, vr, F1, F2, rfl, rfl, h1, h2⟩ := r.uncons
    cases x <;> simp [strsD] at e
    obtain ⟨br, e, rfl⟩ := e
    rw [strs_rep e h2, (rStr' h1).1]
    rfl
def allB : List Bool → Bool
  | [] => true
  | b :: r => if b then allB r else false
def anyB : List Bool → Bool
  | [] => false
  | b :: r => if b then true else anyB r
theorem allB_eq : ∀ l, allB l = l.all id
  | [] => rfl
  | b :: r => by rw [allB, List.all_cons, allB_eq r]; cases b <;> rfl
theorem anyB_eq : ∀ l, anyB l = l.any id
  | [] => rfl
  | b :: r => by rw [anyB, List.any_cons, anyB_eq r]; cases b <;> rfl
def dAll : List D → Option D
  | [.lst x] => (boolsD x).map fun bs => .bl (allB bs)
  | _ => none
def dAny : List D → Option D
  | [.lst x] => (boolsD x).map fun bs => .bl (anyB bs)
  | _ => none
theorem c_all (hc : X.calm = true) : CallR X (.builtin "all") (rDn X.K cls dAll) := by
  rintro pins s σ H xs us Q I rx ⟨ds, F, d, h, e, af⟩
  unfold dAll at e
  split at e
  · rename_i x
    cases eb : boolsD x with
    | none => rw [eb] at e; cases e
    | some bs =>
      rw [eb] at e
      cases e
      obtain ⟨v, rfl, h1⟩ := reps1 h
      obtain ⟨a, vs, G, rfl, _, t, r⟩ := rLst' h1
      have := bools_rep eb r
      subst this
      refine cr_all hc pins s σ H _ us Q I rx ⟨a, bs, rfl, SqL.of t, ?_⟩
      dsimp only at af
      rw [allB_eq] at af
      exact af.scal rBl
  · cases e
theorem c_any (hc : X.calm = true) : CallR X (.builtin "any") (rDn X.K cls dAny) := by
  rintro pins s σ H xs us Q I rx ⟨ds, F, d, h, e, af⟩
  unfold dAny at e
  split at e
  · rename_i x
    cases eb : boolsD x with
    | none => rw [eb] at e; cases e
    | some bs =>
      rw [eb] at e
      cases e
      obtain ⟨v, rfl, h1⟩ := reps1 h
      obtain ⟨a, vs, G, rfl, _, t, r⟩ := rLst' h1
      have := bools_rep eb r
      subst this
      refine cr_any hc pins s σ H _ us Q I rx ⟨a, bs, rfl, SqL.of t, ?_⟩
      dsimp only at af
      rw [anyB_eq] at af
      exact af.scal rBl
  · cases e
def sumI : List Int → Int
  | [] => 0
  | x :: r => x + sumI r
theorem sumI_eq : ∀ l, sumI l = l.sum
  | [] => rfl
  | x :: r => by rw [sumI, sumI_eq r, List.sum_cons]
def maxI : Int → List Int → Int
  | m, [] => m
  | m, x :: r => maxI (if decide (m < x) then x else m) r
def minI : Int → List Int → Int
  | m, [] => m
  | m, x :: r => minI (if decide (x < m) then x else m) r
theorem maxI_mem : ∀ (l : List Int) (m : Int), maxI m l ∈ m :: l ∧ ∀ y ∈ m :: l, y ≤ maxI m l
  | [], m => ⟨by simp [maxI], fun y h => by simp at h; subst h; simp [maxI]⟩
  | x :: r, m => by
    unfold maxI
    obtain ⟨h1, h2⟩ := maxI_mem r (if decide (m < x) then x else m)
    by_cases c : m < x
    · rw [if_pos (by simpa using c)] at h1 h2 ⊢
      refine ⟨List.mem_cons_of_mem _ h1, fun y hy => ?_⟩
      have hx := h2 x (by simp)
      rcases List.mem_cons.mp hy with rfl | hy
      · omega
      · exact h2 y hy
    · rw [if_neg (by simpa using c)] at h1 h2 ⊢
      refine ⟨?_, fun y hy => ?_⟩
      · rcases List.mem_cons.mp h1 with h1 | h1
        · rw [h1]; simp
        · simp [h1]
      · have hm := h2 m (by simp)
        rcases List.mem_cons.mp hy with rfl | hy
        · exact hm
        · rcases List.mem_cons.mp hy with rfl | hy
          · omega
          · exact h2 y (List.mem_cons_of_mem _ hy)
theorem minI_mem : ∀ (l : List Int) (m : Int), minI m l ∈ m :: l ∧ ∀ y ∈ m :: l, minI m l ≤ y
  | [], m => ⟨by simp [minI], fun y h => by simp at h; subst h; simp [minI]⟩
  | x :: r, m => by
    unfold minI
    obtain ⟨h1, h2⟩ := minI_mem r (if decide (x < m) then x else m)
    by_cases c : x < m
    · rw [if_pos (by simpa using c)] at h1 h2 ⊢
      refine ⟨List.mem_cons_of_mem _ h1, fun y hy => ?_⟩
      have hx := h2 x (by simp)
      rcases List.mem_cons.mp hy with rfl | hy
      · omega
      · exact h2 y hy
    · rw [if_neg (by simpa using c)] at h1 h2 ⊢
      refine ⟨?_, fun y hy => ?_⟩
      · rcases List.mem_cons.mp h1 with h1 | h1
        · rw [h1]; simp
        · simp [h1]
      · have hm := h2 m (by simp)
        rcases List.mem_cons.mp hy with rfl | hy
        · exact hm
        · rcases List.mem_cons.mp hy with rfl | hy
          · omega
          · exact h2 y (List.mem_cons_of_mem _ hy)
def dSumI : List D → Option D
  | [.lst x] => (intsD x).map fun ns => .int (sumI ns)
  | _ => none
def dMaxI : List D → Option D
  | [.lst x] => (match intsD x with
    | some (n :: ns) => some (.int (maxI n ns))
    | _ => none)
  | [.int i, .int j] => some (.int (if decide (i < j) then j else i))
  | _ => none
def dMinI : List D → Option D
  | [.lst x] => (match intsD x with
    | some (n :: ns) => some (.int (minI n ns))
    | _ => none)
  | [.int i, .int j] => some (.int (if decide (j < i) then j else i))
  | _ => none
theorem c_sum (hc : X.calm = true) : CallR X (.builtin "sum") (rDn X.K cls dSumI) := by
  rintro pins s σ H xs us Q I rx ⟨ds, F, d, h, e, af⟩
  unfold dSumI at e
  split at e
  · rename_i x
    cases eb : intsD x with
    | none => rw [eb] at e; cases e
    | some bs =>
      rw [eb] at e
      cases e
      obtain ⟨v, rfl, h1⟩ := reps1 h
      obtain ⟨a, vs, G, rfl, _, t, r⟩ := rLst' h1
      have := ints_rep eb r
      subst this
      refine cr_sum hc pins s σ H _ us Q I rx ⟨a, bs, rfl, SqL.of t, ?_⟩
      dsimp only at af
      rw [sumI_eq] at af
      exact af.scal rInt
  · cases e
theorem c_max (hc : X.calm = true) : CallR X (.builtin "max") (rDn X.K cls dMaxI) := by
  rintro pins s σ H xs us Q I rx ⟨ds, F, d, h, e, af⟩
  unfold dMaxI at e
  split at e
  · rename_i x
    split at e
    · rename_i n ns eb
      cases e
      obtain ⟨v, rfl, h1⟩ := reps1 h
      obtain ⟨a, vs, G, rfl, _, t, r⟩ := rLst' h1
      have := ints_rep eb r
      subst this
      refine cr_max hc pins s σ H _ us Q I rx ⟨a, n :: ns, rfl, SqL.of t, by simp, fun m hm hb => ?_⟩
      obtain ⟨g1, g2⟩ := maxI_mem ns n
      have : m = maxI n ns := by
        have a1 := g2 m hm
        have a2 := hb _ g1
        omega
      rw [this]
      exact af.scal rInt
    · cases e
  · rename_i i j
    cases e
    obtain ⟨v, w, F1, F2, rfl, h1, h2⟩ := reps2 h
    rw [rInt' h1, rInt' h2] at rx
    refine call_max2 hc pins s σ H _ us Q I rx ⟨i, j, rfl, ?_⟩
    have q := af.scal rInt
    simpa using q
  · cases e
theorem c_min (hc : X.calm = true) : CallR X (.builtin "min") (rDn X.K cls dMinI) := by
  rintro pins s σ H xs us Q I rx ⟨ds, F, d, h, e, af⟩
  unfold dMinI at e
  split at e
  · rename_i x
    split at e
    · rename_i n ns eb
      cases e
      obtain ⟨v, rfl, h1⟩ := reps1 h
      obtain ⟨a, vs, G, rfl, _, t, r⟩ := rLst' h1
      have := ints_rep eb r
      subst this
      refine cr_min hc pins s σ H _ us Q I rx ⟨a, n :: ns, rfl, SqL.of t, by simp, fun m hm hb => ?_⟩
      obtain ⟨g1, g2⟩ := minI_mem ns n
      have : m = minI n ns := by
        have a1 := g2 m hm
        have a2 := hb _ g1
        omega
      rw [this]
      exact af.scal rInt
    · cases e
  · rename_i i j
    cases e
    obtain ⟨v, w, F1, F2, rfl, h1, h2⟩ := reps2 h
    rw [rInt' h1, rInt' h2] at rx
    refine call_min2 hc pins s σ H _ us Q I rx ⟨i, j, rfl, ?_⟩
    have q := af.scal rInt
    simpa using q
  · cases e
def dInt : List D → Option D
  | [.int i] => some (.int i)
  | [.bl b] => some (.int (if b then 1 else 0))
  | _ => none
theorem c_int : CallR X (.type "int") (rDn X.K cls dInt) := by
  rintro pins s σ H xs us Q I rx ⟨ds, F, d, h, e, af⟩
  unfold dInt at e
  split at e
  · cases e
    obtain ⟨v, rfl, h1⟩ := reps1 h
    rw [rInt' h1] at rx
    exact call_int1 pins s σ H _ us Q I rx (.inl ⟨_, rfl, af.scal rInt⟩)
  · cases e
    obtain ⟨v, rfl, h1⟩ := reps1 h
    rw [rBl' h1] at rx
    exact call_int1 pins s σ H _ us Q I rx (.inr ⟨_, rfl, af.scal rInt⟩)
  · cases e
def dAbs : List D → Option D
  | [.int i] => some (.int (if decide (i < 0) then -i else i))
  | _ => none
theorem c_abs : CallR X (.builtin "abs") (rDn X.K cls dAbs) := by
  rintro pins s σ H xs us Q I rx ⟨ds, F, d, h, e, af⟩
  unfold dAbs at e
  split at e
  · cases e
    obtain ⟨v, rfl, h1⟩ := reps1 h
    rw [rInt' h1] at rx
    refine call_abs pins s σ H _ us Q I rx ⟨_, rfl, ?_⟩
    have q := af.scal rInt
    simpa using q
  · cases e
def dTupleOf : List D → Option D
  | [.lst x] => if ims x then some (.tup x) else none
  | [.tup x] => if ims x then some (.tup x) else none
  | _ => none
theorem c_tuple : CallR X (.type "tuple") (rDn X.K cls dTupleOf) := by
  rintro pins s σ H xs us Q I rx ⟨ds, F, d, h, e, af⟩
  unfold dTupleOf at e
  split at e
  · split at e
    · rename_i x hi
      cases e
      obtain ⟨v, rfl, h1⟩ := reps1 h
      obtain ⟨a, vs, G, rfl, _, t, r⟩ := rLst' h1
      have g := r.im _ hi
      subst g
      exact call_tuple_of pins s σ H _ us Q I rx ⟨a, vs, rfl, .inl ⟨SqL.of t, fun l hl => af.tup hl r⟩⟩
    · cases e
  · split at e
    · rename_i x hi
      cases e
      obtain ⟨v, rfl, h1⟩ := reps1 h
      obtain ⟨a, vs, rfl, t, r⟩ := rTupS h1
      have g := r.im _ hi
      subst g
      exact call_tuple_of pins s σ H _ us Q I rx ⟨a, vs, rfl, .inr ⟨SqT.of t, af (.ref a) H [] Same.refl (rTup t r) Fresh.nil⟩⟩
    · cases e
  · cases e
def dListOf : List D → Option D
  | [.lst x] => if ims x then some (.lst x) else none
  | [.tup x] => if ims x then some (.lst x) else none
  | _ => none
theorem c_list : CallR X (.type "list") (rDn X.K cls dListOf) := by
  rintro pins s σ H xs us Q I rx ⟨ds, F, d, h, e, af⟩
  unfold dListOf at e
  split at e
  · split at e
    · rename_i x hi
      cases e
      obtain ⟨v, rfl, h1⟩ := reps1 h
      obtain ⟨a, vs, G, rfl, _, t, r⟩ := rLst' h1
      have g := r.im _ hi
      subst g
      exact call_list_of pins s σ H _ us Q I rx ⟨a, vs, rfl, .inl (SqL.of t), fun l hl => af.lst hl r⟩
    · cases e
  · split at e
    · rename_i x hi
      cases e
      obtain ⟨v, rfl, h1⟩ := reps1 h
      obtain ⟨a, vs, rfl, t, r⟩ := rTup' h1
      have g := r.im _ hi
      subst g
      exact call_list_of pins s σ H _ us Q I rx ⟨a, vs, rfl, .inr t, fun l hl => af.lst hl r⟩
    · cases e
  · cases e

/-! ### methods of texts -/
def sufT (sub s : List Nat) : Bool := if Nat.ble sub.length s.length then (s.drop (s.length - sub.length)) == sub else false
def dStarts : List D → Option D
  | [.str x, .str y] => some (.bl (preT y x))
  | _ => none
def dEnds : List D → Option D
  | [.str x, .str y] => some (.bl (sufT y x))
  | _ => none
theorem starts_eq (x y : List Nat) : Txt.startswith (S' x) (S' y) = preT y x := by
  unfold Txt.startswith
  rw [S'_length, S'_length]
  by_cases h : 0 + y.length ≤ x.length
  · rw [subAt_pre x y 0 h, decide_eq_true h]
    rfl
  · have : preT y x = false := by
      cases e : preT y x with
      | false => rfl
      | true => exact absurd ((preT_iff y x).mp e).1 (by omega)
    rw [this]
    simp
    omega
theorem ends_eq (x y : List Nat) : Txt.endswith (S' x) (S' y) = sufT y x := by
  unfold Txt.endswith sufT
  rw [S'_length, S'_length]
  by_cases h : y.length ≤ x.length
  · rw [subAt_pre x y _ (by omega), if_pos (by simpa [Nat.ble_eq] using h)]
    rw [Bool.eq_iff_iff, Bool.and_eq_true, preT_iff, beq_iff_eq]
    have hl : (x.drop (x.length - y.length)).length = y.length := by rw [List.length_drop]; omega
    constructor
    · rintro ⟨_, _, e⟩
      rw [List.take_of_length_le (by omega)] at e
      exact e
    · intro e
      refine ⟨by simpa using h, by omega, ?_⟩
      rw [List.take_of_length_le (by omega)]
      exact e
  · rw [if_neg (by simpa [Nat.ble_eq] using h)]
    simp
    omega
theorem m_starts : MtR X "str.startswith" (rDm X.K cls dStarts) := by
  rintro pins s σ H x xs v us Q I rx rxs ⟨ds, F, d, h, e, af⟩
  unfold dStarts at e
  split at e
  · rename_i a b
    cases e
    obtain ⟨v1, w1, F1, F2, e1, h1, h2⟩ := reps2 h
    cases e1
    rw [(rStr' h1).1] at rx
    rw [(rStr' h2).1] at rxs
    refine mt_startswith pins s σ H _ _ v us Q I rx rxs ⟨_, _, rfl, rfl, ?_⟩
    rw [starts_eq]
    exact af.scal rBl
  · cases e
theorem m_ends : MtR X "str.endswith" (rDm X.K cls dEnds) := by
  rintro pins s σ H x xs v us Q I rx rxs ⟨ds, F, d, h, e, af⟩
  unfold dEnds at e
  split at e
  · rename_i a b
    cases e
    obtain ⟨v1, w1, F1, F2, e1, h1, h2⟩ := reps2 h
    cases e1
    rw [(rStr' h1).1] at rx
    rw [(rStr' h2).1] at rxs
    refine mt_endswith pins s σ H _ _ v us Q I rx rxs ⟨_, _, rfl, rfl, ?_⟩
    rw [ends_eq]
    exact af.scal rBl
  · cases e
/-- joined -/
def joinT (s : List Nat) : List (List Nat) → List Nat
  | [] => []
  | [p] => p
  | p :: q :: r => p ++ (s ++ joinT s (q :: r))
def lensT : List (List Nat) → Nat
  | [] => 0
  | p :: r => p.length + lensT r
def dJoin : List D → Option D
  | [.str x, .lst l] => (match strsD l with
    | some ys => if Nat.ble (lensT ys + ys.length * x.length) 16777216 then some (.str (joinT x ys)) else none
    | none => none)
  | [.str x, .tup l] => (match strsD l with
    | some ys => if Nat.ble (lensT ys + ys.length * x.length) 16777216 then some (.str (joinT x ys)) else none
    | none => none)
  | _ => none
theorem joinT_eq (s : List Nat) : ∀ ys, joinT s ys = TL.joinL s ys
  | [] => rfl
  | [p] => rfl
  | p :: q :: r => by rw [joinT, joinT_eq s (q :: r)]; rfl
theorem join_S' (x : List Nat) (ys : List (List Nat)) : Txt.join (S' x) (ys.map S') = S' (joinT x ys) := by
  rw [joinT_eq]
  exact SX.join_S x ys
theorem lensT_eq : ∀ ys : List (List Nat), ((ys.map S').map (·.length)).sum = lensT ys
  | [] => rfl
  | p :: r => by
    rw [List.map_cons, List.map_cons, List.sum_cons, lensT_eq r, S'_length]
    rfl
theorem joinT_len (x : List Nat) : ∀ ys : List (List Nat), (joinT x ys).length ≤ lensT ys + ys.length * x.length
  | [] => by simp [joinT]
  | [p] => by simp [joinT, lensT]
  | p :: q :: r => by
    have := joinT_len x (q :: r)
    rw [joinT, lensT]
    simp only [List.length_append, List.length_cons, Nat.add_mul, Nat.one_mul] at this ⊢
    omega
theorem m_join : MtR X "str.join" (rDm X.K cls dJoin) := by
  have fin : ∀ (ys : List (List Nat)) (x : List Nat), Nat.ble (lensT ys + ys.length * x.length) 16777216 = true → ((ys.map S').map (·.length)).sum + (ys.map S').length * (S' x).length ≤ 16777216 ∧ (joinT x ys).length ≤ sizeLine := fun ys x h => by
    have h := Nat.le_of_ble_eq_true h
    have := joinT_len x ys
    rw [lensT_eq, List.length_map, S'_length, sizeLine_eq]
    omega
  rintro pins s σ H x xs v us Q I rx rxs ⟨ds, F, d, h, e, af⟩
  unfold dJoin at e
  split at e
  · rename_i a l
    split at e
    · rename_i ys ey
      split at e
      · rename_i hl
        cases e
        obtain ⟨g1, g2⟩ := fin _ _ hl
        obtain ⟨v1, w1, F1, F2, e1, h1, h2⟩ := reps2 h
        cases e1
        rw [(rStr' h1).1] at rx
        obtain ⟨p, vs, G, rfl, _, t, r⟩ := rLst' h2
        have := strs_rep ey r
        subst this
        refine mt_join pins s σ H _ _ v us Q I rx rxs ⟨_, p, _, rfl, rfl, .inl (SqL.of t), g1, ?_⟩
        rw [join_S']
        exact af.scal (rStr g2)
      · cases e
    · cases e
  · rename_i a l
    split at e
    · rename_i ys ey
      split at e
      · rename_i hl
        cases e
        obtain ⟨g1, g2⟩ := fin _ _ hl
        obtain ⟨v1, w1, F1, F2, e1, h1, h2⟩ := reps2 h
        cases e1
        rw [(rStr' h1).1] at rx
        obtain ⟨p, vs, rfl, t, r⟩ := rTup' h2
        have := strs_rep ey r
        subst this
        refine mt_join pins s σ H _ _ v us Q I rx rxs ⟨_, p, _, rfl, rfl, .inr t, g1, ?_⟩
        rw [join_S']
        exact af.scal (rStr g2)
      · cases e
    · cases e
  · cases e
end Bv
end

section
/-! sorted(..) of plain data. -/
namespace Bv
open PySem PySem.Spec PyProof.Rows L2 PySem.W
variable {K : PySem.W.Frag} {cls : Nat → Addr} {X : Cx}
variable {σ σ' : L2.St} {H H' H1 H2 : Hp} {d d' : D} {v v' : V} {F F' F1 F2 : List Addr}

/-! ### sorting by putting in -/
section
variable {α : Type} (le : α → α → Bool)
def insBy (x : α) : List α → List α
  | [] => [x]
  | y :: r => if le x y then x :: y :: r else y :: insBy x r
def sortBy' : List α → List α
  | [] => []
  | x :: r => insBy le x (sortBy' r)
variable {le}
theorem insBy_mem {x z : α} : ∀ {l : List α}, z ∈ insBy le x l ↔ z = x ∨ z ∈ l
  | [] => by simp [insBy]
  | y :: r => by
    unfold insBy
    split
    · simp
    · rw [List.mem_cons, insBy_mem, List.mem_cons]
      constructor
      · rintro (h | h | h)
        · exact .inr (.inl h)
        · exact .inl h
        · exact .inr (.inr h)
      · rintro (h | h | h)
        · exact .inr (.inl h)
        · exact .inl h
        · exact .inr (.inr h)
theorem sortBy_mem {z : α} : ∀ {l : List α}, z ∈ sortBy' le l ↔ z ∈ l
  | [] => Iff.rfl
  | x :: r => by rw [sortBy', insBy_mem, sortBy_mem, List.mem_cons]
theorem insBy_pw (T : TotalLe le) {x : α} : ∀ {l : List α}, l.Pairwise (fun a b => le a b = true) → (insBy le x l).Pairwise (fun a b => le a b = true)
  | [], _ => by simp [insBy]
  | y :: r, h => by
    unfold insBy
    split
    · rename_i c
      refine List.pairwise_cons.mpr ⟨fun z hz => ?_, h⟩
      rcases List.mem_cons.mp hz with rfl | hz
      · exact c
      · exact T.trans _ _ _ c ((List.pairwise_cons.mp h).1 z hz)
    · rename_i c
      refine List.pairwise_cons.mpr ⟨fun z hz => ?_, insBy_pw T (List.pairwise_cons.mp h).2⟩
      rcases insBy_mem.mp hz with rfl | hz
      · exact (T.total z y).resolve_left c
      · exact (List.pairwise_cons.mp h).1 z hz
theorem insBy_filter (T : TotalLe le) {x c : α} : ∀ {l : List α}, (insBy le x l).filter (sameRank le c) = (x :: l).filter (sameRank le c)
  | [] => rfl
  | y :: r => by
    unfold insBy
    split
    · rfl
    · rename_i h
      rw [List.filter_cons, insBy_filter T, List.filter_cons, List.filter_cons, List.filter_cons]
      cases e1 : sameRank le c x with
      | false => simp
      | true =>
        cases e2 : sameRank le c y with
        | false => simp
        | true =>
          unfold sameRank at e1 e2
          rw [Bool.and_eq_true] at e1 e2
          exact absurd (T.trans _ _ _ e1.2 e2.1) h
theorem sortBy_eq (T : TotalLe le) (l : List α) : sortBy' le l = l.mergeSort le := by
  refine sort_unique T ?_ fun c => ?_
  · induction l with
    | nil => exact List.Pairwise.nil
    | cons x r ih => exact insBy_pw T ih
  · induction l with
    | nil => rfl
    | cons x r ih => rw [sortBy', insBy_filter T, List.filter_cons, List.filter_cons, ih]
theorem insBy_congr {le' : α → α → Bool} {x : α} : ∀ {l : List α}, (∀ y ∈ l, le x y = le' x y) → insBy le x l = insBy le' x l
  | [], _ => rfl
  | y :: r, h => by
    unfold insBy
    rw [h y (by simp), insBy_congr fun z hz => h z (List.mem_cons_of_mem _ hz)]
theorem sortBy_congr {le' : α → α → Bool} : ∀ {l : List α}, (∀ x ∈ l, ∀ y ∈ l, le x y = le' x y) → sortBy' le l = sortBy' le' l
  | [], _ => rfl
  | x :: r, h => by
    rw [sortBy', sortBy', sortBy_congr fun y hy z hz => h y (List.mem_cons_of_mem _ hy) z (List.mem_cons_of_mem _ hz)]
    exact insBy_congr fun y hy => h x (by simp) y (List.mem_cons_of_mem _ (sortBy_mem.mp hy))
end
def leD (x y : D) : Bool := !dlt y x
def srt (l : List D) : List D := sortBy' leD l
def isTupD : D → Bool
  | .tup _ => true
  | _ => false
def isTup1 : D → Bool
  | .tup (_ :: _) => true
  | _ => false
def isNonD : D → Bool
  | .non => true
  | _ => false
def plainD (x : D) : Bool := pl x && Nat.ble (dep x) 60 && !isNonD x
def srtOk (l : List D) : Bool :=
  if (strsD l).isSome || (intsD l).isSome then true
  else (l.all plainD && l.all fun x => l.all fun y => alk x y) && (l.all isTup1 || l.all fun x => !isTupD x)
theorem strs_all : ∀ {l : List D} {ys : List (List Nat)}, strsD l = some ys → ∀ x ∈ l, ∃ y, x = .str y
  | [], _, _, x, h => by cases h
  | z :: l, ys, e, x, h => by
    cases z <;> simp [strsD] at e
    obtain ⟨br, e, _⟩ := e
    rcases List.mem_cons.mp h with rfl | h
    · exact ⟨_, rfl⟩
    · exact strs_all e x h
theorem ints_all : ∀ {l : List D} {ys : List Int}, intsD l = some ys → ∀ x ∈ l, ∃ y, x = .int y
  | [], _, _, x, h => by cases h
  | z :: l, ys, e, x, h => by
    cases z <;> simp [intsD] at e
    obtain ⟨br, e, _⟩ := e
    rcases List.mem_cons.mp h with rfl | h
    · exact ⟨_, rfl⟩
    · exact ints_all e x h
structure Srt (l : List D) : Prop where
  pl : ∀ x ∈ l, pl x = true
  dep : ∀ x ∈ l, dep x ≤ 60
  non : ∀ x ∈ l, x ≠ .non
  alk : ∀ x ∈ l, ∀ y ∈ l, alk x y = true
  kind : (∀ x ∈ l, ∃ y r, x = .tup (y :: r)) ∨ ∀ x ∈ l, ∀ r, x ≠ .tup r
theorem srtOk_of {l : List D} (h : srtOk l = true) : Srt l := by
  unfold srtOk at h
  split at h
  · rename_i c
    rw [Bool.or_eq_true] at c
    rcases c with c | c
    · obtain ⟨ys, e⟩ := Option.isSome_iff_exists.mp c
      have a := strs_all e
      exact ⟨fun x hx => by obtain ⟨y, rfl⟩ := a x hx; rfl, fun x hx => by obtain ⟨y, rfl⟩ := a x hx; simp [Bv.dep], fun x hx => by obtain ⟨y, rfl⟩ := a x hx; simp,
        fun x hx y hy => by obtain ⟨x, rfl⟩ := a x hx; obtain ⟨y, rfl⟩ := a y hy; simp [Bv.alk], .inr fun x hx r => by obtain ⟨y, rfl⟩ := a x hx; simp⟩
    · obtain ⟨ys, e⟩ := Option.isSome_iff_exists.mp c
      have a := ints_all e
      exact ⟨fun x hx => by obtain ⟨y, rfl⟩ := a x hx; rfl, fun x hx => by obtain ⟨y, rfl⟩ := a x hx; simp [Bv.dep], fun x hx => by obtain ⟨y, rfl⟩ := a x hx; simp,
        fun x hx y hy => by obtain ⟨x, rfl⟩ := a x hx; obtain ⟨y, rfl⟩ := a y hy; simp [Bv.alk], .inr fun x hx r => by obtain ⟨y, rfl⟩ := a x hx; simp⟩
  · rw [Bool.and_eq_true, Bool.and_eq_true, List.all_eq_true, List.all_eq_true, Bool.or_eq_true, List.all_eq_true, List.all_eq_true] at h
    obtain ⟨⟨h1, h2⟩, h3⟩ := h
    have g : ∀ x ∈ l, (pl x = true ∧ Nat.ble (Bv.dep x) 60 = true) ∧ isNonD x = false := fun x hx => by
      have := h1 x hx
      unfold plainD at this
      simpa [Bool.and_eq_true] using this
    refine ⟨fun x hx => (g x hx).1.1, fun x hx => Nat.le_of_ble_eq_true (g x hx).1.2, fun x hx z => ?_, fun x hx y hy => List.all_eq_true.mp (h2 x hx) y hy, ?_⟩
    · have := (g x hx).2
      subst z
      cases this
    · rcases h3 with h3 | h3
      · refine .inl fun x hx => ?_
        have := h3 x hx
        unfold isTup1 at this
        split at this
        · exact ⟨_, _, rfl⟩
        · cases this
      · refine .inr fun x hx r z => ?_
        have := h3 x hx
        subst z
        cases this
theorem srt_eq {l : List D} (h : Srt l) : srt l = l.mergeSort (dataLe false toP) := by
  have T : TotalLe (dataLe false toP) := sortLe_total _ _ _
  rw [← sortBy_eq T]
  refine sortBy_congr fun x hx y hy => ?_
  rw [dataLe_eq]
  show (!dlt y x) = (!dataLt (toP y) (toP x))
  rw [dlt_eq y x (h.alk y hy x hx) (h.non y hy)]
section
variable {pins : List (Addr × Obj)} {s : Shared}
theorem eachR {H : Hp} : ∀ {ds : List D} {vs : List V} {us : List Value}, Reps K cls H ds vs [] → Vals vs us → EachIs (fun u d => ∃ x, RelV x u ∧ Rep K cls H d x []) us ds
  | [], vs, us, r, rv => by
    unfold Reps at r
    rw [r.1] at rv
    cases rv
    exact .nil
  | d :: ds, vs, us, r, rv => by
    obtain ⟨w, vr, F1, F2, rfl, e, h1, h2⟩ := r.uncons
    have e := List.append_eq_nil_iff.mp e.symm
    rw [e.1] at h1
    rw [e.2] at h2
    cases rv with
    | cons r1 r2 => exact .cons ⟨w, r1, h1⟩ (eachR h2 r2)
theorem unR {H : Hp} : ∀ {ds : List D} {us : List Value}, EachIs (fun u d => ∃ x, RelV x u ∧ Rep K cls H d x []) us ds → ∃ vs, Reps K cls H ds vs [] ∧ Vals vs us
  | _, _, .nil => ⟨[], Reps.nil, .nil⟩
  | _, _, .cons ⟨x, r, p⟩ t => by
    obtain ⟨vs, a, b⟩ := unR t
    exact ⟨x :: vs, p.consR a, .cons r b⟩
theorem eachReads (I : Inv X pins σ H s) {h : Heap} (hk : ∀ b o, s.heap.get? b = some o → h.get? b = some o) : ∀ {ds : List D} {us : List Value}, (∀ x ∈ ds, pl x = true) → EachIs (fun u d => ∃ x, RelV x u ∧ Rep X.K cls H d x []) us ds → EachIs (fun u d => ∃ as, Reads h u (toP d) as) us ds
  | _, _, _, .nil => .nil
  | d :: ds, _, p, .cons ⟨x, r, q⟩ t => by
    obtain ⟨as, r1⟩ := Dp.reads I _ x _ (Rep.dp (p d (by simp)) q) r
    exact .cons ⟨as, PyProof.Rows.Reads.keeps hk r1⟩ (eachReads I hk (fun x hx => p x (List.mem_cons_of_mem _ hx)) t)
/-- what sorted does behind the reading of its items -/
theorem sorted_road {u : Value} {ds : List D} {vs : List V} {Q : VK} (I : Inv X pins σ H s) (r : Reps X.K cls H ds vs []) (ok : Srt ds) (hl : ds.length ≤ sizeLine) (hu : X.A.units + 64 < cLine)
    (hcol : ∀ (R : List Value → Shared → Prop) (E : Value → Shared → Prop), (∀ h' tk us, (∀ b o, s.heap.get? b = some o → h'.get? b = some o) → Vals vs us → R us { s with heap := h', toks := tk }) → wpAny (model X.prog X.w) X.A.in1 (collect u) R E s)
    (af : After X.K cls H (.lst (srt ds)) Q) : wpAny (model X.prog X.w) X.A (call (.builtin "sorted") [u]) (EP X pins σ Q) X.xe s := by
  refine Calls.call_function_entry kind_sorted plain_sorted entry_sorted (args_sorted1 _) ?_
  unfold Builtin.«sorted»
  refine wpAny_bind (m := checkCount "sorted" 1 1 _) (wpAny_pure ?_)
  refine wpAny_bind (hcol _ _ fun h' tk us hk rv => ?_)
  have I1 : Inv X pins σ H { s with heap := h', toks := tk } := I.kept (t' := tk) hk
  have hlu : us.length = ds.length := by rw [r.length]; exact rv.length.symm
  refine wpAny_bind (wpAny_newList ?_ (by rw [hlu]; exact hl))
  have e1 : EachIs (fun u d => ∃ x, RelV x u ∧ Rep X.K cls H d x []) us ds := eachR r rv
  have ho : (h'.push { cls := .type "list", data := .seq us.toArray }).get? h'.objs.size = some (seqObj "list" us.toArray 0) := Heap.get?_push_size _ rfl
  have hold : ∀ b o, h'.get? b = some o → (sortingHeap (h'.push { cls := .type "list", data := .seq us.toArray }) h'.objs.size us).get? b = some o := fun b o e =>
    sortingHeap_old (Nat.ne_of_lt (Heap.lt_size e)) (Heap.get?_push_of_some _ e)
  have er : EachIs (fun u d => ∃ as, Reads (sortingHeap (h'.push { cls := .type "list", data := .seq us.toArray }) h'.objs.size us) u (toP d) as) us ds := eachReads I1 hold ok.pl e1
  have hal : AllAlike (ds.map toP) := by
    rintro _ hd _ hd'
    obtain ⟨b, hb, rfl⟩ := List.mem_map.mp hd
    obtain ⟨b', hb', rfl⟩ := List.mem_map.mp hd'
    rw [alk_toP]
    exact ok.alk b hb b' hb'
  have hk2 : Sortable (ds.map toP) := by
    rcases ok.kind with k | k
    · refine .inl fun d hd => ?_
      obtain ⟨b, hb, rfl⟩ := List.mem_map.mp hd
      obtain ⟨y, r, rfl⟩ := k b hb
      exact ⟨toP y, toPs r, by rw [toP, toPs]⟩
    · refine .inr fun d hd => ?_
      obtain ⟨b, hb, rfl⟩ := List.mem_map.mp hd
      have n := ok.non b hb
      have t := k b hb
      have p := ok.pl b hb
      cases b <;> simp [toP, pl] at n t p ⊢
  refine wpAny_bind (wpAny_holding (wpAny_call_entry slot_list_sort ⟨_, ho, rfl⟩ entry_list_sort
    (list_sort_vals (s := { s with heap := h'.push { cls := .type "list", data := .seq us.toArray }, toks := tk }) (κ := dataKind (sortingHeap (h'.push { cls := .type "list", data := .seq us.toArray }) h'.objs.size us) (ds.map toP)) ho
      (SortsAt.data (s := { s with heap := sortingHeap (h'.push { cls := .type "list", data := .seq us.toArray }) h'.objs.size us, toks := tk })
        (each_map (R := fun v d => ∃ as, Reads (sortingHeap (h'.push { cls := .type "list", data := .seq us.toArray }) h'.objs.size us) v d as) toP er) hal hk2 (bound_map (enc := toP) fun b hb => ?_)) (by rw [hlu]; exact hl) ⟨.none, rfl, ?_⟩) (args_list_sort _)))
  · rw [dep_toP]
    have := ok.dep b hb
    show X.A.units + 1 + 1 + _ < cLine
    omega
  · have ev := sortVals_data false e1 er hal
    rw [← srt_eq ok] at ev
    obtain ⟨xs, a, b⟩ := unR ev
    obtain ⟨c, hc⟩ := sortedHeap_at (out := (sortVals (dataKind (sortingHeap (h'.push { cls := .type "list", data := .seq us.toArray }) h'.objs.size us) (ds.map toP)) false us us).toArray) ho
    have sl : (srt ds).length ≤ sizeLine := by
      have : (srt ds).length = ds.length := by rw [srt_eq ok]; exact List.length_mergeSort ds
      omega
    have hp : H h'.objs.size = none := I1.hok.fresh (Nat.le_refl _)
    refine wpAny_pure ⟨_, rfl, .ref h'.objs.size, upd H h'.objs.size (.lst xs), I1.laid (t' := tk) (o := .lst xs) (fun b o e => ?_) (Nat.le_refl _) ?_, rfl, af.lst hp a⟩
    · show (sortedHeap _ _ _ _).get? b = some o
      rw [sortedHeap_old (Nat.ne_of_lt (Heap.lt_size e)) (by rw [Heap.size_push]; exact Nat.lt_succ_of_lt (Heap.lt_size e))]
      exact Heap.get?_push_of_some _ e
    · refine ⟨by rw [← a.length]; exact sl, _, c, b, ?_⟩
      exact hc
end
def keysOf : List (D × D) → List D
  | [] => []
  | p :: r => p.1 :: keysOf r
theorem keysOf_eq : ∀ l, keysOf l = l.map Prod.fst
  | [] => rfl
  | p :: r => by rw [keysOf, keysOf_eq r]; rfl
def keys1 (l : List (D × D)) : Bool := match l with
  | [] => true
  | (k, _) :: _ => kkind k == 0
def dSorted : List D → Option D
  | [.lst x] => if ims x && srtOk x && Nat.ble x.length lineN then some (.lst (srt x)) else none
  | [.tup x] => if ims x && srtOk x && Nat.ble x.length lineN then some (.lst (srt x)) else none
  | [.dct kvs] => if keys1 kvs && srtOk (keysOf kvs) then some (.lst (srt (keysOf kvs))) else none
  | _ => none
theorem keys_reps {H : Hp} : ∀ {ks : List Key}, (∀ k ∈ ks, bd (keyD k)) → Reps K cls H (ks.map keyD) (ks.map kV) []
  | [], _ => Reps.nil
  | k :: ks, h => by
    have r : Rep K cls H (keyD k) (kV k) [] := by
      cases k with
      | inl i => exact rInt
      | inr x =>
        have := h (.inr x) (by simp)
        exact rStr this
    have := r.consR (keys_reps (ks := ks) fun q hq => h q (List.mem_cons_of_mem _ hq))
    exact this
theorem c_sorted (hh : X.A.handled = none) (hu : X.A.units + 64 < cLine) : CallR X (.builtin "sorted") (rDn X.K cls dSorted) := by
  rintro pins s σ H xs us Q I rx ⟨ds, F, d, h, e, af⟩
  unfold dSorted at e
  split at e
  · split at e
    · rename_i x c
      cases e
      rw [Bool.and_eq_true, Bool.and_eq_true] at c
      have hl := Nat.le_of_ble_eq_true c.2
      rw [lineN_eq] at hl
      obtain ⟨v, rfl, h1⟩ := reps1 h
      obtain ⟨a, vs, G, rfl, _, t, r⟩ := rLst' h1
      have g := r.im _ c.1.1
      subst g
      obtain ⟨u, rfl, ru⟩ := vals1 rx
      cases ru
      obtain ⟨its, rv, plL, hz⟩ := I.list (SqL.of t)
      refine sorted_road I r (srtOk_of c.1.2) hl hu (fun R E hR => ?_) af
      obtain ⟨o, ho, hc, n, hd⟩ := plL.isList
      exact wpAny_collect_seq a (.inl rfl) ho hc hd (fun h' hk => hR h' s.toks _ hk (by rw [List.toList_toArray]; exact rv)) (by rw [List.size_toArray, ← rv.length]; exact hz)
    · cases e
  · split at e
    · rename_i x c
      cases e
      rw [Bool.and_eq_true, Bool.and_eq_true] at c
      have hl := Nat.le_of_ble_eq_true c.2
      rw [lineN_eq] at hl
      obtain ⟨v, rfl, h1⟩ := reps1 h
      obtain ⟨a, vs, rfl, t, r⟩ := rTup' h1
      have g := r.im _ c.1.1
      subst g
      obtain ⟨u, rfl, ru⟩ := vals1 rx
      cases ru
      obtain ⟨its, rv, plL, hz⟩ := I.tuple t
      refine sorted_road I r (srtOk_of c.1.2) hl hu (fun R E hR => ?_) af
      obtain ⟨o, ho, hc, n, hd⟩ := plL
      exact wpAny_collect_seq a (.inr rfl) ho hc hd (fun h' hk => hR h' s.toks _ hk (by rw [List.toList_toArray]; exact rv)) (by rw [List.size_toArray, ← rv.length]; exact hz)
    · cases e
  · split at e
    · rename_i kvs c
      cases e
      rw [Bool.and_eq_true] at c
      rw [keysOf_eq] at c af
      obtain ⟨v, rfl, h1⟩ := reps1 h
      obtain ⟨a, vs, G, rfl, _, t, r⟩ := dct_ref h1
      obtain ⟨u, rfl, ru⟩ := vals1 rx
      cases ru
      have main : ∀ (ks : List Key), kvs.map Prod.fst = ks.map keyD → (∀ d ∈ kvs.map Prod.fst, bd d) → ∀ (ws : List (Key × Value)), ws.map Prod.fst = ks → s.heap.DictOf (mixKind X.prog X.w) a ws → ks.length ≤ sizeLine → (a == sysModules) = false → wpAny (model X.prog X.w) X.A (call (.builtin "sorted") [.ref a]) (EP X pins σ Q) X.xe s := fun ks ek hb ws ew dd hz lo => by
        rw [ek] at c af
        have rr : Reps X.K cls H (ks.map keyD) (ks.map kV) [] := keys_reps fun k hk => hb _ (by rw [ek]; exact List.mem_map.mpr ⟨k, hk, rfl⟩)
        refine sorted_road I rr (srtOk_of c.2) (by rw [List.length_map]; exact hz) hu (fun R E hR => ?_) af
        obtain ⟨ep, hat⟩ := dd.dictAt
        have lw : ws.length = ks.length := by rw [← ew, List.length_map]
        refine kdu_collect (kdl_dict (knd := mixKind X.prog X.w) (kvs := ws) (ep := ep) lo) (by first | exact hh | (rw [show X.A.in1.handled = X.A.handled from rfl]; exact hh)) hat (by rw [lw]; exact hz) fun h' tk acc hk hacc => ?_
        refine hR h' tk _ hk (vals_of_idx _ _ ?_ fun j u hj => ?_)
        · rw [Array.length_toList, List.length_map, ← lw]
          exact hacc.1
        · obtain ⟨k, x, hx, hkk⟩ := hacc.2 j u (by rw [← Array.getElem?_toList]; exact hj)
          refine ⟨kV k, ?_, relV_key hkk⟩
          rw [List.getElem?_map]
          have : ks[j]? = some k := by rw [← ew, List.getElem?_map, hx]; rfl
          rw [this]
          rfl
      obtain ⟨hb, ⟨ks, ek, l, rd⟩ | ⟨ks, ek, l, rd⟩⟩ := id t
      · obtain ⟨z, lo, ws, kv, dd⟩ := dk_rd I.hok rd
        refine main ks ek hb ws ?_ dd (by rw [List.length_zip, ← l, Nat.min_self] at z; exact z) lo
        rw [← kv.keys, List.map_fst_zip (by omega)]
      · cases kvs with
        | nil =>
          obtain ⟨lo, dk, _⟩ := dict_empty I t
          exact main [] rfl (by intro d hd; cases hd) [] rfl dk (Nat.zero_le _) lo
        | cons p kvs =>
          exfalso
          obtain ⟨pk, pd⟩ := p
          cases ks with
          | nil => cases ek
          | cons q ks =>
            rw [List.map_cons, List.map_cons, List.cons.injEq] at ek
            have : pk = keysD q := ek.1
            subst this
            have := c.1
            unfold keys1 at this
            dsimp only at this
            rw [beq_iff_eq] at this
            unfold kkind at this
            rw [show toKey (keysD q) = none from rfl, show toKeys (keysD q) = some q from toKeyL_map q] at this
            cases this
    · cases e
  · cases e
end Bv
end

section
/-! Values of a dict, least and greatest ones, sums. -/
namespace Bv
open PySem PySem.Spec PyProof.Rows L2 PySem.W
variable {K : PySem.W.Frag} {cls : Nat → Addr} {X : Cx}
variable {σ σ' : L2.St} {H H' H1 H2 : Hp} {d d' : D} {v v' : V} {F F' F1 F2 : List Addr} {W : WX}
section
variable {pins : List (Addr × Obj)} {s : Shared}
/-- x is gone over: n items -/
def SrcIt (X : Cx) (x : Value) (s : Shared) (n : Nat) (P : Nat → Value → Prop) : Prop := ∃ (oI : Obj) (St : Nat → Heap → Prop) (d : Addr), d < s.heap.objs.size ∧
  (∀ (E : Value → Shared → Prop) (Q : Value → Shared → Prop), Q (.ref s.heap.objs.size) { s with heap := s.heap.push oI } → wpAny (model X.prog X.w) X.A.in1 (pyIter x) Q E s) ∧
  Walks X.prog X.w X.A.in1 s.heap.objs.size [s.heap.objs.size, d] [s.heap.objs.size] n P St ∧ St 0 (s.heap.push oI)
theorem src_list (hh : X.A.handled = none) {l : Addr} {its : Array Value} (hl : s.heap.IsList l its) : SrcIt X (.ref l) s its.size (fun i v => its[i]? = some v) := by
  have hlt : l < s.heap.objs.size := by obtain ⟨_, e, _⟩ := hl; exact Heap.lt_size e
  exact ⟨_, _, l, hlt, fun E Q q => wpAny_pyIter_list hl q, Walks.list (A := X.A.in1) hh _ l (Nat.ne_of_lt hlt) its, ⟨⟨_, Heap.get?_push_size _ rfl, rfl, rfl⟩, hl.push _⟩⟩
theorem src_tuple (hh : X.A.handled = none) {l : Addr} {its : Array Value} (hl : s.heap.IsTuple l its) : SrcIt X (.ref l) s its.size (fun i v => its[i]? = some v) := by
  have hlt : l < s.heap.objs.size := by obtain ⟨_, e, _⟩ := hl; exact Heap.lt_size e
  exact ⟨_, _, l, hlt, fun E Q q => wpAny_pyIter_tuple hl q, Walks.tuple (A := X.A.in1) hh _ l (Nat.ne_of_lt hlt) its, ⟨⟨_, Heap.get?_push_size _ rfl, rfl, rfl⟩, hl.push _⟩⟩
theorem src_kdl {T : String} {r a : Addr} {n : Nat} {P : Nat → Value → Prop} {OK : Heap → Prop} (Ks : KdlSrc X.prog X.w T r a n P OK) (hh : X.A.handled = none) (ok : OK s.heap) : SrcIt X (.ref r) s n P := by
  obtain ⟨oI, St, h1, h2, h3⟩ := Ks.iter X.A.in1 s hh ok
  exact ⟨oI, St, a, (Ks.there _ ok).2, h1, h2, h3⟩
def minD (m : D) : List D → D
  | [] => m
  | x :: r => minD (if dlt x m then x else m) r
def maxD (m : D) : List D → D
  | [] => m
  | x :: r => maxD (if dlt m x then x else m) r
theorem minD_fold : ∀ (l : List D) (m : D), minD m l = l.foldl (fun a y => if dlt y a then y else a) m
  | [], _ => rfl
  | x :: r, m => by rw [minD, minD_fold r]; rfl
theorem maxD_fold : ∀ (l : List D) (m : D), maxD m l = l.foldl (fun a y => if dlt a y then y else a) m
  | [], _ => rfl
  | x :: r, m => by rw [maxD, maxD_fold r]; rfl
/-- the i-th item's value and data -/
theorem reps_at {H : Hp} {ds : List D} {vs : List V} (r : Reps K cls H ds vs []) {i : Nat} {x : V} (h : vs[i]? = some x) : ds[i]? = some (ds.getD i .non) ∧ Rep K cls H (ds.getD i .non) x [] := by
  obtain ⟨d, G, e, r1, sb⟩ := r.part h
  have : G = [] := List.eq_nil_of_sublist_nil sb
  subst this
  rw [List.getD_eq_getElem?_getD, e]
  exact ⟨rfl, r1⟩
theorem mem_of_at {ds : List D} {i : Nat} {d : D} (h : ds[i]? = some d) : d ∈ ds := List.mem_of_getElem? h
theorem moved_new {oI : Obj} {s' : Shared} (m : Moved [s.heap.objs.size] (fun a b => b = a) { s with heap := s.heap.push oI } s') : ∃ h' tk, s' = { s with heap := h', toks := tk } ∧ ∀ b o, s.heap.get? b = some o → h'.get? b = some o :=
  PySem.W.moved_old (s := s) rfl rfl m
/-- least: what min does -/
theorem min_core {x : Value} {d0 : D} {dr : List D} {vs : List V} {Q : VK} {P : Nat → Value → Prop} (I : Inv X pins σ H s) (r : Reps X.K cls H (d0 :: dr) vs []) (ok : Srt (d0 :: dr)) (hu : X.A.units + 64 < cLine)
    (src : SrcIt X x s (d0 :: dr).length P) (hP : ∀ i u, P i u → ∃ y, vs[i]? = some y ∧ RelV y u) (q : ∀ y, Rep X.K cls H (minD d0 dr) y [] → Q y H) : wpAny (model X.prog X.w) X.A (call (.builtin "min") [x]) (EP X pins σ Q) X.xe s := by
  obtain ⟨oI, St, a, ha, hit, Wk, st⟩ := src
  refine call_min_walkH (hit _ _ ⟨s.heap.objs.size, _, _, _, _, P, _, s.heap, fun i j => dlt ((d0 :: dr).getD i .non) ((d0 :: dr).getD j .non), rfl, Wk.toS, st, fun b hb => ?_, by simp, fun b o e hb => ?_, fun b o e => Heap.get?_push_of_some _ e, ?_, ?_⟩)
  · show b < (s.heap.push oI).objs.size
    rw [size_push']
    rcases List.mem_cons.mp hb with rfl | hb
    · exact Nat.lt_succ_self _
    · rw [List.mem_singleton.mp hb]; exact Nat.lt_succ_of_lt ha
  · exact absurd (Heap.lt_size e) ((List.mem_singleton.mp hb) ▸ Nat.lt_irrefl _)
  · intro i j vi vj s' Q' E' hk h1 h2 hq
    obtain ⟨y1, e1, r1⟩ := hP i vi h1
    obtain ⟨y2, e2, r2⟩ := hP j vj h2
    obtain ⟨m1, p1⟩ := reps_at r e1
    obtain ⟨m2, p2⟩ := reps_at r e2
    have m1 := mem_of_at m1
    have m2 := mem_of_at m2
    obtain ⟨as1, q1⟩ := Dp.reads I _ y1 vi (Rep.dp (ok.pl _ m1) p1) r1
    obtain ⟨as2, q2⟩ := Dp.reads I _ y2 vj (Rep.dp (ok.pl _ m2) p2) r2
    have nn := ok.non _ m1
    refine rcLt_alike _ _ _ s' vi vj _ _ (PyProof.Rows.Reads.keeps hk q1) (PyProof.Rows.Reads.keeps hk q2) (by rw [alk_toP]; exact ok.alk _ m1 _ m2) (fun z => by
      generalize (d0 :: dr).getD i D.non = w at nn z
      cases w <;> simp [toP] at nn z) ?_ _ _ E' Q' ?_
    · have := Nat.min_le_left (toP ((d0 :: dr).getD i .non)).depth (toP ((d0 :: dr).getD j .non)).depth
      have h60 := ok.dep _ m1
      rw [dep_toP] at this
      show X.A.units + 1 + _ < cLine
      rw [dep_toP] at *
      omega
    · rw [dlt_eq _ _ (ok.alk _ m1 _ m2) nn]
      exact hq
  · intro u s' hp hm
    obtain ⟨h', tk, rfl, hk⟩ := moved_new hm
    obtain ⟨y, e1, r1⟩ := hP _ u hp
    obtain ⟨m1, p1⟩ := reps_at r e1
    have e2 := (argBest_fold dlt .non d0 dr dr.length (Nat.le_refl _)).2
    rw [List.take_length] at e2
    rw [show (d0 :: dr).length - 1 = dr.length by simp, e2, ← minD_fold] at p1
    exact ⟨y, H, I.kept (t' := tk) hk, r1, q y p1⟩
theorem max_core {x : Value} {d0 : D} {dr : List D} {vs : List V} {Q : VK} {P : Nat → Value → Prop} (I : Inv X pins σ H s) (r : Reps X.K cls H (d0 :: dr) vs []) (ok : Srt (d0 :: dr)) (hu : X.A.units + 64 < cLine)
    (src : SrcIt X x s (d0 :: dr).length P) (hP : ∀ i u, P i u → ∃ y, vs[i]? = some y ∧ RelV y u) (q : ∀ y, Rep X.K cls H (maxD d0 dr) y [] → Q y H) : wpAny (model X.prog X.w) X.A (call (.builtin "max") [x]) (EP X pins σ Q) X.xe s := by
  obtain ⟨oI, St, a, ha, hit, Wk, st⟩ := src
  refine call_max_walkH (hit _ _ ⟨s.heap.objs.size, _, _, _, _, P, _, s.heap, fun i j => (fun p q => dlt q p) ((d0 :: dr).getD i .non) ((d0 :: dr).getD j .non), rfl, Wk.toS, st, fun b hb => ?_, by simp, fun b o e hb => ?_, fun b o e => Heap.get?_push_of_some _ e, ?_, ?_⟩)
  · show b < (s.heap.push oI).objs.size
    rw [size_push']
    rcases List.mem_cons.mp hb with rfl | hb
    · exact Nat.lt_succ_self _
    · rw [List.mem_singleton.mp hb]; exact Nat.lt_succ_of_lt ha
  · exact absurd (Heap.lt_size e) ((List.mem_singleton.mp hb) ▸ Nat.lt_irrefl _)
  · intro i j vi vj s' Q' E' hk h1 h2 hq
    obtain ⟨y1, e1, r1⟩ := hP i vi h1
    obtain ⟨y2, e2, r2⟩ := hP j vj h2
    obtain ⟨m1, p1⟩ := reps_at r e1
    obtain ⟨m2, p2⟩ := reps_at r e2
    have m1 := mem_of_at m1
    have m2 := mem_of_at m2
    obtain ⟨as1, q1⟩ := Dp.reads I _ y1 vi (Rep.dp (ok.pl _ m1) p1) r1
    obtain ⟨as2, q2⟩ := Dp.reads I _ y2 vj (Rep.dp (ok.pl _ m2) p2) r2
    have nn := ok.non _ m1
    refine rcGt_alike _ _ _ s' vi vj _ _ (PyProof.Rows.Reads.keeps hk q1) (PyProof.Rows.Reads.keeps hk q2) (by rw [alk_toP]; exact ok.alk _ m1 _ m2) (fun z => by
      generalize (d0 :: dr).getD i D.non = w at nn z
      cases w <;> simp [toP] at nn z) ?_ _ _ E' Q' ?_
    · have := Nat.min_le_left (toP ((d0 :: dr).getD i .non)).depth (toP ((d0 :: dr).getD j .non)).depth
      have h60 := ok.dep _ m1
      rw [dep_toP] at this
      show X.A.units + 1 + _ < cLine
      rw [dep_toP] at *
      omega
    · rw [dlt_eq _ _ (ok.alk _ m2 _ m1) (ok.non _ m2)]
      exact hq
  · intro u s' hp hm
    obtain ⟨h', tk, rfl, hk⟩ := moved_new hm
    obtain ⟨y, e1, r1⟩ := hP _ u hp
    obtain ⟨m1, p1⟩ := reps_at r e1
    have e2 := (argBest_fold (fun p q => dlt q p) .non d0 dr dr.length (Nat.le_refl _)).2
    rw [List.take_length] at e2
    rw [show (d0 :: dr).length - 1 = dr.length by simp, e2, ← maxD_fold] at p1
    exact ⟨y, H, I.kept (t' := tk) hk, r1, q y p1⟩
theorem preSum_eq : ∀ (ns : List Int) (k : Nat), k ≤ ns.length → preSum (fun i => ns.getD i 0) k = sumI (ns.take k)
  | ns, 0, _ => by simp [preSum, sumI]
  | ns, k + 1, h => by
    have ih := preSum_eq ns k (by omega)
    have hk : ns[k]? = some ns[k] := List.getElem?_eq_getElem (by omega)
    rw [show preSum (fun i => ns.getD i 0) (k + 1) = preSum (fun i => ns.getD i 0) k + ns.getD k 0 from rfl, ih, List.take_add_one, hk]
    rw [sumI_eq, sumI_eq, List.sum_append]
    simp [List.getD_eq_getElem?_getD, hk]
theorem sum_core {x : Value} {ds : List D} {ns : List Int} {vs : List V} {Q : VK} {P : Nat → Value → Prop} (I : Inv X pins σ H s) (r : Reps X.K cls H ds vs []) (en : intsD ds = some ns)
    (src : SrcIt X x s ds.length P) (hP : ∀ i u, P i u → ∃ y, vs[i]? = some y ∧ RelV y u) (q : Q (.int (sumI ns)) H) : wpAny (model X.prog X.w) X.A (call (.builtin "sum") [x]) (EP X pins σ Q) X.xe s := by
  have ev := ints_rep en r
  have hl : ns.length = ds.length := by have := r.length; rw [ev, List.length_map] at this; exact this.symm
  obtain ⟨oI, St, a, ha, hit, Wk, st⟩ := src
  refine call_sum_walkAnyS (hit _ _ ⟨s.heap.objs.size, _, _, _, _, P, _, fun i => ns.getD i 0, rfl, Wk.toS, st, fun b hb => ?_, fun i u hp => ?_, fun s' t' hm => ?_⟩)
  · show b < (s.heap.push oI).objs.size
    rw [size_push']
    rcases List.mem_cons.mp hb with rfl | hb
    · exact Nat.lt_succ_self _
    · rw [List.mem_singleton.mp hb]; exact Nat.lt_succ_of_lt ha
  · obtain ⟨y, e1, r1⟩ := hP _ u hp
    rw [ev, List.getElem?_map] at e1
    obtain ⟨n, e2, rfl⟩ := Option.map_eq_some_iff.mp e1
    obtain ⟨t, rfl⟩ := r1
    exact ⟨t, by show _ = Value.int (ns.getD i 0) t; rw [List.getD_eq_getElem?_getD, e2]; rfl⟩
  · obtain ⟨h', tk, rfl, hk⟩ := moved_new hm
    refine ⟨.int (sumI ns), H, I.kept (t' := tk) hk, ⟨t', ?_⟩, q⟩
    rw [preSum_eq ns ds.length (by omega), ← hl, List.take_length]

/-! ### min, max of a list or a tuple of plain data -/
def minOk (l : List D) : Bool := ims l && srtOk l
def dMin : List D → Option D
  | [.lst (x :: r)] => if minOk (x :: r) then some (minD x r) else none
  | [.tup (x :: r)] => if minOk (x :: r) then some (minD x r) else none
  | [.int i, .int j] => some (.int (if decide (j < i) then j else i))
  | _ => none
def dMax : List D → Option D
  | [.lst (x :: r)] => if minOk (x :: r) then some (maxD x r) else none
  | [.tup (x :: r)] => if minOk (x :: r) then some (maxD x r) else none
  | [.int i, .int j] => some (.int (if decide (i < j) then j else i))
  | _ => none
theorem vals_P {vs : List V} {its : List Value} (rv : Vals vs its) : ∀ (i : Nat) (u : Value), its.toArray[i]? = some u → ∃ y : V, vs[i]? = some y ∧ RelV y u := fun i u e => by
  have e : its[i]? = some u := by simpa using e
  obtain ⟨y, h1, h2⟩ := vget' rv e
  exact ⟨y, h1, h2⟩
theorem min_best (d0 : D) (dr : List D) : minD d0 dr ∈ d0 :: dr := by
  induction dr generalizing d0 with
  | nil => simp [minD]
  | cons x r ih =>
    rw [minD]
    have := ih (if dlt x d0 then x else d0)
    rcases List.mem_cons.mp this with e | e
    · rw [e]; split <;> simp
    · simp [e]
theorem c_minD (hh : X.A.handled = none) (hc : X.calm = true) (hu : X.A.units + 64 < cLine) : CallR X (.builtin "min") (rDn X.K cls dMin) := by
  rintro pins s σ H xs us Q I rx ⟨ds, F, d, h, e, af⟩
  unfold dMin at e
  split at e
  · split at e
    · rename_i x r c
      cases e
      unfold minOk at c
      rw [Bool.and_eq_true] at c
      obtain ⟨v, rfl, h1⟩ := reps1 h
      obtain ⟨a, vs, G, rfl, _, t, rr⟩ := rLst' h1
      have g := rr.im _ c.1
      subst g
      obtain ⟨u, rfl, ru⟩ := vals1 rx
      cases ru
      obtain ⟨its, rv, plL, hz⟩ := I.list (SqL.of t)
      refine min_core I rr (srtOk_of c.2) hu (by
        have := src_list (X := X) hh plL.isList
        rw [List.size_toArray, ← rv.length, ← rr.length] at this
        exact this) (vals_P rv) fun y ry => af.scal ry
    · cases e
  · split at e
    · rename_i x r c
      cases e
      unfold minOk at c
      rw [Bool.and_eq_true] at c
      obtain ⟨v, rfl, h1⟩ := reps1 h
      obtain ⟨a, vs, rfl, t, rr⟩ := rTup' h1
      have g := rr.im _ c.1
      subst g
      obtain ⟨u, rfl, ru⟩ := vals1 rx
      cases ru
      obtain ⟨its, rv, plL, hz⟩ := I.tuple t
      refine min_core I rr (srtOk_of c.2) hu (by
        have := src_tuple (X := X) hh plL
        rw [List.size_toArray, ← rv.length, ← rr.length] at this
        exact this) (vals_P rv) fun y ry => af.scal ry
    · cases e
  · rename_i i j
    cases e
    obtain ⟨v, w, F1, F2, rfl, h1, h2⟩ := reps2 h
    rw [rInt' h1, rInt' h2] at rx
    refine call_min2 hc pins s σ H _ us Q I rx ⟨i, j, rfl, ?_⟩
    have q := af.scal rInt
    simpa using q
  · cases e
theorem c_maxD (hh : X.A.handled = none) (hc : X.calm = true) (hu : X.A.units + 64 < cLine) : CallR X (.builtin "max") (rDn X.K cls dMax) := by
  rintro pins s σ H xs us Q I rx ⟨ds, F, d, h, e, af⟩
  unfold dMax at e
  split at e
  · split at e
    · rename_i x r c
      cases e
      unfold minOk at c
      rw [Bool.and_eq_true] at c
      obtain ⟨v, rfl, h1⟩ := reps1 h
      obtain ⟨a, vs, G, rfl, _, t, rr⟩ := rLst' h1
      have g := rr.im _ c.1
      subst g
      obtain ⟨u, rfl, ru⟩ := vals1 rx
      cases ru
      obtain ⟨its, rv, plL, hz⟩ := I.list (SqL.of t)
      refine max_core I rr (srtOk_of c.2) hu (by
        have := src_list (X := X) hh plL.isList
        rw [List.size_toArray, ← rv.length, ← rr.length] at this
        exact this) (vals_P rv) fun y ry => af.scal ry
    · cases e
  · split at e
    · rename_i x r c
      cases e
      unfold minOk at c
      rw [Bool.and_eq_true] at c
      obtain ⟨v, rfl, h1⟩ := reps1 h
      obtain ⟨a, vs, rfl, t, rr⟩ := rTup' h1
      have g := rr.im _ c.1
      subst g
      obtain ⟨u, rfl, ru⟩ := vals1 rx
      cases ru
      obtain ⟨its, rv, plL, hz⟩ := I.tuple t
      refine max_core I rr (srtOk_of c.2) hu (by
        have := src_tuple (X := X) hh plL
        rw [List.size_toArray, ← rv.length, ← rr.length] at this
        exact this) (vals_P rv) fun y ry => af.scal ry
    · cases e
  · rename_i i j
    cases e
    obtain ⟨v, w, F1, F2, rfl, h1, h2⟩ := reps2 h
    rw [rInt' h1, rInt' h2] at rx
    refine call_max2 hc pins s σ H _ us Q I rx ⟨i, j, rfl, ?_⟩
    have q := af.scal rInt
    simpa using q
  · cases e
end
end Bv
end

section
/-! sum(lists, []). -/
namespace Bv
open PySem PySem.Spec PyProof.Rows L2 PySem.W PySem.Calls
section
variable {prog : Program} {w : World} {A : Around} {R : Result → Shared → Prop} {I : Addr} {n : Nat} {P : Nat → Value → Prop} {St : Nat → Heap → Prop} {h0 : Heap} {L : Addr}
abbrev lobj (xs : Array Value) (k : Nat) : Obj := { cls := .type "list", data := .seq xs k }
def joinV (its : Nat → List Value) : Nat → List Value
  | 0 => []
  | i + 1 => joinV its i ++ its i
theorem sum_loop (Wk : Walks prog w A.in1 I [I, L] [I] n P St) (its : Nat → List Value) (hP : ∀ i v, P i v → ∃ b k, v = .ref b ∧ h0.get? b = some (lobj (its i).toArray k)) (hI : h0.get? I = none) (S : Addr) (hS0 : h0.get? S = none) (hIS : (I : Nat) < S) (hSz : h0.objs.size ≤ S) (hSL : S ≠ L)
    (hz : ∀ i, i ≤ n → (joinV its i).length ≤ sizeLine) : ∀ (k i : Nat) (s : Shared) (t c e : Nat), n - i = k → i ≤ n → (∀ b o, h0.get? b = some o → s.heap.get? b = some o) → St i s.heap → s.heap.get? S = some (lobj #[.ref t] c) → s.heap.get? t = some (lobj (joinV its i).toArray e) → t ≠ I → t ≠ S → (0 < i → h0.objs.size ≤ t) →
    (∀ h' tk t' e', (∀ b o, h0.get? b = some o → h'.get? b = some o) → h'.get? t' = some (lobj (joinV its n).toArray e') → (0 < n → h0.objs.size ≤ t') → R (.ok (.ret (.ref t'))) { s with heap := h', toks := tk }) →
    codeAny (model prog w) A (.builtin "sum.loop" ⟨[.ref I, .ref S, rawInt 2, rawInt 0], []⟩) R s := by
  have hSI : S ≠ I := Nat.ne_of_gt hIS
  intro k
  induction k with
  | zero =>
    intro i s t c e hk hi hkeep hst hS ht htI htS hn0 hR
    have hin : i = n := by omega
    subst hin
    refine codeAny_builtin F.entry_sum_loop ?_
    rw [Around.under_plainId F.plain_sum_loop _]
    show wpAny _ A.in1 (seqItems? (.ref S) >>= _) _ _ s
    refine wpAny_bind (wpAny_seqItems hS rfl ?_)
    show wpAny _ A.in1 (tryCatch (pyNext (.ref I)) _ >>= _) _ _ s
    refine wpAny_bind (wpAny_tryCatch (Wk.done s _ _ hst fun h' tk hk => ?_))
    refine wpAny_pure (hR h' tk t e (fun b o q => hk b o (fun z => ?_) (hkeep b o q)) (hk t _ (by simpa using htI) ht) hn0)
    rw [List.mem_singleton.mp z, hI] at q
    cases q
  | succ k ih =>
    intro i s t c e hk hi hkeep hst hS ht htI htS hn0 hR
    have hlt : i < n := by omega
    refine codeAny_builtin F.entry_sum_loop ?_
    rw [Around.under_plainId F.plain_sum_loop _]
    show wpAny _ A.in1 (seqItems? (.ref S) >>= _) _ _ s
    refine wpAny_bind (wpAny_seqItems hS rfl ?_)
    show wpAny _ A.in1 (tryCatch (pyNext (.ref I)) _ >>= _) _ _ s
    refine wpAny_bind (wpAny_tryCatch (Wk.item i s _ _ hlt hst fun v h' tk hv hst' hk' => ?_))
    obtain ⟨b, kb, rfl, hb⟩ := hP i v hv
    have hS' : h'.get? S = some (lobj #[.ref t] c) := hk' S _ (by simpa using hSI) hS
    have ht' : h'.get? t = some (lobj (joinV its i).toArray e) := hk' t _ (by simpa using htI) ht
    have hkeep' : ∀ b o, h0.get? b = some o → h'.get? b = some o := fun b o q => hk' b o (fun z => by
      rw [List.mem_singleton.mp z, hI] at q
      cases q) (hkeep b o q)
    have hb' := hkeep' b _ hb
    have hz1 := hz (i + 1) hlt
    have hz0 := hz i (by omega)
    have hzz : (joinV its i).length + (its i).length ≤ sizeLine := by
      rw [joinV, List.length_append] at hz1
      exact hz1
    show wpAny _ A.in1 ((holding [Value.ref b] (binaryOp .Add (.ref t) (.ref b))).attempt >>= _) _ _ _
    refine wpAny_bind (wpAny_attempt (wpAny_holding (PySem.P.add_list (s := { s with heap := h', toks := tk }) ht' hb' ?_ (by rw [List.size_toArray, List.size_toArray]; exact hzz))))
    show wpAny _ A.in1 (updateSeq S (fun _ => #[.ref h'.objs.size]) >>= _) _ _ _
    have lt1 : (S : Nat) < h'.objs.size := Heap.lt_size hS'
    have hS1 : (h'.push (lobj ((joinV its i).toArray ++ (its i).toArray) 0)).get? S = some (lobj #[.ref t] c) := Heap.get?_push_of_some _ hS'
    refine wpAny_bind (wpAny_updateSeq hS1 rfl ?_)
    have hS2 := Heap.get?_update_self (Obj.mapSeq fun _ => #[Value.ref h'.objs.size]) hS1 rfl
    refine wpAny_bind (wpAny_letGo ?_)
    refine wpAny_bind (wpAny_updateSeq hS2 rfl (wpAny_pure ⟨plainId_quiet F.plain_sum_loop _, ?_⟩))
    have oth : ∀ b o, b ≠ S → h'.get? b = some o → (((h'.push (lobj ((joinV its i).toArray ++ (its i).toArray) 0)).update S (Obj.mapSeq fun _ => #[Value.ref h'.objs.size])).update S (Obj.mapSeq fun _ => #[Value.ref h'.objs.size])).get? b = some o := fun b o hb e =>
      (Heap.get?_update_other _ _ (Ne.symm hb)).trans ((Heap.get?_update_other _ _ (Ne.symm hb)).trans (Heap.get?_push_of_some _ e))
    have hIlt : I ≠ S := Ne.symm hSI
    have hnew : h'.objs.size ≠ S := Nat.ne_of_gt lt1
    have hsz : h0.objs.size ≤ h'.objs.size := Nat.le_trans hSz (Nat.le_of_lt (Heap.lt_size hS'))
    refine ih (i + 1) _ h'.objs.size _ 0 (by omega) hlt (fun b o q => oth b o (fun z => by rw [z, hS0] at q; cases q) (hkeep' b o q)) (Wk.frame _ h' _ hst' fun b hb o e => oth b o (fun z => ?_) e) (Heap.get?_update_self _ hS2 rfl) ?_ (fun z => ?_) hnew (fun _ => hsz) fun h'' tk t' e' a1 a2 a3 => hR h'' tk t' e' a1 a2 a3
    · subst z
      rcases List.mem_cons.mp hb with z | z
      · exact hSI z
      · exact hSL (List.mem_singleton.mp z)
    · have e1 : (joinV its i).toArray ++ (its i).toArray = (joinV its (i + 1)).toArray := by rw [joinV]; simp
      rw [← e1]
      exact (Heap.get?_update_other _ _ (Ne.symm hnew)).trans ((Heap.get?_update_other _ _ (Ne.symm hnew)).trans (Heap.get?_push_size _ rfl))
    · exact absurd z (Nat.ne_of_gt (Nat.lt_trans hIS (Heap.lt_size hS')))
theorem args_sum2 (a b : Value) : argsOk "sum" ⟨[a, b], []⟩ := by unfold argsOk; kernel_rfl
theorem sub_list_str : isSubtype (.type "list") (.type "str") = pure false := by rw [isSubtype_type]; kernel_rfl
theorem sub_list_bytes : isSubtype (.type "list") (.type "bytes") = pure false := by rw [isSubtype_type]; kernel_rfl
theorem sub_list_bytearray : isSubtype (.type "list") (.type "bytearray") = pure false := by rw [isSubtype_type]; kernel_rfl
end
section
variable {K : PySem.W.Frag} {cls : Nat → Addr} {X : Cx} {σ : L2.St} {H : Hp} {pins : List (Addr × Obj)} {s : Shared}
def catL : List D → Option (List D)
  | [] => some []
  | .lst x :: r => if ims x then (catL r).map (x ++ ·) else none
  | _ => none
def dSum : List D → Option D
  | [.lst x] => (intsD x).map fun ns => .int (sumI ns)
  | [.lst (x :: r), .lst []] => (match catL (x :: r) with
    | some l => if Nat.ble l.length lineN then some (.lst l) else none
    | none => none)
  | _ => none
/-- the items of lists, one behind the other -/
theorem cat_rep : ∀ {ds : List D} {vs : List V} {F : List Addr} {l : List D}, catL ds = some l → Reps K cls H ds vs F → ∃ xss : List (List V), xss.length = vs.length ∧ Reps K cls H l xss.flatten [] ∧ ∀ (i : Nat) (v : V) , vs[i]? = some v → ∃ a xs, v = .ref a ∧ H a = some (.lst xs) ∧ xss[i]? = some xs
  | [], vs, F, l, e, r => by
    unfold Reps at r
    cases e
    rw [r.1]
    exact ⟨[], rfl, Reps.nil, fun i v h => by simp at h⟩
  | d :: ds, vs, F, l, e, r => by
    obtain ⟨v, vr, F1, F2, rfl, rfl, h1, h2⟩ := r.uncons
    unfold catL at e
    split at e
    · cases ‹d :: ds = []›
    · rename_i x r' eq
      cases eq
      split at e
      · rename_i hi
        obtain ⟨l', e3, rfl⟩ := Option.map_eq_some_iff.mp e
        obtain ⟨xss, a1, a2, a3⟩ := cat_rep e3 h2
        obtain ⟨a, xs, G, rfl, _, t, rr⟩ := rLst' h1
        have g := rr.im _ hi
        subst g
        refine ⟨xs :: xss, by simp [a1], by rw [List.flatten_cons]; exact rr.append a2, fun i v h => ?_⟩
        cases i with
        | zero =>
          have : V.ref a = v := by simpa using h
          subst this
          exact ⟨a, xs, rfl, t, rfl⟩
        | succ i => 
          obtain ⟨b, ys, q1, q2, q3⟩ := a3 i v (by simpa using h)
          exact ⟨b, ys, q1, q2, by simpa using q3⟩
      · cases e
    · cases e
theorem joinV_len (its : Nat → List Value) : ∀ {i j : Nat}, i ≤ j → (joinV its i).length ≤ (joinV its j).length
  | i, 0, h => by
    have : i = 0 := by omega
    subst this
    exact Nat.le_refl _
  | i, j + 1, h => by
    by_cases e : i = j + 1
    · subst e; exact Nat.le_refl _
    · rw [joinV, List.length_append]
      have := joinV_len its (show i ≤ j by omega)
      omega
theorem join_vals {xss : List (List V)} (its : Nat → List Value) (h : ∀ (i : Nat) (xs : List V), xss[i]? = some xs → Vals xs (its i)) : ∀ k, k ≤ xss.length → Vals (xss.take k).flatten (joinV its k)
  | 0, _ => by rw [List.take_zero]; exact .nil
  | k + 1, hk => by
    have hx : xss[k]? = some xss[k] := List.getElem?_eq_getElem hk
    rw [List.take_add_one, hx, List.flatten_append, joinV]
    refine (join_vals its h k (by omega)).append ?_
    have := h k _ hx
    simpa using this
theorem c_sumD (hh : X.A.handled = none) (hc : X.calm = true) : CallR X (.builtin "sum") (rDn X.K cls dSum) := by
  rintro pins s σ H xs us Q I rx ⟨ds, F0, d, h, e, af⟩
  unfold dSum at e
  split at e
  · exact c_sum (cls := cls) hc pins s σ H xs us Q I rx ⟨_, F0, d, h, e, af⟩
  · rename_i x r
    split at e
    · rename_i l el
      split at e
      · rename_i hl
        cases e
        have hl := Nat.le_of_ble_eq_true hl
        rw [lineN_eq] at hl
        obtain ⟨v, w, F1, F2, rfl, h1, h2⟩ := reps2 h
        obtain ⟨a, vs, G, rfl, _, t, rr⟩ := rLst' h1
        obtain ⟨b, ws, G', rfl, _, t2, rr2⟩ := rLst' h2
        unfold Reps at rr2
        have ew := rr2.1
        subst ew
        obtain ⟨u1, u2, rfl, r1, r2⟩ := vals2 rx
        cases r1
        cases r2
        obtain ⟨xss, a1, a2, a3⟩ := cat_rep el rr
        obtain ⟨its, rv, plL, hz⟩ := I.list (SqL.of t)
        obtain ⟨_, its2, n2, rv2, hl2, e2⟩ := I.lstM t2
        cases rv2
        have pick : ∀ (i : Nat), ∃ ys : List Value, ∀ xs : List V, xss[i]? = some xs → Vals xs ys ∧ ∃ (bb : Addr) (k : Nat), its[i]? = some (Value.ref bb) ∧ s.heap.get? bb = some (lobj ys.toArray k) := fun (i : Nat) => by
          cases ex : xss[i]? with
          | none => exact ⟨[], fun xs z => by cases z⟩
          | some xs =>
            have hi : i < vs.length := by rw [← a1]; exact (List.getElem?_eq_some_iff.mp ex).1
            obtain ⟨aa, xs', q1, q2, q3⟩ := a3 i vs[i] (List.getElem?_eq_getElem hi)
            rw [ex] at q3
            cases q3
            obtain ⟨_, ys, k, rys, _, ey⟩ := I.lstM q2
            obtain ⟨u, hu, ru⟩ := rv.get (List.getElem?_eq_getElem hi)
            rw [q1] at ru
            cases ru
            exact ⟨ys, fun xs z => by have z := Option.some.inj z; subst z; exact ⟨rys, aa, k, hu, ey⟩⟩
        obtain ⟨itf, hitf⟩ := Classical.axiomOfChoice pick
        have hln : its.toArray.size = xss.length := by rw [List.size_toArray, ← rv.length, a1]
        have jv := join_vals itf (fun i xs z => (hitf i xs z).1) xss.length (Nat.le_refl _)
        rw [List.take_length] at jv
        have jl : (joinV itf xss.length).length = l.length := by rw [a2.length]; exact jv.length.symm
        obtain ⟨oI, St, aL, haL, hit, Wk, st⟩ := src_list (X := X) hh plL.isList
        refine call_function_tree F.kind_sum F.plain_sum F.entry_sum (args_sum2 _ _) ?_
        unfold Builtin.«sum»
        simp only [List.length_cons, List.length_nil]
        rw [if_neg (by decide)]
        refine wpAny_bind (wpAny_of_eq (show Builtin.Builtins.bindParams "sum" ["start"] 0 ⟨[Value.ref b], []⟩ = pure [some (.ref b)] from rfl) ?_)
        refine wpAny_bind (hit _ _ ?_)
        refine wpAny_bind (wpAny_pure ?_)
        have hb2 : (s.heap.push oI).get? b = some (lobj #[] n2) := Heap.get?_push_of_some _ e2
        simp only [List.forIn_cons, List.forIn_nil]
        refine wpAny_bind (wpAny_bind (wpAny_bind (wpAny_isInstance (T := "list") (b := false) ⟨_, hb2, rfl⟩ sub_list_str ?_)))
        simp only [Bool.false_eq_true, if_false]
        refine wpAny_pure (wpAny_bind (wpAny_bind (wpAny_isInstance (T := "list") (b := false) ⟨_, hb2, rfl⟩ sub_list_bytes ?_)))
        simp only [Bool.false_eq_true, if_false]
        refine wpAny_pure (wpAny_bind (wpAny_bind (wpAny_isInstance (T := "list") (b := false) ⟨_, hb2, rfl⟩ sub_list_bytearray ?_)))
        simp only [Bool.false_eq_true, if_false]
        refine wpAny_pure (wpAny_pure ?_)
        refine wpAny_bind (wpAny_newObj_type ?_)
        have hblt : (b : Nat) < s.heap.objs.size := Heap.lt_size e2
        have sz1 : (s.heap.push oI).objs.size = s.heap.objs.size + 1 := size_push' _ _
        have hno : ∀ k, s.heap.objs.size ≤ k → s.heap.get? k = none := fun k hk => by
          cases eq : s.heap.get? k with
          | none => rfl
          | some o => exact absurd (Heap.lt_size eq) (Nat.not_lt_of_le hk)
        refine wpAny_pure ⟨plainId_quiet F.plain_sum_loop _, ?_⟩
        refine sum_loop (h0 := s.heap) Wk itf (fun i v hv => ?_) (hno _ (Nat.le_refl _)) (s.heap.push oI).objs.size (hno _ (by rw [sz1]; exact Nat.le_succ _)) (by rw [sz1]; exact Nat.lt_succ_self _) (by rw [sz1]; exact Nat.le_succ _) (by rw [sz1]; exact Nat.ne_of_gt (Nat.lt_succ_of_lt haL)) (fun i hi => ?_) its.toArray.size 0 _ b 0 n2 (by omega) (Nat.zero_le _)
          (fun b o q => Heap.get?_push_of_some _ (Heap.get?_push_of_some _ q)) (Wk.frame 0 _ _ st fun b hb o e => Heap.get?_push_of_some _ e) (Heap.get?_push_size _ rfl) (Heap.get?_push_of_some _ hb2) (Nat.ne_of_lt hblt) (by rw [sz1]; exact Nat.ne_of_lt (Nat.lt_succ_of_lt hblt)) (fun z => absurd z (Nat.lt_irrefl _)) fun h' tk t' e' k1 k2 k3 => ?_
        · have hv : its[i]? = some v := by simpa using hv
          have hi : i < xss.length := by
            have := (List.getElem?_eq_some_iff.mp hv).1
            rw [← hln, List.size_toArray]
            exact this
          obtain ⟨_, bb, k, q1, q2⟩ := hitf i xss[i] (List.getElem?_eq_getElem hi)
          rw [hv] at q1
          cases q1
          exact ⟨bb, k, rfl, q2⟩
        · have := joinV_len itf (show i ≤ xss.length by omega)
          omega
        · have hpos : 0 < its.toArray.size := by
            have := rr.length
            rw [hln, a1, ← this]
            simp
          have hp : H t' = none := I.hok.fresh (k3 hpos)
          rw [hln] at k2
          exact ⟨.ref t', upd H t' (.lst xss.flatten), I.laid (t' := tk) (o := .lst xss.flatten) k1 (k3 hpos) ⟨by rw [← a2.length]; exact hl, _, e', jv, k2⟩, rfl, af.lst hp a2⟩
      · cases e
    · cases e
  · cases e
end
end Bv
end

section
/-! f(d.values()); isinstance; [::-1]. -/
namespace Bv
open PySem PySem.Spec PyProof.Rows L2 PySem.W PySem.Calls
variable {K : PySem.W.Frag} {cls : Nat → Addr} {X : Cx}
variable {σ σ' : L2.St} {H H' H1 H2 : Hp} {d d' : D} {v v' : V} {F F' F1 F2 : List Addr} {W : WX}
def valsOf : List (D × D) → List D
  | [] => []
  | p :: r => p.2 :: valsOf r
theorem valsOf_eq : ∀ l, valsOf l = l.map Prod.snd
  | [] => rfl
  | p :: r => by rw [valsOf, valsOf_eq r]; rfl
section
variable {pins : List (Addr × Obj)} {s : Shared}
/-- the dict's own entries -/
theorem dict_raw (I : Inv X pins σ H s) {a : Addr} {keys : List D} {vs : List V} (h : DictH H a keys vs) : (a == sysModules) = false ∧ ∃ es ep, s.heap.DictRaw a es ep ∧ es.size = vs.length ∧ vs.length ≤ sizeLine ∧ ∀ (i : Nat) (hi : i < es.size), ∃ y : V, vs[i]? = some y ∧ RelV y es[i].val := by
  obtain ⟨_, ⟨ks, e, l, rd⟩ | ⟨ks, e, l, rd⟩⟩ := h
  · obtain ⟨z, lo, ws, kv, dd⟩ := dk_rd I.hok rd
    obtain ⟨es, ep, h1, h2, h3⟩ := dd.raw
    have l1 := kv.length
    rw [List.length_zip, ← l, Nat.min_self] at l1 z
    refine ⟨lo, es, ep, h1, by omega, by omega, fun i hi => ?_⟩
    have hiv : i < (ks.zip vs).length := by rw [List.length_zip, ← l, Nat.min_self]; omega
    obtain ⟨y', e4, e5⟩ := paired_get kv (i := i) (List.getElem?_eq_getElem hiv)
    have e6 := List.getElem?_eq_getElem hiv
    rw [List.getElem?_zip_eq_some] at e6
    exact ⟨_, e6.2, by rw [(h3 i hi y'.1 y'.2 e4).2]; exact e5.2⟩
  · obtain ⟨z, lo, xs, kv, dd⟩ := dt_rd I.hok rd
    obtain ⟨es, ep, h1, h2, h3⟩ := dd.raw
    have l1 : (ks.zip vs).length = xs.length := Paired.length kv
    rw [List.length_zip, ← l, Nat.min_self] at l1 z
    refine ⟨lo, es, ep, h1, by omega, by omega, fun i hi => ?_⟩
    obtain ⟨y, e1, _, e3, _⟩ := h3 i hi
    have hiv : i < (ks.zip vs).length := by rw [List.length_zip, ← l, Nat.min_self]; omega
    obtain ⟨y', e4, e5⟩ := paired_get kv (i := i) (List.getElem?_eq_getElem hiv)
    rw [e1] at e4
    cases e4
    have e6 := List.getElem?_eq_getElem hiv
    rw [List.getElem?_zip_eq_some] at e6
    exact ⟨_, e6.2, by rw [e3]; exact e5.2.2⟩
/-- what a call of f comes to on the values of a dict -/
def VwR (X : Cx) (cls : Nat → Addr) (f : Value) (op : List D → Option D) : Prop := ∀ (pins : List (Addr × Obj)) (s : Shared) (σ : L2.St) (H : Hp) (r a : Addr) (es : Array DictEntry) (ep : Nat) (ds : List D) (vs : List V) (G : List Addr) (d : D) (Q : VK),
  Inv X pins σ H s → s.heap.IsValuesView r a → s.heap.DictRaw a es ep → es.size = vs.length → vs.length ≤ sizeLine → (∀ (i : Nat) (hi : i < es.size), ∃ y : V, vs[i]? = some y ∧ RelV y es[i].val) → Reps X.K cls H ds vs G → op ds = some d → After X.K cls H d Q →
  wpAny (model X.prog X.w) X.A (call f [.ref r]) (EP X pins σ Q) X.xe s
def dVw (op : List D → Option D) : D → Option D
  | .dct kvs => op (valsOf kvs)
  | _ => none
theorem vw_core {o : Expr} {apos mpos : Pos} {te : TE} {f : Value} {op : List D → Option D} (rule : VwR X cls f op) (hd : PE X o te) (hbase : attributeBase o "values" X.env (eval o X.env) = eval o X.env) (hline : (apos.endLine == mpos.line) = true)
    {σ : L2.St} {Q : VK} (I : Inv X pins σ H s) (h : te σ H fun x H1 => rD1 X.K cls (dVw op) x H1 Q) :
    wpAny (model X.prog X.w) X.A (eval (.Call (.Attribute o "values" apos) [] [] mpos) X.env) (fun u s1 => wpAny (model X.prog X.w) X.A (call f [u]) (EP X pins σ Q) X.xe s1) X.xe s := by
  refine wpAny_Call_method0_late hbase hline (thn (hd.run pins s σ H _ I h) fun u s1 ⟨x, H1, I1, r1, d1, F1, d, rep, e, af⟩ => ?_)
  unfold dVw at e
  split at e
  · obtain ⟨a, vs, G, rfl, _, t, r⟩ := dct_ref rep
    cases r1
    rw [repV_iff, ← valsOf_eq] at r
    obtain ⟨lo, es, ep, h1, h2, h3, h4⟩ := dict_raw I1 t
    obtain ⟨ob, ho, ex, hdat⟩ := id h1
    refine ⟨"dict", "dict.values", F.plainAttrs_dict, F.slot_dict_values, F.type_dict_values, ⟨ob, ho, ex.1⟩, fun b e => ?_, Calls.callWith_builtin rfl (PySem.evalArgs_none ?_)⟩
    · cases e
      exact ⟨ob, ho, ex.2.1⟩
    refine call_meetsIn F.slot_dict_values ⟨ob, ho, ex.1⟩ F.entry_dict_values (F.args_dict_values_1 _) (meets_dict_values_raw a lo) ⟨⟨es, ep, h1⟩, ?_⟩
    have k1 : ∀ b u, s1.heap.get? b = some u → (s1.heap.push { cls := .type "dict_values", data := .fields #[.ref a] }).get? b = some u := fun b u e => Heap.get?_push_of_some _ e
    exact rule pins _ σ H1 _ a es ep _ vs G d Q (I1.kept (t' := s1.toks) k1) ⟨_, Heap.get?_push_size _ rfl, rfl, rfl⟩ (h1.at fun o e => k1 _ _ e) h2 h3 h4 r e af
  · cases e
theorem s_vwB {o : Expr} {x : Str} {f : String} {p pos apos mpos : Pos} {m : EM} {op : List D → Option D} (rule : VwR X cls (.builtin f) op) (hg : Gl X x) (hm : X.mg x = none) (hv : bootBuiltins x = some (.builtin f)) (hn : x ≠ "__name__") (hdb : (x == ("__debug__" : Str)) = false)
    (hd : PE X o (tE X.K cls W m)) (hbase : attributeBase o "values" X.env (eval o X.env) = eval o X.env) (hline : (apos.endLine == mpos.line) = true) :
    PE X (.Call (.Name x p) [.Call (.Attribute o "values" apos) [] [] mpos] [] pos) (tE X.K cls W (m1 (dVw op) m)) := by
  refine ⟨fun pins s σ H Q I h => ?_⟩
  refine wpAny_Call_Name_kw (ld_blt I hg hm hv ?_ hn hdb)
  exact PySem.callWith_builtin1 (vw_core rule hd hbase hline I (imp1 h))
theorem s_vwT {o : Expr} {x : Str} {f : String} {p pos apos mpos : Pos} {m : EM} {op : List D → Option D} (rule : VwR X cls (.type f) op) (hg : Gl X x) (hm : X.mg x = none) (hv : bootBuiltins x = some (.type f)) (hn : x ≠ "__name__") (hdb : (x == ("__debug__" : Str)) = false)
    (hd : PE X o (tE X.K cls W m)) (hbase : attributeBase o "values" X.env (eval o X.env) = eval o X.env) (hline : (apos.endLine == mpos.line) = true) :
    PE X (.Call (.Name x p) [.Call (.Attribute o "values" apos) [] [] mpos] [] pos) (tE X.K cls W (m1 (dVw op) m)) := by
  refine ⟨fun pins s σ H Q I h => ?_⟩
  refine wpAny_Call_Name_kw (ld_blt I hg hm hv ?_ hn hdb)
  exact PySem.callWith_type1 (vw_core rule hd hbase hline I (imp1 h))
theorem src_cast {x : Value} {n m : Nat} {P : Nat → Value → Prop} (h : n = m) (q : SrcIt X x s n P) : SrcIt X x s m P := by subst h; exact q
theorem raw_P {a : Addr} {es : Array DictEntry} {vs : List V} (h4 : ∀ (i : Nat) (hi : i < es.size), ∃ y : V, vs[i]? = some y ∧ RelV y es[i].val) : ∀ (i : Nat) (u : Value), (∃ hi : i < es.size, u = es[i].val) → ∃ y : V, vs[i]? = some y ∧ RelV y u := fun i u ⟨hi, e⟩ => by
  rw [e]; exact h4 i hi
def vSum (l : List D) : Option D := (intsD l).map fun ns => .int (sumI ns)
def vMin : List D → Option D
  | x :: r => if minOk (x :: r) then some (minD x r) else none
  | [] => none
def vMax : List D → Option D
  | x :: r => if minOk (x :: r) then some (maxD x r) else none
  | [] => none
def vList (l : List D) : Option D := if ims l then some (.lst l) else none
def vSorted (l : List D) : Option D := if ims l && srtOk l then some (.lst (srt l)) else none
theorem ints_ims : ∀ {l : List D} {ns : List Int}, intsD l = some ns → ims l = true
  | [], _, _ => rfl
  | x :: l, ns, e => by
    cases x <;> simp [intsD] at e
    obtain ⟨br, e, _⟩ := e
    rw [ims, ints_ims e]
    rfl
theorem v_sum (hh : X.A.handled = none) : VwR X cls (.builtin "sum") vSum := fun pins s σ H r a es ep ds vs G d Q I hv hr h2 h3 h4 rr e af => by
  obtain ⟨ns, en, rfl⟩ := Option.map_eq_some_iff.mp e
  have g := rr.im _ (ints_ims en)
  subst g
  refine sum_core I rr en ?_ (raw_P (a := a) h4) (af.scal rInt)
  exact src_cast (h2.trans rr.length.symm) (src_kdl (X := X) (s := s) (KdlSrc.rawValues (prog := X.prog) (w := X.w) (r := r) (d := a) (es := es) (ep := ep)) hh ⟨hv, hr⟩)
theorem v_min (hh : X.A.handled = none) (hu : X.A.units + 64 < cLine) : VwR X cls (.builtin "min") vMin := fun pins s σ H r a es ep ds vs G d Q I hv hr h2 h3 h4 rr e af => by
  unfold vMin at e
  split at e
  · split at e
    · rename_i c
      cases e
      unfold minOk at c
      rw [Bool.and_eq_true] at c
      have g := rr.im _ c.1
      subst g
      refine min_core I rr (srtOk_of c.2) hu ?_ (raw_P (a := a) h4) fun y ry => af.scal ry
      exact src_cast (h2.trans rr.length.symm) (src_kdl (X := X) (s := s) (KdlSrc.rawValues (prog := X.prog) (w := X.w) (r := r) (d := a) (es := es) (ep := ep)) hh ⟨hv, hr⟩)
    · cases e
  · cases e
theorem v_max (hh : X.A.handled = none) (hu : X.A.units + 64 < cLine) : VwR X cls (.builtin "max") vMax := fun pins s σ H r a es ep ds vs G d Q I hv hr h2 h3 h4 rr e af => by
  unfold vMax at e
  split at e
  · split at e
    · rename_i c
      cases e
      unfold minOk at c
      rw [Bool.and_eq_true] at c
      have g := rr.im _ c.1
      subst g
      refine max_core I rr (srtOk_of c.2) hu ?_ (raw_P (a := a) h4) fun y ry => af.scal ry
      exact src_cast (h2.trans rr.length.symm) (src_kdl (X := X) (s := s) (KdlSrc.rawValues (prog := X.prog) (w := X.w) (r := r) (d := a) (es := es) (ep := ep)) hh ⟨hv, hr⟩)
    · cases e
  · cases e
theorem v_sorted (hh : X.A.handled = none) (hu : X.A.units + 64 < cLine) : VwR X cls (.builtin "sorted") vSorted := fun pins s σ H r a es ep ds vs G d Q I hv hr h2 h3 h4 rr e af => by
  unfold vSorted at e
  split at e
  · rename_i c
    cases e
    rw [Bool.and_eq_true] at c
    have g := rr.im _ c.1
    subst g
    refine sorted_road I rr (srtOk_of c.2) (by rw [rr.length]; exact h3) hu (fun R E hR => ?_) af
    refine kdu_collect (KdlSrc.rawValues (prog := X.prog) (w := X.w) (r := r) (d := a) (es := es) (ep := ep)) (by exact hh) ⟨hv, hr⟩ (by omega) fun h' tk acc hk hacc => ?_
    refine hR h' tk _ hk (vals_of_idx _ _ (by rw [Array.length_toList, ← h2]; exact hacc.1) fun j u hj => ?_)
    exact raw_P (a := a) h4 j u (hacc.2 j u (by rw [← Array.getElem?_toList]; exact hj))
  · cases e
theorem v_list (hh : X.A.handled = none) : VwR X cls (.type "list") vList := fun pins s σ H r a es ep ds vs G d Q I hv hr h2 h3 h4 rr e af => by
  unfold vList at e
  split at e
  · rename_i c
    cases e
    have g := rr.im _ c
    subst g
    refine kdl_call (KdlSrc.rawValues (prog := X.prog) (w := X.w) (r := r) (d := a) (es := es) (ep := ep)) hh ⟨hv, hr⟩ (by omega) fun h' tk acc c' hk hS hacc => ?_
    have hp := I.fresh
    refine ⟨.ref s.heap.objs.size, upd H s.heap.objs.size (.lst vs), I.laid (t' := tk) (o := .lst vs) hk (Nat.le_refl _) ⟨h3, acc.toList, c', ?_, ?_⟩, rfl, af.lst hp rr⟩
    · refine vals_of_idx _ _ (by rw [Array.length_toList, ← h2]; exact hacc.1) fun j u hj => ?_
      exact raw_P (a := a) h4 j u (hacc.2 j u (by rw [← Array.getElem?_toList]; exact hj))
    · simpa using hS
  · cases e
end
end Bv
end

section
/-! isinstance; [::-1]. -/
namespace Bv
open PySem PySem.Spec PyProof.Rows L2 PySem.W PySem.Calls
variable {K : PySem.W.Frag} {cls : Nat → Addr} {X : Cx}
variable {σ σ' : L2.St} {H H' H1 H2 : Hp} {d d' : D} {v v' : V} {F F' F1 F2 : List Addr} {W : WX}
inductive Ty where
  | int | bool | str | tuple | list | dict
def Ty.name : Ty → String
  | .int => "int" | .bool => "bool" | .str => "str" | .tuple => "tuple" | .list => "list" | .dict => "dict"
def isTy : Ty → D → Option Bool
  | _, .ins _ _ => none
  | .int, .int _ => some true
  | .int, .bl _ => some true
  | .bool, .bl _ => some true
  | .str, .str _ => some true
  | .tuple, .tup _ => some true
  | .list, .lst _ => some true
  | .dict, .dct _ => some true
  | _, _ => some false
def tyN : D → String
  | .non => "NoneType" | .bl _ => "bool" | .int _ => "int" | .str _ => "str" | .tup _ => "tuple" | .lst _ => "list" | .dct _ => "dict" | .ins _ _ => ""
def kitT (a : String) (t : Ty) : Option Bool := kitB a t.name
theorem kit_none (t : Ty) : kitB "NoneType" t.name = some false := by cases t <;> decide +kernel
theorem kit_bool (t : Ty) : kitB "bool" t.name = isTy t (.bl true) := by cases t <;> decide +kernel
theorem kit_int (t : Ty) : kitB "int" t.name = isTy t (.int 0) := by cases t <;> decide +kernel
theorem kit_str (t : Ty) : kitB "str" t.name = isTy t (.str []) := by cases t <;> decide +kernel
theorem kit_tuple (t : Ty) : kitB "tuple" t.name = isTy t (.tup []) := by cases t <;> decide +kernel
theorem kit_list (t : Ty) : kitB "list" t.name = isTy t (.lst []) := by cases t <;> decide +kernel
theorem kit_dict (t : Ty) : kitB "dict" t.name = isTy t (.dct []) := by cases t <;> decide +kernel
section
variable {pins : List (Addr × Obj)} {s : Shared}
theorem isi_core (I : Inv X pins σ H s) {t : Ty} {u : Value} {b : Bool} {Q : VK} (r : Rep X.K cls H d v F) (ru : RelV v u) (e : isTy t d = some b) (q : Q (.bl b) H) : wpAny (model X.prog X.w) X.A (call (.builtin "isinstance") [u, .type t.name]) (EP X pins σ Q) X.xe s := by
  have fin : ∀ (a : String) (P : Heap → Prop), PySem.W.KitX X.K u (.type a) P → P s.heap → u ≠ .builtin "__main__.__loader__#opaque" → kitB a t.name = some b → wpAny (model X.prog X.w) X.A (call (.builtin "isinstance") [u, .type t.name]) (EP X pins σ Q) X.xe s := fun a P kx p ne kb =>
    PySem.W.kia_one kx I.kIn p (kit_ty kb) ne fun tk => ⟨.bl b, H, I.tok tk, rfl, q⟩
  cases d with
  | non =>
    rw [rNon' r] at ru
    cases (show u = Value.none from ru)
    refine fin "NoneType" _ PySem.W.kitx_none True.intro (fun z => nomatch z) ((kit_none t).trans ?_)
    rw [← e]; cases t <;> rfl
  | bl x =>
    rw [rBl' r] at ru
    cases (show u = Value.bool x from ru)
    refine fin "bool" _ PySem.W.kitx_bool True.intro (fun z => nomatch z) ((kit_bool t).trans ?_)
    rw [← e]; cases t <;> rfl
  | int x =>
    rw [rInt' r] at ru
    obtain ⟨tk, rfl⟩ := (show ∃ t, u = Value.int x t from ru)
    refine fin "int" _ PySem.W.kitx_int True.intro (fun z => nomatch z) ((kit_int t).trans ?_)
    rw [← e]; cases t <;> rfl
  | str x =>
    rw [(rStr' r).1] at ru
    obtain ⟨tk, rfl⟩ := (show ∃ t, u = Value.str (S' x) t from ru)
    refine fin "str" _ PySem.W.kitx_str True.intro (fun z => nomatch z) ((kit_str t).trans ?_)
    rw [← e]; cases t <;> rfl
  | tup x =>
    obtain ⟨a, vs, rfl, t1, _⟩ := rTupS r
    cases (show u = Value.ref a from ru)
    obtain ⟨_, _, _, o, h1, h2, _⟩ := (show ObjOk X.prog X.w H s.heap a (.tup vs) from I.hok a _ t1)
    refine fin "tuple" _ PySem.W.kitx_tuple ⟨o, h1, h2⟩ (fun z => nomatch z) ((kit_tuple t).trans ?_)
    rw [← e]; cases t <;> rfl
  | lst x =>
    obtain ⟨a, vs, G, rfl, _, t1, _⟩ := rLst' r
    cases (show u = Value.ref a from ru)
    obtain ⟨_, _, n, _, h1⟩ := (show ObjOk X.prog X.w H s.heap a (.lst vs) from I.hok a _ t1)
    refine fin "list" _ PySem.W.kitx_list ⟨_, h1, rfl⟩ (fun z => nomatch z) ((kit_list t).trans ?_)
    rw [← e]; cases t <;> rfl
  | dct x =>
    obtain ⟨a, vs, G, rfl, _, t1, _⟩ := dct_ref r
    cases (show u = Value.ref a from ru)
    obtain ⟨_, o, es, ep, h1, h2, _⟩ := dictRaw I t1
    refine fin "dict" _ PySem.W.kitx_dict ⟨o, h1, h2.1⟩ (fun z => nomatch z) ((kit_dict t).trans ?_)
    rw [← e]; cases t <;> rfl
  | ins c fs => cases t <;> cases e
def dIsi (t : Ty) (d : D) : Option D := (isTy t d).map fun b => .bl b
theorem s_isi {e : Expr} {x y : Str} {t : Ty} {p p2 pos : Pos} {m : EM} (he : PE X e (tE X.K cls W m)) (hg : Gl X x) (hm : X.mg x = none) (hv : bootBuiltins x = some (.builtin "isinstance")) (hn : x ≠ "__name__") (hdb : (x == ("__debug__" : Str)) = false)
    (hg2 : Gl X y) (hm2 : X.mg y = none) (hv2 : bootBuiltins y = some (.type t.name)) (hn2 : y ≠ "__name__") (hdb2 : (y == ("__debug__" : Str)) = false) (hs : starEach [e, .Name y p2] X.env = (false, eval e X.env) :: starEach [.Name y p2] X.env) (hpl : (backTo pos (starEach [.Name y p2] X.env)).any (·.1) = false) :
    PE X (.Call (.Name x p) [e, .Name y p2] [] pos) (tE X.K cls W (m1 (dIsi t) m)) := by
  have rule : CallR X (.builtin "isinstance") (fun xs H Q => ∃ v, xs = [v, .ty t.name] ∧ rD1 X.K cls (dIsi t) v H Q) := by
    rintro pins s σ H xs us Q I rx ⟨v, rfl, d, F, z, r, e, af⟩
    obtain ⟨u1, u2, rfl, r1, r2⟩ := vals2 rx
    cases (show u2 = Value.type t.name from r2)
    obtain ⟨b, e3, rfl⟩ := Option.map_eq_some_iff.mp e
    exact isi_core I r r1 e3 (af.scal rBl)
  have hT : PE X (.Name y p2) (tC (.ty t.name)) := pe_bltn hg2 hm2 hv2 rfl hn2 hdb2
  refine PE.imp (pe_callB rule hg hm hv (pa_cons he (pa_cons hT pa_nil (by rfl)) hs) hn hdb hs hpl) fun σ H Q h => ?_
  obtain ⟨S, Fs, Z, r, h⟩ := imp1 h
  refine ⟨S, Fs, Z, r, ?_⟩
  cases e1 : m.run S with
  | ok d S1 =>
    rw [e1] at h
    intro v H1 Fs1 F r1 st hd ho
    exact ⟨v, rfl, h v H1 Fs1 F r1 st hd ho⟩
  | exc c d s => rw [e1] at h; exact h
  | stuck => rw [e1] at h; exact h
end

/-! ### [::-1] -/
def revD : D → Option D
  | .str x => some (.str x.reverse)
  | .lst x => if ims x then some (.lst x.reverse) else none
  | _ => none
def minus1 (k : Nat) (p1 p2 : Pos) : Expr := .UnaryOp .USub (.Constant (.int 1) k p1) p2
theorem rev_reps {H : Hp} : ∀ {ds : List D} {vs : List V}, Reps K cls H ds vs [] → Reps K cls H ds.reverse vs.reverse []
  | [], vs, r => by unfold Reps at r; rw [r.1]; exact Reps.nil
  | d :: ds, vs, r => by
    obtain ⟨w, vr, F1, F2, rfl, e, h1, h2⟩ := r.uncons
    have e := List.append_eq_nil_iff.mp e.symm
    rw [e.1] at h1
    rw [e.2] at h2
    rw [List.reverse_cons, List.reverse_cons]
    exact (rev_reps h2).append h1.one
theorem rev_idx (x : List Nat) : ((Builtin.Str.strSliceIndices none none (-1) (S' x).length).filterMap ((S' x).cps[·]?)) = x.reverse := by
  rw [show Builtin.Str.strSliceIndices none none (-1) (S' x).length = sliceRange (((S' x).length : Int) - 1) (-1) (-1) from rfl, krv_sliceRange, krv_range, List.filterMap_reverse]
  congr 1
  have := krv_all x.toArray
  rw [List.size_toArray] at this
  rw [S'_length]
  exact this
section
variable {e : Expr} {m : EM} {p3 pos : Pos} {k : Nat} {p1 p2 : Pos}
theorem s_rev (he : PE X e (tE X.K cls W m)) : PE X (.Subscript e (.Slice none none (some (.UnaryOp .USub (.Constant (.int 1) k p1) p2)) p3) pos) (tE X.K cls W (m1 revD m)) := by
  refine ⟨fun pins s σ H Q I h => ?_⟩
  refine Subscript_ (thn (he.run pins s σ H _ I (imp1 h)) fun v s1 ⟨x, H1, I1, r1, d1, F1, d, rep, e, af⟩ => ?_)
  have hst : PO X (some (.UnaryOp .USub (.Constant (.int 1) k p1) p2)) (tPart (tUn (rU fun i => .int (-i)) (tC (.int 1)))) := po_some (pe_un un_neg pe_int)
  refine wpAny_Slice (thn (po_none.run pins s1 σ H1 (fun o H2 => o = none ∧ H2 = H1) I1 ⟨rfl, rfl⟩) fun vl s2 ⟨l, H2, I2, plp, el, e2⟩ => ?_)
  subst el e2
  refine thn (po_none.run pins s2 σ H2 (fun o H3 => o = none ∧ H3 = H2) I2 ⟨rfl, rfl⟩) fun vu s3 ⟨u, H3, I3, pu, eu, e3⟩ => ?_
  subst eu e3
  refine thn (hst.run pins s3 σ H3 (fun o H4 => o = some (-1) ∧ H4 = H3) I3 ⟨1, rfl, -1, rfl, rfl, rfl⟩) fun vs s4 ⟨o, H4, I4, ps, eo, e4⟩ => ?_
  subst eo e4
  have I5 : Inv X pins σ H4 { s4 with heap := s4.heap.push { cls := .type "slice", data := .fields #[vl, vu, vs] } } := I4.kept (t' := s4.toks) fun b ob q => Heap.get?_push_of_some _ q
  unfold revD at e
  split at e
  · rename_i z
    cases e
    obtain ⟨ez, hz⟩ := rStr' rep
    subst ez
    obtain ⟨t, rfl⟩ := r1
    obtain ⟨l, rfl, hl⟩ := IsPart.raw plp
    obtain ⟨u, rfl, hu⟩ := IsPart.raw pu
    obtain ⟨w, rfl, hw⟩ := IsPart.raw ps
    have hl : l = none := by cases l with | none => rfl | some _ => cases hl
    have hu : u = none := by cases u with | none => rfl | some _ => cases hu
    subst hl hu
    have hw1 : w.map (·.1) = some (-1) := hw
    show wpAny (model X.prog X.w) X.A (subscriptTail _ (.Slice none none (some (.UnaryOp .USub (.Constant (.int 1) k p1) p2)) p3) (.str (S' z) t) (.ref s4.heap.objs.size)) (EP X pins σ Q) X.xe { s4 with heap := s4.heap.push { cls := .type "slice", data := .fields #[partValue none, partValue none, partValue w] } }
    refine tail_any (ops := [.str (S' z) t, .ref s4.heap.objs.size]) (typeIs_str _ _ _) F.slot_str_getitem.lookup ?_ (by with_unfolding_all rfl)
    refine wpAny_getItem_str_slice (l := none) (u := none) (st := w) ⟨_, Heap.get?_push_size _ rfl, rfl, rfl⟩ (by rw [hw1]; rfl) ?_
    unfold sliceMade slicePicked
    rw [hw1]
    show Made.post (if ((-1 : Int) == 1 && (Builtin.Str.strSliceIndices none none (-1) (S' z).length).length == (S' z).length) = true then Made.val (.str (S' z) t)
      else Made.str ⟨((Builtin.Str.strSliceIndices none none (-1) (S' z).length).filterMap ((S' z).cps[·]?)).toArray⟩) (EP X pins σ Q) _
    rw [if_neg (by simp), rev_idx]
    have hl : z.reverse.length ≤ sizeLine := by rw [List.length_reverse]; exact hz
    exact ⟨by rw [show (⟨z.reverse.toArray⟩ : Str) = S' z.reverse from rfl, S'_length]; exact hl, .str _, H4, I5.tok _, ⟨_, rfl⟩, af.scal (rStr hl)⟩
  · split at e
    · rename_i z hi
      cases e
      obtain ⟨a, xs, G, rfl, _, t, r⟩ := rLst' rep
      have g := r.im _ hi
      subst g
      cases r1
      obtain ⟨its, rv, ht, hz⟩ := I5.list (SqL.of t)
      have hlen := rv.length
      show wpAny (model X.prog X.w) X.A (subscriptTail _ (.Slice none none (some (.UnaryOp .USub (.Constant (.int 1) k p1) p2)) p3) (.ref a) (.ref s4.heap.objs.size)) (EP X pins σ Q) X.xe { s4 with heap := s4.heap.push { cls := .type "slice", data := .fields #[vl, vu, vs] } }
      refine tail_any (ops := [.ref a, .ref s4.heap.objs.size]) ht.isList.typeIs (PySem.slot_list_getitem.lookup) ?_ (by with_unfolding_all rfl)
      refine wpAny_getItem_list_slice ht.isList (Heap.IsSliceOf.new _ vl vu vs) plp pu ps (by decide) ?_ (by rw [List.size_toArray]; omega)
      rw [PySem.W.krv_pick]
      refine ⟨.ref _, _, I5.laid (t' := s4.toks) (o := .lst xs.reverse) (fun b ob q => Heap.get?_push_of_some _ q) (Nat.le_refl _) ?_, rfl, af.lst (I5.hok.fresh (Nat.le_refl _)) (rev_reps r)⟩
      exact ⟨by rw [List.length_reverse]; exact hz, _, 0, rv.reverse, Heap.get?_push_size _ rfl⟩
    · cases e
  · cases e
end
end Bv
end

section
/-! Statements: what they leave; names stored. -/
namespace Bv
open PySem PySem.Spec PyProof.Rows L2
variable {K : PySem.W.Frag} {cls : Nat → Addr} {X : Cx}
variable {σ σ' : L2.St} {S S1 S2 : List Sl} {H H' H1 H2 : Hp} {Fs Fs1 Fs2 : List (List Addr)} {Z : Addr → Prop} {ms ms1 ms2 rs rs2 : List Nat} {d d' : D} {v v' : V} {F F' F1 F2 : List Addr} {ow : Bool} {W : WX}
theorem set_get {α : Type} {l : List α} {i j : Nat} {x : α} (h : i < l.length) : (l.set i x)[j]? = if i = j then some x else l[j]? := by
  by_cases e : i = j
  · subst e; rw [if_pos rfl, List.getElem?_set_self h]
  · rw [if_neg e, List.getElem?_set_ne e]
/-- a slot's data replaced: by other data, at other objects, the old objects changed -/
theorem SRel.put {i : Nat} (r : SRel K cls σ S H Fs Z) (e : Fs[i]? = some F) (hk : Keep (fun a => a ∈ F) H H') (rep : Rep K cls H' d' v' F') (nd : F'.Nodup) (hF : ∀ a ∈ F', Mut (H' a) ∧ (a ∈ F ∨ (a ∉ Fs.flatten ∧ ¬ Z a)))
    (hs : σ'.length = σ.length) (hσ : σ'[i]? = some (some v')) (ho : ∀ j, j ≠ i → σ'[j]? = σ[j]?) : SRel K cls σ' (S.set i (.own d')) H' (Fs.set i F') Z := by
  have hi : i < Fs.length := (List.getElem?_eq_some_iff.mp e).1
  have hS : i < S.length := by rw [r.len]; exact hi
  have mF : ∀ a ∈ F, Mut (H a) := fun a m => r.mu a (mem_flat.mpr ⟨i, F, e, m⟩)
  have other : ∀ (j : Nat) (G : List Addr), j ≠ i → Fs[j]? = some G → ∀ a ∈ G, a ∉ F := fun j G hj eG a m n => hj (flat_one r.nd eG e m n)
  have fl : ∀ a ∈ (Fs.set i F').flatten, (a ∈ F') ∨ ∃ j G, j ≠ i ∧ Fs[j]? = some G ∧ a ∈ G := fun a m => by
    obtain ⟨j, G, eG, mG⟩ := mem_flat.mp m
    rw [set_get hi] at eG
    by_cases hj : i = j
    · rw [if_pos hj] at eG
      cases eG
      exact .inl mG
    · rw [if_neg hj] at eG
      exact .inr ⟨j, G, fun z => hj z.symm, eG, mG⟩
  refine ⟨by rw [List.length_set, List.length_set, r.len], by rw [hs, List.length_set, r.sl], fun j d q => ?_, fun j d q => ?_, fun a m => ?_, ?_, fun a m z => ?_, fun a z => ?_⟩
  · rw [set_get hS] at q
    by_cases hj : i = j
    · subst hj
      rw [if_pos rfl] at q
      cases q
      exact ⟨v', F', hσ, List.getElem?_set_self hi, rep⟩
    · rw [if_neg hj] at q
      obtain ⟨w, G, q1, q2, q3⟩ := r.ow j d q
      refine ⟨w, G, by rw [ho j fun z => hj z.symm]; exact q1, by rw [List.getElem?_set_ne hj]; exact q2, Rep.keep mF hk d w G (other j G (fun z => hj z.symm) q2) q3⟩
  · rw [set_get hS] at q
    by_cases hj : i = j
    · rw [if_pos hj] at q; cases q
    · rw [if_neg hj] at q
      obtain ⟨w, G, q1, q2, q3⟩ := r.ro j d q
      exact ⟨w, G, by rw [ho j fun z => hj z.symm]; exact q1, Rep.keep mF hk d w G (fun a m n => r.dj a (mem_flat.mpr ⟨i, F, e, n⟩) (q3 a m)) q2, q3⟩
  · rcases fl a m with m | ⟨j, G, hj, eG, mG⟩
    · exact (hF a m).1
    · have mu := r.mu a (mem_flat.mpr ⟨j, G, eG, mG⟩)
      cases e2 : H a with
      | none => rw [e2] at mu; exact mu.elim
      | some o => rw [hk a o e2 (other j G hj eG a mG)]; rw [e2] at mu; exact mu
  · obtain ⟨n1, n2, n3⟩ := flat_out r.nd e
    have : (Fs.set i F').flatten.Nodup := by
      have key : ∀ (L : List (List Addr)) (i : Nat) (A : List Addr), i < L.length → (L.set i []).flatten.Nodup → A.Nodup → (∀ a ∈ A, a ∉ (L.set i []).flatten) → (L.set i A).flatten.Nodup := fun L => by
        induction L with
        | nil => intro i A h; cases h
        | cons B L ih =>
          intro i A h n1 n2 n3
          cases i with
          | zero =>
            rw [List.set_cons_zero, List.flatten_cons] at n1 n3 ⊢
            rw [List.nil_append] at n1 n3
            exact List.nodup_append.mpr ⟨n2, n1, fun a m b n z => n3 a m (z ▸ n)⟩
          | succ i =>
            rw [List.set_cons_succ, List.flatten_cons] at n1 n3 ⊢
            have h' : i < L.length := by simpa using h
            obtain ⟨p1, p2, p3⟩ := List.nodup_append.mp n1
            refine List.nodup_append.mpr ⟨p1, ih i A h' p2 n2 (fun a m n => n3 a m (List.mem_append_right _ n)), fun a m b n z => ?_⟩
            subst z
            obtain ⟨j, G, eG, mG⟩ := mem_flat.mp n
            rw [set_get h'] at eG
            by_cases hj : i = j
            · rw [if_pos hj] at eG
              cases eG
              exact n3 a mG (List.mem_append_left _ m)
            · rw [if_neg hj] at eG
              exact p3 a m a (mem_flat.mpr ⟨j, G, by rw [List.getElem?_set_ne hj]; exact eG, mG⟩) rfl
      refine key Fs i F' hi n2 nd fun a m n => ?_
      obtain ⟨j, G, eG, mG⟩ := mem_flat.mp n
      rw [set_get hi] at eG
      by_cases hj : i = j
      · rw [if_pos hj] at eG; cases eG; cases mG
      · rw [if_neg hj] at eG
        rcases (hF a m).2 with q | ⟨q, _⟩
        · exact other j G (fun z => hj z.symm) eG a mG q
        · exact q (mem_flat.mpr ⟨j, G, eG, mG⟩)
    exact this
  · rcases fl a m with m | ⟨j, G, hj, eG, mG⟩
    · rcases (hF a m).2 with q | ⟨_, q⟩
      · exact r.dj a (mem_flat.mpr ⟨i, F, e, q⟩) z
      · exact q z
    · exact r.dj a (mem_flat.mpr ⟨j, G, eG, mG⟩) z
  · have n := r.zs a z
    cases e2 : H a with
    | none => exact absurd e2 n
    | some o => rw [hk a o e2 (fun m => r.dj a (mem_flat.mpr ⟨i, F, e, m⟩) z)]; exact fun q => by cases q
/-- the step of it -/
theorem Stp.put {i : Nat} {S0 : List Sl} {H0 : Hp} {Fs0 : List (List Addr)} {sl : Sl} (st : Stp ms S0 H0 Fs0 S H Fs) (r0 : SRel K cls σ S0 H0 Fs0 Z) (hi : i < Fs.length) (e : Fs[i]? = some F) (hk : Keep (fun a => a ∈ F) H H')
    (hF : ∀ a ∈ F', a ∈ F ∨ Wm Fs0 (ms ++ [i]) a ∨ H0 a = none) : Stp (ms ++ [i]) S0 H0 Fs0 (S.set i sl) H' (Fs.set i F') := by
  have inF : ∀ a ∈ F, Wm Fs0 (ms ++ [i]) a ∨ H0 a = none := fun a m => st.back (ms2 := [i]) ⟨i, by simp, F, e, m⟩
  refine ⟨fun a o ea n => ?_, fun j hj => ?_, fun j hj G eG a m => ?_⟩
  · have q := st.keep a o ea fun w => n w.app_l
    refine hk a o q fun m => ?_
    rcases inF a m with w | w
    · exact n w
    · rw [ea] at w; cases w
  · rw [List.mem_append, not_or] at hj
    have hj2 : i ≠ j := fun z => hj.2 (by simp [z])
    rw [List.getElem?_set_ne hj2, List.getElem?_set_ne hj2]
    exact st.out j hj.1
  · rw [set_get hi] at eG
    by_cases hij : i = j
    · rw [if_pos hij] at eG
      cases eG
      rcases hF a m with q | q
      · exact inF a q
      · exact q
    · rw [if_neg hij] at eG
      by_cases hm : j ∈ ms
      · exact (st.inn j hm G eG a m).imp (fun w => w.app_l) id
      · have := (st.out j hm).2
        rw [this] at eG
        refine .inl ⟨j, hj, G, eG, m⟩
theorem fs_get (r : SRel K cls σ S H Fs Z) {i : Nat} (h : i < S.length) : ∃ F, Fs[i]? = some F := ⟨Fs[i]'(by rw [← r.len]; exact h), List.getElem?_eq_getElem _⟩

/-! ### statements -/
inductive RS where
  | nx (s : List Sl) | rt (d : D) (s : List Sl) | bk (s : List Sl) | ct (s : List Sl) | exc (c : Nat) (d : D) (s : List Sl) | stuck
/-- a statement's meaning; muts: slots that may change; asg: names that may be bound anew -/
structure SM where
  run : List Sl → RS
  muts : List Nat
  asg : List Nat
def Fx (asg : List Nat) (σ σ' : L2.St) : Prop := ∀ i, i ∉ asg → σ'[i]? = σ[i]?
theorem Fx.refl {l : List Nat} : Fx l σ σ := fun _ _ => rfl
theorem Fx.trans {l m : List Nat} {σ1 σ2 : L2.St} (a : Fx l σ σ1) (b : Fx m σ1 σ2) : Fx (l ++ m) σ σ2 := fun i h => by
  rw [List.mem_append, not_or] at h
  exact (b i h.2).trans (a i h.1)
theorem Fx.mono {l m : List Nat} (a : Fx l σ σ') (h : ∀ x ∈ l, x ∈ m) : Fx m σ σ' := fun i n => a i fun z => n (h i z)
def Aft (K : PySem.W.Frag) (cls : Nat → Addr) (m : SM) (σ : L2.St) (S : List Sl) (H : Hp) (Fs : List (List Addr)) (Z : Addr → Prop) (S' : List Sl) (Q : L2.St → Hp → Prop) : Prop :=
  ∀ σ' H' Fs', SRel K cls σ' S' H' Fs' Z → Stp m.muts S H Fs S' H' Fs' → Fx m.asg σ σ' → Q σ' H'
def AftR (K : PySem.W.Frag) (cls : Nat → Addr) (m : SM) (σ : L2.St) (S : List Sl) (H : Hp) (Fs : List (List Addr)) (Z : Addr → Prop) (d : D) (S' : List Sl) (Q : VK) : Prop :=
  ∀ v σ' H' Fs' F, SRel K cls σ' S' H' Fs' Z → Stp m.muts S H Fs S' H' Fs' → Fx m.asg σ σ' → Held K cls true [] H' Fs' Z d v F → Org true m.muts H Fs F → Q v H'
def Fin (K : PySem.W.Frag) (cls : Nat → Addr) (m : SM) (σ : L2.St) (S : List Sl) (H : Hp) (Fs : List (List Addr)) (Z : Addr → Prop) (D' : Ends) : RS → Prop
  | .nx S' => Aft K cls m σ S H Fs Z S' D'.nx
  | .bk S' => Aft K cls m σ S H Fs Z S' D'.bk
  | .ct S' => Aft K cls m σ S H Fs Z S' D'.ct
  | .rt d S' => AftR K cls m σ S H Fs Z d S' D'.rt
  | .exc _ _ _ => False
  | .stuck => False
def tS (K : PySem.W.Frag) (cls : Nat → Addr) (m : SM) : TS := fun D' σ H => ∃ S Fs Z, SRel K cls σ S H Fs Z ∧ Fin K cls m σ S H Fs Z D' (m.run S)
def mNext : SM := ⟨.nx, [], []⟩
def mBreak : SM := ⟨.bk, [], []⟩
def mCont : SM := ⟨.ct, [], []⟩
def mNever : SM := ⟨fun _ => .stuck, [], []⟩
theorem next_run {D' : Ends} (h : tS K cls mNext D' σ H) : tNext D' σ H := by
  obtain ⟨S, Fs, Z, r, h⟩ := h
  exact h σ H Fs r Stp.refl Fx.refl
theorem ss_nil : PSs X [] (tS K cls mNext) := PSs.imp pss_nil fun D' σ H h => next_run h
theorem ss_pass {pos : Pos} : PS X (.Pass pos) (tS K cls mNext) := PS.imp ps_pass fun D' σ H h => next_run h
theorem ss_break {pos : Pos} : PS X (.Break pos) (tS K cls mBreak) := PS.imp ps_break fun D' σ H ⟨S, Fs, Z, r, h⟩ => h σ H Fs r Stp.refl Fx.refl
theorem ss_cont {pos : Pos} : PS X (.Continue pos) (tS K cls mCont) := PS.imp ps_continue fun D' σ H ⟨S, Fs, Z, r, h⟩ => h σ H Fs r Stp.refl Fx.refl
theorem ss_never {st : Stmt} : PS X st (tS K cls mNever) := PS.imp ps_never fun D' σ H ⟨S, Fs, Z, r, h⟩ => h
theorem ss_nevers {st : List Stmt} : PSs X st (tS K cls mNever) := PSs.imp pss_never fun D' σ H ⟨S, Fs, Z, r, h⟩ => h
/-- one behind the other -/
def xSeq (a b : List Sl → RS) : List Sl → RS := fun s => match a s with
  | .nx s' => b s'
  | r => r
def mSeq (a b : SM) : SM := ⟨xSeq a.run b.run, a.muts ++ b.muts, a.asg ++ b.asg⟩
theorem Fin.mono {a b : SM} {D' : Ends} {r : RS} (h : Fin K cls b σ S H Fs Z D' r) (hm : ∀ x ∈ a.muts, x ∈ b.muts) (ha : ∀ x ∈ a.asg, x ∈ b.asg) : Fin K cls a σ S H Fs Z D' r := by
  cases r with
  | nx s => exact fun σ' H' Fs' r' st f => h σ' H' Fs' r' (st.mono hm) (f.mono ha)
  | bk s => exact fun σ' H' Fs' r' st f => h σ' H' Fs' r' (st.mono hm) (f.mono ha)
  | ct s => exact fun σ' H' Fs' r' st f => h σ' H' Fs' r' (st.mono hm) (f.mono ha)
  | rt d s => exact fun v σ' H' Fs' F r' st f hd ho => h v σ' H' Fs' F r' (st.mono hm) (f.mono ha) hd fun e a m => (ho e a m).imp (fun w => w.mono hm) id
  | exc _ _ _ => exact h
  | stuck => exact h
/-- behind a step -/
theorem Fin.back {a b : SM} {D' : Ends} {r : RS} {asg : List Nat} {σ0 : L2.St} {S0 : List Sl} {H0 : Hp} {Fs0 : List (List Addr)} (r0 : SRel K cls σ0 S0 H0 Fs0 Z) (st : Stp ms S0 H0 Fs0 S H Fs) (f : Fx asg σ0 σ) (h : Fin K cls b σ0 S0 H0 Fs0 Z D' r)
    (hm : ∀ x ∈ ms ++ a.muts, x ∈ b.muts) (ha : ∀ x ∈ asg ++ a.asg, x ∈ b.asg) : Fin K cls a σ S H Fs Z D' r := by
  cases r with
  | nx s => exact fun σ' H' Fs' r' st' f' => h σ' H' Fs' r' ((st.trans r0 st').mono hm) ((f.trans f').mono ha)
  | bk s => exact fun σ' H' Fs' r' st' f' => h σ' H' Fs' r' ((st.trans r0 st').mono hm) ((f.trans f').mono ha)
  | ct s => exact fun σ' H' Fs' r' st' f' => h σ' H' Fs' r' ((st.trans r0 st').mono hm) ((f.trans f').mono ha)
  | rt d s => exact fun v σ' H' Fs' F r' st' f' hd ho => h v σ' H' Fs' F r' ((st.trans r0 st').mono hm) ((f.trans f').mono ha) hd fun e a m => (Org.back st r0 ho e a m).imp (fun w => w.mono hm) id
  | exc _ _ _ => exact h
  | stuck => exact h
theorem ss_cons {st : Stmt} {rest : List Stmt} {a b : SM} (h1 : PS X st (tS K cls a)) (h2 : PSs X rest (tS K cls b)) : PSs X (st :: rest) (tS K cls (mSeq a b)) := PSs.imp (pss_cons h1 h2) fun D' σ H ⟨S, Fs, Z, r, h⟩ => by
  refine ⟨S, Fs, Z, r, ?_⟩
  unfold mSeq xSeq at h
  dsimp only at h
  have hm : ∀ x ∈ a.muts, x ∈ (mSeq a b).muts := fun x q => List.mem_append_left _ q
  have ha : ∀ x ∈ a.asg, x ∈ (mSeq a b).asg := fun x q => List.mem_append_left _ q
  cases e : a.run S with
  | nx S1 =>
    rw [e] at h
    intro σ' H' Fs' r' st f
    refine ⟨S1, Fs', Z, r', ?_⟩
    exact Fin.back (b := mSeq a b) r st f h (fun x q => q) (fun x q => q)
  | bk s => rw [e] at h; exact Fin.mono (b := mSeq a b) (r := .bk s) h hm ha
  | ct s => rw [e] at h; exact Fin.mono (b := mSeq a b) (r := .ct s) h hm ha
  | rt d s => rw [e] at h; exact Fin.mono (b := mSeq a b) (r := .rt d s) h hm ha
  | exc c d s => rw [e] at h; exact h
  | stuck => rw [e] at h; exact h
theorem ss_one {st : Stmt} {a : SM} (h1 : PS X st (tS K cls a)) : PSs X [st] (tS K cls a) := pss_one h1
/-- if -/
def xIf (c : SE) (a b : List Sl → RS) : List Sl → RS := fun s => match c s with
  | .ok x s' => (match truth x with
    | some true => a s'
    | some false => b s'
    | none => .stuck)
  | .exc c d s => .exc c d s
  | .stuck => .stuck
def mIfS (c : EM) (a b : SM) : SM := ⟨xIf c.run a.run b.run, c.muts ++ (a.muts ++ b.muts), a.asg ++ b.asg⟩
theorem ss_if {c : Expr} {p q : List Stmt} {pos : Pos} {mc : EM} {a b : SM} (hc : PT X c (tT K cls mc)) (ha : PSs X p (tS K cls a)) (hb : PSs X q (tS K cls b)) : PS X (.If c p q pos) (tS K cls (mIfS mc a b)) := PS.imp (ps_if hc ha hb) fun D' σ H ⟨S, Fs, Z, r, h⟩ => by
  refine ⟨S, Fs, Z, r, ?_⟩
  unfold mIfS xIf at h
  dsimp only at h
  cases e : mc.run S with
  | exc c d s => rw [e] at h; exact h
  | stuck => rw [e] at h; exact h
  | ok x S1 =>
    rw [e] at h
    dsimp only at h ⊢
    cases ek : truth x with
    | none => rw [ek] at h; exact h.elim
    | some k =>
      rw [ek] at h
      refine ⟨k, rfl, fun H1 Fs1 r1 st1 => ?_⟩
      cases k with
      | true =>
        rw [if_pos rfl]
        refine ⟨S1, Fs1, Z, r1, ?_⟩
        exact Fin.back (b := mIfS mc a b) (asg := []) r st1 Fx.refl h (fun x q => by
          rcases List.mem_append.mp q with q | q
          · exact List.mem_append_left _ q
          · exact List.mem_append_right _ (List.mem_append_left _ q)) (fun x q => List.mem_append_left _ q)
      | false =>
        rw [if_neg (by simp)]
        refine ⟨S1, Fs1, Z, r1, ?_⟩
        exact Fin.back (b := mIfS mc a b) (asg := []) r st1 Fx.refl h (fun x q => by
          rcases List.mem_append.mp q with q | q
          · exact List.mem_append_left _ q
          · exact List.mem_append_right _ (List.mem_append_right _ q)) (fun x q => List.mem_append_right _ q)
/-- return e -/
def xRet (a : SE) : List Sl → RS := fun s => match a s with
  | .ok d s' => .rt d s'
  | .exc c d s => .exc c d s
  | .stuck => .stuck
def mRet (m : EM) : SM := ⟨xRet m.run, m.muts, []⟩
theorem ss_ret {e : Expr} {pos : Pos} {m : EM} (he : PE X e (tE K cls W m)) (ho : m.own = true) : PS X (.Return (some e) pos) (tS K cls (mRet m)) := PS.imp (ps_ret he) fun D' σ H ⟨S, Fs, Z, r, h⟩ => by
  refine ⟨S, Fs, Z, r, ?_⟩
  unfold mRet xRet at h
  dsimp only at h
  cases e : m.run S with
  | exc c d s => rw [e] at h; exact h
  | stuck => rw [e] at h; exact h
  | ok x S1 =>
    rw [e] at h
    intro v H' Fs' F r' st hd og
    rw [ho] at hd og
    exact h v σ H' Fs' F r' st Fx.refl ⟨hd.rep, hd.own, fun z => by cases z⟩ og
def mRetN : SM := ⟨.rt .non, [], []⟩
theorem ss_retN {pos : Pos} : PS X (.Return none pos) (tS K cls mRetN) := PS.imp ps_retN fun D' σ H ⟨S, Fs, Z, r, h⟩ => h .non σ H Fs [] r Stp.refl Fx.refl (Held.scal rNon) Org.nil
/-- e as a statement -/
def xDrop (a : SE) : List Sl → RS := fun s => match a s with
  | .ok _ s' => .nx s'
  | .exc c d s => .exc c d s
  | .stuck => .stuck
def mDrop (m : EM) : SM := ⟨xDrop m.run, m.muts, []⟩
theorem ss_expr {e : Expr} {pos : Pos} {m : EM} (he : PE X e (tE K cls W m)) (hs : swapsWith e none pos.line X.env = pure false) : PS X (.Expr e pos) (tS K cls (mDrop m)) := PS.imp (ps_expr he hs) fun D' σ H ⟨S, Fs, Z, r, h⟩ => by
  refine ⟨S, Fs, Z, r, ?_⟩
  unfold mDrop xDrop at h
  dsimp only at h
  cases e : m.run S with
  | exc c d s => rw [e] at h; exact h
  | stuck => rw [e] at h; exact h
  | ok x S1 =>
    rw [e] at h
    intro v H' Fs' F r' st hd og
    exact h σ H' Fs' r' st Fx.refl
/-- a text as a statement -/
theorem ss_doc {x : Str} {j : Nat} {pos pos' : Pos} : PS X (.Expr (.Constant (.str x) j pos) pos') (tS K cls mNext) := PS.imp ps_doc fun D' σ H h => next_run h
end Bv
end

section
/-! Names stored; places stored. -/
namespace Bv
open PySem PySem.Spec PyProof.Rows L2
variable {K : PySem.W.Frag} {cls : Nat → Addr} {X : Cx}
variable {σ σ' : L2.St} {S S1 S2 : List Sl} {H H' H1 H2 : Hp} {Fs Fs1 Fs2 : List (List Addr)} {Z : Addr → Prop} {ms ms1 ms2 rs rs2 : List Nat} {d d' : D} {v v' : V} {F F' F1 F2 : List Addr} {ow : Bool} {W : WX}
def setAllS : List Sl → List Nat → List D → List Sl
  | S, i :: is, d :: ds => setAllS (S.set i (.own d)) is ds
  | S, _, _ => S
def setAllV : L2.St → List Nat → List V → L2.St
  | σ, i :: is, v :: vs => setAllV (σ.set i (some v)) is vs
  | σ, _, _ => σ
theorem Keep.refl' {P : Addr → Prop} : Keep P H H := fun a o e _ => e
theorem SRel.putAll : ∀ (is : List Nat) (ds : List D) (vs : List V) (σ : L2.St) (S : List Sl) (Fs : List (List Addr)) (F : List Addr), SRel K cls σ S H Fs Z → HeldO K cls H Fs Z ds vs F → is.length = ds.length → (∀ i ∈ is, i < S.length) →
    ∃ Fs', SRel K cls (setAllV σ is vs) (setAllS S is ds) H Fs' Z ∧ (∀ j, j ∉ is → Fs'[j]? = Fs[j]? ∧ (setAllS S is ds)[j]? = S[j]? ∧ (setAllV σ is vs)[j]? = σ[j]?) ∧ ∀ j ∈ is, ∀ G, Fs'[j]? = some G → ∀ a ∈ G, a ∈ F
  | [], ds, vs, σ, S, Fs, F, r, h, l, b => by
    have : ds = [] := by cases ds with | nil => rfl | cons _ _ => cases l
    subst this
    exact ⟨Fs, by cases vs <;> exact r, fun j _ => ⟨rfl, by cases vs <;> rfl, by cases vs <;> rfl⟩, fun j q => by cases q⟩
  | i :: is, [], vs, σ, S, Fs, F, r, h, l, b => by cases l
  | i :: is, d :: ds, vs, σ, S, Fs, F, r, h, l, b => by
    obtain ⟨v, vr, F1, F2, rfl, rfl, h1, h2⟩ := h.rep.uncons
    have hi : i < S.length := b i (by simp)
    obtain ⟨F0, e0⟩ := fs_get r hi
    obtain ⟨n1, n2, n3⟩ := List.nodup_append.mp h.nd
    have hσ : i < σ.length := by rw [r.sl]; exact hi
    have r1 : SRel K cls (σ.set i (some v)) (S.set i (.own d)) H (Fs.set i F1) Z := r.put e0 Keep.refl' h1 n1 (fun a m => by
      obtain ⟨p, q, t⟩ := h.own a (List.mem_append_left _ m)
      exact ⟨p, .inr ⟨q, t⟩⟩) (by rw [List.length_set]) (List.getElem?_set_self hσ) (fun j hj => List.getElem?_set_ne fun z => hj z.symm)
    have hF : i < Fs.length := (List.getElem?_eq_some_iff.mp e0).1
    have h' : HeldO K cls H (Fs.set i F1) Z ds vr F2 := ⟨h2, n2, fun a m => by
      obtain ⟨p, q, t⟩ := h.own a (List.mem_append_right _ m)
      refine ⟨p, fun z => ?_, t⟩
      obtain ⟨j, G, eG, mG⟩ := mem_flat.mp z
      rw [set_get hF] at eG
      by_cases hj : i = j
      · rw [if_pos hj] at eG
        cases eG
        exact n3 a mG a m rfl
      · rw [if_neg hj] at eG
        exact q (mem_flat.mpr ⟨j, G, eG, mG⟩)⟩
    obtain ⟨Fs', a1, a2, a3⟩ := SRel.putAll is ds vr _ _ _ F2 r1 h' (by simpa using l) (fun j m => by rw [List.length_set]; exact b j (List.mem_cons_of_mem _ m))
    refine ⟨Fs', a1, fun j hj => ?_, fun j hj G eG a m => ?_⟩
    · rw [List.mem_cons, not_or] at hj
      have ne : i ≠ j := fun z => hj.1 z.symm
      obtain ⟨b1, b2, b3⟩ := a2 j hj.2
      exact ⟨b1.trans (List.getElem?_set_ne ne), b2.trans (List.getElem?_set_ne ne), b3.trans (List.getElem?_set_ne ne)⟩
    · by_cases q : j ∈ is
      · exact List.mem_append_right _ (a3 j q G eG a m)
      · have := (List.mem_cons.mp hj).resolve_right q
        subst this
        rw [(a2 j q).1, List.getElem?_set_self hF] at eG
        cases eG
        exact List.mem_append_left _ m
theorem Stp.putAll {is : List Nat} {Fs' : List (List Addr)} {S' : List Sl} {S0 : List Sl} {H0 : Hp} {Fs0 : List (List Addr)} (st : Stp ms S0 H0 Fs0 S H Fs) (h1 : ∀ j, j ∉ is → Fs'[j]? = Fs[j]? ∧ S'[j]? = S[j]?) (h2 : ∀ j ∈ is, ∀ G, Fs'[j]? = some G → ∀ a ∈ G, a ∈ F) (og : Org true ms H0 Fs0 F) :
    Stp (ms ++ is) S0 H0 Fs0 S' H Fs' := by
  refine ⟨st.keep.mono fun a w => w.app_l, fun j hj => ?_, fun j hj G eG a m => ?_⟩
  · rw [List.mem_append, not_or] at hj
    obtain ⟨p, q⟩ := h1 j hj.2
    exact ⟨q.trans (st.out j hj.1).1, p.trans (st.out j hj.1).2⟩
  · by_cases q : j ∈ is
    · exact (og rfl a (h2 j q G eG a m)).imp (fun w => w.app_l) id
    · have q1 := (List.mem_append.mp hj).resolve_right q
      rw [(h1 j q).1] at eG
      exact (st.inn j q1 G eG a m).imp (fun w => w.app_l) id

/-! ### name = e -/
def inS (S : List Sl) : List Nat → Bool
  | [] => true
  | i :: r => Nat.blt i S.length && inS S r
theorem inS_of {S : List Sl} : ∀ {is : List Nat}, inS S is = true → ∀ i ∈ is, i < S.length
  | j :: r, h, i, m => by
    unfold inS at h
    rw [Bool.and_eq_true, Nat.blt_eq] at h
    rcases List.mem_cons.mp m with rfl | m
    · exact h.1
    · exact inS_of h.2 i m
def xSet (i : Nat) (ow : Bool) (a : SE) : List Sl → RS := fun s => match a s with
  | .ok d s' => if (ow || im d) && Nat.blt i s'.length then .nx (s'.set i (.own d)) else .stuck
  | .exc c d s => .exc c d s
  | .stuck => .stuck
def mSet (i : Nat) (m : EM) : SM := ⟨xSet i m.own m.run, m.muts ++ [i], [i]⟩
/-- a held value that is own, or that nothing in it can change -/
theorem Held.toOwn {b : Bool} (h : Held K cls b rs H Fs Z d v F) (e : (b || im d) = true) : HeldO K cls H Fs Z [d] [v] F := by
  cases b with
  | true => exact h.toO
  | false =>
    have hi : im d = true := by simpa using e
    have := Rep.im d hi h.rep
    subst this
    exact ⟨h.rep.one, List.nodup_nil, fun a m => by cases m⟩
theorem Org.toOwn {b : Bool} {H0 : Hp} {Fs0 : List (List Addr)} (h : Org b ms H0 Fs0 F) (e : (b || im d) = true) (r : Rep K cls H d v F) : Org true ms H0 Fs0 F := by
  cases b with
  | true => exact h
  | false =>
    have hi : im d = true := by simpa using e
    have := Rep.im d hi r
    subst this
    exact fun _ a m => by cases m
theorem set_run {i : Nat} {m : EM} {D' : Ends} (h : tS K cls (mSet i m) D' σ H) : tAsg (tE K cls W m) (gName i) D' σ H := by
  obtain ⟨S, Fs, Z, r, h⟩ := h
  refine ⟨S, Fs, Z, r, ?_⟩
  unfold mSet xSet at h
  dsimp only at h
  cases e : m.run S with
  | exc c d s => rw [e] at h; exact h
  | stuck => rw [e] at h; exact h
  | ok d S1 =>
    rw [e] at h
    dsimp only at h ⊢
    intro v H1 Fs1 F r1 st hd og
    split at h
    · rename_i c
      rw [Bool.and_eq_true, Nat.blt_eq] at c
      have hO := hd.toOwn c.1
      obtain ⟨Fs', a1, a2, a3⟩ := SRel.putAll [i] [d] [v] σ S1 Fs1 F r1 hO rfl (fun j q => by
        have : j = i := by simpa using q
        subst this; exact c.2)
      refine h _ H1 Fs' a1 (Stp.putAll st (fun j q => ⟨(a2 j q).1, (a2 j q).2.1⟩) a3 (og.toOwn c.1 hd.rep)) fun j q => (a2 j q).2.2
    · exact h.elim
theorem ss_set {i : Nat} {x : Str} {e : Expr} {pos pos' : Pos} {m : EM} (hN : X.N.Nodup) (hi : X.N[i]? = some x) (hx : Loc X.env.scope x) (he : PE X e (tE K cls W m)) (hs : swapsWith e (some (.Name x pos')) pos.line X.env = pure false) (hf : X.fn x = true ∨ X.env.scope.names.lookup x = some .local) :
    PS X (.Assign [.Name x pos'] e pos) (tS K cls (mSet i m)) := PS.imp (ps_set hN hi hx he hs hf) fun D' σ H h => set_run h

/-! ### a, b, .. = a tuple -/
def gAll (is : List Nat) : TGs := fun vs σ H Q => vs.length = is.length ∧ Q (setAllV σ is vs) H
theorem gs_nil : PGs X [] (gAll []) := by
  refine ⟨fun pins s σ H vs us Q I rv h => pgs_nil.run pins s σ H vs us Q I rv ?_⟩
  obtain ⟨l, q⟩ := h
  have : vs = [] := by cases vs with | nil => rfl | cons _ _ => cases l
  subst this
  exact ⟨rfl, q⟩
theorem gs_cons {i : Nat} {is : List Nat} {x : Str} {es : List Expr} {p : Pos} (hN : X.N.Nodup) (hi : X.N[i]? = some x) (hx : Loc X.env.scope x) (hf : X.fn x = true ∨ X.env.scope.names.lookup x = some .local) (h2 : PGs X es (gAll is))
    (hs : (assignEach (.Name x p :: es) X.env).map (·.2) = assign (.Name x p) X.env :: (assignEach es X.env).map (·.2)) : PGs X (.Name x p :: es) (gAll (i :: is)) := by
  refine ⟨fun pins s σ H vs us Q I rv h => (pgs_cons (pg_name hN hi hx hf) h2 hs).run pins s σ H vs us Q I rv ?_⟩
  obtain ⟨l, q⟩ := h
  cases vs with
  | nil => cases l
  | cons v vs => exact ⟨v, vs, rfl, by simpa using l, q⟩
def xUnp (is : List Nat) (ow : Bool) (a : SE) : List Sl → RS := fun s => match a s with
  | .ok (.tup ds) s' => if (ow || ims ds) && (inS s' is && Nat.beq ds.length is.length) then .nx (setAllS s' is ds) else .stuck
  | .ok _ _ => .stuck
  | .exc c d s => .exc c d s
  | .stuck => .stuck
def mUnp (is : List Nat) (m : EM) : SM := ⟨xUnp is m.own m.run, m.muts ++ is, is⟩
theorem Held.toOwns {b : Bool} {ds : List D} {vs : List V} {a : Addr} (h : Held K cls b rs H Fs Z (.tup ds) v F) (e : (b || ims ds) = true) (t : v = .ref a) (q : SqT K H a vs → Reps K cls H ds vs F) : True := trivial
theorem unp_run {is : List Nat} {m : EM} {D' : Ends} (h : tS K cls (mUnp is m) D' σ H) : tAsg (tE K cls W m) (gTup K is.length (gAll is)) D' σ H := by
  obtain ⟨S, Fs, Z, r, h⟩ := h
  refine ⟨S, Fs, Z, r, ?_⟩
  unfold mUnp xUnp at h
  dsimp only at h
  cases e : m.run S with
  | exc c d s => rw [e] at h; exact h
  | stuck => rw [e] at h; exact h
  | ok d S1 =>
    rw [e] at h
    cases d with
    | tup ds =>
      dsimp only at h ⊢
      intro v H1 Fs1 F r1 st hd og
      split at h
      · rename_i c
        rw [Bool.and_eq_true, Bool.and_eq_true] at c
        have hl : ds.length = is.length := Nat.eq_of_beq_eq_true c.2.2
        obtain ⟨a, vs, rfl, t, rr⟩ := rTup' hd.rep
        have hO : HeldO K cls H1 Fs1 Z ds vs F ∧ Org true m.muts H Fs F := by
          cases eo : m.own with
          | true => rw [eo] at hd og; exact ⟨⟨rr, (hd.own rfl).1, (hd.own rfl).2⟩, og⟩
          | false =>
            rw [eo] at c
            have hi : ims ds = true := by simpa using c.1
            have := rr.im _ hi
            subst this
            exact ⟨⟨rr, List.nodup_nil, fun a m => by cases m⟩, fun _ a m => by cases m⟩
        obtain ⟨Fs', a1, a2, a3⟩ := SRel.putAll is ds vs σ S1 Fs1 F r1 hO.1 hl.symm (inS_of c.2.1)
        refine ⟨a, vs, rfl, t, by rw [← rr.length]; exact hl, by rw [← rr.length]; exact hl, ?_⟩
        exact h _ H1 Fs' a1 (Stp.putAll st (fun j q => ⟨(a2 j q).1, (a2 j q).2.1⟩) a3 hO.2) fun j q => (a2 j q).2.2
      · exact h.elim
    | _ => exact h.elim
theorem ss_unp {is : List Nat} {es : List Expr} {e : Expr} {k : Nat} {pos p2 : Pos} {m : EM} (hc : X.calm = true) (hg : PGs X es (gAll is)) (hn : (assignEach es X.env).length = is.length) (hst : (assignEach es X.env).findIdx? (·.1) = none) (he : PE X e (tE X.K cls W m))
    (hs : swapsWithSole [.Tuple es k p2] e pos.line X.env = pure false) (hw : swappedStores [.Tuple es k p2] e X.env = pure none) (h1 : (assignEach [.Tuple es k p2] X.env).map (·.2) = [assign (.Tuple es k p2) X.env]) :
    PS X (.Assign [.Tuple es k p2] e pos) (tS X.K cls (mUnp is m)) := PS.imp (ps_asg he (pg_tup hc hg hn hst) hs hw h1) fun D' σ H h => unp_run h

/-! ### a, b = x, y stored from the right -/
def xPar (is : List Nat) (l : List (Bool × EM)) : List Sl → RS := fun s => match eArgs l s with
  | .ok ds s' => if inS s' is && Nat.beq ds.length is.length then .nx (setAllS s' is ds) else .stuck
  | .exc c d s => .exc c d s
  | .stuck => .stuck
def mPar (is : List Nat) (l : List (Bool × EM)) : SM := ⟨xPar is l, aMuts l ++ is, is⟩
theorem par_run {is : List Nat} {l : List (Bool × EM)} {D' : Ends} (h : tS K cls (mPar is l) D' σ H) : tAO K cls l σ H fun vs H1 => vs.length = is.length ∧ D'.nx (setAllV σ is vs) H1 := by
  obtain ⟨S, Fs, Z, r, h⟩ := h
  refine ⟨S, Fs, Z, r, ?_⟩
  unfold mPar xPar at h
  dsimp only at h
  cases e : eArgs l S with
  | exc c d s => rw [e] at h; exact h
  | stuck => rw [e] at h; exact h
  | ok ds S1 =>
    rw [e] at h
    dsimp only at h ⊢
    intro vs H1 Fs1 F r1 st hd og
    split at h
    · rename_i c
      rw [Bool.and_eq_true] at c
      have hl : ds.length = is.length := Nat.eq_of_beq_eq_true c.2
      obtain ⟨Fs', a1, a2, a3⟩ := SRel.putAll is ds vs σ S1 Fs1 F r1 hd hl.symm (inS_of c.1)
      exact ⟨by rw [← hd.rep.length]; exact hl, h _ H1 Fs' a1 (Stp.putAll st (fun j q => ⟨(a2 j q).1, (a2 j q).2.1⟩) a3 og) fun j q => (a2 j q).2.2⟩
    · exact h.elim
theorem ss_par {i j : Nat} {x y : Str} {a b : Expr} {px py pt pos : Pos} {kt k2 pt2} {l : List (Bool × EM)} (hc : X.calm = true) (hN : X.N.Nodup) (hi : X.N[i]? = some x) (hj : X.N[j]? = some y) (hij : i ≠ j)
    (hx : X.env.scope.names.lookup x = some .local) (hy : X.env.scope.names.lookup y = some .local) (ha : PA X [a, b] (tAO K cls l))
    (hw : swappedStores [.Tuple [.Name x px, .Name y py] kt pt] (.Tuple [a, b] k2 pt2) X.env = pure (some [x, y]))
    (hs : swapsWithSole [.Tuple [.Name x px, .Name y py] kt pt] (.Tuple [a, b] k2 pt2) pos.line X.env = pure false) :
    PS X (.Assign [.Tuple [.Name x px, .Name y py] kt pt] (.Tuple [a, b] k2 pt2) pos) (tS K cls (mPar [i, j] l)) := PS.imp (ps_par hc hN hi hj hij hx hy ha hw hs) fun D' σ H h => by
  have h := par_run h
  obtain ⟨S, Fs, Z, r, h⟩ := h
  refine ⟨S, Fs, Z, r, ?_⟩
  cases e : eArgs l S with
  | exc c d s => rw [e] at h; exact h
  | stuck => rw [e] at h; exact h
  | ok ds S1 =>
    rw [e] at h
    intro vs H1 Fs1 F r1 st hd og
    obtain ⟨hl, q⟩ := h vs H1 Fs1 F r1 st hd og
    match vs, hl, q with
    | [v, w], _, q => exact ⟨v, w, rfl, q⟩
theorem ss_par3 {i j k : Nat} {x y z : Str} {a b c : Expr} {px py pz pt pos : Pos} {kt k2 pt2} {l : List (Bool × EM)} (hc : X.calm = true) (hN : X.N.Nodup) (hi : X.N[i]? = some x) (hj : X.N[j]? = some y) (hk : X.N[k]? = some z) (hij : i ≠ j) (hik : i ≠ k) (hjk : j ≠ k)
    (hx : X.env.scope.names.lookup x = some .local) (hy : X.env.scope.names.lookup y = some .local) (hz : X.env.scope.names.lookup z = some .local) (ha : PA X [a, b, c] (tAO K cls l))
    (hw : swappedStores [.Tuple [.Name x px, .Name y py, .Name z pz] kt pt] (.Tuple [a, b, c] k2 pt2) X.env = pure (some [x, y, z]))
    (hs : swapsWithSole [.Tuple [.Name x px, .Name y py, .Name z pz] kt pt] (.Tuple [a, b, c] k2 pt2) pos.line X.env = pure false) :
    PS X (.Assign [.Tuple [.Name x px, .Name y py, .Name z pz] kt pt] (.Tuple [a, b, c] k2 pt2) pos) (tS K cls (mPar [i, j, k] l)) := PS.imp (ps_par3 hc hN hi hj hk hij hik hjk hx hy hz ha hw hs) fun D' σ H h => by
  have h := par_run h
  obtain ⟨S, Fs, Z, r, h⟩ := h
  refine ⟨S, Fs, Z, r, ?_⟩
  cases e : eArgs l S with
  | exc c d s => rw [e] at h; exact h
  | stuck => rw [e] at h; exact h
  | ok ds S1 =>
    rw [e] at h
    intro vs H1 Fs1 F r1 st hd og
    obtain ⟨hl, q⟩ := h vs H1 Fs1 F r1 st hd og
    match vs, hl, q with
    | [v, w, u], _, q => exact ⟨v, w, u, rfl, q⟩
end Bv
end

section
/-! Lists and dicts changed in place. -/
namespace Bv
open PySem PySem.Spec PyProof.Rows L2
variable {K : PySem.W.Frag} {cls : Nat → Addr} {X : Cx}
variable {σ σ' : L2.St} {S S1 S2 : List Sl} {H H' H1 H2 : Hp} {Fs Fs1 Fs2 : List (List Addr)} {Z : Addr → Prop} {ms ms1 ms2 rs rs2 : List Nat} {d d' : D} {v v' : V} {F F' F1 F2 FC Fx : List Addr} {ow : Bool} {W : WX}
/-- what is changed is apart from what comes in -/
structure Plc (H : Hp) (FC Fx : List Addr) : Prop where
  n1 : FC.Nodup
  n2 : Fx.Nodup
  dj : ∀ a ∈ Fx, a ∉ FC
  m1 : ∀ a ∈ FC, Mut (H a)
  m2 : ∀ a ∈ Fx, Mut (H a)
def AftP (K : PySem.W.Frag) (cls : Nat → Addr) (H : Hp) (FC Fx : List Addr) (o : V) (c : D) (Q : Hp → Prop) : Prop :=
  ∀ H' F', Keep (fun a => a ∈ FC) H H' → Rep K cls H' c o F' → F'.Nodup → (∀ a ∈ F', Mut (H' a) ∧ (a ∈ FC ∨ a ∈ Fx)) → Q H'
theorem upd_keep {a : Addr} {o : HO} {P : Addr → Prop} (h : P a) : Keep P H (upd H a o) := fun b x e n => by
  rw [upd_ne (show b ≠ a from fun z => n (by rw [z]; exact h))]
  exact e
theorem mut_upd {a b : Addr} {o : HO} (h : Mut (some o)) (m : Mut (H b)) : Mut (upd H a o b) := by
  by_cases e : b = a
  · subst e; rw [upd_same]; exact h
  · rw [upd_ne e]; exact m
theorem lst_chg {a : Addr} {G G' : List Addr} {vs vs' : List V} {ds' : List D} {Q : Hp → Prop} (p : Plc H FC Fx) (e : FC = a :: G) (r : Reps K cls H ds' vs' G') (nd : G'.Nodup) (sub : ∀ b ∈ G', b ∈ G ∨ b ∈ Fx)
    (q : AftP K cls H FC Fx (.ref a) (.lst ds') Q) : Q (upd H a (.lst vs')) := by
  subst e
  have ha : Mut (H a) := p.m1 a (by simp)
  have na : a ∉ G' := fun m => by
    rcases sub a m with m | m
    · exact (List.nodup_cons.mp p.n1).1 m
    · exact p.dj a m (by simp)
  have r' : Reps K cls (upd H a (.lst vs')) ds' vs' G' := Reps.keep (W := fun b => b = a) (fun b w => by subst w; exact ha) (upd_keep rfl) ds' vs' G' (fun b m z => na (z ▸ m)) r
  refine q _ (a :: G') (upd_keep (by simp)) (rLst upd_same r') (List.nodup_cons.mpr ⟨na, nd⟩) fun b m => ?_
  rcases List.mem_cons.mp m with rfl | m
  · exact ⟨by rw [upd_same]; trivial, .inl (by simp)⟩
  · rcases sub b m with k | k
    · exact ⟨mut_upd trivial (p.m1 b (List.mem_cons_of_mem _ k)), .inl (List.mem_cons_of_mem _ k)⟩
    · exact ⟨mut_upd trivial (p.m2 b k), .inr k⟩
theorem dct_chg {a : Addr} {G G' : List Addr} {o : HO} {vs' : List V} {kvs' : List (D × D)} {Q : Hp → Prop} (p : Plc H FC Fx) (e : FC = a :: G) (mo : Mut (some o)) (hd : DictH (upd H a o) a (kvs'.map Prod.fst) vs') (r : RepV K cls H kvs' vs' G') (nd : G'.Nodup) (sub : ∀ b ∈ G', b ∈ G ∨ b ∈ Fx)
    (q : AftP K cls H FC Fx (.ref a) (.dct kvs') Q) : Q (upd H a o) := by
  subst e
  have ha : Mut (H a) := p.m1 a (by simp)
  have na : a ∉ G' := fun m => by
    rcases sub a m with m | m
    · exact (List.nodup_cons.mp p.n1).1 m
    · exact p.dj a m (by simp)
  have r' : RepV K cls (upd H a o) kvs' vs' G' := RepV.keep (W := fun b => b = a) (fun b w => by subst w; exact ha) (upd_keep rfl) kvs' vs' G' (fun b m z => na (z ▸ m)) r
  refine q _ (a :: G') (upd_keep (by simp)) (by unfold Rep; exact ⟨a, vs', G', rfl, rfl, hd, r'⟩) (List.nodup_cons.mpr ⟨na, nd⟩) fun b m => ?_
  rcases List.mem_cons.mp m with rfl | m
  · exact ⟨by rw [upd_same]; exact mo, .inl (by simp)⟩
  · rcases sub b m with k | k
    · exact ⟨mut_upd mo (p.m1 b (List.mem_cons_of_mem _ k)), .inl (List.mem_cons_of_mem _ k)⟩
    · exact ⟨mut_upd mo (p.m2 b k), .inr k⟩

/-! ### o[k] = x -/
def ixD (n : Nat) : Int → Option Nat
  | .ofNat k => if Nat.blt k n then some k else none
  | .negSucc k => if Nat.blt k n then some (n - 1 - k) else none
theorem ixD_eq (n : Nat) (i : Int) : ixD n i = ixN n i := by
  cases i with
  | ofNat k =>
    unfold ixD ixN
    dsimp only
    simp only [Int.ofNat_eq_natCast]
    rw [if_pos (Int.natCast_nonneg k)]
    by_cases h : k < n
    · rw [if_pos (by rw [Nat.blt_eq]; exact h), if_pos (by omega)]
      rfl
    · rw [if_neg (by rw [Nat.blt_eq]; exact h), if_neg (by omega)]
  | negSucc k =>
    unfold ixD ixN
    dsimp only
    rw [Int.negSucc_eq]
    by_cases h : k < n
    · rw [if_pos (by rw [Nat.blt_eq]; exact h), if_neg (show ¬ (0 : Int) ≤ -((k : Int) + 1) by omega), if_pos (by omega)]
      congr 1
      omega
    · rw [if_neg (by rw [Nat.blt_eq]; exact h), if_neg (show ¬ (0 : Int) ≤ -((k : Int) + 1) by omega), if_neg (by omega)]
def setL : List D → Nat → D → List D
  | [], _, _ => []
  | _ :: r, 0, d => d :: r
  | x :: r, n + 1, d => x :: setL r n d
theorem setL_eq : ∀ (l : List D) (n : Nat) (d : D), setL l n d = l.set n d
  | [], _, _ => by simp [setL]
  | x :: r, 0, d => by simp [setL]
  | x :: r, n + 1, d => by rw [setL, setL_eq r n d]; simp
def putD : List (D × D) → D → D → List (D × D)
  | [], k, v => [(k, v)]
  | (q, w) :: r, k, v => if q = k then (q, v) :: r else (q, w) :: putD r k v
def dPut : D → D → D → Option D
  | .lst xs, .int i, x => (ixD xs.length i).map fun j => .lst (setL xs j x)
  | .dct kvs, k, x => if keyOk kvs k && Nat.blt kvs.length lineN then some (.dct (putD kvs k x)) else none
  | _, _, _ => none
theorem putD_of {κ : Type} [DecidableEq κ] (f : κ → D) (inj : ∀ a b, f a = f b → a = b) : ∀ {kvs : List (D × D)} {ks : List κ} {vs : List V} (k : κ) (x : D) (y : V), kvs.map Prod.fst = ks.map f → ks.length = vs.length → ks.Nodup →
    (putK (ks.zip vs) k y = (ks ++ [k]).zip (vs ++ [y]) ∧ putD kvs (f k) x = kvs ++ [(f k, x)]) ∨ ∃ j, j < ks.length ∧ putK (ks.zip vs) k y = ks.zip (vs.set j y) ∧ putD kvs (f k) x = kvs.set j (f k, x) ∧ kvs[j]?.map Prod.fst = some (f k)
  | [], [], [], k, x, y, _, _, _ => .inl ⟨rfl, rfl⟩
  | [], [], _ :: _, _, _, _, _, h, _ => by cases h
  | [], _ :: _, _, _, _, _, e, _, _ => by cases e
  | _ :: _, [], _, _, _, _, e, _, _ => by cases e
  | p :: c, q :: ls, [], _, _, _, _, h, _ => by cases h
  | p :: c, q :: ls, u :: us, k, x, y, e, h, nd => by
    obtain ⟨pk, pd⟩ := p
    rw [List.map_cons, List.map_cons, List.cons.injEq] at e
    obtain ⟨e1, e2⟩ := e
    have e1 : pk = f q := e1
    subst e1
    have h' : ls.length = us.length := by simpa using h
    obtain ⟨nq, nd'⟩ := List.nodup_cons.mp nd
    rw [List.zip_cons_cons]
    by_cases hq : q = k
    · subst hq
      refine .inr ⟨0, by simp, ?_, by rw [putD, if_pos rfl]; rfl, rfl⟩
      unfold putK
      rw [if_pos (by simp)]
      rw [List.map_cons, if_pos rfl, List.set_cons_zero, List.zip_cons_cons]
      congr 1
      rw [List.map_congr_left (g := id) (fun w hw => by
        rw [if_neg (fun z : w.1 = q => nq (by rw [← z]; exact (List.of_mem_zip (show (w.1, w.2) ∈ ls.zip us from hw)).1))]
        rfl), List.map_id]
    · have hk : ¬ f q = f k := fun z => hq (inj _ _ z)
      rcases putD_of f inj k x y e2 h' nd' with ⟨a1, a2⟩ | ⟨j, a0, a1, a2, a3⟩
      · refine .inl ⟨?_, by rw [putD, if_neg hk, a2]; rfl⟩
        have : putK ((q, u) :: ls.zip us) k y = (q, u) :: putK (ls.zip us) k y := by
          unfold putK
          rw [List.any_cons, decide_eq_false hq, Bool.false_or, List.map_cons, if_neg hq]
          split <;> rfl
        rw [this, a1]
        rfl
      · refine .inr ⟨j + 1, by simpa using a0, ?_, by rw [putD, if_neg hk, a2]; rfl, by simpa using a3⟩
        have : putK ((q, u) :: ls.zip us) k y = (q, u) :: putK (ls.zip us) k y := by
          unfold putK
          rw [List.any_cons, decide_eq_false hq, Bool.false_or, List.map_cons, if_neg hq]
          split <;> rfl
        rw [this, a1]
        rfl
section
variable {pins : List (Addr × Obj)} {s : Shared}
/-- an empty dict is one of the other kind as well -/
theorem Inv.toT {a : Addr} (I : Inv X pins σ H s) (h : H a = some (.dK [])) : Inv X pins σ (upd H a (.dT [])) s := by
  obtain ⟨z, na, ws, kv, dd⟩ := dk_of I.hok h
  cases kv
  obtain ⟨o, es, ep, h1, h2, h3, h4, h5, h6⟩ := id dd
  have he : es.toList = [] := by
    generalize es.toList = l at h5
    cases h5
    rfl
  have new : ObjOk X.prog X.w (upd H a (.dT [])) s.heap a (.dT []) := ⟨Nat.zero_le _, na, [], .nil, o, es, ep, h1, h2, h3, by rw [he]; rfl, List.nodup_nil⟩
  exact I.write (h' := s.heap) (t' := s.toks) (x := a) (e := a) (by rw [h]; trivial) (.inl rfl) (fun _ _ _ e => e) ⟨o, h1⟩ new
theorem Inv.toK {a : Addr} (I : Inv X pins σ H s) (h : H a = some (.dT [])) : Inv X pins σ (upd H a (.dK [])) s := by
  obtain ⟨z, na, ws, kv, dd⟩ := dt_of I.hok h
  cases kv
  obtain ⟨o, es, ep, h1, h2, h3, h4, h5, h6⟩ := id dd
  have he : es.toList = [] := h4
  have he' : es = #[] := by rw [← Array.toList_eq_nil_iff]; exact he
  have new : ObjOk X.prog X.w (upd H a (.dK [])) s.heap a (.dK []) := ⟨Nat.zero_le _, na, [], .nil, o, es, ep, h1, h2, h3, (by subst he'; intro e he; simp at he), (by rw [he]; exact .nil), List.nodup_nil⟩
  exact I.write (h' := s.heap) (t' := s.toks) (x := a) (e := a) (by rw [h]; trivial) (.inl rfl) (fun _ _ _ e => e) ⟨o, h1⟩ new
theorem rd_mut {a : Addr} {u : HO} (h : Rd H a u) (m : Mut (H a)) : H a = some u := by
  rcases h with h | ⟨o, h⟩
  · exact h
  · rw [h] at m; exact m.elim
theorem kt_keys {H2 : Hp} : ∀ {kvs : List (List Key × V)} {xs : List (List Key × Addr × Value)}, KT H2 kvs xs → kvs.map (·.1) = xs.map (·.1)
  | _, _, .nil => rfl
  | _, _, .cons h t => by rw [List.map_cons, List.map_cons, kt_keys t, h.1]
def rPut (K : PySem.W.Frag) (cls : Nat → Addr) : TSet := fun o i x H Q => ∃ c k y FC Fk Fx c', Rep K cls H c o FC ∧ Rep K cls H k i Fk ∧ Rep K cls H y x Fx ∧ Plc H FC Fx ∧ dPut c k y = some c' ∧ AftP K cls H FC Fx o c' Q
theorem key_bd {K : PySem.W.Frag} {k : D} {i : V} {Fk : List Addr} (r : Rep K cls H k i Fk) (h : kkind k < 2) : bd k := by
  unfold kkind at h
  cases e : toKey k with
  | some q =>
    have := toKey_some e
    subst this
    cases q with
    | inl j => trivial
    | inr z => exact (rStr' r).2
  | none =>
    rw [e] at h
    dsimp only at h
    cases e2 : toKeys k with
    | none => rw [e2] at h; exact absurd h (by simp)
    | some ks =>
      have := toKeys_some e2
      subst this
      obtain ⟨a, vs, rfl, t, rr⟩ := rTup' r
      intro d hd
      obtain ⟨i, hi⟩ := List.mem_iff_getElem?.mp hd
      have hl : i < vs.length := by rw [← rr.length]; exact (List.getElem?_eq_some_iff.mp hi).1
      obtain ⟨d', G, e1, r1, _⟩ := rr.part (List.getElem?_eq_getElem hl)
      rw [hi] at e1
      cases e1
      obtain ⟨q, hq, e3⟩ := List.mem_map.mp (List.mem_of_getElem? hi)
      subst e3
      cases q with
      | inl j => trivial
      | inr z => exact (rStr' r1).2
/-- the values of a dict when one is replaced or put at the end -/
theorem put_vals {K : PySem.W.Frag} {kvs kvs' : List (D × D)} {vs vs' : List V} {G : List Addr} {y : D} {x : V} {q : D} (p : Plc H FC Fx) (hG : ∀ b ∈ G, b ∈ FC) (nG : G.Nodup) (r : RepV K cls H kvs vs G) (ry : Rep K cls H y x Fx)
    (h : (kvs' = kvs ++ [(q, y)] ∧ vs' = vs ++ [x]) ∨ ∃ j, j < kvs.length ∧ kvs' = kvs.set j (q, y) ∧ vs' = vs.set j x) : ∃ G', RepV K cls H kvs' vs' G' ∧ G'.Nodup ∧ ∀ b ∈ G', b ∈ G ∨ b ∈ Fx := by
  rw [repV_iff] at r
  rcases h with ⟨e1, e2⟩ | ⟨j, hj, e1, e2⟩
  · refine ⟨G ++ Fx, ?_, List.nodup_append.mpr ⟨nG, p.n2, fun a m b n z => p.dj b n (z ▸ hG a m)⟩, fun b m => List.mem_append.mp m⟩
    rw [repV_iff, e1, e2, List.map_append]
    exact r.append ry.one
  · have hl : j < (kvs.map Prod.snd).length := by rw [List.length_map]; exact hj
    obtain ⟨w, A, B, C, a1, a2, a3, a4, a5⟩ := r.at_ (List.getElem?_eq_getElem hl)
    have hv : j < vs.length := by rw [← r.length]; exact hl
    have := Reps.set_ hl hv a4 ry a5
    refine ⟨A ++ (Fx ++ C), ?_, ?_, fun b m => ?_⟩
    · rw [repV_iff, e1, e2, List.map_set]
      exact this
    · rw [a2] at nG
      obtain ⟨n1, n2, n3⟩ := List.nodup_append.mp nG
      obtain ⟨_, n4, _⟩ := List.nodup_append.mp n2
      refine List.nodup_append.mpr ⟨n1, List.nodup_append.mpr ⟨p.n2, n4, fun a m b n z => p.dj a m (hG a (by rw [a2]; simp [z ▸ n]))⟩, fun a m b n z => ?_⟩
      rcases List.mem_append.mp n with n | n
      · exact p.dj b n (hG b (by rw [a2]; simp [z ▸ m]))
      · exact n3 a m b (List.mem_append_right _ n) z
    · rw [a2]
      rcases List.mem_append.mp m with m | m
      · exact .inl (by simp [m])
      · rcases List.mem_append.mp m with m | m
        · exact .inr m
        · exact .inl (by simp [m])
theorem set_put (hu : X.A.units + 1 < cLine) : PSet X (rPut X.K cls) := by
  rintro pins s σ H o i x ov iv u Q I ro ri rx ⟨c, k, y, FC, Fk, Fx, c', hc, hk, hy, p, e, q⟩
  unfold dPut at e
  split at e
  · rename_i xs j
    obtain ⟨n, en, rfl⟩ := Option.map_eq_some_iff.mp e
    rw [ixD_eq] at en
    obtain ⟨a, vs, G, rfl, eG, t, r⟩ := rLst' hc
    have hl := r.length
    obtain ⟨_, hn, _, _⟩ := ixN_seq en
    rw [hl] at en
    refine set_list pins s σ H _ _ x ov iv u Q I ro ri rx ⟨a, vs, j, n, rfl, rInt' hk, t, en, ?_⟩
    obtain ⟨w, A, B, C, a1, a2, a3, a4, a5⟩ := r.at_ (List.getElem?_eq_getElem hn)
    rw [setL_eq] at q
    have nG : (A ++ (B ++ C)).Nodup := by
      have := p.n1
      rw [eG, a2] at this
      exact (List.nodup_cons.mp this).2
    have inFC : ∀ b, b ∈ A ++ (B ++ C) → b ∈ FC := fun b m => by rw [eG, a2]; exact List.mem_cons_of_mem _ m
    refine lst_chg (vs := vs) p eG (Reps.set_ hn (by omega) a4 hy a5) ?_ (fun b m => ?_) q
    · obtain ⟨n1, n2, n3⟩ := List.nodup_append.mp nG
      obtain ⟨_, n4, _⟩ := List.nodup_append.mp n2
      refine List.nodup_append.mpr ⟨n1, List.nodup_append.mpr ⟨p.n2, n4, fun a m b n z => p.dj a m (inFC a (by simp [z ▸ n]))⟩, fun a m b n z => ?_⟩
      rcases List.mem_append.mp n with n | n
      · exact p.dj b n (inFC b (by simp [z ▸ m]))
      · exact n3 a m b (List.mem_append_right _ n) z
    · rw [a2]
      rcases List.mem_append.mp m with m | m
      · exact .inl (by simp [m])
      · rcases List.mem_append.mp m with m | m
        · exact .inr m
        · exact .inl (by simp [m])
  · rename_i kvs
    split at e
    · rename_i c0
      cases e
      rw [Bool.and_eq_true, Nat.blt_eq] at c0
      obtain ⟨ok, hlen⟩ := c0
      rw [lineN_eq] at hlen
      obtain ⟨a, vs, G, rfl, eG, t, r⟩ := dct_ref hc
      have nG : G.Nodup := by
        have := p.n1
        rw [eG] at this
        exact (List.nodup_cons.mp this).2
      have hG : ∀ b ∈ G, b ∈ FC := fun b m => by rw [eG]; exact List.mem_cons_of_mem _ m
      have lv : kvs.length = vs.length := by have := (repV_iff.mp r).length; rw [List.length_map] at this; exact this
      have ha : Mut (H a) := p.m1 a (by rw [eG]; simp)
      have kk : kkind k < 2 := by
        unfold keyOk at ok
        split at ok
        · rwa [Nat.blt_eq] at ok
        · rw [Bool.and_eq_true, Nat.blt_eq] at ok
          exact ok.1
      have bk := key_bd hk kk
      -- int and text keys
      have mainK : ∀ (H2 : Hp), Inv X pins σ H2 s → (∀ o, upd H2 a o = upd H a o) → ∀ (ks : List Key) (kk : Key), k = keyD kk → kvs.map Prod.fst = ks.map keyD → (∀ d ∈ kvs.map Prod.fst, bd d) → ks.length = vs.length → H2 a = some (.dK (ks.zip vs)) → wpAny (model X.prog X.w) X.A (setItem ov iv u) (fun _ s' => ∃ H', Inv X pins σ H' s' ∧ Q H') X.xe s := fun H2 I2 eu ks kk ek eks hb l t1 => by
        have nd : ks.Nodup := by
          obtain ⟨_, _, ws, kv, dd⟩ := dk_of I2.hok t1
          obtain ⟨_, _, _, _, _, _, _, _, n⟩ := dd
          rw [← kv.keys, List.map_fst_zip (by omega)] at n
          exact n
        have ei := keyV hk ek
        subst ei
        cases (show ov = Value.ref a from ro)
        have hz : (ks.zip vs).length < sizeLine := by rw [List.length_zip, ← l, Nat.min_self]; omega
        refine d_setItem hu I2 (.inl ⟨ks.zip vs, kk, t1, rfl, hz, rfl⟩) ri rx fun s' I' => ⟨_, I', ?_⟩
        rw [eu]
        have lk : ks.length = kvs.length := by omega
        rcases putD_of keyD (fun _ _ => keyD_inj) kk y x eks l nd with ⟨a1, a2⟩ | ⟨j, a0, a1, a2, a3⟩
        · rw [ek, a2] at q
          rw [a1]
          obtain ⟨G', g1, g2, g3⟩ := put_vals (kvs' := kvs ++ [(keyD kk, y)]) (vs' := vs ++ [x]) (q := keyD kk) p hG nG r hy (.inl ⟨rfl, rfl⟩)
          refine dct_chg p eG trivial ⟨fun d hd => ?_, .inl ⟨ks ++ [kk], by rw [List.map_append, List.map_append, eks]; rfl, by simp [l], .inl upd_same⟩⟩ g1 g2 g3 q
          rw [List.map_append] at hd
          rcases List.mem_append.mp hd with hd | hd
          · exact hb d hd
          · have : d = k := by rw [ek]; simpa using hd
            subst this; exact bk
        · rw [ek, a2] at q
          rw [a1]
          obtain ⟨G', g1, g2, g3⟩ := put_vals (kvs' := kvs.set j (keyD kk, y)) (vs' := vs.set j x) (q := keyD kk) p hG nG r hy (.inr ⟨j, by omega, rfl, rfl⟩)
          have ek2 : (kvs.set j (keyD kk, y)).map Prod.fst = kvs.map Prod.fst := by
            rw [List.map_set]
            refine List.ext_getElem? fun i => ?_
            rw [List.getElem?_set]
            by_cases hij : j = i
            · subst hij
              rw [if_pos rfl, List.getElem?_map, a3]
              rw [if_pos (by rw [List.length_map]; omega)]
            · rw [if_neg hij]
          exact dct_chg p eG trivial ⟨fun d hd => hb d (by rw [← ek2]; exact hd), .inl ⟨ks, by rw [ek2]; exact eks, by rw [List.length_set]; exact l, .inl upd_same⟩⟩ g1 g2 g3 q
      have mainT : ∀ (H2 : Hp), Inv X pins σ H2 s → (∀ o, upd H2 a o = upd H a o) → (∀ b, b ≠ a → H2 b = H b) → ∀ (ks : List (List Key)) (kk : List Key), k = keysD kk → kvs.map Prod.fst = ks.map keysD → (∀ d ∈ kvs.map Prod.fst, bd d) → ks.length = vs.length → H2 a = some (.dT (ks.zip vs)) → wpAny (model X.prog X.w) X.A (setItem ov iv u) (fun _ s' => ∃ H', Inv X pins σ H' s' ∧ Q H') X.xe s := fun H2 I2 eu eo ks kk ek eks hb l t1 => by
        have nd : ks.Nodup := by
          obtain ⟨_, _, xs, kv, dd⟩ := dt_of I2.hok t1
          obtain ⟨_, _, _, _, _, _, _, _, n⟩ := dd
          have em := kt_keys kv
          rw [← em, List.map_fst_zip (by omega)] at n
          exact n
        rw [ek] at hk
        obtain ⟨bb, ws, ei, tb, rb⟩ := rTupS hk
        have ew := keysV rb
        subst ew ei
        have nb : bb ≠ a := fun z => by
          rw [z] at tb
          rw [show H a = some (.tup (kk.map kV)) from tb] at ha
          exact ha
        cases (show ov = Value.ref a from ro)
        have hz : (ks.zip vs).length < sizeLine := by rw [List.length_zip, ← l, Nat.min_self]; omega
        refine d_setItem hu I2 (.inr ⟨ks.zip vs, kk, bb, t1, rfl, by rw [eo bb nb]; exact tb, hz, rfl⟩) ri rx fun s' I' => ⟨_, I', ?_⟩
        rw [eu]
        have lk : ks.length = kvs.length := by omega
        rcases putD_of keysD (fun _ _ => keysD_inj) kk y x eks l nd with ⟨a1, a2⟩ | ⟨j, a0, a1, a2, a3⟩
        · rw [ek, a2] at q
          rw [a1]
          obtain ⟨G', g1, g2, g3⟩ := put_vals (kvs' := kvs ++ [(keysD kk, y)]) (vs' := vs ++ [x]) (q := keysD kk) p hG nG r hy (.inl ⟨rfl, rfl⟩)
          refine dct_chg p eG trivial ⟨fun d hd => ?_, .inr ⟨ks ++ [kk], by rw [List.map_append, List.map_append, eks]; rfl, by simp [l], .inl upd_same⟩⟩ g1 g2 g3 q
          rw [List.map_append] at hd
          rcases List.mem_append.mp hd with hd | hd
          · exact hb d hd
          · have : d = k := by rw [ek]; simpa using hd
            subst this; exact bk
        · rw [ek, a2] at q
          rw [a1]
          obtain ⟨G', g1, g2, g3⟩ := put_vals (kvs' := kvs.set j (keysD kk, y)) (vs' := vs.set j x) (q := keysD kk) p hG nG r hy (.inr ⟨j, by omega, rfl, rfl⟩)
          have ek2 : (kvs.set j (keysD kk, y)).map Prod.fst = kvs.map Prod.fst := by
            rw [List.map_set]
            refine List.ext_getElem? fun i => ?_
            rw [List.getElem?_set]
            by_cases hij : j = i
            · subst hij
              rw [if_pos rfl, List.getElem?_map, a3]
              rw [if_pos (by rw [List.length_map]; omega)]
            · rw [if_neg hij]
          exact dct_chg p eG trivial ⟨fun d hd => hb d (by rw [← ek2]; exact hd), .inr ⟨ks, by rw [ek2]; exact eks, by rw [List.length_set]; exact l, .inl upd_same⟩⟩ g1 g2 g3 q
      have kind0 : ∀ q : Key, kkind (keyD q) = 0 := fun q => by cases q <;> rfl
      have kind1 : ∀ q : List Key, kkind (keysD q) = 1 := fun q => by
        unfold kkind
        rw [show toKey (keysD q) = none from rfl, show toKeys (keysD q) = some q from toKeyL_map q]
      have which : (∃ q, k = keyD q) ∨ ∃ q, k = keysD q := by
        unfold kkind at kk
        cases e1 : toKey k with
        | some q => exact .inl ⟨q, toKey_some e1⟩
        | none =>
          rw [e1] at kk
          dsimp only at kk
          cases e2 : toKeys k with
          | some q => exact .inr ⟨q, toKeys_some e2⟩
          | none => rw [e2] at kk; exact absurd kk (by simp)
      obtain ⟨hb, ⟨ks, ek, l, rd⟩ | ⟨ks, ek, l, rd⟩⟩ := id t
      · have t1 := rd_mut rd ha
        rcases which with ⟨q1, e1⟩ | ⟨q1, e1⟩
        · exact mainK H I (fun _ => rfl) ks q1 e1 ek hb l t1
        · cases ks with
          | nil =>
            have ev : vs = [] := by cases vs with | nil => rfl | cons _ _ => cases l
            subst ev
            have t1 : H a = some (.dK []) := t1
            exact mainT _ (Inv.toT I t1) (fun o => upd_upd) (fun b nb => upd_ne nb) [] q1 e1 (by rw [ek]; rfl) hb rfl upd_same
          | cons c ks =>
            exfalso
            cases kvs with
            | nil => cases ek
            | cons p0 kvs =>
              obtain ⟨pk, pd⟩ := p0
              rw [List.map_cons, List.map_cons, List.cons.injEq] at ek
              have : pk = keyD c := ek.1
              subst this
              unfold keyOk at ok
              dsimp only at ok
              rw [Bool.and_eq_true, beq_iff_eq, kind0, e1, kind1] at ok
              exact absurd ok.2 (by decide)
      · have t1 := rd_mut rd ha
        rcases which with ⟨q1, e1⟩ | ⟨q1, e1⟩
        · cases ks with
          | nil =>
            have ev : vs = [] := by cases vs with | nil => rfl | cons _ _ => cases l
            subst ev
            have t1 : H a = some (.dT []) := t1
            exact mainK _ (Inv.toK I t1) (fun o => upd_upd) [] q1 e1 (by rw [ek]; rfl) hb rfl upd_same
          | cons c ks =>
            exfalso
            cases kvs with
            | nil => cases ek
            | cons p0 kvs =>
              obtain ⟨pk, pd⟩ := p0
              rw [List.map_cons, List.map_cons, List.cons.injEq] at ek
              have : pk = keysD c := ek.1
              subst this
              unfold keyOk at ok
              dsimp only at ok
              rw [Bool.and_eq_true, beq_iff_eq, kind1, e1, kind0] at ok
              exact absurd ok.2 (by decide)
        · exact mainT H I (fun _ => rfl) (fun _ _ => rfl) ks q1 e1 ek hb l t1
    · cases e
  · cases e
end
end Bv
end

section
/-! x[k] = e, x op= e, x[k] op= e, x.append(e), .. -/
namespace Bv
open PySem PySem.Spec PyProof.Rows L2
variable {K : PySem.W.Frag} {cls : Nat → Addr} {X : Cx}
variable {σ σ' : L2.St} {S S0 S1 S2 : List Sl} {H H0 H' H1 H2 : Hp} {Fs Fs0 Fs1 Fs2 : List (List Addr)} {Z : Addr → Prop} {ms ms1 ms2 rs rs2 : List Nat} {d d' c c' : D} {v v' : V} {F F' F1 F2 FC Fx : List Addr} {ow : Bool} {W : WX}
def ownAt (S : List Sl) (i : Nat) : Option D := match nthL S i with
  | some (.own d) => some d
  | _ => none
theorem ownAt_of {i : Nat} (h : ownAt S i = some d) : S[i]? = some (.own d) := by
  unfold ownAt at h
  rw [nthL_eq] at h
  split at h
  · rename_i e; cases h; exact e
  · cases h
/-- the slot's data is apart from what is held -/
theorem plc_of {i : Nat} {ds : List D} {vs : List V} (r : SRel K cls σ S H Fs Z) (e : S[i]? = some (.own c)) (h : HeldO K cls H Fs Z ds vs Fx) : ∃ v FC, σ[i]? = some (some v) ∧ Fs[i]? = some FC ∧ Rep K cls H c v FC ∧ Plc H FC Fx := by
  obtain ⟨v, FC, e1, e2, rep⟩ := r.ow i c e
  have fl : ∀ a ∈ FC, a ∈ Fs.flatten := fun a m => mem_flat.mpr ⟨i, FC, e2, m⟩
  exact ⟨v, FC, e1, e2, rep, (flat_out r.nd e2).1, h.nd, fun a m n => (h.own a m).2.1 (fl a n), fun a m => r.mu a (fl a m), fun a m => (h.own a m).1⟩
/-- the slot's data changed -/
theorem put_back {i : Nat} {ds : List D} {vs : List V} (r0 : SRel K cls σ S0 H0 Fs0 Z) (r : SRel K cls σ S H Fs Z) (st : Stp ms S0 H0 Fs0 S H Fs) (e1 : σ[i]? = some (some v)) (e2 : Fs[i]? = some FC) (h : HeldO K cls H Fs Z ds vs Fx) (og : Org true ms H0 Fs0 Fx)
    (hk : Keep (fun a => a ∈ FC) H H') (rep : Rep K cls H' c' v F') (nd : F'.Nodup) (hF : ∀ a ∈ F', Mut (H' a) ∧ (a ∈ FC ∨ a ∈ Fx)) :
    SRel K cls σ (S.set i (.own c')) H' (Fs.set i F') Z ∧ Stp (ms ++ [i]) S0 H0 Fs0 (S.set i (.own c')) H' (Fs.set i F') := by
  refine ⟨r.put e2 hk rep nd (fun a m => ⟨(hF a m).1, (hF a m).2.imp id fun n => ⟨(h.own a n).2.1, (h.own a n).2.2⟩⟩) rfl e1 (fun _ _ => rfl), st.put r0 (List.getElem?_eq_some_iff.mp e2).1 e2 hk fun a m => ?_⟩
  rcases (hF a m).2 with q | q
  · exact .inl q
  · exact .inr ((og rfl a q).imp (fun w => w.app_l) id)

/-! ### x[k] = e -/
def xSub (i : Nat) (mk mv : SE) : List Sl → RS := fun s => match mv s with
  | .ok d s1 => (match ownAt s1 i with
    | some c => (match mk s1 with
      | .ok k s2 => (match dPut c k d with
        | some c' => .nx (s2.set i (.own c'))
        | none => .stuck)
      | .exc c d s => .exc c d s
      | .stuck => .stuck)
    | none => .stuck)
  | .exc c d s => .exc c d s
  | .stuck => .stuck
def mSub (i : Nat) (mk mv : EM) : SM := ⟨xSub i mk.run mv.run, mv.muts ++ mk.muts ++ [i], []⟩
theorem sub_run {i : Nat} {mk mv : EM} {D' : Ends} (ho : mv.own = true) (ni : mk.muts.contains i = false) (h : tS K cls (mSub i mk mv) D' σ H) : tAsg (tE K cls W mv) (gSub (tVar i) (tE K cls W mk) (rPut K cls)) D' σ H := by
  obtain ⟨S, Fs, Z, r, h⟩ := h
  refine ⟨S, Fs, Z, r, ?_⟩
  unfold mSub xSub at h
  dsimp only at h
  cases e : mv.run S with
  | exc c d s => rw [e] at h; exact h
  | stuck => rw [e] at h; exact h
  | ok d S1 =>
    rw [e] at h
    dsimp only at h ⊢
    intro v H1 Fs1 F r1 st1 hd1 og1
    rw [ho] at hd1 og1
    cases ec : ownAt S1 i with
    | none => rw [ec] at h; exact h.elim
    | some c =>
      rw [ec] at h
      dsimp only at h
      have e3 := ownAt_of ec
      obtain ⟨x, FC, x1, x2, x3⟩ := r1.ow i c e3
      refine ⟨x, x1, S1, Fs1, Z, r1, ?_⟩
      cases ek : mk.run S1 with
      | exc c d s => rw [ek] at h; exact h
      | stuck => rw [ek] at h; exact h
      | ok k S2 =>
        rw [ek] at h
        dsimp only at h ⊢
        intro u H2 Fs2 Fk r2 st2 hd2 og2
        cases ep : dPut c k d with
        | none => rw [ep] at h; exact h.elim
        | some c' =>
          rw [ep] at h
          have ni : i ∉ mk.muts := by simpa using ni
          have e4 : S2[i]? = some (.own c) := by rw [(st2.out i ni).1]; exact e3
          have hO := hd1.toO.step r1 st2
          obtain ⟨y, FC', y1, y2, y3, pl⟩ := plc_of r2 e4 hO
          rw [x1] at y1
          cases y1
          have og : Org true (mv.muts ++ mk.muts) H Fs F := fun z a m => og1.front z a m
          refine ⟨c, k, d, FC', Fk, F, c', y3, hd2.rep, (hO.rep.at_ (i := 0) rfl).elim fun w hw => ?_, pl, ep, fun H3 F3 hk rep nd hF => ?_⟩
          · obtain ⟨A, G, B, q1, q2, q3, q4, q5⟩ := hw
            have := hO.rep
            obtain ⟨w', e5, q⟩ := reps1 this
            cases e5
            exact q
          · obtain ⟨a1, a2⟩ := put_back r r2 (st1.trans r st2) x1 y2 hO og hk rep nd hF
            exact h σ H3 _ a1 a2 Fx.refl
theorem ss_sub {i : Nat} {x : Str} {p p2 pos : Pos} {k e : Expr} {mk mv : EM} (hu : X.A.units + 1 < cLine) (hN : X.N[i]? = some x) (hv : Vis X.env.scope x) (hd : (x == ("__debug__" : Str)) = false) (hcd : (x == ("__classdict__" : Str)) = false)
    (hk : PE X k (tE X.K cls W mk)) (he : PE X e (tE X.K cls W mv)) (ho : mv.own = true) (ni : mk.muts.contains i = false)
    (hs : swapsWithSole [.Subscript (.Name x p) k p2] e pos.line X.env = pure false) (hw : swappedStores [.Subscript (.Name x p) k p2] e X.env = pure none) (h1 : (assignEach [.Subscript (.Name x p) k p2] X.env).map (·.2) = [assign (.Subscript (.Name x p) k p2) X.env])
    (ha : ∀ v, assign (.Subscript (.Name x p) k p2) X.env v = (do
      let ov ← holding [v] (eval (.Name x p) X.env)
      let iv ← holding [v, ov] (eval k X.env)
      standAt p2
      holding [v, ov, iv] (setItem ov iv v)
      release [v, ov, iv] [])) : PS X (.Assign [.Subscript (.Name x p) k p2] e pos) (tS X.K cls (mSub i mk mv)) :=
  PS.imp (ps_asg he (pg_sub (pe_var hN hv hd hcd) hk (set_put (cls := cls) hu) ha) hs hw h1) fun D' σ H h => sub_run ho ni h

/-! ### x op= e -/
def dIAdd : D → D → Option D
  | .int i, .int j => some (.int (i + j))
  | .str x, .str y => if Nat.ble (x.length + y.length) lineN then some (.str (x ++ y)) else none
  | _, _ => none
def dISub : D → D → Option D
  | .int i, .int j => some (.int (i - j))
  | _, _ => none
def dIMul : D → D → Option D
  | .int i, .int j => if small64 i || small64 j then some (.int (i * j)) else none
  | _, _ => none
def dIFdiv : D → D → Option D
  | .int i, .int j => if decide (0 < j) && decide (j < 1073741824) then some (.int (i / j)) else none
  | _, _ => none
def dIMod : D → D → Option D
  | .int i, .int j => if decide (0 < j) then some (.int (i % j)) else none
  | _, _ => none
theorem i_add : OpR X (inplaceOp .Add) (rD2 X.K cls dIAdd) := by
  rintro pins s σ H x y v u Q I rx ry ⟨d1, d2, F1, F2, d, h1, h2, e, af⟩
  unfold dIAdd at e
  split at e
  · cases e
    rw [rInt' h1] at rx
    rw [rInt' h2] at ry
    exact iop_add pins s σ H _ _ v u Q I rx ry ⟨_, _, rfl, rfl, af.scal rInt⟩
  · split at e
    · rename_i hl
      cases e
      have hl := Nat.le_of_ble_eq_true hl
      rw [lineN_eq] at hl
      rw [(rStr' h1).1] at rx
      rw [(rStr' h2).1] at ry
      refine iop_add_str pins s σ H _ _ v u Q I rx ry ⟨_, _, rfl, rfl, by rw [S'_length, S'_length]; exact hl, ?_⟩
      rw [S'_append]
      exact af.scal (rStr (by rw [List.length_append]; exact hl))
    · cases e
  · cases e
theorem i_sub : OpR X (inplaceOp .Sub) (rD2 X.K cls dISub) := by
  rintro pins s σ H x y v u Q I rx ry ⟨d1, d2, F1, F2, d, h1, h2, e, af⟩
  unfold dISub at e
  split at e
  · cases e
    rw [rInt' h1] at rx
    rw [rInt' h2] at ry
    exact iop_sub pins s σ H _ _ v u Q I rx ry ⟨_, _, rfl, rfl, af.scal rInt⟩
  · cases e
theorem i_fdiv : OpR X (inplaceOp .FloorDiv) (rD2 X.K cls dIFdiv) := by
  rintro pins s σ H x y v u Q I rx ry ⟨d1, d2, F1, F2, d, h1, h2, e, af⟩
  unfold dIFdiv at e
  split at e
  · split at e
    · rename_i c
      cases e
      rw [Bool.and_eq_true, decide_eq_true_eq, decide_eq_true_eq] at c
      rw [rInt' h1] at rx
      rw [rInt' h2] at ry
      exact iop_fdiv pins s σ H _ _ v u Q I rx ry ⟨_, _, rfl, rfl, c, af.scal rInt⟩
    · cases e
  · cases e
theorem i_mod : OpR X (inplaceOp .Mod) (rD2 X.K cls dIMod) := by
  rintro pins s σ H x y v u Q I rx ry ⟨d1, d2, F1, F2, d, h1, h2, e, af⟩
  unfold dIMod at e
  split at e
  · split at e
    · rename_i c
      cases e
      rw [decide_eq_true_eq] at c
      rw [rInt' h1] at rx
      rw [rInt' h2] at ry
      exact iop_mod pins s σ H _ _ v u Q I rx ry ⟨_, _, rfl, rfl, c, af.scal rInt⟩
    · cases e
  · cases e
def valAt (S : List Sl) (i : Nat) : Option D := match nthL S i with
  | some (.own d) => some d
  | some (.ro d) => some d
  | _ => none
theorem valAt_of {i : Nat} (r : SRel K cls σ S H Fs Z) (h : valAt S i = some d) : ∃ v F, σ[i]? = some (some v) ∧ Rep K cls H d v F := by
  unfold valAt at h
  rw [nthL_eq] at h
  split at h
  · rename_i e
    cases h
    obtain ⟨v, F, a, b, c⟩ := r.ow i _ e
    exact ⟨v, F, a, c⟩
  · rename_i e
    cases h
    obtain ⟨v, F, a, c, _⟩ := r.ro i _ e
    exact ⟨v, F, a, c⟩
  · cases h
def xAug (i : Nat) (op : D → D → Option D) (a : SE) : List Sl → RS := fun s => match valAt s i with
  | some c => if im c then (match a s with
    | .ok d s1 => (match op c d with
      | some z => if Nat.blt i s1.length then .nx (s1.set i (.own z)) else .stuck
      | none => .stuck)
    | .exc c d s => .exc c d s
    | .stuck => .stuck) else .stuck
  | none => .stuck
def mAug (i : Nat) (op : D → D → Option D) (m : EM) : SM := ⟨xAug i op m.run, m.muts ++ [i], [i]⟩
theorem aug_run {i : Nat} {op : D → D → Option D} {m : EM} {D' : Ends} (h : tS K cls (mAug i op m) D' σ H) : tAug i (tE K cls W m) (rD2 K cls op) D' σ H := by
  obtain ⟨S, Fs, Z, r, h⟩ := h
  unfold mAug xAug at h
  dsimp only at h
  cases ev : valAt S i with
  | none => rw [ev] at h; exact h.elim
  | some c =>
    rw [ev] at h
    dsimp only at h
    split at h
    · rename_i hi
      obtain ⟨x, Fc, x1, x2⟩ := valAt_of r ev
      have g := Rep.im c hi x2
      subst g
      refine ⟨x, x1, S, Fs, Z, r, ?_⟩
      cases e : m.run S with
      | exc c d s => rw [e] at h; exact h
      | stuck => rw [e] at h; exact h
      | ok d S1 =>
        rw [e] at h
        dsimp only at h ⊢
        intro y H1 Fs1 F r1 st1 hd1 og1
        cases eo : op c d with
        | none => rw [eo] at h; exact h.elim
        | some z =>
          rw [eo] at h
          dsimp only at h
          split at h
          · rename_i hl
            rw [Nat.blt_eq] at hl
            have hc : Held K cls true [] H Fs Z c x [] := Held.scal x2
            have hc1 := hc.step r st1 (fun z => by cases z)
            refine ⟨c, d, [], F, z, hc1.rep, hd1.rep, eo, fun w H2 F2 sm rep f => ?_⟩
            have r2 := r1.same sm
            have st2 := st1.trans r (Stp.of_same (S := S1) (Fs := Fs1) sm)
            rw [List.append_nil] at st2
            have hO : HeldO K cls H2 Fs1 Z [z] [w] F2 := (f.held (rs := []) r1 rep).toO
            obtain ⟨Fs', a1, a2, a3⟩ := SRel.putAll [i] [z] [w] σ S1 Fs1 F2 r2 hO rfl (fun j q => by
              have : j = i := by simpa using q
              subst this; exact hl)
            refine h _ H2 Fs' a1 (Stp.putAll st2 (fun j q => ⟨(a2 j q).1, (a2 j q).2.1⟩) a3 fun _ a mm => (st1.new r (f.2 a mm).1).symm) fun j q => (a2 j q).2.2
          · exact h.elim
    · exact h.elim
theorem ss_aug {i : Nat} {x : Str} {e : Expr} {pos pos' : Pos} {m : EM} {o : Operator} {op : D → D → Option D} (hN : X.N.Nodup) (hi : X.N[i]? = some x) (hx : Loc X.env.scope x) (he : PE X e (tE X.K cls W m)) (ho : OpR X (inplaceOp o) (rD2 X.K cls op)) (hf : X.fn x = true ∨ X.env.scope.names.lookup x = some .local) :
    PS X (.AugAssign (.Name x pos') o e pos) (tS X.K cls (mAug i op m)) := PS.imp (ps_aug hN hi hx he (fun pins s σ H x y v u Q I r1 r2 h => ho pins s σ H x y v u Q I r1 r2 h) hf) fun D' σ H h => aug_run h

/-! ### x[k] op= e -/
theorem get_rule (hu : X.A.units + 1 < cLine) : PGet X (fun o i H Q => ∃ c k d FC Fk, Rep X.K cls H c o FC ∧ Rep X.K cls H k i Fk ∧ dIdx c k = some d ∧ im d = true ∧ ∀ v, Rep X.K cls H d v [] → Q v H) := by
  rintro pins s σ H o i ov iv Q I ro ri ⟨c, k, d, FC, Fk, hc, hk, e, hi, q⟩
  rcases idx_rule hc hk e (fun v G _ rep => by
    have g := Rep.im d hi rep
    subst g
    exact q v rep) with (h | h | h) | ⟨a, w, rfl, g, q⟩
  · obtain ⟨p, xs, j, z, rfl, rfl, hq, he, q⟩ := h
    cases ro
    obtain ⟨t, rfl⟩ := ri
    obtain ⟨its, r, pl, hz⟩ := I.list hq
    obtain ⟨n, h1, h2, h3, h4, h5⟩ := atI_get he
    obtain ⟨w, ew, rw'⟩ := r.get h2
    have hl := r.length
    have hn := line63
    have fin : EP X pins σ Q w s := ⟨z, H, I, rw', q⟩
    by_cases h0 : 0 ≤ j
    · have hj : j.toNat = n := by
        rw [seqIndex_of h0 h5] at h1
        exact Option.some.inj h1
      exact wpAny_getItem_list (x := w) pl.isList h0 (by omega) (by rw [hj]; simpa using ew) fin
    · have hj : (j + (its.toArray.size : Int)).toNat = n := by
        rw [seqIndex_neg (by omega) h4] at h1
        rw [List.size_toArray, ← hl]
        exact Option.some.inj h1
      exact wpAny_getItem_list_neg pl.isList (by omega) (by rw [List.size_toArray] <;> omega) (by omega) (by rw [hj]; simpa using ew) fin
  · obtain ⟨p, xs, j, z, rfl, rfl, hq, he, q⟩ := h
    cases ro
    obtain ⟨t, rfl⟩ := ri
    obtain ⟨its, r, pl, hz⟩ := I.tuple hq
    obtain ⟨n, h1, h2, h3, h4, h5⟩ := atI_get he
    obtain ⟨w, ew, rw'⟩ := r.get h2
    have hl := r.length
    have hn := line63
    exact getItem_tuple (j := n) pl (by omega) (by omega) (by rw [List.size_toArray, ← hl]; exact h1) (by simpa using ew) ⟨z, H, I, rw', q⟩
  · obtain ⟨z, j, ch, rfl, rfl, hz, he, q⟩ := h
    obtain ⟨t, rfl⟩ := ro
    obtain ⟨t', rfl⟩ := ri
    obtain ⟨n, h1, h2, h3, h4, h5⟩ := atI_get he
    have hl : z.cps.toList.length = z.length := by simp [Str.length]
    rw [hl] at h1 h4 h5
    have hn := line63
    exact getItem_str (c := ch) (by
      have e1 : decide (j < -(2 ^ 63 : Int)) = false := decide_eq_false (by omega)
      have e2 : decide (j ≥ 2 ^ 63) = false := decide_eq_false (by omega)
      rw [e1, e2, Bool.or_false]) (by rw [h1]; simpa using h2) ⟨.str ⟨#[ch]⟩, H, I.tok _, ⟨_, rfl⟩, q⟩
  · cases ro
    exact d_getItem hu I g ri fun w' s3 I3 rw' => ⟨w, H, I3, rw', q⟩
def xAugSub (i : Nat) (op : D → D → Option D) (mk mv : SE) : List Sl → RS := fun s => match ownAt s i with
  | some c => (match mk s with
    | .ok k s1 => (match dIdx c k with
      | some o => if im o then (match mv s1 with
        | .ok d s2 => (match op o d with
          | some z => if im z then (match dPut c k z with
            | some c' => .nx (s2.set i (.own c'))
            | none => .stuck) else .stuck
          | none => .stuck)
        | .exc c d s => .exc c d s
        | .stuck => .stuck) else .stuck
      | none => .stuck)
    | .exc c d s => .exc c d s
    | .stuck => .stuck)
  | none => .stuck
def mAugSub (i : Nat) (op : D → D → Option D) (mk mv : EM) : SM := ⟨xAugSub i op mk.run mv.run, mk.muts ++ mv.muts ++ [i], []⟩
theorem augsub_run {i : Nat} {op : D → D → Option D} {mk mv : EM} {D' : Ends} (ap : apartB mk mv = true) (n1 : mk.muts.contains i = false) (n2 : mv.muts.contains i = false) (h : tS K cls (mAugSub i op mk mv) D' σ H) :
    tAugS (tVar i) (tE K cls W mk) (tE K cls W mv) (fun o i H Q => ∃ c k d FC Fk, Rep K cls H c o FC ∧ Rep K cls H k i Fk ∧ dIdx c k = some d ∧ im d = true ∧ ∀ v, Rep K cls H d v [] → Q v H) (rD2 K cls op) (rPut K cls) D' σ H := by
  obtain ⟨S, Fs, Z, r, h⟩ := h
  unfold mAugSub xAugSub at h
  dsimp only at h
  have n1 : i ∉ mk.muts := by simpa using n1
  have n2 : i ∉ mv.muts := by simpa using n2
  cases ec : ownAt S i with
  | none => rw [ec] at h; exact h.elim
  | some c =>
    rw [ec] at h
    dsimp only at h
    have e3 := ownAt_of ec
    obtain ⟨x, FC, x1, x2, x3⟩ := r.ow i c e3
    refine ⟨x, x1, S, Fs, Z, r, ?_⟩
    cases ek : mk.run S with
    | exc c d s => rw [ek] at h; exact h
    | stuck => rw [ek] at h; exact h
    | ok k S1 =>
      rw [ek] at h
      dsimp only at h ⊢
      intro u H1 Fs1 Fk r1 st1 hd1 og1
      have e4 : S1[i]? = some (.own c) := by rw [(st1.out i n1).1]; exact e3
      obtain ⟨x', FC', y1, y2, y3⟩ := r1.ow i c e4
      rw [x1] at y1
      cases y1
      cases eo : dIdx c k with
      | none => rw [eo] at h; exact h.elim
      | some o =>
        rw [eo] at h
        dsimp only at h
        split at h
        rotate_left
        · exact h.elim
        rename_i hi
        refine ⟨c, k, o, FC', Fk, y3, hd1.rep, eo, hi, fun ov orep => ⟨S1, Fs1, Z, r1, ?_⟩⟩
        cases e : mv.run S1 with
        | exc c d s => rw [e] at h; exact h
        | stuck => rw [e] at h; exact h
        | ok d S2 =>
          rw [e] at h
          dsimp only at h ⊢
          intro v H2 Fs2 F r2 st2 hd2 og2
          cases ez : op o d with
          | none => rw [ez] at h; exact h.elim
          | some z =>
            rw [ez] at h
            dsimp only at h
            split at h
            rotate_left
            · exact h.elim
            rename_i hiz
            have ho : Held K cls true [] H1 Fs1 Z o ov [] := Held.scal orep
            refine ⟨o, d, [], F, z, (ho.step r1 st2 fun z => by cases z).rep, hd2.rep, ez, fun w H3 F3 sm rep f => ?_⟩
            have g := Rep.im z hiz rep
            subst g
            have r3 := r2.same sm
            have st3 := (st1.trans r st2).trans r (Stp.of_same (S := S2) (Fs := Fs2) sm)
            rw [List.append_nil] at st3
            have e5 : S2[i]? = some (.own c) := by rw [(st2.out i n2).1]; exact e4
            cases ep : dPut c k z with
            | none => rw [ep] at h; exact h.elim
            | some c' =>
              rw [ep] at h
              have hO : HeldO K cls H3 Fs2 Z [z] [w] [] := ⟨rep.one, List.nodup_nil, fun a m => by cases m⟩
              obtain ⟨y, FC3, q1, q2, q3, pl⟩ := plc_of r3 e5 hO
              rw [x1] at q1
              cases q1
              have hk3 := (hd1.step r1 st2 (apart_of ap)).rep.same sm
              refine ⟨c, k, z, FC3, Fk, [], c', q3, hk3, rep, pl, ep, fun H4 F4 hk rep nd hF => ?_⟩
              obtain ⟨a1, a2⟩ := put_back r r3 st3 x1 q2 hO (fun _ a m => by cases m) hk rep nd hF
              exact h σ H4 _ a1 a2 Fx.refl
theorem ss_augsub {i : Nat} {x : Str} {p p2 pos : Pos} {k e : Expr} {mk mv : EM} {o : Operator} {op : D → D → Option D} (hu : X.A.units + 1 < cLine) (hN : X.N[i]? = some x) (hv : Vis X.env.scope x) (hd : (x == ("__debug__" : Str)) = false) (hcd : (x == ("__classdict__" : Str)) = false)
    (hk : PE X k (tE X.K cls W mk)) (he : PE X e (tE X.K cls W mv)) (ho : OpR X (inplaceOp o) (rD2 X.K cls op)) (ap : apartB mk mv = true) (n1 : mk.muts.contains i = false) (n2 : mv.muts.contains i = false)
    (ha : ∀ ov iv new, augStore k ov iv new = (do holding [new, ov, iv] (setItem ov iv new); release [new, ov, iv] []; pure .next)) :
    PS X (.AugAssign (.Subscript (.Name x p) k p2) o e pos) (tS X.K cls (mAugSub i op mk mv)) :=
  PS.imp (ps_augS (pe_var hN hv hd hcd) hk (get_rule (cls := cls) hu) he (fun pins s σ H x y v u Q I r1 r2 h => ho pins s σ H x y v u Q I r1 r2 h) (set_put (cls := cls) hu) ha) fun D' σ H h => augsub_run ap n1 n2 h
end Bv
end

section
/-! Methods that change a name's list or dict. -/
namespace Bv
open PySem PySem.Spec PyProof.Rows L2
variable {K : PySem.W.Frag} {cls : Nat → Addr} {X : Cx}
variable {σ σ' : L2.St} {S S0 S1 S2 : List Sl} {H H0 H' H1 H2 : Hp} {Fs Fs0 Fs1 Fs2 : List (List Addr)} {Z : Addr → Prop} {ms ms1 ms2 rs rs2 : List Nat} {d d' c c' : D} {v v' : V} {F F' F1 F2 FC Fx : List Addr} {ow : Bool} {W : WX}
/-- what is wanted behind such a call: the changed object, the result apart from it -/
def AftM (K : PySem.W.Frag) (cls : Nat → Addr) (H : Hp) (FC Fx : List Addr) (o : V) (c d : D) (Q : VK) : Prop :=
  ∀ v H' F' Fd, Keep (fun a => a ∈ FC) H H' → Rep K cls H' c o F' → Rep K cls H' d v Fd → (F' ++ Fd).Nodup → (∀ a ∈ F' ++ Fd, Mut (H' a) ∧ (a ∈ FC ∨ a ∈ Fx)) → Q v H'
def rMut (K : PySem.W.Frag) (cls : Nat → Addr) (op : D → List D → Option (D × D)) : V → List V → Hp → VK → Prop := fun x xs H Q => ∃ c ds FC Fx d c', Rep K cls H c x FC ∧ Reps K cls H ds xs Fx ∧ Plc H FC Fx ∧ op c ds = some (d, c') ∧ AftM K cls H FC Fx x c' d Q
theorem AftM.p {Q : VK} (h : AftM K cls H FC Fx (v) c d Q) (r : ∀ H', Keep (fun a => a ∈ FC) H H' → Rep K cls H' d v' []) : AftP K cls H FC Fx v c (Q v') := fun H' F' hk rep nd hF =>
  h v' H' F' [] hk rep (r H' hk) (by rw [List.append_nil]; exact nd) (by rw [List.append_nil]; exact hF)
/-! append, extend, pop -/
def mtAppend : D → List D → Option (D × D)
  | .lst xs, [d] => if Nat.blt xs.length lineN then some (.non, .lst (xs ++ [d])) else none
  | _, _ => none
def mtExtend : D → List D → Option (D × D)
  | .lst xs, [.lst ys] => if Nat.ble (xs.length + ys.length) lineN then some (.non, .lst (xs ++ ys)) else none
  | _, _ => none
def lastD : List D → Option D
  | [] => none
  | [x] => some x
  | _ :: r => lastD r
def initD : List D → List D
  | [] => []
  | [_] => []
  | x :: r => x :: initD r
def mtPop : D → List D → Option (D × D)
  | .lst xs, [] => (lastD xs).map fun d => (d, .lst (initD xs))
  | _, _ => none
theorem lastD_eq : ∀ (l : List D), lastD l = l[l.length - 1]?
  | [] => rfl
  | [x] => rfl
  | x :: y :: r => by
    rw [lastD, lastD_eq (y :: r)]
    simp
    intro h; cases h
theorem initD_eq : ∀ (l : List D), initD l = l.dropLast
  | [] => rfl
  | [x] => rfl
  | x :: y :: r => by
    rw [initD, initD_eq (y :: r)]
    rfl
    intro h; cases h
theorem m_append : MtR X "list.append" (rMut X.K cls mtAppend) := by
  rintro pins s σ H x xs v us Q I rx rxs ⟨c, ds, FC, Fx, d, c', hc, hd, p, e, q⟩
  unfold mtAppend at e
  split at e
  · split at e
    · rename_i zs y hl
      cases e
      rw [Nat.blt_eq, lineN_eq] at hl
      obtain ⟨a, vs, G, rfl, eG, t, r⟩ := rLst' hc
      obtain ⟨w, rfl, hy⟩ := reps1 hd
      refine mt_append pins s σ H _ _ v us Q I rx rxs ⟨a, vs, w, rfl, rfl, t, by rw [← r.length]; exact hl, ?_⟩
      have nG : G.Nodup := by have := p.n1; rw [eG] at this; exact (List.nodup_cons.mp this).2
      refine lst_chg (vs := vs) (G' := G ++ Fx) p eG (r.append hy.one) (List.nodup_append.mpr ⟨nG, p.n2, fun b m b' n z => p.dj b' n (by rw [eG, ← z]; exact List.mem_cons_of_mem _ m)⟩) (fun b m => List.mem_append.mp m) (q.p fun H' _ => rNon)
    · cases e
  · cases e
theorem m_extend : MtR X "list.extend" (rMut X.K cls mtExtend) := by
  rintro pins s σ H x xs v us Q I rx rxs ⟨c, ds, FC, Fx, d, c', hc, hd, p, e, q⟩
  unfold mtExtend at e
  split at e
  · split at e
    · rename_i zs ys hl
      cases e
      have hl := Nat.le_of_ble_eq_true hl
      rw [lineN_eq] at hl
      obtain ⟨a, vs, G, rfl, eG, t, r⟩ := rLst' hc
      obtain ⟨w, rfl, hy⟩ := reps1 hd
      obtain ⟨b, ws, G2, rfl, eG2, t2, r2⟩ := rLst' hy
      refine mt_extend pins s σ H _ _ v us Q I rx rxs ⟨a, b, vs, ws, rfl, rfl, t, t2, by rw [← r.length, ← r2.length]; exact hl, ?_⟩
      have nG : G.Nodup := by have := p.n1; rw [eG] at this; exact (List.nodup_cons.mp this).2
      have nG2 : G2.Nodup := by have := p.n2; rw [eG2] at this; exact (List.nodup_cons.mp this).2
      refine lst_chg (vs := vs) (G' := G ++ G2) p eG (r.append r2) (List.nodup_append.mpr ⟨nG, nG2, fun z m z' n q => p.dj z' (by rw [eG2]; exact List.mem_cons_of_mem _ n) (by rw [eG, ← q]; exact List.mem_cons_of_mem _ m)⟩) (fun z m => (List.mem_append.mp m).imp id fun n => by rw [eG2]; exact List.mem_cons_of_mem _ n) (q.p fun H' _ => rNon)
    · cases e
  · cases e
theorem m_pop : MtR X "list.pop" (rMut X.K cls mtPop) := by
  rintro pins s σ H x xs v us Q I rx rxs ⟨c, ds, FC, Fx, d, c', hc, hd, p, e, q⟩
  unfold mtPop at e
  split at e
  · rename_i zs
    obtain ⟨w, ew, e2⟩ := Option.map_eq_some_iff.mp e
    cases e2
    rw [initD_eq] at q
    rw [lastD_eq] at ew
    obtain ⟨a, vs, G, rfl, eG, t, r⟩ := rLst' hc
    unfold Reps at hd
    obtain ⟨rfl, rfl⟩ := hd
    obtain ⟨y, A, B, C, a1, a2, a3, a4, a5⟩ := r.at_ ew
    have hn : zs.length - 1 < zs.length := (List.getElem?_eq_some_iff.mp ew).1
    have hC : C = [] := by
      rw [List.drop_of_length_le (by omega)] at a5
      unfold Reps at a5
      exact a5.2
    subst hC
    rw [List.append_nil] at a2
    refine mt_pop pins s σ H _ _ v us Q I rx rxs ⟨a, vs, y, rfl, rfl, t, by rw [← r.length]; exact a1, ?_⟩
    have n0 : a ∉ A ++ B ∧ (A ++ B).Nodup := by have := p.n1; rw [eG, a2] at this; exact List.nodup_cons.mp this
    have ha : Mut (H a) := p.m1 a (by rw [eG]; simp)
    have kp : ∀ {ds : List D} {vs : List V} {L : List Addr}, (∀ b ∈ L, b ∈ A ++ B) → Reps X.K cls H ds vs L → Reps X.K cls (upd H a (.lst vs.dropLast)) ds vs L ∨ True := fun _ _ => .inr trivial
    have dl : vs.dropLast = vs.take (zs.length - 1) := by rw [List.dropLast_eq_take, r.length]
    have r1 : Reps X.K cls (upd H a (.lst vs.dropLast)) zs.dropLast vs.dropLast A := by
      rw [dl, List.dropLast_eq_take]
      exact Reps.keep (W := fun b => b = a) (fun b w => by subst w; exact ha) (upd_keep rfl) _ _ A (fun b m z => n0.1 (by rw [← z]; exact List.mem_append_left _ m)) a4
    have r2 : Rep X.K cls (upd H a (.lst vs.dropLast)) _ y B := Rep.keep (W := fun b => b = a) (fun b w => by subst w; exact ha) (upd_keep rfl) _ _ B (fun b m z => n0.1 (by rw [← z]; exact List.mem_append_right _ m)) a3
    refine q y _ (a :: A) B (upd_keep (by rw [eG]; simp)) (rLst upd_same r1) r2 ?_ fun b m => ?_
    · rw [List.cons_append]
      exact List.nodup_cons.mpr n0
    · rw [List.cons_append] at m
      rcases List.mem_cons.mp m with rfl | m
      · exact ⟨by rw [upd_same]; trivial, .inl (by rw [eG]; simp)⟩
      · have : b ∈ FC := by rw [eG, a2]; exact List.mem_cons_of_mem _ m
        exact ⟨mut_upd trivial (p.m1 b this), .inl this⟩
  · cases e

/-! ### name.m(e, ..) -/
def eMut (T : String) (i : Nat) (op : D → List D → Option (D × D)) (l : List (Bool × EM)) : SE := fun s => match ownAt s i with
  | some c => if tyD T c then (match eArgs l s with
    | .ok ds s1 => (match op c ds with
      | some (d, c') => .ok d (s1.set i (.own c'))
      | none => .stuck)
    | .exc c d s => .exc c d s
    | .stuck => .stuck) else .stuck
  | none => .stuck
def mMut (T : String) (i : Nat) (op : D → List D → Option (D × D)) (l : List (Bool × EM)) : EM := ⟨eMut T i op l, true, [], aMuts l ++ [i]⟩
theorem tyV_own {T : String} (h : tyD T d = true) (r : Rep K cls H d v F) (mu : ∀ a ∈ F, Mut (H a)) : tyV K T v H := by
  by_cases hT : T = "dict"
  · subst hT
    unfold tyD at h
    split at h
    · rename_i e; exact absurd e (by decide)
    · rename_i e; exact absurd e (by decide)
    · obtain ⟨a, vs, G, rfl, eG, t, _⟩ := dct_ref r
      have ha := mu a (by rw [eG]; simp)
      obtain ⟨_, ⟨ks, _, _, rd⟩ | ⟨ks, _, _, rd⟩⟩ := t
      · exact .inr (.inr (.inl ⟨rfl, .inl ⟨_, rd_mut rd ha⟩⟩))
      · exact .inr (.inr (.inl ⟨rfl, .inr ⟨_, rd_mut rd ha⟩⟩))
    · cases h
  · exact tyV_D h r hT
theorem mut_run {T : String} {i : Nat} {op : D → List D → Option (D × D)} {l : List (Bool × EM)} {Q : VK} (ni : (aMuts l).contains i = false) (h : tE K cls W (mMut T i op l) σ H Q) : tBM K T (rMut K cls op) (tVar i) (tAO K cls l) σ H Q := by
  obtain ⟨S, Fs, Z, r, h⟩ := h
  unfold mMut eMut at h
  dsimp only at h
  have ni : i ∉ aMuts l := by simpa using ni
  cases ec : ownAt S i with
  | none => rw [ec] at h; exact h.elim
  | some c =>
    rw [ec] at h
    dsimp only at h
    split at h
    · rename_i d S' ee
      split at ee
      · rename_i ty
        have e3 := ownAt_of ec
        obtain ⟨x, FC, x1, x2, x3⟩ := r.ow i c e3
        refine ⟨x, x1, tyV_own ty x3 (fun a m => r.mu a (mem_flat.mpr ⟨i, FC, x2, m⟩)), S, Fs, Z, r, ?_⟩
        cases e : eArgs l S with
        | exc c d s => rw [e] at ee; cases ee
        | stuck => rw [e] at ee; cases ee
        | ok ds S1 =>
          rw [e] at ee
          dsimp only at ee ⊢
          intro vs H1 Fs1 F r1 st1 hd1 og1
          cases eo : op c ds with
          | none => rw [eo] at ee; cases ee
          | some dc =>
            obtain ⟨d0, c'⟩ := dc
            rw [eo] at ee
            cases ee
            have e4 : S1[i]? = some (.own c) := by rw [(st1.out i ni).1]; exact e3
            obtain ⟨y, FC', y1, y2, y3, pl⟩ := plc_of r1 e4 hd1
            rw [x1] at y1
            cases y1
            refine ⟨c, ds, FC', F, d, c', y3, hd1.rep, pl, eo, fun v H2 F' Fd hk rep repd nd hF => ?_⟩
            obtain ⟨n1, n2, n3⟩ := List.nodup_append.mp nd
            obtain ⟨a1, a2⟩ := put_back r r1 st1 x1 y2 hd1 og1 hk rep n1 (fun a m => hF a (List.mem_append_left _ m))
            refine h v H2 _ Fd a1 a2 ⟨repd, fun _ => ⟨n2, fun a m => ?_⟩, fun z => by cases z⟩ fun _ a m => ?_
            · obtain ⟨mu, w⟩ := hF a (List.mem_append_right _ m)
              refine ⟨mu, fun z => ?_, fun z => ?_⟩
              · obtain ⟨j, G, eG, mG⟩ := mem_flat.mp z
                have hi : i < Fs1.length := (List.getElem?_eq_some_iff.mp y2).1
                rw [set_get hi] at eG
                by_cases hj : i = j
                · rw [if_pos hj] at eG
                  cases eG
                  exact n3 a mG a m rfl
                · rw [if_neg hj] at eG
                  rcases w with w | w
                  · exact hj (flat_one r1.nd y2 eG w mG)
                  · exact (hd1.own a w).2.1 (mem_flat.mpr ⟨j, G, eG, mG⟩)
              · rcases w with w | w
                · exact r1.dj a (mem_flat.mpr ⟨i, FC', y2, w⟩) z
                · exact (hd1.own a w).2.2 z
            · rcases (hF a (List.mem_append_right _ m)).2 with w | w
              · exact st1.back (ms2 := [i]) ⟨i, by simp, FC', y2, w⟩
              · exact (og1 rfl a w).imp (fun w => w.app_l) id
      · cases ee
    · exact h.elim
    · exact h.elim
theorem mut_run0 {T : String} {i : Nat} {op : D → List D → Option (D × D)} {Q : VK} (h : tE K cls W (mMut T i op []) σ H Q) : tBM0 K T (rMut K cls op) (tVar i) σ H Q := by
  obtain ⟨x, e, ty, q⟩ := mut_run (by rfl) h
  refine ⟨x, e, ty, ?_⟩
  obtain ⟨S, Fs, Z, r, q⟩ := q
  exact q [] H Fs [] r Stp.refl HeldO.nil (fun _ a m => by cases m)
end Bv
end

section
/-! What is gone over is only read meanwhile. -/
namespace Bv
open PySem PySem.Spec PyProof.Rows L2
variable {K : PySem.W.Frag} {cls : Nat → Addr} {X : Cx}
variable {σ σ' : L2.St} {S S0 S1 S2 : List Sl} {H H0 H' H1 H2 : Hp} {Fs Fs0 Fs1 Fs2 : List (List Addr)} {Z : Addr → Prop} {ms ms1 ms2 rs rs2 : List Nat} {d d' c c' : D} {v v' : V} {F F' F1 F2 FC Fx : List Addr} {ow : Bool} {W : WX}
/-! ### locking -/
/-- H2 is H with one dict locked, or unlocked -/
def Turned (H H2 : Hp) : Prop := ∃ a o u, Mut (some u) ∧ (∃ kvs, u = .dK kvs ∨ ∃ kvt, u = .dT kvt) ∧ ((H a = some u ∧ H2 = upd H a (.frz o u)) ∨ (H a = some (.frz o u) ∧ H2 = upd H a u))
theorem Turned.rd {a : Addr} {u : HO} (t : Turned H H2) (h : Rd H a u) (nf : ∀ o w, u ≠ .frz o w) : Rd H2 a u := by
  obtain ⟨b, o, w, mu, kd, ⟨h1, rfl⟩ | ⟨h1, rfl⟩⟩ := t
  · by_cases e : a = b
    · subst e
      rcases h with h | ⟨o', h⟩
      · rw [h1] at h; cases h; exact .inr ⟨o, upd_same⟩
      · rw [h1] at h; cases h; exact mu.elim
    · rcases h with h | ⟨o', h⟩
      · exact .inl (by rw [upd_ne e]; exact h)
      · exact .inr ⟨o', by rw [upd_ne e]; exact h⟩
  · by_cases e : a = b
    · subst e
      rcases h with h | ⟨o', h⟩
      · rw [h1] at h; cases h; exact absurd rfl (nf _ _)
      · rw [h1] at h; cases h; exact .inl upd_same
    · rcases h with h | ⟨o', h⟩
      · exact .inl (by rw [upd_ne e]; exact h)
      · exact .inr ⟨o', by rw [upd_ne e]; exact h⟩
theorem Turned.other {a : Addr} {u : HO} (t : Turned H H2) (h : H a = some u) (n1 : ∀ o w, u ≠ .frz o w) (n2 : ∀ kvs, u ≠ .dK kvs) (n3 : ∀ kvs, u ≠ .dT kvs) : H2 a = some u := by
  obtain ⟨b, o, w, mu, ⟨kvs, kd⟩, ⟨h1, rfl⟩ | ⟨h1, rfl⟩⟩ := t
  · by_cases e : a = b
    · subst e
      rw [h1] at h
      cases h
      rcases kd with kd | ⟨kvt, kd⟩
      · exact absurd kd (n2 _)
      · exact absurd kd (n3 _)
    · rw [upd_ne e]; exact h
  · by_cases e : a = b
    · subst e
      rw [h1] at h
      cases h
      exact absurd rfl (n1 _ _)
    · rw [upd_ne e]; exact h
section
variable (t : Turned H H2)
include t
mutual
theorem Rep.turn : ∀ (d : D) (v : V) (F : List Addr), Rep K cls H d v F → Rep K cls H2 d v F
  | .non, v, F, h => h
  | .bl _, v, F, h => h
  | .int _, v, F, h => h
  | .str _, v, F, h => h
  | .tup ds, v, F, h => by
    unfold Rep at h ⊢
    obtain ⟨a, vs, e, q, r⟩ := h
    exact ⟨a, vs, e, t.other q (by intros; simp) (by intros; simp) (by intros; simp), Reps.turn ds vs F r⟩
  | .lst ds, v, F, h => by
    unfold Rep at h ⊢
    obtain ⟨a, vs, G, e, e2, q, r⟩ := h
    exact ⟨a, vs, G, e, e2, t.other q (by intros; simp) (by intros; simp) (by intros; simp), Reps.turn ds vs G r⟩
  | .dct kvs, v, F, h => by
    unfold Rep at h ⊢
    obtain ⟨a, vs, G, e, e2, ⟨b, q⟩, r⟩ := h
    refine ⟨a, vs, G, e, e2, ⟨b, ?_⟩, RepV.turn kvs vs G r⟩
    rcases q with ⟨ks, q1, q2, q3⟩ | ⟨ks, q1, q2, q3⟩
    · exact .inl ⟨ks, q1, q2, t.rd q3 (by intros; simp)⟩
    · exact .inr ⟨ks, q1, q2, t.rd q3 (by intros; simp)⟩
  | .ins c fs, v, F, h => by
    unfold Rep at h ⊢
    obtain ⟨a, dx, vs, G, e, e2, q, l, r⟩ := h
    exact ⟨a, dx, vs, G, e, e2, t.other q (by intros; simp) (by intros; simp) (by intros; simp), l, RepF.turn fs vs G r⟩
theorem Reps.turn : ∀ (ds : List D) (vs : List V) (F : List Addr), Reps K cls H ds vs F → Reps K cls H2 ds vs F
  | [], vs, F, h => h
  | d :: ds, vs, F, h => by
    unfold Reps at h ⊢
    obtain ⟨v, vr, F1, F2, e1, e2, h1, h2⟩ := h
    exact ⟨v, vr, F1, F2, e1, e2, Rep.turn d v F1 h1, Reps.turn ds vr F2 h2⟩
theorem RepV.turn : ∀ (ds : List (D × D)) (vs : List V) (F : List Addr), RepV K cls H ds vs F → RepV K cls H2 ds vs F
  | [], vs, F, h => h
  | (k, d) :: ds, vs, F, h => by
    unfold RepV at h ⊢
    obtain ⟨v, vr, F1, F2, e1, e2, h1, h2⟩ := h
    exact ⟨v, vr, F1, F2, e1, e2, Rep.turn d v F1 h1, RepV.turn ds vr F2 h2⟩
theorem RepF.turn : ∀ (ds : List (List Nat × D)) (vs : List V) (F : List Addr), RepF K cls H ds vs F → RepF K cls H2 ds vs F
  | [], vs, F, h => h
  | (k, d) :: ds, vs, F, h => by
    unfold RepF at h ⊢
    obtain ⟨v, vr, F1, F2, e1, e2, h1, h2⟩ := h
    exact ⟨v, vr, F1, F2, e1, e2, Rep.turn d v F1 h1, RepF.turn ds vr F2 h2⟩
end
end
/-- locked or as it was -/
def Lk (H H2 : Hp) : Prop := H2 = H ∨ Turned H H2
theorem Lk.rep (l : Lk H H2) (h : Rep K cls H d v F) : Rep K cls H2 d v F := by
  rcases l with rfl | t
  · exact h
  · exact Rep.turn t d v F h
theorem Lk.none_iff (l : Lk H H2) {a : Addr} : H2 a = none ↔ H a = none := by
  rcases l with rfl | ⟨b, o, w, mu, kd, ⟨h1, rfl⟩ | ⟨h1, rfl⟩⟩
  · exact Iff.rfl
  · by_cases e : a = b
    · subst e; rw [upd_same, h1]; simp
    · rw [upd_ne e]
  · by_cases e : a = b
    · subst e; rw [upd_same, h1]; simp
    · rw [upd_ne e]

/-! ### the slots' data only read, and as before -/
def frzS : List Sl → List Nat → List Sl
  | S, [] => S
  | S, i :: r => frzS (match nthL S i with
    | some (.own d) => S.set i (.ro d)
    | _ => S) r
def clrF : List (List Addr) → List Nat → List (List Addr)
  | Fs, [] => Fs
  | Fs, i :: r => clrF (Fs.set i []) r
theorem clrF_get : ∀ {is : List Nat} {Fs : List (List Addr)} {j : Nat}, (clrF Fs is)[j]? = if j ∈ is ∧ j < Fs.length then some [] else Fs[j]?
  | [], Fs, j => by simp [clrF]
  | i :: r, Fs, j => by
    rw [clrF, clrF_get, List.length_set, List.getElem?_set]
    by_cases h1 : j ∈ r ∧ j < Fs.length
    · rw [if_pos h1, if_pos ⟨List.mem_cons_of_mem _ h1.1, h1.2⟩]
    · rw [if_neg h1]
      by_cases h2 : i = j
      · subst h2
        rw [if_pos rfl]
        by_cases h3 : i < Fs.length
        · rw [if_pos h3, if_pos ⟨by simp, h3⟩]
        · rw [if_neg h3, if_neg (fun z => h3 z.2), List.getElem?_eq_none (by omega)]
      · rw [if_neg h2]
        rw [if_neg (fun z => by
          rcases List.mem_cons.mp z.1 with q | q
          · exact h2 q.symm
          · exact h1 ⟨q, z.2⟩)]
theorem frzS_len : ∀ {is : List Nat} {S : List Sl}, (frzS S is).length = S.length
  | [], S => rfl
  | i :: r, S => by
    rw [frzS, frzS_len]
    split
    · rw [List.length_set]
    · rfl
def roOf : Sl → Sl
  | .own d => .ro d
  | s => s
theorem frz_one {S : List Sl} {i j : Nat} : (match nthL S i with
    | some (.own d) => S.set i (.ro d)
    | _ => S)[j]? = if j = i then S[j]?.map roOf else S[j]? := by
  by_cases h : j = i
  · subst h
    rw [if_pos rfl, nthL_eq]
    cases e : S[j]? with
    | none => simp [e]
    | some sl =>
      have hl : j < S.length := (List.getElem?_eq_some_iff.mp e).1
      cases sl with
      | own d => dsimp only; rw [List.getElem?_set_self hl]; rfl
      | ro d => dsimp only; rw [e]; rfl
      | dead => dsimp only; rw [e]; rfl
  · rw [if_neg h]
    split
    · rw [List.getElem?_set_ne (fun z => h z.symm)]
    · rfl
theorem roOf_idem (s : Sl) : roOf (roOf s) = roOf s := by cases s <;> rfl
theorem frzS_get : ∀ {is : List Nat} {S : List Sl} {j : Nat}, (frzS S is)[j]? = if j ∈ is then S[j]?.map roOf else S[j]?
  | [], S, j => by simp [frzS]
  | i :: r, S, j => by
    rw [frzS, frzS_get, frz_one]
    by_cases h1 : j ∈ r
    · rw [if_pos h1, if_pos (List.mem_cons_of_mem _ h1)]
      by_cases h2 : j = i
      · rw [if_pos h2, Option.map_map]
        congr 1
        funext s
        exact roOf_idem s
      · rw [if_neg h2]
    · rw [if_neg h1]
      by_cases h2 : j = i
      · subst h2
        rw [if_pos rfl, if_pos (by simp)]
      · rw [if_neg h2, if_neg (fun z => by
          rcases List.mem_cons.mp z with q | q
          · exact h2 q
          · exact h1 q)]
theorem clr_mem {is : List Nat} {a : Addr} (h : a ∈ (clrF Fs is).flatten) : ∃ j G, j ∉ is ∧ Fs[j]? = some G ∧ a ∈ G := by
  obtain ⟨j, G, e, m⟩ := mem_flat.mp h
  rw [clrF_get] at e
  split at e
  · cases e; cases m
  · rename_i n
    refine ⟨j, G, fun z => n ⟨z, ?_⟩, e, m⟩
    exact (List.getElem?_eq_some_iff.mp e).1
theorem clr_nodup : ∀ {is : List Nat} {Fs : List (List Addr)}, Fs.flatten.Nodup → (clrF Fs is).flatten.Nodup
  | [], Fs, h => h
  | i :: r, Fs, h => by
    rw [clrF]
    refine clr_nodup ?_
    by_cases hi : i < Fs.length
    · exact (flat_out h (List.getElem?_eq_getElem hi)).2.1
    · rw [List.set_eq_of_length_le (by omega)]; exact h
/-- what is read only meanwhile: the slots is, what is held in F -/
def Zof (Z : Addr → Prop) (Fs : List (List Addr)) (is : List Nat) (F : List Addr) (a : Addr) : Prop := Z a ∨ Wm Fs is a ∨ a ∈ F
/-- footprints that are held while they are gone over -/
structure HeldF (ow : Bool) (rs : List Nat) (H : Hp) (Fs : List (List Addr)) (Z : Addr → Prop) (F : List Addr) : Prop where
  al : ∀ a ∈ F, H a ≠ none
  own : ow = true → F.Nodup ∧ ∀ a ∈ F, Mut (H a) ∧ a ∉ Fs.flatten ∧ ¬ Z a
  bor : ow = false → ∀ a ∈ F, a ∈ Fs.flatten → Wm Fs rs a
theorem Held.f (h : Held K cls ow rs H Fs Z d v F) : HeldF ow rs H Fs Z F := ⟨h.rep.some_ d, h.own, h.bor⟩
theorem SRel.freeze {is : List Nat} (r : SRel K cls σ S H Fs Z) (hd : HeldF ow is H Fs Z F) (l : Lk H H2) (ho : ∀ a, H2 a ≠ H a → a ∈ F) : SRel K cls σ (frzS S is) H2 (clrF Fs is) (Zof Z Fs is F) := by
  have hlen : (clrF Fs is).length = Fs.length := by
    clear hd
    induction is generalizing Fs with
    | nil => rfl
    | cons i r ih =>
      rw [clrF]
      have : ∀ (is : List Nat) (Fs : List (List Addr)), (clrF Fs is).length = Fs.length := fun is => by
        induction is with
        | nil => intro Fs; rfl
        | cons i r ih => intro Fs; rw [clrF, ih, List.length_set]
      rw [this, List.length_set]
  refine ⟨by rw [frzS_len, hlen, r.len], by rw [frzS_len, r.sl], fun j d q => ?_, fun j d q => ?_, fun a m => ?_, clr_nodup r.nd, fun a m z => ?_, fun a z => ?_⟩
  · rw [frzS_get] at q
    split at q
    · cases e : S[j]? with
      | none => rw [e] at q; cases q
      | some sl => rw [e] at q; cases sl <;> cases q
    · rename_i n
      obtain ⟨v, G, e1, e2, rep⟩ := r.ow j d q
      refine ⟨v, G, e1, ?_, l.rep rep⟩
      rw [clrF_get, if_neg (fun z => n z.1)]
      exact e2
  · rw [frzS_get] at q
    split at q
    · rename_i y
      cases e : S[j]? with
      | none => rw [e] at q; cases q
      | some sl =>
        rw [e] at q
        cases sl with
        | own d0 =>
          cases q
          obtain ⟨v, G, e1, e2, rep⟩ := r.ow j _ e
          exact ⟨v, G, e1, l.rep rep, fun a m => .inr (.inl ⟨j, y, G, e2, m⟩)⟩
        | ro d0 =>
          cases q
          obtain ⟨v, G, e1, rep, z⟩ := r.ro j _ e
          exact ⟨v, G, e1, l.rep rep, fun a m => .inl (z a m)⟩
        | dead => cases q
    · obtain ⟨v, G, e1, rep, z⟩ := r.ro j d q
      exact ⟨v, G, e1, l.rep rep, fun a m => .inl (z a m)⟩
  · obtain ⟨j, G, hj, e, mG⟩ := clr_mem m
    have fl : a ∈ Fs.flatten := mem_flat.mpr ⟨j, G, e, mG⟩
    have mu := r.mu a fl
    by_cases q : H2 a = H a
    · rw [q]; exact mu
    · have inF := ho a q
      cases ow with
      | true => exact absurd fl ((hd.own rfl).2 a inF).2.1
      | false =>
        obtain ⟨i, hi, G', e', m'⟩ := hd.bor rfl a inF fl
        have := flat_one r.nd e e' mG m'
        subst this
        exact absurd hi hj
  · obtain ⟨j, G, hj, e, mG⟩ := clr_mem m
    have fl : a ∈ Fs.flatten := mem_flat.mpr ⟨j, G, e, mG⟩
    rcases z with z | ⟨i, hi, G', e', m'⟩ | z
    · exact r.dj a fl z
    · have := flat_one r.nd e e' mG m'
      subst this
      exact hj hi
    · cases ow with
      | true => exact ((hd.own rfl).2 a z).2.1 fl
      | false =>
        obtain ⟨i, hi, G', e', m'⟩ := hd.bor rfl a z fl
        have := flat_one r.nd e e' mG m'
        subst this
        exact hj hi
  · intro q
    rw [l.none_iff] at q
    rcases z with z | ⟨i, hi, G', e', m'⟩ | z
    · exact r.zs a z q
    · exact mut_ne (r.mu a (mem_flat.mpr ⟨i, G', e', m'⟩)) q
    · exact hd.al a z q
end Bv
end

section
/-! Behind a loop: what was only read is as it was. -/
namespace Bv
open PySem PySem.Spec PyProof.Rows L2
variable {K : PySem.W.Frag} {cls : Nat → Addr} {X : Cx}
variable {σ σ' σ0 σ1 : L2.St} {S S0 S1 S2 : List Sl} {H H0 H' H1 H2 Hl : Hp} {Fs Fs0 Fs1 Fs2 : List (List Addr)} {Z : Addr → Prop} {ms ms1 ms2 rs rs2 is : List Nat} {d d' c c' : D} {v v' : V} {F F' F1 F2 FC : List Addr} {ow : Bool} {W : WX}
def rstF : List (List Addr) → List (List Addr) → List Nat → List (List Addr)
  | Fs1, _, [] => Fs1
  | Fs1, Fs0, i :: r => rstF (Fs1.set i ((Fs0[i]?).getD [])) Fs0 r
def rstS : List Sl → List Sl → List Nat → List Sl
  | S1, _, [] => S1
  | S1, S0, i :: r => rstS (match nthL S0 i with
    | some sl => S1.set i sl
    | none => S1.set i .dead) S0 r
def clnS : List Sl → List Nat → List Sl
  | S1, [] => S1
  | S1, i :: r => clnS (match nthL S1 i with
    | some (.ro d) => if im d then S1 else S1.set i .dead
    | _ => S1) r
def clnOf : Sl → Sl
  | .ro d => if im d then .ro d else .dead
  | s => s
theorem rstF_get : ∀ {is : List Nat} {Fs1 : List (List Addr)} {j : Nat}, (rstF Fs1 Fs0 is)[j]? = if j ∈ is ∧ j < Fs1.length then some ((Fs0[j]?).getD []) else Fs1[j]?
  | [], Fs1, j => by simp [rstF]
  | i :: r, Fs1, j => by
    rw [rstF, rstF_get, List.length_set, List.getElem?_set]
    by_cases h1 : j ∈ r ∧ j < Fs1.length
    · rw [if_pos h1, if_pos ⟨List.mem_cons_of_mem _ h1.1, h1.2⟩]
    · rw [if_neg h1]
      by_cases h2 : i = j
      · subst h2
        rw [if_pos rfl]
        by_cases h3 : i < Fs1.length
        · rw [if_pos h3, if_pos ⟨by simp, h3⟩]
        · rw [if_neg h3, if_neg (fun z => h3 z.2), List.getElem?_eq_none (by omega)]
      · rw [if_neg h2, if_neg (fun z => by
          rcases List.mem_cons.mp z.1 with q | q
          · exact h2 q.symm
          · exact h1 ⟨q, z.2⟩)]
theorem rstF_len : ∀ {is : List Nat} {Fs1 : List (List Addr)}, (rstF Fs1 Fs0 is).length = Fs1.length
  | [], _ => rfl
  | i :: r, _ => by rw [rstF, rstF_len, List.length_set]
theorem rst_one {i j : Nat} : (match nthL S0 i with
    | some sl => S1.set i sl
    | none => S1.set i .dead)[j]? = if j = i ∧ j < S1.length then some ((S0[j]?).getD .dead) else S1[j]? := by
  rw [nthL_eq]
  by_cases h : j = i
  · subst h
    by_cases hl : j < S1.length
    · rw [if_pos ⟨rfl, hl⟩]
      cases e : S0[j]? with
      | none => exact List.getElem?_set_self hl
      | some sl => exact List.getElem?_set_self hl
    · rw [if_neg (fun z => hl z.2)]
      cases e : S0[j]? with
      | none => dsimp only; rw [List.set_eq_of_length_le (by omega)]
      | some sl => dsimp only; rw [List.set_eq_of_length_le (by omega)]
  · rw [if_neg (fun z => h z.1)]
    split <;> exact List.getElem?_set_ne (fun z => h z.symm)
theorem rst_oneL {i : Nat} : (match nthL S0 i with
    | some sl => S1.set i sl
    | none => S1.set i .dead).length = S1.length := by
  split <;> rw [List.length_set]
theorem rstS_get : ∀ {is : List Nat} {S1 : List Sl} {j : Nat}, (rstS S1 S0 is)[j]? = if j ∈ is ∧ j < S1.length then some ((S0[j]?).getD .dead) else S1[j]?
  | [], S1, j => by simp [rstS]
  | i :: r, S1, j => by
    rw [rstS, rstS_get, rst_oneL, rst_one]
    by_cases h1 : j ∈ r ∧ j < S1.length
    · rw [if_pos h1, if_pos ⟨List.mem_cons_of_mem _ h1.1, h1.2⟩]
    · rw [if_neg h1]
      by_cases h2 : j = i ∧ j < S1.length
      · rw [if_pos h2, if_pos ⟨by simp [h2.1], h2.2⟩]
      · rw [if_neg h2, if_neg (fun z => by
          rcases List.mem_cons.mp z.1 with q | q
          · exact h2 ⟨q, z.2⟩
          · exact h1 ⟨q, z.2⟩)]
theorem rstS_len : ∀ {is : List Nat} {S1 : List Sl}, (rstS S1 S0 is).length = S1.length
  | [], _ => rfl
  | i :: r, _ => by rw [rstS, rstS_len, rst_oneL]
theorem cln_one {i j : Nat} : (match nthL S1 i with
    | some (.ro d) => if im d then S1 else S1.set i .dead
    | _ => S1)[j]? = if j = i then S1[j]?.map clnOf else S1[j]? := by
  rw [nthL_eq]
  by_cases h : j = i
  · subst h
    rw [if_pos rfl]
    cases e : S1[j]? with
    | none => simp [e]
    | some sl =>
      have hl : j < S1.length := (List.getElem?_eq_some_iff.mp e).1
      cases sl with
      | own d => dsimp only; rw [e]; rfl
      | dead => dsimp only; rw [e]; rfl
      | ro d =>
        dsimp only
        rw [Option.map_some]
        by_cases hi : im d = true
        · rw [if_pos hi, e]; simp [clnOf, hi]
        · rw [if_neg hi, List.getElem?_set_self hl]; simp [clnOf, hi]
  · rw [if_neg h]
    split
    · split
      · rfl
      · exact List.getElem?_set_ne (fun z => h z.symm)
    · rfl
theorem cln_oneL {i : Nat} : (match nthL S1 i with
    | some (.ro d) => if im d then S1 else S1.set i .dead
    | _ => S1).length = S1.length := by
  split
  · split
    · rfl
    · rw [List.length_set]
  · rfl
theorem cln_ro {d : D} : clnOf (.ro d) = if im d = true then .ro d else .dead := rfl
theorem clnOf_idem (s : Sl) : clnOf (clnOf s) = clnOf s := by
  cases s with
  | ro d => by_cases hi : im d = true <;> simp [clnOf, hi]
  | _ => rfl
theorem clnS_get : ∀ {is : List Nat} {S1 : List Sl} {j : Nat}, (clnS S1 is)[j]? = if j ∈ is then S1[j]?.map clnOf else S1[j]?
  | [], S1, j => by simp [clnS]
  | i :: r, S1, j => by
    rw [clnS, clnS_get, cln_one]
    by_cases h1 : j ∈ r
    · rw [if_pos h1, if_pos (List.mem_cons_of_mem _ h1)]
      by_cases h2 : j = i
      · rw [if_pos h2, Option.map_map]
        congr 1
        funext s
        exact clnOf_idem s
      · rw [if_neg h2]
    · rw [if_neg h1]
      by_cases h2 : j = i
      · subst h2
        rw [if_pos rfl, if_pos (by simp)]
      · rw [if_neg h2, if_neg (fun z => by
          rcases List.mem_cons.mp z with q | q
          · exact h2 q
          · exact h1 q)]
theorem clnS_len : ∀ {is : List Nat} {S1 : List Sl}, (clnS S1 is).length = S1.length
  | [], _ => rfl
  | i :: r, _ => by rw [clnS, clnS_len, cln_oneL]
def thaw (S1 S0 : List Sl) (is ms : List Nat) : List Sl := rstS (clnS S1 ms) S0 is
theorem thaw_get {j : Nat} : (thaw S1 S0 is ms)[j]? = if j ∈ is ∧ j < S1.length then some ((S0[j]?).getD .dead) else if j ∈ ms then S1[j]?.map clnOf else S1[j]? := by
  unfold thaw
  rw [rstS_get, clnS_len, clnS_get]
theorem nodup_flat : ∀ {L : List (List Addr)}, (∀ (i : Nat) (G : List Addr), L[i]? = some G → G.Nodup) → (∀ (i j : Nat) (G G' : List Addr) (a : Addr), L[i]? = some G → L[j]? = some G' → a ∈ G → a ∈ G' → i = j) → L.flatten.Nodup
  | [], _, _ => List.nodup_nil
  | A :: r, h1, h2 => by
    rw [List.flatten_cons]
    refine List.nodup_append.mpr ⟨h1 0 A rfl, nodup_flat (fun i G e => h1 (i + 1) G (by simpa using e)) (fun i j G G' a e e' m m' => ?_), fun a m b n z => ?_⟩
    · have := h2 (i + 1) (j + 1) G G' a (by simpa using e) (by simpa using e') m m'
      omega
    · subst z
      obtain ⟨j, G, e, mG⟩ := mem_flat.mp n
      have := h2 0 (j + 1) A G a rfl (by simpa using e) m mG
      omega
/-- what holds behind a loop -/
structure Thaw (K : PySem.W.Frag) (cls : Nat → Addr) (σ0 : L2.St) (S0 : List Sl) (H0 : Hp) (Fs0 : List (List Addr)) (Z : Addr → Prop) (is ms asg : List Nat) (F : List Addr) (Hl : Hp) (σ1 : L2.St) (S1 : List Sl) (H1 : Hp) (Fs1 : List (List Addr)) (H2 : Hp) : Prop where
  r0 : SRel K cls σ0 S0 H0 Fs0 Z
  rf : SRel K cls σ0 (frzS S0 is) Hl (clrF Fs0 is) (Zof Z Fs0 is F)
  r1 : SRel K cls σ1 S1 H1 Fs1 (Zof Z Fs0 is F)
  st : Stp ms (frzS S0 is) Hl (clrF Fs0 is) S1 H1 Fs1
  fx : Fx asg σ0 σ1
  l1 : Lk H0 Hl
  l2 : Lk H1 H2
  hb : ∀ a, Zof Z Fs0 is F a → H2 a = H0 a
  hc : ∀ a, ¬ Zof Z Fs0 is F a → H2 a = H1 a
  hl : ∀ a, ¬ Zof Z Fs0 is F a → Hl a = H0 a
  dj : ∀ i ∈ is, i ∉ ms
  sub : ∀ i ∈ asg, i ∈ ms
variable {asg : List Nat}
theorem Thaw.rep (t : Thaw K cls σ0 S0 H0 Fs0 Z is ms asg F Hl σ1 S1 H1 Fs1 H2) {G : List Addr} (h : Rep K cls H0 d v G) (z : ∀ a ∈ G, Zof Z Fs0 is F a) : Rep K cls H2 d v G :=
  t.l2.rep (Rep.keep t.rf.wmut t.st.keep d v G (fun a m w => t.rf.dj a w.flat (z a m)) (t.l1.rep h))
theorem Thaw.srel (t : Thaw K cls σ0 S0 H0 Fs0 Z is ms asg F Hl σ1 S1 H1 Fs1 H2) : SRel K cls σ1 (thaw S1 S0 is ms) H2 (rstF Fs1 Fs0 is) Z := by
  have zi : ∀ {j : Nat} {G : List Addr}, j ∈ is → Fs0[j]? = some G → ∀ a ∈ G, Zof Z Fs0 is F a := fun {j G} hj e a m => .inr (.inl ⟨j, hj, G, e, m⟩)
  have ns : ∀ {j : Nat}, j ∈ is → j ∉ asg := fun {j} hj q => t.dj j hj (t.sub j q)
  have fin : ∀ {j : Nat} {G : List Addr} {a : Addr}, (rstF Fs1 Fs0 is)[j]? = some G → a ∈ G → (j ∈ is ∧ Fs0[j]? = some G) ∨ (j ∉ is ∧ Fs1[j]? = some G) := fun {j G a} e m => by
    rw [rstF_get] at e
    split at e
    · rename_i y
      cases e2 : Fs0[j]? with
      | none => rw [e2] at e; cases e; cases m
      | some G0 => rw [e2] at e; cases e; exact .inl ⟨y.1, rfl⟩
    · rename_i n
      refine .inr ⟨fun z => n ⟨z, (List.getElem?_eq_some_iff.mp e).1⟩, e⟩
  refine ⟨by unfold thaw; rw [rstS_len, clnS_len, rstF_len, t.r1.len], by unfold thaw; rw [rstS_len, clnS_len, t.r1.sl], fun j d q => ?_, fun j d q => ?_, fun a m => ?_, nodup_flat (fun i G e => ?_) (fun i j G G' a e e' m m' => ?_), fun a m z => ?_, fun a z => ?_⟩
  · rw [thaw_get] at q
    split at q
    · rename_i y
      cases e : S0[j]? with
      | none => rw [e] at q; cases q
      | some sl =>
        rw [e] at q
        cases q
        obtain ⟨v, G, e1, e2, rep⟩ := t.r0.ow j d e
        refine ⟨v, G, by rw [t.fx j (ns y.1)]; exact e1, ?_, t.rep rep (zi y.1 e2)⟩
        rw [rstF_get, if_pos ⟨y.1, by rw [← t.r1.len]; exact y.2⟩, e2]
        rfl
    · rename_i n
      have hS : S1[j]? = some (.own d) := by
        split at q
        · cases e : S1[j]? with
          | none => rw [e] at q; cases q
          | some sl =>
            rw [e] at q
            cases sl with
            | own d0 => cases q; rfl
            | dead => cases q
            | ro d0 => rw [Option.map_some, cln_ro] at q; by_cases hi : im d0 = true <;> simp [hi] at q
        · exact q
      have nj : j ∉ is := fun z => n ⟨z, (List.getElem?_eq_some_iff.mp hS).1⟩
      obtain ⟨v, G, e1, e2, rep⟩ := t.r1.ow j d hS
      refine ⟨v, G, e1, ?_, t.l2.rep rep⟩
      rw [rstF_get, if_neg (fun z => nj z.1)]
      exact e2
  · rw [thaw_get] at q
    split at q
    · rename_i y
      cases e : S0[j]? with
      | none => rw [e] at q; cases q
      | some sl =>
        rw [e] at q
        cases q
        obtain ⟨v, G, e1, rep, z⟩ := t.r0.ro j d e
        exact ⟨v, G, by rw [t.fx j (ns y.1)]; exact e1, t.rep rep (fun a m => .inl (z a m)), z⟩
    · rename_i n
      split at q
      · cases e : S1[j]? with
        | none => rw [e] at q; cases q
        | some sl =>
          rw [e] at q
          cases sl with
          | own d0 => cases q
          | dead => cases q
          | ro d0 =>
            rw [Option.map_some, cln_ro] at q
            by_cases hi : im d0 = true
            · rw [if_pos hi] at q
              cases q
              obtain ⟨v, G, e1, rep, z⟩ := t.r1.ro j d e
              have g := Rep.im d hi rep
              subst g
              exact ⟨v, [], e1, t.l2.rep rep, fun a m => by cases m⟩
            · rw [if_neg hi] at q
              cases q
      · rename_i nm
        have nj : j ∉ is := fun z => n ⟨z, (List.getElem?_eq_some_iff.mp q).1⟩
        rw [(t.st.out j nm).1, frzS_get, if_neg nj] at q
        obtain ⟨v, G, e1, rep, z⟩ := t.r0.ro j d q
        exact ⟨v, G, by rw [t.fx j (fun y => nm (t.sub j y))]; exact e1, t.rep rep (fun a m => .inl (z a m)), z⟩
  · obtain ⟨j, G, e, mG⟩ := mem_flat.mp m
    rcases fin e mG with ⟨hj, e⟩ | ⟨hj, e⟩
    · rw [t.hb a (zi hj e a mG)]
      exact t.r0.mu a (mem_flat.mpr ⟨j, G, e, mG⟩)
    · have fl : a ∈ Fs1.flatten := mem_flat.mpr ⟨j, G, e, mG⟩
      rw [t.hc a (t.r1.dj a fl)]
      exact t.r1.mu a fl
  · by_cases he : G = []
    · subst he; exact List.nodup_nil
    · obtain ⟨a, mG⟩ := List.exists_mem_of_ne_nil G he
      rcases fin e mG with ⟨hj, e⟩ | ⟨hj, e⟩
      · exact (flat_out t.r0.nd e).1
      · exact (flat_out t.r1.nd e).1
  · rcases fin e m with ⟨hi, e⟩ | ⟨hi, e⟩ <;> rcases fin e' m' with ⟨hj, e'⟩ | ⟨hj, e'⟩
    · exact flat_one t.r0.nd e e' m m'
    · exact absurd (zi hi e a m) (t.r1.dj a (mem_flat.mpr ⟨j, G', e', m'⟩))
    · exact absurd (zi hj e' a m') (t.r1.dj a (mem_flat.mpr ⟨i, G, e, m⟩))
    · exact flat_one t.r1.nd e e' m m'
  · obtain ⟨j, G, e, mG⟩ := mem_flat.mp m
    rcases fin e mG with ⟨hj, e⟩ | ⟨hj, e⟩
    · exact t.r0.dj a (mem_flat.mpr ⟨j, G, e, mG⟩) z
    · exact t.r1.dj a (mem_flat.mpr ⟨j, G, e, mG⟩) (.inl z)
  · rw [t.hb a (.inl z)]
    exact t.r0.zs a z
theorem Thaw.stp (t : Thaw K cls σ0 S0 H0 Fs0 Z is ms asg F Hl σ1 S1 H1 Fs1 H2) : Stp ms S0 H0 Fs0 (thaw S1 S0 is ms) H2 (rstF Fs1 Fs0 is) := by
  have wsub : ∀ {a : Addr}, Wm (clrF Fs0 is) ms a → Wm Fs0 ms a := fun {a} ⟨i, hi, G, e, m⟩ => by
    rw [clrF_get] at e
    split at e
    · cases e; cases m
    · exact ⟨i, hi, G, e, m⟩
  refine ⟨fun a o e n => ?_, fun j hj => ?_, fun j hj G e a m => ?_⟩
  · by_cases z : Zof Z Fs0 is F a
    · rw [t.hb a z]; exact e
    · rw [t.hc a z]
      exact t.st.keep a o (by rw [t.hl a z]; exact e) fun w => n (wsub w)
  · have oS := (t.st.out j hj).1
    have oF := (t.st.out j hj).2
    rw [frzS_get] at oS
    rw [clrF_get] at oF
    rw [thaw_get, rstF_get]
    by_cases hi : j ∈ is
    · rw [if_pos hi] at oS
      constructor
      · cases e : S0[j]? with
        | none =>
          rw [e] at oS
          rw [if_neg (fun z => by
            have := List.getElem?_eq_none_iff.mp oS
            omega), if_neg hj]
          exact oS
        | some sl =>
          rw [e] at oS
          rw [if_pos ⟨hi, (List.getElem?_eq_some_iff.mp oS).1⟩]
          rfl
      · cases e : Fs0[j]? with
        | none =>
          have : ¬ j < Fs0.length := fun z => by
            rw [List.getElem?_eq_getElem z] at e
            cases e
          rw [if_neg (fun z => this z.2), e] at oF
          rw [if_neg (fun z => by
            have := List.getElem?_eq_none_iff.mp oF
            omega)]
          exact oF
        | some G =>
          have hl := (List.getElem?_eq_some_iff.mp e).1
          rw [if_pos ⟨hi, hl⟩] at oF
          rw [if_pos ⟨hi, (List.getElem?_eq_some_iff.mp oF).1⟩]
          rfl
    · rw [if_neg hi] at oS
      rw [if_neg (fun z => hi z.1)] at oF
      rw [if_neg (fun z => hi z.1), if_neg hj, if_neg (fun z => hi z.1)]
      exact ⟨oS, oF⟩
  · rw [rstF_get, if_neg (fun z => t.dj j z.1 hj)] at e
    rcases t.st.inn j hj G e a m with w | w
    · exact .inl (wsub w)
    · exact .inr (t.l1.none_iff.mp w)
end Bv
end

section
/-! What is gone over: lists, tuples, texts, ranges, dicts. -/
namespace Bv
open PySem PySem.Spec PyProof.Rows L2
variable {K : PySem.W.Frag} {cls : Nat → Addr} {X : Cx}
variable {σ σ' σ0 σ1 : L2.St} {S S0 S1 S2 : List Sl} {H H0 H' H1 H2 Hl : Hp} {Fs Fs0 Fs1 Fs2 : List (List Addr)} {Z : Addr → Prop} {ms ms1 ms2 rs rs2 is : List Nat} {d d' c c' : D} {v v' : V} {F F' F1 F2 FC : List Addr} {ow : Bool} {W : WX}
structure IM where
  run : List Sl → R (List D)
  own : Bool
  roots : List Nat
  muts : List Nat
/-- the heap as it was at what is gone over -/
def Stab (Hl : Hp) (F : List Addr) (H2 : Hp) : Prop := ∃ W : Addr → Prop, Keep W Hl H2 ∧ (∀ a, W a → Mut (Hl a)) ∧ ∀ a, W a → a ∉ F
theorem Stab.rep (s : Stab Hl F H2) (h : Rep K cls Hl d v F') (i : ∀ a ∈ F', a ∈ F) : Rep K cls H2 d v F' := by
  obtain ⟨W, k, m, n⟩ := s
  exact Rep.keep m k d v F' (fun a h w => n a w (i a h)) h
theorem Stab.reps {ds : List D} {vs : List V} (s : Stab Hl F H2) (h : Reps K cls Hl ds vs F') (i : ∀ a ∈ F', a ∈ F) : Reps K cls H2 ds vs F' := by
  obtain ⟨W, k, m, n⟩ := s
  exact Reps.keep m k ds vs F' (fun a h w => n a w (i a h)) h
theorem Stab.at {a : Addr} {o : HO} (s : Stab Hl F H2) (h : Hl a = some o) (i : a ∈ F ∨ ¬ Mut (some o)) : H2 a = some o := by
  obtain ⟨W, k, m, n⟩ := s
  refine k a o h fun w => ?_
  rcases i with i | i
  · exact n a w i
  · exact i (by have := m a w; rw [h] at this; exact this)
def ItOk (K : PySem.W.Frag) (cls : Nat → Addr) (J : It) (ds : List D) (Hl : Hp) (F : List Addr) : Prop :=
  ∃ G Y, Walk J ds.length G Y ∧ (∀ H2, Stab Hl F H2 → G H2) ∧ ∀ i H2 x H2', Stab Hl F H2 → Y i H2 x H2' → Same H2 H2' ∧ ∃ d FF, ds[i]? = some d ∧ Rep K cls H2' d x FF ∧ ∀ a ∈ FF, a ∈ F
/-- locked, or as it was -/
def LkOk (X : Cx) (H Hl : Hp) (F : List Addr) : Prop := Hl = H ∨ ∃ a o u, a ∈ F ∧ H a = some u ∧ Mut (some u) ∧ (∃ kvs, u = .dK kvs ∨ ∃ kvt, u = .dT kvt) ∧ Hl = upd H a (.frz o u) ∧ ∀ o' u', X.H_0 a ≠ some (.frz o' u')
def tI (X : Cx) (cls : Nat → Addr) (m : IM) : TI := fun σ H R => ∃ S Fs Z, SRel X.K cls σ S H Fs Z ∧ match m.run S with
  | .ok ds S' => ∀ J H' Hl Fs' F, SRel X.K cls σ S' H' Fs' Z → Stp m.muts S H Fs S' H' Fs' → HeldF m.own m.roots H' Fs' Z F → LkOk X H' Hl F → ItOk X.K cls J ds Hl F → R J Hl
  | .exc _ _ _ => False
  | .stuck => False
theorem PI.imp {tg e : Expr} {t t' : TI} (h : PI X tg e t) (i : ∀ σ H R, t' σ H R → t σ H R) : PI X tg e t' := ⟨fun pins s σ H R I q => h.run pins s σ H R I (i σ H R q)⟩
theorem PI.or {tg e : Expr} {t t' : TI} (h : PI X tg e t) (h' : PI X tg e t') : PI X tg e (fun σ H R => t σ H R ∨ t' σ H R) := ⟨fun pins s σ H R I q => q.elim (h.run pins s σ H R I) (h'.run pins s σ H R I)⟩
/-! ### the items -/
def charsD : List Nat → List D
  | [] => []
  | c :: r => .str [c] :: charsD r
theorem charsD_len : ∀ x, (charsD x).length = x.length
  | [] => rfl
  | c :: r => by rw [charsD, List.length_cons, charsD_len r, List.length_cons]
theorem charsD_get : ∀ (x : List Nat) (i : Nat), (charsD x)[i]? = x[i]?.map fun c => .str [c]
  | [], i => by simp [charsD]
  | c :: r, 0 => by simp [charsD]
  | c :: r, i + 1 => by rw [charsD]; simpa using charsD_get r i
def itemsOf : D → Option (List D)
  | .lst x => some x
  | .tup x => some x
  | .str x => some (charsD x)
  | .dct kvs => some (keysOf kvs)
  | _ => none
theorem it_list {a : Addr} {G : List Addr} {vs : List V} {ds : List D} (h : Hl a = some (.lst vs)) (r : Reps K cls Hl ds vs G) : ItOk K cls (Itl K a) ds Hl (a :: G) := by
  refine ⟨_, _, by rw [r.length]; exact walk_list, fun H2 s => SqL.of (s.at h (.inl (by simp))), fun i H2 x H2' s y => ?_⟩
  obtain ⟨rfl, hx⟩ := y
  have r2 := s.reps r (fun a m => List.mem_cons_of_mem _ m)
  obtain ⟨d, G', e1, e2, e3⟩ := r2.part hx
  exact ⟨Same.refl, d, G', e1, e2, fun b m => List.mem_cons_of_mem _ (e3.subset m)⟩
theorem it_tup {a : Addr} {G : List Addr} {vs : List V} {ds : List D} (h : Hl a = some (.tup vs)) (r : Reps K cls Hl ds vs G) : ItOk K cls (Itt K a) ds Hl G := by
  refine ⟨_, _, by rw [r.length]; exact walk_tup, fun H2 s => SqT.of (s.at h (.inr fun z => z)), fun i H2 x H2' s y => ?_⟩
  obtain ⟨rfl, hx⟩ := y
  have r2 := s.reps r (fun a m => m)
  obtain ⟨d, G', e1, e2, e3⟩ := r2.part hx
  exact ⟨Same.refl, d, G', e1, e2, fun b m => e3.subset m⟩
theorem it_str {x : List Nat} {F : List Addr} : ItOk K cls (Its (S' x)) (charsD x) Hl F := by
  have w : Walk (Its (S' x)) (charsD x).length (fun _ => True) (fun i H v H' => H' = H ∧ ∃ c, (S' x).cps[i]? = some c ∧ v = .str ⟨#[c]⟩) := by
    rw [charsD_len]
    have := walk_str (z := S' x)
    rw [show (S' x).cps.size = x.length from List.size_toArray ..] at this
    exact this
  refine ⟨_, _, w, fun H2 s => trivial, fun i H2 y H2' s q => ?_⟩
  obtain ⟨rfl, ch, e1, rfl⟩ := q
  have e1 : x[i]? = some ch := by simpa using e1
  exact ⟨Same.refl, .str [ch], [], by rw [charsD_get, e1]; rfl, rStr (by simp [sizeLine]), fun a m => by cases m⟩
def rangeD (lo : Int) : Nat → List D
  | 0 => []
  | n + 1 => .int lo :: rangeD (lo + 1) n
theorem rangeD_len : ∀ (n : Nat) (lo : Int), (rangeD lo n).length = n
  | 0, _ => rfl
  | n + 1, lo => by rw [rangeD, List.length_cons, rangeD_len n]
theorem rangeD_get : ∀ (n : Nat) (lo : Int) (i : Nat), i < n → (rangeD lo n)[i]? = some (.int (lo + i))
  | 0, _, i, h => absurd h (Nat.not_lt_zero _)
  | n + 1, lo, 0, _ => by rw [rangeD]; simp
  | n + 1, lo, i + 1, h => by
    rw [rangeD]
    have := rangeD_get n (lo + 1) i (by omega)
    simp only [List.getElem?_cons_succ]
    rw [this]
    congr 2
    omega
theorem it_range {lo : Int} {n : Nat} {F : List Addr} : ItOk K cls (Itr lo n) (rangeD lo n) Hl F := by
  have w : Walk (Itr lo n) (rangeD lo n).length (fun _ => True) (fun i H x H' => i < n ∧ H' = H ∧ x = .int (lo + i)) := by
    rw [rangeD_len]
    exact ⟨fun i H h _ => walk_range.goes i H h trivial, fun H _ => walk_range.stops H trivial, fun i H x H' h _ y => ⟨h, walk_range.yields i H x H' h trivial y⟩⟩
  refine ⟨_, _, w, fun H2 s => trivial, fun i H2 y H2' s q => ?_⟩
  obtain ⟨hi, rfl, rfl⟩ := q
  exact ⟨Same.refl, _, [], rangeD_get n lo i hi, rInt, fun a m => by cases m⟩
/-! dicts: locked where they stand -/
def tLk (X : Cx) (te : TE) : TE := fun σ H Q => te σ H fun x H1 => ∃ a, x = .ref a ∧ ((∃ o u, H1 a = some (.frz o u) ∧ Q x H1) ∨ ∃ u, H1 a = some u ∧ Mut (some u) ∧ ∀ o, (∀ o' u', X.H_0 a ≠ some (.frz o' u')) → Q x (upd H1 a (.frz o u)))
theorem pe_lockA {e : Expr} {te : TE} (he : PE X e te) : PE X e (tLk X te) := by
  refine ⟨fun pins s σ H Q I h => ?_⟩
  refine thn (he.run pins s σ H _ I h) fun u s1 ⟨x, H1, I1, r1, a, ex, q⟩ => ?_
  subst ex
  rcases q with ⟨o, w, e1, q⟩ | ⟨w, e1, mu, q⟩
  · exact ⟨_, H1, I1, r1, q⟩
  · obtain ⟨od, I2⟩ := I1.lock e1 mu
    exact ⟨_, _, I2, r1, q od (I1.nofrz e1 mu)⟩
theorem it_keysK {a : Addr} {o : Obj} {ks : List Key} {vs : List V} {F : List Addr} (h : Hl a = some (.frz o (.dK (ks.zip vs)))) (l : ks.length = vs.length) (hb : ∀ d ∈ ks.map keyD, bd d) (ha : a ∈ F) : ItOk K cls (Itk a o (ks.zip vs)) (ks.map keyD) Hl F := by
  have hl : (ks.map keyD).length = (ks.zip vs).length := by rw [List.length_map, List.length_zip, ← l, Nat.min_self]
  refine ⟨_, _, by rw [hl]; exact walk_keys, fun H2 s => s.at h (.inl ha), fun i H2 x H2' s y => ?_⟩
  obtain ⟨rfl, k, v, e1, rfl⟩ := y
  rw [List.getElem?_zip_eq_some] at e1
  have r := keys_reps (K := K) (cls := cls) (H := H2') (ks := ks) fun k hk => hb _ (List.mem_map.mpr ⟨k, hk, rfl⟩)
  obtain ⟨d, G, e2, e3, e4⟩ := r.part (i := i) (v := kV k) (by rw [List.getElem?_map, e1.1]; rfl)
  have : G = [] := List.eq_nil_of_sublist_nil e4
  subst this
  exact ⟨Same.refl, d, [], e2, e3, fun a m => by cases m⟩
theorem keyT_rep {k : List Key} {q : Addr} (h : H2 q = some (.tup (k.map kV))) (hb : bd (keysD k)) : Rep K cls H2 (keysD k) (.ref q) [] := by
  refine rTup (x := k.map keyD) h (keys_reps fun z hz => ?_)
  have := hb (keyD z) (List.mem_map.mpr ⟨z, hz, rfl⟩)
  cases z with
  | inl i => trivial
  | inr x => exact this
theorem it_keysT {a : Addr} {o : Obj} {ks : List (List Key)} {vs : List V} {F : List Addr} (h : Hl a = some (.frz o (.dT (ks.zip vs)))) (l : ks.length = vs.length) (hb : ∀ d ∈ ks.map keysD, bd d) (ha : a ∈ F) : ItOk K cls (Itkt a o (ks.zip vs)) (ks.map keysD) Hl F := by
  have hl : (ks.map keysD).length = (ks.zip vs).length := by rw [List.length_map, List.length_zip, ← l, Nat.min_self]
  refine ⟨_, _, by rw [hl]; exact walk_keysT, fun H2 s => s.at h (.inl ha), fun i H2 x H2' s y => ?_⟩
  obtain ⟨rfl, k, v, q, e1, rfl, e2⟩ := y
  rw [List.getElem?_zip_eq_some] at e1
  exact ⟨Same.refl, keysD k, [], by rw [List.getElem?_map, e1.1]; rfl, keyT_rep e2 (hb _ (List.mem_map.mpr ⟨k, List.mem_of_getElem? e1.1, rfl⟩)), fun a m => by cases m⟩
/-- e itself -/
def xIt (a : SE) (f : D → Option (List D)) : List Sl → R (List D) := fun s => match a s with
  | .ok d s' => (match f d with
    | some ds => .ok ds s'
    | none => .stuck)
  | .exc c d s => .exc c d s
  | .stuck => .stuck
def mIt (m : EM) (f : D → Option (List D)) : IM := ⟨xIt m.run f, m.own, m.roots, m.muts⟩
/-- from the container's reading to the iterator's -/
theorem it_want {m : EM} {f : D → Option (List D)} {R : It → Hp → Prop} {P : VK} (h : tI X cls (mIt m f) σ H R)
    (k : ∀ d ds v H' F, f d = some ds → Rep X.K cls H' d v F → (∀ J Hl, LkOk X H' Hl F → ItOk X.K cls J ds Hl F → R J Hl) → P v H') : tE X.K cls W m σ H P := by
  obtain ⟨S, Fs, Z, r, h⟩ := h
  refine ⟨S, Fs, Z, r, ?_⟩
  unfold mIt xIt at h
  dsimp only at h
  cases e : m.run S with
  | exc c d s => rw [e] at h; exact h
  | stuck => rw [e] at h; exact h
  | ok d S1 =>
    rw [e] at h
    dsimp only at h
    cases ef : f d with
    | none => rw [ef] at h; exact h.elim
    | some ds =>
      rw [ef] at h
      intro v H' Fs' F r' st hd ho
      exact k d ds v H' F ef hd.rep fun J Hl l it => h J H' Hl Fs' F r' st hd.f l it
/-- what kind of data it will be -/
theorem run_kind {m : EM} {f : D → Option (List D)} {R : It → Hp → Prop} (h : tI X cls (mIt m f) σ H R) : ∃ d, ∀ f', f' d = f d → (∀ d', d' ≠ d → f' d' = none) → tI X cls (mIt m f') σ H R := by
  obtain ⟨S, Fs, Z, r, h⟩ := h
  unfold mIt xIt at h
  dsimp only at h
  cases e : m.run S with
  | exc c d s => rw [e] at h; exact h.elim
  | stuck => rw [e] at h; exact h.elim
  | ok d S1 =>
    refine ⟨d, fun f' h1 h2 => ⟨S, Fs, Z, r, ?_⟩⟩
    unfold mIt xIt
    dsimp only
    rw [e] at h ⊢
    dsimp only at h ⊢
    rw [h1]
    exact h
theorem s_iter {tg e : Expr} {m : EM} (he : PE X e (tE X.K cls W m)) : PI X tg e (tI X cls (mIt m itemsOf)) := by
  refine PI.imp (PI.or (PI.or (pi_list he) (pi_tup he)) (PI.or (pi_str he) (pi_keys (pe_lockA he)))) fun σ H R h => ?_
  have g := h
  obtain ⟨S, Fs, Z, r, h⟩ := h
  unfold mIt xIt at h
  dsimp only at h
  cases e : m.run S with
  | exc c d s => rw [e] at h; exact h.elim
  | stuck => rw [e] at h; exact h.elim
  | ok d S1 =>
    rw [e] at h
    dsimp only at h
    cases d with
    | lst x =>
      refine .inl (.inl ⟨S, Fs, Z, r, ?_⟩)
      rw [e]
      intro v H' Fs' F r' st hd ho
      obtain ⟨a, vs, G, rfl, eG, t, rr⟩ := rLst' hd.rep
      exact ⟨a, rfl, ⟨vs, SqL.of t⟩, h (Itl X.K a) H' H' Fs' F r' st hd.f (.inl rfl) (by rw [eG]; exact it_list t rr)⟩
    | tup x =>
      refine .inl (.inr ⟨S, Fs, Z, r, ?_⟩)
      rw [e]
      intro v H' Fs' F r' st hd ho
      obtain ⟨a, vs, rfl, t, rr⟩ := rTupS hd.rep
      exact ⟨a, rfl, ⟨vs, SqT.of t⟩, h (Itt X.K a) H' H' Fs' F r' st hd.f (.inl rfl) (it_tup t rr)⟩
    | str x =>
      refine .inr (.inl ⟨S, Fs, Z, r, ?_⟩)
      rw [e]
      intro v H' Fs' F r' st hd ho
      exact ⟨S' x, (rStr' hd.rep).1, h (Its (S' x)) H' H' Fs' F r' st hd.f (.inl rfl) it_str⟩
    | dct kvs =>
      refine .inr (.inr ⟨S, Fs, Z, r, ?_⟩)
      rw [e]
      intro v H' Fs' F r' st hd ho
      obtain ⟨a, vs, G, rfl, eG, ⟨hb, t⟩, rr⟩ := dct_ref hd.rep
      have ha : a ∈ F := by rw [eG]; simp
      simp only [itemsOf, keysOf_eq] at h
      refine ⟨a, rfl, ?_⟩
      rcases t with ⟨ks, ek, l, rd⟩ | ⟨ks, ek, l, rd⟩
      · rw [ek] at h hb
        rcases rd with h1 | ⟨o, h1⟩
        · refine .inr ⟨_, h1, trivial, fun o nf => ⟨a, o, rfl, .inl ⟨_, upd_same, ?_⟩⟩⟩
          exact h _ H' _ Fs' F r' st hd.f (.inr ⟨a, o, _, ha, h1, trivial, ⟨_, .inl rfl⟩, rfl, nf⟩) (it_keysK upd_same l hb ha)
        · refine .inl ⟨o, _, h1, a, o, rfl, .inl ⟨_, h1, ?_⟩⟩
          exact h _ H' H' Fs' F r' st hd.f (.inl rfl) (it_keysK h1 l hb ha)
      · rw [ek] at h hb
        rcases rd with h1 | ⟨o, h1⟩
        · refine .inr ⟨_, h1, trivial, fun o nf => ⟨a, o, rfl, .inr ⟨_, upd_same, ?_⟩⟩⟩
          exact h _ H' _ Fs' F r' st hd.f (.inr ⟨a, o, _, ha, h1, trivial, ⟨[], .inr ⟨_, rfl⟩⟩, rfl, nf⟩) (it_keysT upd_same l hb ha)
        · refine .inl ⟨o, _, h1, a, o, rfl, .inr ⟨_, h1, ?_⟩⟩
          exact h _ H' H' Fs' F r' st hd.f (.inl rfl) (it_keysT h1 l hb ha)
    | non => exact h.elim
    | bl b => exact h.elim
    | int i => exact h.elim
    | ins c fs => exact h.elim
/-! range -/
def small62 (i : Int) : Bool := decide (-1000000000000 < i) && decide (i < 1000000000000)
def rng1 : List D → Option (List D)
  | [.int j] => if small62 j then some (rangeD 0 j.toNat) else none
  | _ => none
def rng2 : List D → Option (List D)
  | [.int i, .int j] => if small62 i && small62 j then some (rangeD i (j - i).toNat) else none
  | _ => none
/-- new or scalar items from arguments -/
def xRng (op : List D → Option (List D)) (l : List EM) : List Sl → R (List D) := fun s => match eAL l s with
  | .ok ds s' => (match op ds with
    | some xs => .ok xs s'
    | none => .stuck)
  | .exc c d s => .exc c d s
  | .stuck => .stuck
def mRng (op : List D → Option (List D)) (l : List EM) : IM := ⟨xRng op l, true, [], lMuts l⟩
theorem small62_of {i : Int} (h : small62 i = true) : -(2 ^ 62) ≤ i ∧ i < 2 ^ 62 := by
  unfold small62 at h
  rw [Bool.and_eq_true, decide_eq_true_eq, decide_eq_true_eq] at h
  omega
theorem rng_run {op : List D → Option (List D)} {l : List EM} {R : It → Hp → Prop} {P : List V → Hp → Prop} (h : tI X cls (mRng op l) σ H R)
    (k : ∀ ds xs vs H' F, op ds = some xs → Reps X.K cls H' ds vs F → (∀ J, ItOk X.K cls J xs H' [] → R J H') → P vs H') : tAL X.K cls l σ H P := by
  obtain ⟨S, Fs, Z, r, h⟩ := h
  refine ⟨S, Fs, Z, r, ?_⟩
  unfold mRng xRng at h
  dsimp only at h
  cases e : eAL l S with
  | exc c d s => rw [e] at h; exact h
  | stuck => rw [e] at h; exact h
  | ok ds S1 =>
    rw [e] at h
    dsimp only at h ⊢
    intro vs H' Fs' F r' st hd
    cases er : op ds with
    | none => rw [er] at h; exact h.elim
    | some xs =>
      rw [er] at h
      exact k ds xs vs H' F er hd.reps fun J it => h J H' H' Fs' [] r' st (Held.scal (rNon (K := X.K) (cls := cls))).f (.inl rfl) it
theorem s_rng1 {tg a : Expr} {p pos : Pos} {m : EM} (hg : Gl X "range") (hm : X.mg "range" = none) (ha : PA X [a] (tAL X.K cls [m])) (hs : starEach [a] X.env = [(false, eval a X.env)]) : PI X tg (.Call (.Name "range" p) [a] [] pos) (tI X cls (mRng rng1 [m])) := by
  refine PI.imp (pi_range1 hg hm ha hs) fun σ H R h => rng_run h fun ds xs vs H' F er rr q => ?_
  unfold rng1 at er
  split at er
  · split at er
    · rename_i j c
      cases er
      obtain ⟨v, rfl, h1⟩ := reps1 rr
      obtain ⟨c1, c2⟩ := small62_of c
      exact ⟨j, by rw [rInt' h1], c1, c2, q _ it_range⟩
    · cases er
  · cases er
theorem s_rng2 {tg a b : Expr} {p pos : Pos} {m1 m2 : EM} (hg : Gl X "range") (hm : X.mg "range" = none) (ha : PA X [a, b] (tAL X.K cls [m1, m2])) (hs : starEach [a, b] X.env = [(false, eval a X.env), (false, eval b X.env)]) (hs2 : starEach [b] X.env = [(false, eval b X.env)]) : PI X tg (.Call (.Name "range" p) [a, b] [] pos) (tI X cls (mRng rng2 [m1, m2])) := by
  refine PI.imp (pi_range2 hg hm ha hs hs2) fun σ H R h => rng_run h fun ds xs vs H' F er rr q => ?_
  unfold rng2 at er
  split at er
  · split at er
    · rename_i i j c
      cases er
      rw [Bool.and_eq_true] at c
      obtain ⟨v, w, F1, F2, rfl, h1, h2⟩ := reps2 rr
      obtain ⟨c1, c2⟩ := small62_of c.1
      obtain ⟨c3, c4⟩ := small62_of c.2
      exact ⟨i, j, by rw [rInt' h1, rInt' h2], ⟨c1, c2, c3, c4⟩, q _ it_range⟩
    · cases er
  · cases er
end Bv
end

section
/-! for. -/
namespace Bv
open PySem PySem.Spec PyProof.Rows L2
variable {K : PySem.W.Frag} {cls : Nat → Addr} {X : Cx}
variable {σ σ' σ0 σ1 : L2.St} {S S0 S1 S2 : List Sl} {H H0 H' H1 H2 Hl : Hp} {Fs Fs0 Fs1 Fs2 : List (List Addr)} {Z : Addr → Prop} {ms ms1 ms2 rs rs2 : List Nat} {d d' c c' : D} {v v' : V} {F F' F1 F2 FC : List Addr} {ow : Bool} {W : WX}
def itm (d : D) : Sl := if im d then .own d else .ro d
/-- a name bound to data that is only read -/
theorem SRel.setRo {i : Nat} {G : List Addr} (r : SRel K cls σ S H Fs Z) (hi : i < S.length) (rep : Rep K cls H d v G) (z : ∀ a ∈ G, Z a) : SRel K cls (σ.set i (some v)) (S.set i (.ro d)) H (Fs.set i []) Z := by
  obtain ⟨F0, e0⟩ := fs_get r hi
  have sub := flat_sub (G := []) e0 (fun a m => by cases m)
  have hσ : i < σ.length := by rw [r.sl]; exact hi
  refine ⟨by rw [List.length_set, List.length_set, r.len], by rw [List.length_set, List.length_set, r.sl], fun j d q => ?_, fun j d q => ?_, fun a m => r.mu a (sub a m), (flat_out r.nd e0).2.1, fun a m => r.dj a (sub a m), r.zs⟩
  · rw [set_get hi] at q
    by_cases hj : i = j
    · rw [if_pos hj] at q; cases q
    · rw [if_neg hj] at q
      rw [List.getElem?_set_ne hj, List.getElem?_set_ne hj]
      exact r.ow j d q
  · rw [set_get hi] at q
    by_cases hj : i = j
    · subst hj
      rw [if_pos rfl] at q
      cases q
      exact ⟨v, G, List.getElem?_set_self hσ, rep, z⟩
    · rw [if_neg hj] at q
      rw [List.getElem?_set_ne hj]
      exact r.ro j d q
theorem SRel.item {i : Nat} {G : List Addr} (r : SRel K cls σ S H Fs Z) (hi : i < S.length) (rep : Rep K cls H d v G) (z : ∀ a ∈ G, Z a) : SRel K cls (σ.set i (some v)) (S.set i (itm d)) H (Fs.set i []) Z := by
  unfold itm
  by_cases h : im d = true
  · rw [if_pos h]
    have g := Rep.im d h rep
    subst g
    obtain ⟨F0, e0⟩ := fs_get r hi
    have hσ : i < σ.length := by rw [r.sl]; exact hi
    exact r.put e0 Keep.refl' rep List.nodup_nil (fun a m => by cases m) (by rw [List.length_set]) (List.getElem?_set_self hσ) (fun j hj => List.getElem?_set_ne fun z => hj z.symm)
  · rw [if_neg h]
    exact r.setRo hi rep z
inductive Tg where
  | one (i : Nat) | tup (is : List Nat)
def Tg.ix : Tg → List Nat
  | .one i => [i]
  | .tup is => is
def setItms : List Sl → List Nat → List D → List Sl
  | S, i :: is, d :: ds => setItms (S.set i (itm d)) is ds
  | S, _, _ => S
def tgt : Tg → D → List Sl → Option (List Sl)
  | .one i, d, S => if Nat.blt i S.length then some (S.set i (itm d)) else none
  | .tup is, .tup ds, S => if inS S is && Nat.beq ds.length is.length then some (setItms S is ds) else none
  | .tup _, _, _ => none
def gTg (K : PySem.W.Frag) : Tg → TG
  | .one i => gName i
  | .tup is => gTup K is.length (gAll is)
theorem SRel.items : ∀ (is : List Nat) (ds : List D) (vs : List V) (σ : L2.St) (S : List Sl) (Fs : List (List Addr)) (G : List Addr), SRel K cls σ S H Fs Z → Reps K cls H ds vs G → (∀ a ∈ G, Z a) → is.length = ds.length → (∀ i ∈ is, i < S.length) →
    ∃ Fs', SRel K cls (setAllV σ is vs) (setItms S is ds) H Fs' Z ∧ (∀ j, j ∉ is → Fs'[j]? = Fs[j]? ∧ (setItms S is ds)[j]? = S[j]? ∧ (setAllV σ is vs)[j]? = σ[j]?) ∧ ∀ j ∈ is, ∀ G, Fs'[j]? = some G → G = []
  | [], ds, vs, σ, S, Fs, G, r, h, z, l, b => by
    have : ds = [] := by cases ds with | nil => rfl | cons _ _ => cases l
    subst this
    exact ⟨Fs, by cases vs <;> exact r, fun j _ => ⟨rfl, by cases vs <;> rfl, by cases vs <;> rfl⟩, fun j q => by cases q⟩
  | i :: is, [], vs, σ, S, Fs, G, r, h, z, l, b => by cases l
  | i :: is, d :: ds, vs, σ, S, Fs, G, r, h, z, l, b => by
    obtain ⟨v, vr, F1, F2, rfl, rfl, h1, h2⟩ := h.uncons
    have hi : i < S.length := b i (by simp)
    have r1 := r.item hi h1 (fun a m => z a (List.mem_append_left _ m))
    obtain ⟨Fs', a1, a2, a3⟩ := SRel.items is ds vr _ _ _ F2 r1 h2 (fun a m => z a (List.mem_append_right _ m)) (by simpa using l) (fun j m => by rw [List.length_set]; exact b j (List.mem_cons_of_mem _ m))
    have hF : i < Fs.length := by rw [← r.len]; exact hi
    refine ⟨Fs', a1, fun j hj => ?_, fun j hj G eG => ?_⟩
    · rw [List.mem_cons, not_or] at hj
      have ne : i ≠ j := fun z => hj.1 z.symm
      obtain ⟨b1, b2, b3⟩ := a2 j hj.2
      exact ⟨b1.trans (List.getElem?_set_ne ne), b2.trans (List.getElem?_set_ne ne), b3.trans (List.getElem?_set_ne ne)⟩
    · by_cases q : j ∈ is
      · exact a3 j q G eG
      · have := (List.mem_cons.mp hj).resolve_right q
        subst this
        rw [(a2 j q).1, List.getElem?_set_self hF] at eG
        cases eG
        rfl
theorem tgt_run {tg : Tg} {x : V} {G : List Addr} {Q : L2.St → Hp → Prop} (r : SRel K cls σ S H Fs Z) (rep : Rep K cls H d x G) (z : ∀ a ∈ G, Z a) (e : tgt tg d S = some S1) (q : ∀ σ' Fs', SRel K cls σ' S1 H Fs' Z → Stp tg.ix S H Fs S1 H Fs' → Fx tg.ix σ σ' → Q σ' H) : gTg K tg x σ H Q := by
  have fin : ∀ (is : List Nat) (ds : List D) (vs : List V) (G : List Addr), Reps K cls H ds vs G → (∀ a ∈ G, Z a) → is.length = ds.length → (∀ i ∈ is, i < S.length) → (∀ σ' Fs', SRel K cls σ' (setItms S is ds) H Fs' Z → Stp is S H Fs (setItms S is ds) H Fs' → Fx is σ σ' → Q σ' H) → Q (setAllV σ is vs) H := fun is ds vs G rr z l b q => by
    obtain ⟨Fs', a1, a2, a3⟩ := SRel.items is ds vs σ S Fs G r rr z l b
    refine q _ Fs' a1 ⟨Keep.refl, fun j hj => ⟨(a2 j hj).2.1, (a2 j hj).1⟩, fun j hj G e a m => ?_⟩ fun j hj => (a2 j hj).2.2
    rw [a3 j hj G e] at m
    cases m
  cases tg with
  | one i =>
    have e : (if Nat.blt i S.length = true then some (S.set i (itm d)) else none) = some S1 := by cases d <;> exact e
    split at e
    · rename_i h
      cases e
      rw [Nat.blt_eq] at h
      exact fin [i] [d] [x] G rep.one z rfl (fun j m => by
        have : j = i := by simpa using m
        subst this; exact h) q
    · cases e
  | tup is =>
    cases d with
    | tup ds =>
      have e : (if (inS S is && Nat.beq ds.length is.length) = true then some (setItms S is ds) else none) = some S1 := e
      split at e
      · rename_i h
        cases e
        rw [Bool.and_eq_true] at h
        have hl : ds.length = is.length := Nat.eq_of_beq_eq_true h.2
        obtain ⟨a, vs, rfl, t, rr⟩ := rTup' rep
        exact ⟨a, vs, rfl, t, by rw [← rr.length]; exact hl, by rw [← rr.length]; exact hl, fin is ds vs G rr z hl.symm (inS_of h.1) q⟩
      · cases e
    | _ => cases e

/-! ### the turns -/
def loopR (tg : Tg) (body : List Sl → RS) : List D → List Sl → RS
  | [], S => .nx S
  | d :: ds, S => match tgt tg d S with
    | some S1 => (match body S1 with
      | .nx S2 => loopR tg body ds S2
      | .ct S2 => loopR tg body ds S2
      | .bk S2 => .nx S2
      | .rt d S2 => .rt d S2
      | .exc c d s => .exc c d s
      | .stuck => .stuck)
    | none => .stuck
def thawR (S0 : List Sl) (is ms : List Nat) : RS → RS
  | .nx S1 => .nx (thaw S1 S0 is ms)
  | .rt d S1 => .rt d (thaw S1 S0 is ms)
  | .bk S1 => .stuck
  | .ct S1 => .stuck
  | .exc c d s => .stuck
  | .stuck => .stuck
def xFor (it : List Sl → R (List D)) (tg : Tg) (body : List Sl → RS) (is ms : List Nat) : List Sl → RS := fun s => match it s with
  | .ok ds s' => thawR s' is ms (loopR tg body ds (frzS s' is))
  | .exc c d s => .exc c d s
  | .stuck => .stuck
/-- is: the slots that are gone over; ms: those that change -/
def mFor (it : IM) (tg : Tg) (b : SM) (is ms : List Nat) : SM := ⟨xFor it.run tg b.run is ms, it.muts ++ ms, tg.ix ++ b.asg⟩
def subL (a b : List Nat) : Bool := a.all fun i => b.contains i
theorem subL_of {a b : List Nat} (h : subL a b = true) : ∀ i ∈ a, i ∈ b := fun i m => by
  have := List.all_eq_true.mp h i m
  simpa using this
def disL (a b : List Nat) : Bool := a.all fun i => !b.contains i
theorem disL_of {a b : List Nat} (h : disL a b = true) : ∀ i ∈ a, i ∉ b := fun i m n => by
  have := List.all_eq_true.mp h i m
  simp [n] at this
/-- a statement that may leave a dict locked: it is unlocked behind -/
def tUnl (X : Cx) (t : TS) : TS := fun D' σ H => t
  ⟨fun σ' H' => D'.nx σ' H' ∨ ∃ a o u, H' a = some (.frz o u) ∧ (∀ o' u', X.H_0 a ≠ some (.frz o' u')) ∧ D'.nx σ' (upd H' a u),
   fun v H' => D'.rt v H' ∨ ∃ a o u, H' a = some (.frz o u) ∧ (∀ o' u', X.H_0 a ≠ some (.frz o' u')) ∧ D'.rt v (upd H' a u),
   fun σ' H' => D'.bk σ' H' ∨ ∃ a o u, H' a = some (.frz o u) ∧ (∀ o' u', X.H_0 a ≠ some (.frz o' u')) ∧ D'.bk σ' (upd H' a u),
   fun σ' H' => D'.ct σ' H' ∨ ∃ a o u, H' a = some (.frz o u) ∧ (∀ o' u', X.H_0 a ≠ some (.frz o' u')) ∧ D'.ct σ' (upd H' a u)⟩ σ H
theorem ps_unl {st : Stmt} {t : TS} (h : PS X st t) : PS X st (tUnl X t) := by
  refine ⟨fun pins s σ H D' I q => thn (h.run pins s σ H _ I q) fun f s' y => ?_⟩
  cases f with
  | next =>
    obtain ⟨σ', H', I', y | ⟨a, o, u, e, nf, y⟩⟩ := y
    · exact ⟨σ', H', I', y⟩
    · exact ⟨σ', _, I'.unlock e nf, y⟩
  | brk =>
    obtain ⟨σ', H', I', y | ⟨a, o, u, e, nf, y⟩⟩ := y
    · exact ⟨σ', H', I', y⟩
    · exact ⟨σ', _, I'.unlock e nf, y⟩
  | cont =>
    obtain ⟨σ', H', I', y | ⟨a, o, u, e, nf, y⟩⟩ := y
    · exact ⟨σ', H', I', y⟩
    · exact ⟨σ', _, I'.unlock e nf, y⟩
  | ret u0 =>
    obtain ⟨v, σ', H', I', rv, y | ⟨a, o, u, e, nf, y⟩⟩ := y
    · exact ⟨v, σ', H', I', rv, y⟩
    · exact ⟨v, σ', _, I'.unlock e nf, rv, y⟩
/-- the heap behind the loop: unlocked if it was locked here -/
def Unl (X : Cx) (H' Hl H1 H2 : Hp) (F : List Addr) : Prop := (Hl = H' ∧ H2 = H1) ∨ ∃ a o u, a ∈ F ∧ H' a = some u ∧ Mut (some u) ∧ (∃ kvs, u = .dK kvs ∨ ∃ kvt, u = .dT kvt) ∧ Hl = upd H' a (.frz o u) ∧ (∀ o' u', X.H_0 a ≠ some (.frz o' u')) ∧ H1 a = some (.frz o u) ∧ H2 = upd H1 a u
theorem Stab.of (st : Stp ms S0 Hl Fs0 S1 H1 Fs1) (r : SRel K cls σ S0 Hl Fs0 Z) (hz : ∀ a ∈ F, Z a) : Stab Hl F H1 := ⟨Wm Fs0 ms, st.keep, r.wmut, fun a w m => r.dj a w.flat (hz a m)⟩
theorem for_fin {it : IM} {tg : Tg} {b : SM} {is ms : List Nat} {D' : Ends} {J : It} {Fs' : List (List Addr)} {ds : List D} {S' : List Sl} (h0 : SRel X.K cls σ S H Fs Z)
    (hsub : ∀ i ∈ tg.ix ++ b.muts, i ∈ ms) (hasg : ∀ i ∈ tg.ix ++ b.asg, i ∈ ms) (hdis : ∀ i ∈ is, i ∉ ms) (hrt : it.own = false → ∀ i ∈ it.roots, i ∈ is)
    (r : SRel X.K cls σ S' H' Fs' Z) (st : Stp it.muts S H Fs S' H' Fs') (hd : HeldF it.own it.roots H' Fs' Z F) (lk : LkOk X H' Hl F) (io : ItOk X.K cls J ds Hl F)
    (hf : Fin X.K cls (mFor it tg b is ms) σ S H Fs Z D' (thawR S' is ms (loopR tg b.run ds (frzS S' is)))) :
    ∃ W : Nat → Nat → L2.St → Hp → Prop, (∃ m, W 0 m σ Hl) ∧ ∀ i m σ H, W i m σ H →
      (J.stop i H ∧ (D'.nx σ H ∨ ∃ a o u, H a = some (.frz o u) ∧ (∀ o' u', X.H_0 a ≠ some (.frz o' u')) ∧ D'.nx σ (upd H a u))) ∨
      (J.go i H ∧ ∃ N : L2.St → Hp → Prop, (∀ σ' H', N σ' H' → ∃ m', m' < m ∧ W (i + 1) m' σ' H') ∧ ∀ x H', J.yld i H x H' → gTg X.K tg x σ H' fun σ2 H2 => tS X.K cls b
        { nx := N, rt := fun v H' => D'.rt v H' ∨ ∃ a o u, H' a = some (.frz o u) ∧ (∀ o' u', X.H_0 a ≠ some (.frz o' u')) ∧ D'.rt v (upd H' a u), bk := fun σ H => D'.nx σ H ∨ ∃ a o u, H a = some (.frz o u) ∧ (∀ o' u', X.H_0 a ≠ some (.frz o' u')) ∧ D'.nx σ (upd H a u), ct := N } σ2 H2) := by
  have hd' : HeldF it.own is H' Fs' Z F := ⟨hd.al, hd.own, fun e a m z => (hd.bor e a m z).mono (hrt e)⟩
  -- locked
  have lk1 : Lk H' Hl := by
    rcases lk with rfl | ⟨a, o, u, ha, h1, mu, kd, e, nf⟩
    · exact .inl rfl
    · exact .inr ⟨a, o, u, mu, kd, .inl ⟨h1, e⟩⟩
  have hne : ∀ a, Hl a ≠ H' a → a ∈ F := fun a n => by
    rcases lk with rfl | ⟨b, o, u, ha, h1, mu, kd, e, nf⟩
    · exact absurd rfl n
    · by_cases z : a = b
      · subst z; exact ha
      · rw [e, upd_ne z] at n; exact absurd rfl n
  have rf := r.freeze hd' lk1 hne
  have zF : ∀ a ∈ F, Zof Z Fs' is F a := fun a m => .inr (.inr m)
  -- what stands behind the loop's turns
  have out : ∀ (σ1 : L2.St) (S1 : List Sl) (H1 : Hp) (Fs1 : List (List Addr)), SRel X.K cls σ1 S1 H1 Fs1 (Zof Z Fs' is F) → Stp ms (frzS S' is) Hl (clrF Fs' is) S1 H1 Fs1 → Fx (tg.ix ++ b.asg) σ σ1 →
      ∃ H2, Thaw X.K cls σ S' H' Fs' Z is ms (tg.ix ++ b.asg) F Hl σ1 S1 H1 Fs1 H2 ∧ (H2 = H1 ∨ ∃ a o u, H1 a = some (.frz o u) ∧ (∀ o' u', X.H_0 a ≠ some (.frz o' u')) ∧ H2 = upd H1 a u) := fun σ1 S1 H1 Fs1 r1 st1 f1 => by
    have keepZ : ∀ a o, Zof Z Fs' is F a → Hl a = some o → H1 a = some o := fun a o z e => st1.keep a o e fun w => rf.dj a w.flat z
    have noneZ : ∀ a, Zof Z Fs' is F a → Hl a ≠ none := fun a z => rf.zs a z
    rcases lk with rfl | ⟨a, o, u, ha, h1, mu, kd, e, nf⟩
    · refine ⟨H1, ⟨r, rf, r1, st1, f1, .inl rfl, .inl rfl, fun a z => ?_, fun _ _ => rfl, fun _ _ => rfl, hdis, hasg⟩, .inl rfl⟩
      cases e : Hl a with
      | none => exact absurd e (noneZ a z)
      | some o => exact keepZ a o z e
    · have ea : H1 a = some (.frz o u) := keepZ a _ (zF a ha) (by rw [e, upd_same])
      refine ⟨upd H1 a u, ⟨r, rf, r1, st1, f1, lk1, .inr ⟨a, o, u, mu, kd, .inr ⟨ea, rfl⟩⟩, fun b z => ?_, fun b z => ?_, fun b z => ?_, hdis, hasg⟩, .inr ⟨a, o, u, ea, nf, rfl⟩⟩
      · by_cases q : b = a
        · subst q; rw [upd_same, h1]
        · rw [upd_ne q]
          have e2 : Hl b = H' b := by rw [e, upd_ne q]
          cases e3 : Hl b with
          | none => exact absurd e3 (noneZ b z)
          | some o2 => rw [keepZ b o2 z e3, ← e2, e3]
      · rw [upd_ne (show b ≠ a from fun q => z (by rw [q]; exact zF a ha))]
      · rw [e, upd_ne (show b ≠ a from fun q => z (by rw [q]; exact zF a ha))]
  obtain ⟨G, Y, wk, stab, yl⟩ := io
  have hfx : ∀ x ∈ (tg.ix ++ b.asg), x ∈ (mFor it tg b is ms).asg := fun x q => q
  -- the state ahead of the i-th turn
  let Pv : Nat → L2.St → Hp → Prop := fun i σ1 H1 => ∃ S1 Fs1, SRel X.K cls σ1 S1 H1 Fs1 (Zof Z Fs' is F) ∧ Stp ms (frzS S' is) Hl (clrF Fs' is) S1 H1 Fs1 ∧ Fx (tg.ix ++ b.asg) σ σ1 ∧
    loopR tg b.run ds (frzS S' is) = loopR tg b.run (ds.drop i) S1
  have nxOf : ∀ (σ1 : L2.St) (S1 : List Sl) (H1 : Hp) (Fs1 : List (List Addr)), SRel X.K cls σ1 S1 H1 Fs1 (Zof Z Fs' is F) → Stp ms (frzS S' is) Hl (clrF Fs' is) S1 H1 Fs1 → Fx (tg.ix ++ b.asg) σ σ1 → loopR tg b.run ds (frzS S' is) = .nx S1 →
      D'.nx σ1 H1 ∨ ∃ a o u, H1 a = some (.frz o u) ∧ (∀ o' u', X.H_0 a ≠ some (.frz o' u')) ∧ D'.nx σ1 (upd H1 a u) := fun σ1 S1 H1 Fs1 r1 st1 f1 e => by
    rw [e] at hf
    obtain ⟨H2, th, q⟩ := out σ1 S1 H1 Fs1 r1 st1 f1
    have g := hf σ1 H2 _ th.srel (st.trans h0 th.stp) f1
    rcases q with rfl | ⟨a, o, u, ea, nf, rfl⟩
    · exact .inl g
    · exact .inr ⟨a, o, u, ea, nf, g⟩
  refine for_it wk (D := { nx := fun σ H => D'.nx σ H ∨ ∃ a o u, H a = some (.frz o u) ∧ (∀ o' u', X.H_0 a ≠ some (.frz o' u')) ∧ D'.nx σ (upd H a u), rt := fun v H' => D'.rt v H' ∨ ∃ a o u, H' a = some (.frz o u) ∧ (∀ o' u', X.H_0 a ≠ some (.frz o' u')) ∧ D'.rt v (upd H' a u) }) (tb := tS X.K cls b) (g := gTg X.K tg) Pv
    ⟨frzS S' is, clrF Fs' is, rf, Stp.refl.mono (fun x q => by cases q), Fx.refl, rfl⟩ (fun i σ1 H1 hi ⟨S1, Fs1, r1, st1, _, _⟩ => stab H1 (Stab.of st1 rf zF)) (fun i x σ1 H1 H1' hi ⟨S1, Fs1, r1, st1, f1, e1⟩ y => ?_) (fun σ1 H1 ⟨S1, Fs1, r1, st1, f1, e1⟩ => ?_)
  · obtain ⟨sm, dd, FF, e2, rep, hFF⟩ := yl i H1 x H1' (Stab.of st1 rf zF) y
    have hdrop : ds.drop i = dd :: ds.drop (i + 1) := by
      obtain ⟨hi', e3⟩ := List.getElem?_eq_some_iff.mp e2
      rw [← e3]
      exact List.drop_eq_getElem_cons hi'
    rw [hdrop, loopR] at e1
    cases et : tgt tg dd S1 with
    | none => rw [et] at e1; rw [e1] at hf; exact hf.elim
    | some S2 =>
      rw [et] at e1
      dsimp only at e1
      have r1' := r1.same sm
      refine tgt_run r1' rep (fun a m => zF a (hFF a m)) et fun σ2 Fs2 r2 st2 f2 => ⟨S2, Fs2, _, r2, ?_⟩
      have st12 := (st1.trans rf (Stp.of_same (S := S1) (Fs := Fs1) sm)).trans rf st2
      rw [List.append_nil] at st12
      have st12 : Stp ms (frzS S' is) Hl (clrF Fs' is) S2 H1' Fs2 := st12.mono fun x q => (List.mem_append.mp q).elim id fun q => hsub x (List.mem_append_left _ q)
      have f12 : Fx (tg.ix ++ b.asg) σ σ2 := (f1.trans f2).mono fun x q => (List.mem_append.mp q).elim id fun q => List.mem_append_left _ q
      have more : ∀ {σ3 : L2.St} {H3 : Hp} {Fs3 : List (List Addr)} {S3 : List Sl}, Stp b.muts S2 H1' Fs2 S3 H3 Fs3 → Fx b.asg σ2 σ3 → Stp ms (frzS S' is) Hl (clrF Fs' is) S3 H3 Fs3 ∧ Fx (tg.ix ++ b.asg) σ σ3 := fun st3 f3 =>
        ⟨(st12.trans rf st3).mono fun x q => (List.mem_append.mp q).elim id fun q => hsub x (List.mem_append_right _ q), (f12.trans f3).mono fun x q => (List.mem_append.mp q).elim id fun q => List.mem_append_right _ q⟩
      cases eb : b.run S2 with
      | nx S3 =>
        rw [eb] at e1
        intro σ3 H3 Fs3 r3 st3 f3
        obtain ⟨s3, g3⟩ := more st3 f3
        exact ⟨S3, Fs3, r3, s3, g3, e1⟩
      | ct S3 =>
        rw [eb] at e1
        intro σ3 H3 Fs3 r3 st3 f3
        obtain ⟨s3, g3⟩ := more st3 f3
        exact ⟨S3, Fs3, r3, s3, g3, e1⟩
      | bk S3 =>
        rw [eb] at e1
        intro σ3 H3 Fs3 r3 st3 f3
        obtain ⟨s3, g3⟩ := more st3 f3
        exact nxOf σ3 S3 H3 Fs3 r3 s3 g3 e1
      | rt d3 S3 =>
        rw [eb] at e1
        intro v3 σ3 H3 Fs3 F3 r3 st3 f3 hd3 og3
        obtain ⟨s3, g3⟩ := more st3 f3
        rw [e1] at hf
        obtain ⟨H4, th, q⟩ := out σ3 S3 H3 Fs3 r3 s3 g3
        have og : Org true (it.muts ++ ms) H Fs F3 := Org.back st h0 (fun z a m => ?_)
        have hd4 : Held X.K cls true [] H4 (rstF Fs3 Fs' is) Z d3 v3 F3 := ⟨th.l2.rep hd3.rep, fun _ => ⟨(hd3.own rfl).1, fun a m => ?_⟩, fun z => by cases z⟩
        · have g := hf v3 σ3 H4 _ F3 th.srel (st.trans h0 th.stp) g3 hd4 og
          rcases q with rfl | ⟨a, o, u, ea, nf, rfl⟩
          · exact .inl g
          · exact .inr ⟨a, o, u, ea, nf, g⟩
        · obtain ⟨mu, nf, nz⟩ := (hd3.own rfl).2 a m
          refine ⟨by rw [th.hc a nz]; exact mu, fun z => ?_, fun z => nz (.inl z)⟩
          obtain ⟨j, G', e5, m5⟩ := mem_flat.mp z
          rw [rstF_get] at e5
          split at e5
          · rename_i y
            cases e6 : Fs'[j]? with
            | none => rw [e6] at e5; cases e5; cases m5
            | some G0 => rw [e6] at e5; cases e5; exact nz (.inr (.inl ⟨j, y.1, _, e6, m5⟩))
          · exact nf (mem_flat.mpr ⟨j, G', e5, m5⟩)
        · have back := Org.back st12 rf og3 z a m
          rcases back with w | w
          · refine .inl ?_
            obtain ⟨j, hj, G', e5, m5⟩ := w
            rw [clrF_get] at e5
            split at e5
            · cases e5; cases m5
            · refine ⟨j, ?_, G', e5, m5⟩
              exact (List.mem_append.mp hj).elim id fun q => hsub j (List.mem_append_right _ q)
          · exact .inr (lk1.none_iff.mp w)
      | exc c1 d1 s1 => rw [eb] at e1; rw [e1] at hf; exact hf
      | stuck => rw [eb] at e1; rw [e1] at hf; exact hf
  · rw [List.drop_length] at e1
    exact nxOf σ1 S1 H1 Fs1 r1 st1 f1 e1
theorem ss_for {tgE iter : Expr} {body : List Stmt} {pos : Pos} {it : IM} {tg : Tg} {b : SM} {is ms : List Nat} (hp : PassesOwn (model X.prog X.w) X.A X.env X.xe) (hc : X.calm = true) (hi : PI X tgE iter (tI X cls it)) (hg : PG X tgE (gTg X.K tg)) (hb : PSs X body (tS X.K cls b))
    (hs : ∀ x, foldedSetIterable iter X.env x = pure x) (hsub : subL (tg.ix ++ b.muts) ms = true) (hasg : subL (tg.ix ++ b.asg) ms = true) (hdis : disL is ms = true) (hrt : (it.own || subL it.roots is) = true) :
    PS X (.For tgE iter body [] pos) (tS X.K cls (mFor it tg b is ms)) := by
  refine PS.imp (ps_unl (ps_for hp hc hi hg hb hs)) fun D' σ H ⟨S, Fs, Z, r, h⟩ => ⟨S, Fs, Z, r, ?_⟩
  unfold mFor xFor at h
  dsimp only at h
  cases e : it.run S with
  | exc c d s => rw [e] at h; exact h
  | stuck => rw [e] at h; exact h
  | ok ds S' =>
    rw [e] at h
    intro J H' Hl Fs' F r' st hd lk io
    exact for_fin (it := it) (b := b) r (subL_of hsub) (subL_of hasg) (disL_of hdis) (fun eo => by rw [eo, Bool.false_or] at hrt; exact subL_of hrt) r' st hd lk io h
end Bv
end

section
/-! while. -/
namespace Bv
open PySem PySem.Spec PyProof.Rows L2
variable {K : PySem.W.Frag} {cls : Nat → Addr} {X : Cx}
variable {σ σ' σ0 σ1 : L2.St} {S S0 S1 S2 : List Sl} {H H0 H' H1 H2 Hl : Hp} {Fs Fs0 Fs1 Fs2 : List (List Addr)} {Z : Addr → Prop}
def whileR (c : SE) (b : List Sl → RS) : Nat → List Sl → RS
  | 0, _ => .stuck
  | n + 1, S => match c S with
    | .ok x S1 => (match truth x with
      | some true => (match b S1 with
        | .nx S2 => whileR c b n S2
        | .ct S2 => whileR c b n S2
        | .bk S2 => .nx S2
        | .rt d S2 => .rt d S2
        | .exc c d s => .exc c d s
        | .stuck => .stuck)
      | some false => .nx S1
      | none => .stuck)
    | .exc c d s => .exc c d s
    | .stuck => .stuck
def mWhile (fuel : Nat) (c : EM) (b : SM) : SM := ⟨whileR c.run b.run fuel, c.muts ++ b.muts, b.asg⟩
theorem ss_while {c : Expr} {body : List Stmt} {pos : Pos} {mc : EM} {b : SM} {fuel : Nat} (hp : PassesOwn (model X.prog X.w) X.A X.env X.xe) (hc : PT X c (tT K cls mc)) (hb : PSs X body (tS K cls b)) :
    PS X (.While c body [] pos) (tS K cls (mWhile fuel mc b)) := PS.imp (ps_while hp hc hb) fun D' σ0 H0 ⟨S0, Fs0, Z, r0, h⟩ => by
  let M := mWhile fuel mc b
  refine ⟨fun m σ H => ∃ S Fs, SRel K cls σ S H Fs Z ∧ Stp M.muts S0 H0 Fs0 S H Fs ∧ Fx b.asg σ0 σ ∧ whileR mc.run b.run fuel S0 = whileR mc.run b.run m S, ⟨fuel, S0, Fs0, r0, Stp.refl.mono (fun x q => by cases q), Fx.refl, rfl⟩, ?_⟩
  rintro m σ H ⟨S, Fs, r, st, f, e⟩
  refine ⟨S, Fs, Z, r, ?_⟩
  have h : Fin K cls M σ0 S0 H0 Fs0 Z D' (whileR mc.run b.run fuel S0) := h
  cases m with
  | zero => rw [e] at h; exact h.elim
  | succ m =>
    rw [whileR] at e
    cases ec : mc.run S with
    | exc c d s => rw [ec] at e; rw [e] at h; exact h.elim
    | stuck => rw [ec] at e; rw [e] at h; exact h.elim
    | ok x S1 =>
      rw [ec] at e
      dsimp only at e ⊢
      cases ek : truth x with
      | none => rw [ek] at e; rw [e] at h; exact h.elim
      | some k =>
        rw [ek] at e
        refine ⟨k, rfl, fun H1 Fs1 r1 st1 => ?_⟩
        have st01 : Stp M.muts S0 H0 Fs0 S1 H1 Fs1 := (st.trans r0 st1).mono fun x q => (List.mem_append.mp q).elim id fun q => List.mem_append_left _ q
        cases k with
        | false =>
          rw [if_neg (by simp)]
          rw [e] at h
          exact h σ H1 Fs1 r1 st01 f
        | true =>
          rw [if_pos rfl]
          refine ⟨fun σ H => ∃ S Fs, SRel K cls σ S H Fs Z ∧ Stp M.muts S0 H0 Fs0 S H Fs ∧ Fx b.asg σ0 σ ∧ whileR mc.run b.run fuel S0 = whileR mc.run b.run m S, fun σ' H' w => ⟨m, Nat.lt_succ_self m, w⟩, S1, Fs1, Z, r1, ?_⟩
          dsimp only at e
          have more : ∀ {σ3 : L2.St} {H3 : Hp} {Fs3 : List (List Addr)} {S3 : List Sl}, Stp b.muts S1 H1 Fs1 S3 H3 Fs3 → Fx b.asg σ σ3 → Stp M.muts S0 H0 Fs0 S3 H3 Fs3 ∧ Fx b.asg σ0 σ3 := fun st3 f3 =>
            ⟨(st01.trans r0 st3).mono fun x q => (List.mem_append.mp q).elim id fun q => List.mem_append_right _ q, (f.trans f3).mono fun x q => (List.mem_append.mp q).elim id id⟩
          cases eb : b.run S1 with
          | nx S3 =>
            rw [eb] at e
            intro σ3 H3 Fs3 r3 st3 f3
            obtain ⟨s3, g3⟩ := more st3 f3
            exact ⟨S3, Fs3, r3, s3, g3, e⟩
          | ct S3 =>
            rw [eb] at e
            intro σ3 H3 Fs3 r3 st3 f3
            obtain ⟨s3, g3⟩ := more st3 f3
            exact ⟨S3, Fs3, r3, s3, g3, e⟩
          | bk S3 =>
            rw [eb] at e
            rw [e] at h
            intro σ3 H3 Fs3 r3 st3 f3
            obtain ⟨s3, g3⟩ := more st3 f3
            exact h σ3 H3 Fs3 r3 s3 g3
          | rt d S3 =>
            rw [eb] at e
            rw [e] at h
            intro v σ3 H3 Fs3 F r3 st3 f3 hd og
            obtain ⟨s3, g3⟩ := more st3 f3
            exact h v σ3 H3 Fs3 F r3 s3 g3 hd fun z a mm => by
              have := Org.back st01 r0 og z a mm
              exact this.imp (fun w => w.mono fun x q => (List.mem_append.mp q).elim id fun q => List.mem_append_right _ q) id
          | exc c d s => rw [eb] at e; rw [e] at h; exact h
          | stuck => rw [eb] at e; rw [e] at h; exact h
end Bv
end

section
/-! [e for x in it if c]. -/
namespace Bv
open PySem PySem.Spec PyProof.Rows L2
variable {K : PySem.W.Frag} {cls : Nat → Addr} {X : Cx}
variable {σ σ' σ0 σ1 : L2.St} {S S0 S1 S2 : List Sl} {H H0 H' H1 H2 Hl : Hp} {Fs Fs0 Fs1 Fs2 : List (List Addr)} {Z : Addr → Prop} {ms ms1 ms2 rs rs2 : List Nat} {d d' c c' : D} {v v' : V} {F F' F1 F2 FC FA : List Addr} {ow : Bool} {W : WX}
/-! ### a block's own names -/
def dieS : List Sl → List Nat → List Sl
  | S, [] => S
  | S, i :: r => dieS (S.set i .dead) r
theorem dieS_len : ∀ {is : List Nat} {S : List Sl}, (dieS S is).length = S.length
  | [], _ => rfl
  | i :: r, _ => by rw [dieS, dieS_len, List.length_set]
theorem dieS_get : ∀ {is : List Nat} {S : List Sl} {j : Nat}, (dieS S is)[j]? = if j ∈ is ∧ j < S.length then some .dead else S[j]?
  | [], S, j => by simp [dieS]
  | i :: r, S, j => by
    rw [dieS, dieS_get, List.length_set, List.getElem?_set]
    by_cases h1 : j ∈ r ∧ j < S.length
    · rw [if_pos h1, if_pos ⟨List.mem_cons_of_mem _ h1.1, h1.2⟩]
    · rw [if_neg h1]
      by_cases h2 : i = j
      · subst h2
        rw [if_pos rfl]
        by_cases h3 : i < S.length
        · rw [if_pos h3, if_pos ⟨by simp, h3⟩]
        · rw [if_neg h3, if_neg (fun z => h3 z.2), List.getElem?_eq_none (by omega)]
      · rw [if_neg h2, if_neg (fun z => by
          rcases List.mem_cons.mp z.1 with q | q
          · exact h2 q.symm
          · exact h1 ⟨q, z.2⟩)]
theorem wipe_get : ∀ {vs : List Nat} {j : Nat}, (wipe σ vs)[j]? = if j ∈ vs ∧ j < σ.length then some none else σ[j]?
  | [], j => by simp [wipe]
  | v :: vs, j => by
    rw [wipe, List.getElem?_set, wipe_length, wipe_get]
    by_cases h : v = j
    · subst h
      rw [if_pos rfl]
      by_cases hl : v < σ.length
      · rw [if_pos hl, if_pos ⟨by simp, hl⟩]
      · rw [if_neg hl, if_neg (fun z => hl z.2), List.getElem?_eq_none (by omega)]
    · rw [if_neg h]
      by_cases h2 : j ∈ vs ∧ j < σ.length
      · rw [if_pos h2, if_pos ⟨List.mem_cons_of_mem _ h2.1, h2.2⟩]
      · rw [if_neg h2, if_neg (fun z => by
          rcases List.mem_cons.mp z.1 with q | q
          · exact h q.symm
          · exact h2 ⟨q, z.2⟩)]
theorem clrF_len : ∀ {is : List Nat} {Fs : List (List Addr)}, (clrF Fs is).length = Fs.length
  | [], _ => rfl
  | i :: r, _ => by rw [clrF, clrF_len, List.length_set]
theorem SRel.die {vs : List Nat} (r : SRel K cls σ S H Fs Z) : SRel K cls (wipe σ vs) (dieS S vs) H (clrF Fs vs) Z := by
  refine ⟨by rw [dieS_len, clrF_len, r.len], by rw [wipe_length, dieS_len, r.sl], fun j d q => ?_, fun j d q => ?_, fun a m => ?_, clr_nodup r.nd, fun a m => ?_, r.zs⟩
  · rw [dieS_get] at q
    split at q
    · cases q
    · rename_i n
      obtain ⟨v, G, e1, e2, rep⟩ := r.ow j d q
      have hj : j ∉ vs := fun z => n ⟨z, (List.getElem?_eq_some_iff.mp q).1⟩
      exact ⟨v, G, by rw [wipe_get, if_neg (fun z => hj z.1)]; exact e1, by rw [clrF_get, if_neg (fun z => hj z.1)]; exact e2, rep⟩
  · rw [dieS_get] at q
    split at q
    · cases q
    · rename_i n
      obtain ⟨v, G, e1, rep, z⟩ := r.ro j d q
      have hj : j ∉ vs := fun z => n ⟨z, (List.getElem?_eq_some_iff.mp q).1⟩
      exact ⟨v, G, by rw [wipe_get, if_neg (fun z => hj z.1)]; exact e1, rep, z⟩
  · obtain ⟨j, G, _, e, m⟩ := clr_mem m
    exact r.mu a (mem_flat.mpr ⟨j, G, e, m⟩)
  · obtain ⟨j, G, _, e, m⟩ := clr_mem m
    exact r.dj a (mem_flat.mpr ⟨j, G, e, m⟩)
theorem Stp.die {vs : List Nat} : Stp vs S H Fs (dieS S vs) H (clrF Fs vs) := by
  refine ⟨Keep.refl, fun j hj => ⟨by rw [dieS_get, if_neg (fun z => hj z.1)], by rw [clrF_get, if_neg (fun z => hj z.1)]⟩, fun j hj G e a m => ?_⟩
  rw [clrF_get] at e
  split at e
  · cases e; cases m
  · exact .inl ⟨j, hj, G, e, m⟩
/-- the outer names of that kind, as they were if nothing in them can change -/
def backS : List Sl → List Sl → List Nat → List Sl
  | S1, _, [] => S1
  | S1, S0, i :: r => backS (match nthL S0 i with
    | some (.own d) => if im d then S1.set i (.own d) else S1.set i .dead
    | some (.ro d) => if im d then S1.set i (.own d) else S1.set i .dead
    | _ => S1.set i .dead) S0 r
def imOf : Option Sl → Sl
  | some (.own d) => if im d then .own d else .dead
  | some (.ro d) => if im d then .own d else .dead
  | _ => .dead
theorem back_one {i : Nat} : (match nthL S0 i with
    | some (.own d) => if im d then S1.set i (.own d) else S1.set i .dead
    | some (.ro d) => if im d then S1.set i (.own d) else S1.set i .dead
    | _ => S1.set i .dead) = S1.set i (imOf S0[i]?) := by
  rw [nthL_eq]
  unfold imOf
  split
  · split <;> rfl
  · split <;> rfl
  · rename_i n1 n2
    cases e : S0[i]? with
    | none => rfl
    | some sl => cases sl with
      | own d => exact absurd e (n1 d)
      | ro d => exact absurd e (n2 d)
      | dead => rfl
theorem backS_len : ∀ {is : List Nat} {S1 : List Sl}, (backS S1 S0 is).length = S1.length
  | [], _ => rfl
  | i :: r, _ => by rw [backS, backS_len, back_one, List.length_set]
theorem backS_get : ∀ {is : List Nat} {S1 : List Sl} {j : Nat}, (backS S1 S0 is)[j]? = if j ∈ is ∧ j < S1.length then some (imOf S0[j]?) else S1[j]?
  | [], S1, j => by simp [backS]
  | i :: r, S1, j => by
    rw [backS, back_one, backS_get, List.length_set, List.getElem?_set]
    by_cases h1 : j ∈ r ∧ j < S1.length
    · rw [if_pos h1, if_pos ⟨List.mem_cons_of_mem _ h1.1, h1.2⟩]
    · rw [if_neg h1]
      by_cases h2 : i = j
      · subst h2
        rw [if_pos rfl]
        by_cases h3 : i < S1.length
        · rw [if_pos h3, if_pos ⟨by simp, h3⟩]
        · rw [if_neg h3, if_neg (fun z => h3 z.2), List.getElem?_eq_none (by omega)]
      · rw [if_neg h2, if_neg (fun z => by
          rcases List.mem_cons.mp z.1 with q | q
          · exact h2 q.symm
          · exact h1 ⟨q, z.2⟩)]
/-- out of the block -/
theorem SRel.back {vs : List Nat} {Z0 : Addr → Prop} (r0 : SRel K cls σ S0 H0 Fs0 Z0) (r : SRel K cls (wipe σ vs) S1 H1 Fs1 Z) (st : Stp ms S0 H0 Fs0 S2 H1 Fs2) : SRel K cls σ (backS S1 S0 vs) H1 (clrF Fs1 vs) Z := by
  have rep0 : ∀ {d : D} {v : V} {G : List Addr}, im d = true → Rep K cls H0 d v G → Rep K cls H1 d v [] := fun {d v G} hi rep => by
    have g := Rep.im d hi rep
    subst g
    exact Rep.keep r0.wmut st.keep d v [] (fun a m => by cases m) rep
  refine ⟨by rw [backS_len, clrF_len, r.len], by rw [backS_len, ← r.sl, wipe_length], fun j d q => ?_, fun j d q => ?_, fun a m => ?_, clr_nodup r.nd, fun a m => ?_, r.zs⟩
  · rw [backS_get] at q
    split at q
    · rename_i y
      have hF : (clrF Fs1 vs)[j]? = some [] := by rw [clrF_get, if_pos ⟨y.1, by rw [← r.len]; exact y.2⟩]
      cases e : S0[j]? with
      | none => rw [e] at q; cases q
      | some sl =>
        rw [e] at q
        cases sl with
        | dead => cases q
        | own d0 =>
          have q : (if im d0 = true then Sl.own d0 else Sl.dead) = Sl.own d := Option.some.inj q
          by_cases hi : im d0 = true
          · rw [if_pos hi] at q
            cases q
            obtain ⟨v, G, e1, e2, rep⟩ := r0.ow j _ e
            exact ⟨v, [], e1, hF, rep0 hi rep⟩
          · rw [if_neg hi] at q; cases q
        | ro d0 =>
          have q : (if im d0 = true then Sl.own d0 else Sl.dead) = Sl.own d := Option.some.inj q
          by_cases hi : im d0 = true
          · rw [if_pos hi] at q
            cases q
            obtain ⟨v, G, e1, rep, _⟩ := r0.ro j _ e
            exact ⟨v, [], e1, hF, rep0 hi rep⟩
          · rw [if_neg hi] at q; cases q
    · rename_i n
      obtain ⟨v, G, e1, e2, rep⟩ := r.ow j d q
      have hj : j ∉ vs := fun z => n ⟨z, (List.getElem?_eq_some_iff.mp q).1⟩
      rw [wipe_get, if_neg (fun z => hj z.1)] at e1
      exact ⟨v, G, e1, by rw [clrF_get, if_neg (fun z => hj z.1)]; exact e2, rep⟩
  · rw [backS_get] at q
    split at q
    · cases e : S0[j]? with
      | none => rw [e] at q; cases q
      | some sl =>
        rw [e] at q
        have q := Option.some.inj q
        cases sl with
        | dead => cases q
        | own d0 =>
          have q : (if im d0 = true then Sl.own d0 else Sl.dead) = Sl.ro d := q
          split at q <;> cases q
        | ro d0 =>
          have q : (if im d0 = true then Sl.own d0 else Sl.dead) = Sl.ro d := q
          split at q <;> cases q
    · rename_i n
      obtain ⟨v, G, e1, rep, z⟩ := r.ro j d q
      have hj : j ∉ vs := fun z => n ⟨z, (List.getElem?_eq_some_iff.mp q).1⟩
      rw [wipe_get, if_neg (fun z => hj z.1)] at e1
      exact ⟨v, G, e1, rep, z⟩
  · obtain ⟨j, G, _, e, m⟩ := clr_mem m
    exact r.mu a (mem_flat.mpr ⟨j, G, e, m⟩)
  · obtain ⟨j, G, _, e, m⟩ := clr_mem m
    exact r.dj a (mem_flat.mpr ⟨j, G, e, m⟩)
theorem Stp.back' {vs : List Nat} : Stp vs S1 H Fs (backS S1 S0 vs) H (clrF Fs vs) := by
  refine ⟨Keep.refl, fun j hj => ⟨by rw [backS_get, if_neg (fun z => hj z.1)], by rw [clrF_get, if_neg (fun z => hj z.1)]⟩, fun j hj G e a m => ?_⟩
  rw [clrF_get] at e
  split at e
  · cases e; cases m
  · exact .inl ⟨j, hj, G, e, m⟩
/-- what is changed is in no slot -/
theorem SRel.outside (r : SRel K cls σ S H Fs Z) (k : Keep (fun a => a ∈ FC) H H') (h1 : ∀ a ∈ FC, a ∉ Fs.flatten ∧ ¬ Z a) (mu : ∀ a ∈ FC, Mut (H a)) : SRel K cls σ S H' Fs Z := by
  refine ⟨r.len, r.sl, fun j d q => ?_, fun j d q => ?_, fun a m => ?_, r.nd, r.dj, fun a z => ?_⟩
  · obtain ⟨v, G, e1, e2, rep⟩ := r.ow j d q
    exact ⟨v, G, e1, e2, Rep.keep mu k d v G (fun a m n => (h1 a n).1 (mem_flat.mpr ⟨j, G, e2, m⟩)) rep⟩
  · obtain ⟨v, G, e1, rep, z⟩ := r.ro j d q
    exact ⟨v, G, e1, Rep.keep mu k d v G (fun a m n => (h1 a n).2 (z a m)) rep, z⟩
  · have q := r.mu a m
    cases e : H a with
    | none => rw [e] at q; exact q.elim
    | some o => rw [k a o e (fun n => (h1 a n).1 m)]; rw [e] at q; exact q
  · have n := r.zs a z
    cases e : H a with
    | none => exact absurd e n
    | some o => rw [k a o e (fun q => (h1 a q).2 z)]; exact fun q => by cases q

/-! ### the turns -/
def xTst : Option EM → List Sl → R Bool
  | none, S => .ok true S
  | some m, S => match m.run S with
    | .ok d S' => (match truth d with
      | some k => .ok k S'
      | none => .stuck)
    | .exc c d s => .exc c d s
    | .stuck => .stuck
def tTo (K : PySem.W.Frag) (cls : Nat → Addr) (m : Option EM) : TT := fun σ H Q => ∃ S Fs Z, SRel K cls σ S H Fs Z ∧ match xTst m S with
  | .ok k S' => ∀ H' Fs', SRel K cls σ S' H' Fs' Z → Stp (oMuts m) S H Fs S' H' Fs' → Q k H'
  | .exc _ _ _ => False
  | .stuck => False
theorem PTs.imp {es : List Expr} {t t' : TT} (h : PTs X es t) (i : ∀ σ H Q, t' σ H Q → t σ H Q) : PTs X es t' := ⟨fun pins s σ H Q I q => h.run pins s σ H Q I (i σ H Q q)⟩
theorem ts_nil : PTs X [] (tTo K cls none) := PTs.imp pts_nil fun σ H Q ⟨S, Fs, Z, r, h⟩ => h H Fs r Stp.refl
theorem ts_one {c : Expr} {m : EM} (h : PT X c (tT K cls m)) : PTs X [c] (tTo K cls (some m)) := PTs.imp (pts_one h) fun σ H Q ⟨S, Fs, Z, r, h⟩ => by
  refine ⟨S, Fs, Z, r, ?_⟩
  unfold xTst at h
  dsimp only at h
  cases e : m.run S with
  | exc c d s => rw [e] at h; exact h
  | stuck => rw [e] at h; exact h
  | ok x S1 =>
    rw [e] at h
    dsimp only at h ⊢
    cases ek : truth x with
    | none => rw [ek] at h; exact h.elim
    | some k => rw [ek] at h; exact ⟨k, rfl, h⟩
def lcR (tg : Tg) (tt : Option EM) (te : SE) (vs : List Nat) : List D → List Sl → R (List D)
  | [], S => .ok [] S
  | d :: ds, S => match tgt tg d S with
    | some S1 => (match xTst tt S1 with
      | .ok true S2 => (match te S2 with
        | .ok y S3 => (match lcR tg tt te vs ds (dieS S3 vs) with
          | .ok ys S4 => .ok (y :: ys) S4
          | .exc c d s => .exc c d s
          | .stuck => .stuck)
        | .exc c d s => .exc c d s
        | .stuck => .stuck)
      | .ok false S2 => lcR tg tt te vs ds (dieS S2 vs)
      | .exc c d s => .exc c d s
      | .stuck => .stuck)
    | none => .stuck
def eLc (it : List Sl → R (List D)) (tg : Tg) (tt : Option EM) (te : SE) (vs is ms : List Nat) : SE := fun s => match it s with
  | .ok ds s' => if Nat.ble ds.length lineN then (match lcR tg tt te vs ds (dieS (frzS s' is) vs) with
    | .ok ys s2 => .ok (.lst ys) (thaw (backS s2 (frzS s' is) vs) s' is ms)
    | .exc c d s => .stuck
    | .stuck => .stuck) else .stuck
  | .exc c d s => .exc c d s
  | .stuck => .stuck
def mLc (it : IM) (tg : Tg) (tt : Option EM) (te : EM) (vs is ms : List Nat) : EM := ⟨eLc it.run tg tt te.run vs is ms, true, [], it.muts ++ ms⟩
def preR (acc : List D) : R (List D) → R (List D)
  | .ok ys S => .ok (acc ++ ys) S
  | .exc c d s => .exc c d s
  | .stuck => .stuck
/-- an expression that may leave a dict locked: it is unlocked behind -/
def tUnlE (X : Cx) (t : TE) : TE := fun σ H Q => t σ H fun v H' => Q v H' ∨ ∃ a o u, H' a = some (.frz o u) ∧ (∀ o' u', X.H_0 a ≠ some (.frz o' u')) ∧ Q v (upd H' a u)
theorem pe_unl {e : Expr} {t : TE} (h : PE X e t) : PE X e (tUnlE X t) := by
  refine ⟨fun pins s σ H Q I q => thn (h.run pins s σ H _ I q) fun f s' y => ?_⟩
  obtain ⟨v, H', I', rv, y | ⟨a, o, u, e, nf, y⟩⟩ := y
  · exact ⟨v, H', I', rv, y⟩
  · exact ⟨v, _, I'.unlock e nf, rv, y⟩
end Bv
end

section
/-! [e for x in it if c], proved. -/
namespace Bv
open PySem PySem.Spec PyProof.Rows L2
variable {K : PySem.W.Frag} {cls : Nat → Addr} {X : Cx}
variable {σ σ' σ0 σ1 : L2.St} {S S0 S1 S2 S' : List Sl} {H H0 H' H1 H2 Hl : Hp} {Fs Fs0 Fs1 Fs2 Fs' : List (List Addr)} {Z : Addr → Prop} {ms ms1 ms2 rs rs2 : List Nat} {d d' c c' : D} {v v' : V} {F F' F1 F2 FC FA : List Addr} {ow : Bool} {W : WX}
theorem LkOk.lk (l : LkOk X H' Hl F) : Lk H' Hl := by
  rcases l with rfl | ⟨a, o, u, ha, h1, mu, kd, e, nf⟩
  · exact .inl rfl
  · exact .inr ⟨a, o, u, mu, kd, .inl ⟨h1, e⟩⟩
theorem LkOk.ne (l : LkOk X H' Hl F) : ∀ a, Hl a ≠ H' a → a ∈ F := fun a n => by
  rcases l with rfl | ⟨b, o, u, ha, h1, mu, kd, e, nf⟩
  · exact absurd rfl n
  · by_cases z : a = b
    · subst z; exact ha
    · rw [e, upd_ne z] at n; exact absurd rfl n
/-- behind the turns: unlocked, and as before -/
theorem out_of {is asg : List Nat} (lk : LkOk X H' Hl F) (r : SRel X.K cls σ S' H' Fs' Z) (rf : SRel X.K cls σ (frzS S' is) Hl (clrF Fs' is) (Zof Z Fs' is F)) (hdis : ∀ i ∈ is, i ∉ ms) (hasg : ∀ i ∈ asg, i ∈ ms)
    (r1 : SRel X.K cls σ1 S1 H1 Fs1 (Zof Z Fs' is F)) (st1 : Stp ms (frzS S' is) Hl (clrF Fs' is) S1 H1 Fs1) (f1 : Fx asg σ σ1) :
    ∃ H2, Thaw X.K cls σ S' H' Fs' Z is ms asg F Hl σ1 S1 H1 Fs1 H2 ∧ (H2 = H1 ∨ ∃ a o u, H1 a = some (.frz o u) ∧ (∀ o' u', X.H_0 a ≠ some (.frz o' u')) ∧ H2 = upd H1 a u) := by
  have zF : ∀ a ∈ F, Zof Z Fs' is F a := fun a m => .inr (.inr m)
  have keepZ : ∀ a o, Zof Z Fs' is F a → Hl a = some o → H1 a = some o := fun a o z e => st1.keep a o e fun w => rf.dj a w.flat z
  have noneZ : ∀ a, Zof Z Fs' is F a → Hl a ≠ none := fun a z => rf.zs a z
  have lk1 := lk.lk
  rcases lk with rfl | ⟨a, o, u, ha, h1, mu, kd, e, nf⟩
  · refine ⟨H1, ⟨r, rf, r1, st1, f1, .inl rfl, .inl rfl, fun a z => ?_, fun _ _ => rfl, fun _ _ => rfl, hdis, hasg⟩, .inl rfl⟩
    cases e : Hl a with
    | none => exact absurd e (noneZ a z)
    | some o => exact keepZ a o z e
  · have ea : H1 a = some (.frz o u) := keepZ a _ (zF a ha) (by rw [e, upd_same])
    refine ⟨upd H1 a u, ⟨r, rf, r1, st1, f1, lk1, .inr ⟨a, o, u, mu, kd, .inr ⟨ea, rfl⟩⟩, fun b z => ?_, fun b z => ?_, fun b z => ?_, hdis, hasg⟩, .inr ⟨a, o, u, ea, nf, rfl⟩⟩
    · by_cases q : b = a
      · subst q; rw [upd_same, h1]
      · rw [upd_ne q]
        have e2 : Hl b = H' b := by rw [e, upd_ne q]
        cases e3 : Hl b with
        | none => exact absurd e3 (noneZ b z)
        | some o2 => rw [keepZ b o2 z e3, ← e2, e3]
    · rw [upd_ne (show b ≠ a from fun q => z (by rw [q]; exact zF a ha))]
    · rw [e, upd_ne (show b ≠ a from fun q => z (by rw [q]; exact zF a ha))]
theorem Stp.outside (st : Stp ms S0 H0 Fs0 S H Fs) (k : Keep (fun a => a ∈ FC) H H') (hF : ∀ a ∈ FC, Wm Fs0 ms a ∨ H0 a = none) : Stp ms S0 H0 Fs0 S H' Fs :=
  ⟨fun a o e n => k a o (st.keep a o e n) fun m => (hF a m).elim n fun z => (by rw [e] at z; cases z), st.out, st.inn⟩
theorem setItms_len : ∀ {is : List Nat} {ds : List D} {S : List Sl}, (setItms S is ds).length = S.length
  | [], ds, S => by cases ds <;> rfl
  | i :: is, [], S => rfl
  | i :: is, d :: ds, S => by rw [setItms, setItms_len, List.length_set]
theorem tgt_len {tg : Tg} (e : tgt tg d S = some S1) : S1.length = S.length := by
  cases tg with
  | one i =>
    have e : (if Nat.blt i S.length = true then some (S.set i (itm d)) else none) = some S1 := by cases d <;> exact e
    split at e
    · cases e; rw [List.length_set]
    · cases e
  | tup is =>
    cases d with
    | tup ds =>
      have e : (if (inS S is && Nat.beq ds.length is.length) = true then some (setItms S is ds) else none) = some S1 := e
      split at e
      · cases e; rw [setItms_len]
      · cases e
    | _ => cases e
theorem wipe_eq {vs asg : List Nat} {σ2 : L2.St} (l : σ2.length = σ.length) (f : Fx asg (wipe σ vs) σ2) (h : ∀ i ∈ asg, i ∈ vs) : wipe σ2 vs = wipe σ vs := by
  refine List.ext_getElem? fun j => ?_
  rw [wipe_get, wipe_get, l]
  split
  · rfl
  · rename_i n
    by_cases hj : j ∈ vs
    · have : ¬ j < σ.length := fun z => n ⟨hj, z⟩
      rw [List.getElem?_eq_none (by omega), List.getElem?_eq_none (by omega)]
    · have := f j fun z => hj (h j z)
      rw [this, wipe_get, if_neg (fun z => hj z.1)]
theorem lc_fin {it : IM} {tg : Tg} {tt : Option EM} {te : EM} {vs is ms : List Nat} {Q : VK} {J : It} {ds : List D} (h0 : SRel X.K cls σ S H Fs Z) (ho : te.own = true)
    (hsub : ∀ i ∈ tg.ix ++ (oMuts tt ++ (te.muts ++ vs)), i ∈ ms) (htg : ∀ i ∈ tg.ix, i ∈ vs) (hdis : ∀ i ∈ is, i ∉ ms) (hrt : it.own = false → ∀ i ∈ it.roots, i ∈ is)
    (r : SRel X.K cls σ S' H' Fs' Z) (st : Stp it.muts S H Fs S' H' Fs') (hd : HeldF it.own it.roots H' Fs' Z F) (lk : LkOk X H' Hl F) (io : ItOk X.K cls J ds Hl F) (hlen : ds.length ≤ sizeLine)
    (hf : ∀ ys S2, lcR tg tt te.run vs ds (dieS (frzS S' is) vs) = .ok ys S2 → Want X.K cls (mLc it tg tt te vs is ms) σ S H Fs Z (.lst ys) (thaw (backS S2 (frzS S' is) vs) S' is ms) Q)
    (hok : ∃ ys S2, lcR tg tt te.run vs ds (dieS (frzS S' is) vs) = .ok ys S2) (A : Addr) (hA : Hl A = none) :
    ∃ W : Nat → Nat → Hp → Prop, (∃ m, W 0 m (upd Hl A (.lst []))) ∧ ∀ i m H, W i m H →
      (J.stop i H ∧ (Q (.ref A) H ∨ ∃ a o u, H a = some (.frz o u) ∧ (∀ o' u', X.H_0 a ≠ some (.frz o' u')) ∧ Q (.ref A) (upd H a u))) ∨
      (J.go i H ∧ ∃ Nx : Hp → Prop, (∀ H', Nx H' → ∃ m', m' < m ∧ W (i + 1) m' H') ∧ ∀ x H', J.yld i H x H' → gTg X.K tg x (wipe σ vs) H' fun σ2 H2 => wipe σ2 vs = wipe σ vs ∧ tTo X.K cls tt σ2 H2 fun b H3 =>
        if b = true then tE X.K cls W0 te σ2 H3 fun y H4 => ∃ acc, H4 A = some (.lst acc) ∧ acc.length < sizeLine ∧ Nx (upd H4 A (.lst (acc ++ [y]))) else Nx H3) := by
  have hd' : HeldF it.own is H' Fs' Z F := ⟨hd.al, hd.own, fun e a m z => (hd.bor e a m z).mono (hrt e)⟩
  have rf := r.freeze hd' lk.lk lk.ne
  have zF : ∀ a ∈ F, Zof Z Fs' is F a := fun a m => .inr (.inr m)
  obtain ⟨G, Y, wk, stab, yl⟩ := io
  have vsub : ∀ i ∈ vs, i ∈ ms := fun i m => hsub i (List.mem_append_right _ (List.mem_append_right _ (List.mem_append_right _ m)))
  let Pv : Nat → Hp → Prop := fun i H1 => ∃ S1 Fs1 acc FA, SRel X.K cls (wipe σ vs) S1 H1 Fs1 (Zof Z Fs' is F) ∧ Stp ms (frzS S' is) Hl (clrF Fs' is) S1 H1 Fs1 ∧ Held X.K cls true [] H1 Fs1 (Zof Z Fs' is F) (.lst acc) (.ref A) FA ∧
    (∀ a ∈ FA, Wm (clrF Fs' is) ms a ∨ Hl a = none) ∧ acc.length ≤ i ∧ lcR tg tt te.run vs ds (dieS (frzS S' is) vs) = preR acc (lcR tg tt te.run vs (ds.drop i) S1)
  refine lc_it wk (te := tE X.K cls W0 te) (tt := tTo X.K cls tt) (g := gTg X.K tg) (Qd := fun H => Q (.ref A) H ∨ ∃ a o u, H a = some (.frz o u) ∧ (∀ o' u', X.H_0 a ≠ some (.frz o' u')) ∧ Q (.ref A) (upd H a u)) Pv ?_ (fun i H1 hi ⟨S1, Fs1, acc, FA, r1, st1, _⟩ => stab H1 (Stab.of st1 rf zF)) (fun i x H1 H1' hi ⟨S1, Fs1, acc, FA, r1, st1, hh, og, hl, e1⟩ y => ?_) (fun H1 ⟨S1, Fs1, acc, FA, r1, st1, hh, og, hl, e1⟩ => ?_)
  · have rd := rf.die (vs := vs)
    have sm : Same Hl (upd Hl A (.lst [])) := Same.new hA
    refine ⟨dieS (frzS S' is) vs, clrF (clrF Fs' is) vs, [], [A], rd.same sm, ?_, HeldO.nil.lst hA rd, fun a m => ?_, Nat.zero_le _, ?_⟩
    · have := (Stp.die (vs := vs) (S := frzS S' is) (H := Hl) (Fs := clrF Fs' is)).trans rf (Stp.of_same (S := dieS (frzS S' is) vs) (Fs := clrF (clrF Fs' is) vs) sm)
      exact this.mono fun x q => (List.mem_append.mp q).elim (vsub x) fun q => by cases q
    · have : a = A := by simpa using m
      subst this
      exact .inr hA
    · rw [List.drop_zero]
      unfold preR
      split <;> rename_i e <;> rw [e] <;> rfl
  · obtain ⟨sm, dd, FF, e2, rep, hFF⟩ := yl i H1 x H1' (Stab.of st1 rf zF) y
    have hdrop : ds.drop i = dd :: ds.drop (i + 1) := by
      obtain ⟨hi', e3⟩ := List.getElem?_eq_some_iff.mp e2
      rw [← e3]
      exact List.drop_eq_getElem_cons hi'
    rw [hdrop, lcR] at e1
    obtain ⟨ys0, S20, ok⟩ := hok
    cases et : tgt tg dd S1 with
    | none => rw [et] at e1; rw [ok] at e1; cases e1
    | some S2 =>
      rw [et] at e1
      dsimp only at e1
      have r1' := r1.same sm
      have st1' : Stp ms (frzS S' is) Hl (clrF Fs' is) S1 H1' Fs1 := by
        have := st1.trans rf (Stp.of_same (S := S1) (Fs := Fs1) sm)
        rwa [List.append_nil] at this
      have hh1 := hh.step r1 (Stp.of_same (S := S1) (Fs := Fs1) sm) (fun z => by cases z)
      refine tgt_run r1' rep (fun a m => zF a (hFF a m)) et fun σ2 Fs2 r2 st2 f2 => ?_
      have hw : wipe σ2 vs = wipe σ vs := wipe_eq (by rw [r2.sl, tgt_len et, ← r1.sl, wipe_length]) f2 htg
      refine ⟨hw, S2, Fs2, _, r2, ?_⟩
      have st12 : Stp ms (frzS S' is) Hl (clrF Fs' is) S2 H1' Fs2 := (st1'.trans rf st2).mono fun x q => (List.mem_append.mp q).elim id fun q => hsub x (List.mem_append_left _ q)
      have hh2 := hh1.step r1' st2 (fun z => by cases z)
      cases ec : xTst tt S2 with
      | exc c1 d1 s1 => rw [ec] at e1; rw [ok] at e1; cases e1
      | stuck => rw [ec] at e1; rw [ok] at e1; cases e1
      | ok k S3 =>
        rw [ec] at e1
        dsimp only at e1 ⊢
        intro H3 Fs3 r3 st3
        have st13 : Stp ms (frzS S' is) Hl (clrF Fs' is) S3 H3 Fs3 := (st12.trans rf st3).mono fun x q => (List.mem_append.mp q).elim id fun q => hsub x (List.mem_append_right _ (List.mem_append_left _ q))
        have hh3 := hh2.step r2 st3 (fun z => by cases z)
        cases k with
        | false =>
          rw [if_neg (by simp)]
          have rd := r3.die (vs := vs)
          rw [hw] at rd
          refine ⟨dieS S3 vs, clrF Fs3 vs, acc, FA, rd, (st13.trans rf Stp.die).mono fun x q => (List.mem_append.mp q).elim id (vsub x), hh3.step r3 Stp.die (fun z => by cases z), og, by omega, e1⟩
        | true =>
          rw [if_pos rfl]
          dsimp only at e1
          refine ⟨S3, Fs3, _, r3, ?_⟩
          cases ey : te.run S3 with
          | exc c1 d1 s1 => rw [ey] at e1; rw [ok] at e1; cases e1
          | stuck => rw [ey] at e1; rw [ok] at e1; cases e1
          | ok yd S4 =>
            rw [ey] at e1
            dsimp only at e1
            intro yv H4 Fs4 Fy r4 st4 hy ogy
            rw [ho] at hy ogy
            have st14 : Stp ms (frzS S' is) Hl (clrF Fs' is) S4 H4 Fs4 := (st13.trans rf st4).mono fun x q => (List.mem_append.mp q).elim id fun q => hsub x (List.mem_append_right _ (List.mem_append_right _ (List.mem_append_left _ q)))
            have hh4 := hh3.step r3 st4 (fun z => by cases z)
            obtain ⟨A', accV, GA, eA, eFA, tA, rA⟩ := rLst' hh4.rep
            cases eA
            have hl4 : accV.length < sizeLine := by
              rw [← rA.length]
              have : i < ds.length := hi
              omega
            refine ⟨accV, tA, hl4, ?_⟩
            have dj := Org.apart hh3.toO ogy
            have pl : Plc H4 FA Fy := ⟨(hh4.own rfl).1, (hy.own rfl).1, fun a m n => dj a n m, fun a m => ((hh4.own rfl).2 a m).1, fun a m => ((hy.own rfl).2 a m).1⟩
            have nGA : GA.Nodup := by have := pl.n1; rw [eFA] at this; exact (List.nodup_cons.mp this).2
            have ogy' : ∀ a ∈ Fy, Wm (clrF Fs' is) ms a ∨ Hl a = none := fun a m => by
              have := Org.back st13 rf ogy rfl a m
              exact this.imp (fun w => w.mono fun x q => (List.mem_append.mp q).elim id fun q => hsub x (List.mem_append_right _ (List.mem_append_right _ (List.mem_append_left _ q)))) id
            have rd := r4.die (vs := vs)
            rw [hw] at rd
            have clr : ∀ {a : Addr}, a ∉ Fs4.flatten → a ∉ (clrF Fs4 vs).flatten := fun {a} n m => by
              obtain ⟨j, G, _, e, m⟩ := clr_mem m
              exact n (mem_flat.mpr ⟨j, G, e, m⟩)
            refine lst_chg (vs := accV) (ds' := acc ++ [yd]) (Q := Pv (i + 1)) pl eFA (rA.append hy.rep.one) (List.nodup_append.mpr ⟨nGA, pl.n2, fun a m b n z => pl.dj b n (by rw [eFA, ← z]; exact List.mem_cons_of_mem _ m)⟩) (fun b m => List.mem_append.mp m) fun H5 F5 hk rep5 nd5 hF5 => ?_
            have outF : ∀ a ∈ FA, a ∉ (clrF Fs4 vs).flatten ∧ ¬ Zof Z Fs' is F a := fun a m => ⟨clr ((hh4.own rfl).2 a m).2.1, ((hh4.own rfl).2 a m).2.2⟩
            refine ⟨dieS S4 vs, clrF Fs4 vs, acc ++ [yd], F5, rd.outside hk outF pl.m1, Stp.outside ((st14.trans rf Stp.die).mono fun x q => (List.mem_append.mp q).elim id (vsub x)) hk og, ⟨rep5, fun _ => ⟨nd5, fun a m => ⟨(hF5 a m).1, ?_⟩⟩, fun z => by cases z⟩, fun a m => ?_, by rw [List.length_append]; simp; omega, ?_⟩
            · rcases (hF5 a m).2 with q | q
              · exact outF a q
              · exact ⟨clr ((hy.own rfl).2 a q).2.1, ((hy.own rfl).2 a q).2.2⟩
            · rcases (hF5 a m).2 with q | q
              · exact og a q
              · exact ogy' a q
            · rw [e1]
              cases lcR tg tt te.run vs (ds.drop (i + 1)) (dieS S4 vs) with
              | ok ys S5 => simp [preR]
              | exc _ _ _ => rfl
              | stuck => rfl
  · rw [List.drop_length, lcR] at e1
    have e1 : lcR tg tt te.run vs ds (dieS (frzS S' is) vs) = .ok acc S1 := by rw [e1]; simp [preR]
    have w := hf _ _ e1
    have rb := SRel.back rf r1 st1
    have sb : Stp ms (frzS S' is) Hl (clrF Fs' is) (backS S1 (frzS S' is) vs) H1 (clrF Fs1 vs) := (st1.trans rf Stp.back').mono fun x q => (List.mem_append.mp q).elim id (vsub x)
    obtain ⟨H2, th, q⟩ := out_of (asg := []) lk r rf hdis (fun i m => by cases m) rb sb Fx.refl
    have g : Q (.ref A) H2 := by
      refine w (.ref A) H2 _ FA th.srel (st.trans h0 th.stp) ⟨th.l2.rep hh.rep, fun _ => ⟨(hh.own rfl).1, fun a m => ?_⟩, fun z => by cases z⟩ fun z a m => ?_
      · obtain ⟨mu, nf, nz⟩ := (hh.own rfl).2 a m
        refine ⟨by rw [th.hc a nz]; exact mu, fun z => ?_, fun z => nz (.inl z)⟩
        obtain ⟨j, G', e5, m5⟩ := mem_flat.mp z
        rw [rstF_get] at e5
        split at e5
        · rename_i y
          cases e6 : Fs'[j]? with
          | none => rw [e6] at e5; cases e5; cases m5
          | some G0 => rw [e6] at e5; cases e5; exact nz (.inr (.inl ⟨j, y.1, _, e6, m5⟩))
        · rw [clrF_get] at e5
          split at e5
          · cases e5; cases m5
          · exact nf (mem_flat.mpr ⟨j, G', e5, m5⟩)
      · have back : Wm Fs' ms a ∨ H' a = none := by
          rcases og a m with w | w
          · obtain ⟨j, hj, G', e5, m5⟩ := w
            rw [clrF_get] at e5
            split at e5
            · cases e5; cases m5
            · exact .inl ⟨j, hj, G', e5, m5⟩
          · exact .inr (lk.lk.none_iff.mp w)
        rcases back with w | w
        · exact st.back w
        · exact (st.new h0 w).symm.imp (fun w => w.app_l) id
    rcases q with rfl | ⟨a, o, u, ea, nf, rfl⟩
    · exact .inl g
    · exact .inr ⟨a, o, u, ea, nf, g⟩
end Bv
end

section
/-! [e for x in it if c] as an expression; stored. -/
namespace Bv
open PySem PySem.Spec PyProof.Rows L2
variable {K : PySem.W.Frag} {cls : Nat → Addr} {X : Cx}
variable {σ σ' : L2.St} {H : Hp} {W : WX}
/-- the static conditions -/
def lcOk (it : IM) (tg : Tg) (tt : Option EM) (te : EM) (vs is ms : List Nat) : Bool := te.own && subL (tg.ix ++ (oMuts tt ++ (te.muts ++ vs))) ms && subL tg.ix vs && disL is ms && (it.own || subL it.roots is)
theorem lc_imp {it : IM} {tg : Tg} {tt : Option EM} {te : EM} {vs is ms : List Nat} {Q : VK} (ok : lcOk it tg tt te vs is ms = true) (h : tE X.K cls W (mLc it tg tt te vs is ms) σ H Q) :
    tLc (tI X cls it) (gTg X.K tg) (tTo X.K cls tt) (tE X.K cls W te) vs σ H fun v H' => Q v H' ∨ ∃ a o u, H' a = some (.frz o u) ∧ (∀ o' u', X.H_0 a ≠ some (.frz o' u')) ∧ Q v (upd H' a u) := by
  unfold lcOk at ok
  simp only [Bool.and_eq_true] at ok
  obtain ⟨⟨⟨⟨ho, hsub⟩, htg⟩, hdis⟩, hrt⟩ := ok
  obtain ⟨S, Fs, Z, r, h⟩ := h
  refine ⟨S, Fs, Z, r, ?_⟩
  unfold mLc eLc at h
  dsimp only at h
  cases e : it.run S with
  | exc c d s => rw [e] at h; exact h
  | stuck => rw [e] at h; exact h
  | ok ds S' =>
    rw [e] at h
    dsimp only at h
    intro J H' Hl Fs' F r' st hd lk io A hA
    by_cases hl : Nat.ble ds.length lineN = true
    · rw [if_pos hl] at h
      have hl := Nat.le_of_ble_eq_true hl
      rw [lineN_eq] at hl
      refine lc_fin (it := it) (tt := tt) (W0 := W) (Q := Q) r ho (subL_of hsub) (subL_of htg) (disL_of hdis) (fun eo => by rw [eo, Bool.false_or] at hrt; exact subL_of hrt) r' st hd lk io hl (fun ys S2 e2 => ?_) ?_ A hA
      · rw [e2] at h
        exact h
      · cases e2 : lcR tg tt te.run vs ds (dieS (frzS S' is) vs) with
        | exc c d s => rw [e2] at h; exact h.elim
        | stuck => rw [e2] at h; exact h.elim
        | ok ys S2 => exact ⟨ys, S2, rfl⟩
    · rw [if_neg hl] at h
      exact h.elim
theorem s_lc {elt tgE iter : Expr} {ifs : List Expr} {scope : Scope} {own : List (Str × Nat)} {pos : Pos} {it : IM} {tg : Tg} {tt : Option EM} {te : EM} {is ms : List Nat} (hc : X.calm = true) (hN : X.N.Nodup) (hi : PI X tgE iter (tI X cls it)) (ok : BlkOk X.N X.env.scope scope own)
    (hg : ∀ (s : Shared) (H : Hp) (C : Addr) (cl : List (Str × Addr)) (fp : List Addr), PG (X.blk s H scope (compEnvC scope cl C X.env) fp) tgE (gTg X.K tg)) (ht : ∀ (s : Shared) (H : Hp) (C : Addr) (cl : List (Str × Addr)) (fp : List Addr), PTs (X.blk s H scope (compEnvC scope cl C X.env) fp) ifs (tTo X.K cls tt))
    (he : ∀ (s : Shared) (H : Hp) (C : Addr) (cl : List (Str × Addr)) (fp : List Addr), PE (X.blk s H scope (compEnvC scope cl C X.env) fp) elt (tE X.K cls W te)) (hs : ∀ x, foldedSetIterable iter X.env x = pure x) (lo : lcOk it tg tt te (own.map (·.2)) is ms = true) :
    PE X (.ListComp elt [⟨tgE, iter, ifs, 0⟩] scope pos) (tE X.K cls W (mLc it tg tt te (own.map (·.2)) is ms)) :=
  PE.imp (pe_unl (pe_lc hc hN hi ok hg ht he hs)) fun σ H Q h => lc_imp lo h
theorem ss_setLc {i : Nat} {y : Str} {py : Pos} {elt tgE iter : Expr} {ifs : List Expr} {scope : Scope} {own : List (Str × Nat)} {pos spos : Pos} {it : IM} {tg : Tg} {tt : Option EM} {te : EM} {is ms : List Nat} (hc : X.calm = true) (hN : X.N.Nodup) (hy : X.N[i]? = some y) (hyl : X.env.scope.names.lookup y = some .local)
    (hsw : swapsWith (.ListComp elt [⟨tgE, iter, ifs, 0⟩] scope pos) (some (.Name y py)) spos.line X.env = pure true) (hi : PI X tgE iter (tI X cls it)) (ok : BlkOk X.N X.env.scope scope own)
    (hg : ∀ (s : Shared) (H : Hp) (C : Addr) (cl : List (Str × Addr)) (fp : List Addr), PG (X.blk s H scope (compEnvC scope cl C X.env) fp) tgE (gTg X.K tg)) (ht : ∀ (s : Shared) (H : Hp) (C : Addr) (cl : List (Str × Addr)) (fp : List Addr), PTs (X.blk s H scope (compEnvC scope cl C X.env) fp) ifs (tTo X.K cls tt))
    (he : ∀ (s : Shared) (H : Hp) (C : Addr) (cl : List (Str × Addr)) (fp : List Addr), PE (X.blk s H scope (compEnvC scope cl C X.env) fp) elt (tE X.K cls W te)) (hs : ∀ x, foldedSetIterable iter X.env x = pure x) (lo : lcOk it tg tt te (own.map (·.2)) is ms = true) :
    PS X (.Assign [.Name y py] (.ListComp elt [⟨tgE, iter, ifs, 0⟩] scope pos) spos) (tS X.K cls (mSet i (mLc it tg tt te (own.map (·.2)) is ms))) :=
  PS.imp (ps_unl (ps_setLc hc hN hy hyl hsw hi ok hg ht he hs)) fun D' σ H h => lc_imp lo (set_run (W := W) h)
end Bv
end

section
/-! Calls of the program's functions. -/
namespace Bv
open PySem PySem.Spec PyProof.Rows L2
variable {K : PySem.W.Frag} {cls : Nat → Addr} {X : Cx}
variable {σ σ' : L2.St} {S S1 S2 : List Sl} {H H' H1 H2 : Hp} {Fs Fs1 Fs2 : List (List Addr)} {Z : Addr → Prop} {ms ms1 ms2 rs rs2 : List Nat} {d d' : D} {v v' : V} {F F' F1 F2 : List Addr} {ow : Bool} {W : WX}
/-- what a function whose body means m promises: N its names, the first np of them its parameters -/
def spD (K : PySem.W.Frag) (cls : Nat → Addr) (N : List Str) (np : Nat) (m : SM) : Sp := fun vs H Q _ => vs.length = np ∧ tS K cls m { nx := fun _ H' => Q .non H', rt := Q } (start N vs) H
def rsD : RS → Option (D × List Sl)
  | .rt d s => some (d, s)
  | .nx s => some (.non, s)
  | _ => none
/-- the entry: arguments that are only read -/
def ent (n : Nat) (ds : List D) : List Sl := ds.map Sl.ro ++ List.replicate (n - ds.length) .dead
def xCall (n : Nat) (f : SM) (l : List EM) : SE := fun s => match eAL l s with
  | .ok ds s' => (match rsD (f.run (ent n ds)) with
    | some (d, _) => .ok d s'
    | none => .stuck)
  | .exc c d s => .exc c d s
  | .stuck => .stuck
def mCall (n : Nat) (f : SM) (l : List EM) : EM := ⟨xCall n f l, true, [], lMuts l⟩
theorem HeldL.len : ∀ {l : List EM} {ds : List D} {vs : List V} {F : List Addr}, HeldL K cls H Fs Z l ds vs F → ds.length = l.length ∧ vs.length = l.length
  | [], ds, vs, F, h => by obtain ⟨rfl, rfl, rfl⟩ := h; exact ⟨rfl, rfl⟩
  | m :: r, ds, vs, F, h => by
    obtain ⟨d, dr, v, vr, F1, F2, rfl, rfl, rfl, h1, h2⟩ := h
    obtain ⟨p, q⟩ := h2.len
    exact ⟨by simp [p], by simp [q]⟩
theorem Reps.at2 {ds : List D} {vs : List V} {F : List Addr} (h : Reps K cls H ds vs F) {i : Nat} {d : D} (e : ds[i]? = some d) : ∃ v G, vs[i]? = some v ∧ Rep K cls H d v G ∧ ∀ a ∈ G, a ∈ F := by
  have hl := h.length
  have hi : i < vs.length := by rw [← hl]; exact (List.getElem?_eq_some_iff.mp e).1
  obtain ⟨d2, G, e2, r, s⟩ := h.part (List.getElem?_eq_getElem hi)
  rw [e] at e2
  cases e2
  exact ⟨_, G, List.getElem?_eq_getElem hi, r, fun a m => s.subset m⟩
theorem rep_flat {n : Nat} : (List.replicate n ([] : List Addr)).flatten = [] := by
  induction n with
  | zero => rfl
  | succ n ih => rw [List.replicate_succ, List.flatten_cons, ih]; rfl
/-- the callee's state at its entry -/
theorem srel_ent {N : List Str} {ds : List D} {vs : List V} (r : Reps K cls H ds vs F) (hn : vs.length ≤ N.length) : SRel K cls (start N vs) (ent N.length ds) H (List.replicate N.length []) (fun a => a ∈ F) := by
  have hl := r.length
  refine ⟨by simp [ent, hl, hn], by simp [ent, L2.start, hl], fun i d e => ?_, fun i d e => ?_, fun a m => ?_, ?_, fun a m => ?_, fun a z => r.some_ ds a z⟩
  · unfold ent at e
    by_cases hi : i < (ds.map Sl.ro).length
    · rw [List.getElem?_append_left hi, List.getElem?_map] at e
      cases e2 : ds[i]? with
      | none => rw [e2] at e; cases e
      | some q => rw [e2] at e; cases e
    · rw [List.getElem?_append_right (Nat.not_lt.mp hi), List.getElem?_replicate] at e
      split at e <;> cases e
  · unfold ent at e
    by_cases hi : i < (ds.map Sl.ro).length
    · rw [List.getElem?_append_left hi, List.getElem?_map] at e
      cases e2 : ds[i]? with
      | none => rw [e2] at e; cases e
      | some q =>
        rw [e2] at e
        cases e
        obtain ⟨v, G, e3, rep, s⟩ := r.at2 e2
        refine ⟨v, G, ?_, rep, s⟩
        unfold L2.start
        rw [List.getElem?_append_left (by rw [List.length_map]; exact (List.getElem?_eq_some_iff.mp e3).1), List.getElem?_map, e3]
        rfl
    · rw [List.getElem?_append_right (Nat.not_lt.mp hi), List.getElem?_replicate] at e
      split at e <;> cases e
  · rw [rep_flat] at m; cases m
  · rw [rep_flat]; exact List.nodup_nil
  · rw [rep_flat] at m; cases m
theorem wm_rep {n : Nat} {a : Addr} : ¬ Wm (List.replicate n []) ms a := fun w => by
  have := w.flat
  rw [rep_flat] at this
  cases this
/-- what is behind a function's body, its arguments only read -/
theorem call_ro {N : List Str} {np : Nat} {f : SM} {ds : List D} {vs : List V} {S' : List Sl} {Q : VK} {E : XK} (r : Reps K cls H ds vs F) (hv : vs.length = np) (hn : np ≤ N.length) (e : rsD (f.run (ent N.length ds)) = some (d, S')) (h : After K cls H d Q) : spD K cls N np f vs H Q E := by
  refine ⟨hv, _, _, _, srel_ent r (by rw [hv]; exact hn), ?_⟩
  cases ef : f.run (ent N.length ds) with
  | nx s =>
    rw [ef] at e
    cases e
    exact fun σ' H' Fs' r' st _ => h .non H' [] (fun a o ea => st.keep a o ea wm_rep) (by unfold Rep; exact ⟨rfl, rfl⟩) ⟨List.nodup_nil, fun a m => by cases m⟩
  | rt x s =>
    rw [ef] at e
    cases e
    exact fun v σ' H' Fs' F' r' st _ hd og => h v H' F' (fun a o ea => st.keep a o ea wm_rep) hd.rep ⟨(hd.own rfl).1, fun a m => ⟨(og rfl a m).resolve_left wm_rep, ((hd.own rfl).2 a m).1⟩⟩
  | bk s => rw [ef] at e; cases e
  | ct s => rw [ef] at e; cases e
  | exc c x s => rw [ef] at e; cases e
  | stuck => rw [ef] at e; cases e
theorem impCall {N : List Str} {np : Nat} {f : SM} {l : List EM} {Q : VK} (hl : l.length = np) (hn : np ≤ N.length) (h : tE K cls W (mCall N.length f l) σ H Q) : tCall (spD K cls N np f) [] E0 (tAL K cls l) σ H Q := by
  obtain ⟨S, Fs, Z, r, h⟩ := h
  refine ⟨S, Fs, Z, r, ?_⟩
  unfold mCall xCall at h
  dsimp only at h
  cases e : eAL l S with
  | exc c d s => rw [e] at h; exact h
  | stuck => rw [e] at h; exact h
  | ok ds S1 =>
    rw [e] at h
    dsimp only at h ⊢
    intro vs H1 Fs1 F r1 st hd
    cases e2 : rsD (f.run (ent N.length ds)) with
    | none => rw [e2] at h; exact h.elim
    | some p =>
      obtain ⟨d, S2⟩ := p
      rw [e2] at h
      rw [List.append_nil]
      exact call_ro hd.reps (by rw [hd.len.2, hl]) hn e2 (after_want (m := mCall N.length f l) rfl st r r1 h)
section
variable {k np : Nat} {f : Addr} {fd : FuncData} {ps : List Str} {x : Str} {p pos : Pos} {e : Expr} {es : List Expr} {N : List Str} {fm : SM} {l : List EM}
theorem s_call (G : FnOk X.prog X.w X.K X.mg X.base CX0 k f fd ps (spD K cls N np fm)) (hr : Room k X.A) (hg : Gl X x) (hm : X.mg x = some (.ref f)) (hk : PySem.W.keepIn X.K (.ref f) = true) (hb : Binds X.K fd ps []) (ha : PA X (e :: es) (tAL K cls l)) (hl : l.length = np) (hn : np ≤ N.length)
    (hdb : (x == ("__debug__" : Str)) = false) (he : starEach (e :: es) X.env = (false, eval e X.env) :: starEach es X.env) (hpl : (backTo pos (starEach es X.env)).any (·.1) = false) : PE X (.Call (.Name x p) (e :: es) [] pos) (tE K cls W (mCall N.length fm l)) :=
  PE.imp (pe_call G hr hg hm hk hb .nil pass0 ha hdb he hpl) fun σ H Q h => impCall hl hn h
theorem s_call0 (G : FnOk X.prog X.w X.K X.mg X.base CX0 k f fd ps (spD K cls N 0 fm)) (hr : Room k X.A) (hg : Gl X x) (hm : X.mg x = some (.ref f)) (hk : PySem.W.keepIn X.K (.ref f) = true) (hb : Binds X.K fd ps [])
    (hdb : (x == ("__debug__" : Str)) = false) : PE X (.Call (.Name x p) [] [] pos) (tE K cls W (mCall N.length fm [])) :=
  PE.imp (pe_call0 G hr hg hm hk hb .nil pass0 hdb) fun σ H Q h => by
    obtain ⟨S, Fs, Z, r, h'⟩ := impCall (np := 0) (l := []) rfl (Nat.zero_le _) h
    exact h' [] H Fs [] r Stp.refl ⟨rfl, rfl, rfl⟩
/-- a function of the text keeps its promise: its body means m -/
theorem fn_ok {P : Program} {w : World} {mg : Str → Option Value} {base : Heap} {x qual : Str} {params : Arguments} {body : List Stmt} {scope : Scope} {dvs : List V} {kws : List (Str × V)} {m : SM} (F : FunD K x qual params body scope dvs kws f fd) (Sc : FnScope N ps scope)
    (hb : ∀ (cdv : Value) (A : Around) (outer : List Env) (s : Shared) (H : Hp) (E : XK), Room k (A.deeper (envOfC qual scope s.heap.objs.size f cdv)) → PSs (cxOf CX0 P w K mg base N qual scope f cdv A outer s H E).nox body (tS K cls m)) : FnOk P w K mg base CX0 (k + 1) f fd ps (spD K cls N ps.length m) :=
  F.ok Sc (fun vs H Q E h => h.1) fun cdv A outer s H vs Q E hr h => ⟨tS K cls m, PSs.nox (hb cdv A outer s H E hr), h.2⟩
end
end Bv
end

section
/-! Calls whose first argument is a slot's object that the callee changes. -/
namespace Bv
open PySem PySem.Spec PyProof.Rows L2
variable {K : PySem.W.Frag} {cls : Nat → Addr} {X : Cx}
variable {σ σ' : L2.St} {S S1 S2 : List Sl} {H H' H1 H2 : Hp} {Fs Fs1 Fs2 : List (List Addr)} {Z : Addr → Prop} {ms ms1 ms2 rs rs2 : List Nat} {d d' : D} {v v' : V} {F F' F1 F2 : List Addr} {ow : Bool} {W : WX}
def rsM : RS → Option (D × D)
  | .rt d (.own x :: _) => some (d, x)
  | .nx (.own x :: _) => some (.non, x)
  | _ => none
def entM (n : Nat) (x : D) (ds : List D) : List Sl := .own x :: (ds.map Sl.ro ++ List.replicate (n - (ds.length + 1)) .dead)
def xCallM (n : Nat) (f : SM) (i : Nat) (l : List EM) : SE := fun s => match s[i]? with
  | some (.own _) => (match eAL l s with
    | .ok ds s' => (match s'[i]? with
      | some (.own x) => (match rsM (f.run (entM n x ds)) with
        | some (d, x') => .ok d (s'.set i (.own x'))
        | none => .stuck)
      | _ => .stuck)
    | .exc c d s => .exc c d s
    | .stuck => .stuck)
  | _ => .stuck
def mCallM (n : Nat) (f : SM) (i : Nat) (l : List EM) : EM := ⟨xCallM n f i l, true, [], lMuts l ++ [i]⟩
/-- the callee's state at its entry -/
theorem srel_entM {N : List Str} {x : D} {v0 : V} {F0 : List Addr} {ds : List D} {vs : List V} (r0 : Rep K cls H x v0 F0) (nd : F0.Nodup) (mu : ∀ a ∈ F0, Mut (H a)) (dj : ∀ a ∈ F0, a ∉ F) (r : Reps K cls H ds vs F) (hn : vs.length + 1 ≤ N.length) :
    SRel K cls (L2.start N (v0 :: vs)) (entM N.length x ds) H (F0 :: List.replicate (N.length - 1) []) (fun a => a ∈ F) := by
  have hl := r.length
  have fl : (F0 :: List.replicate (N.length - 1) ([] : List Addr)).flatten = F0 := by rw [List.flatten_cons, rep_flat, List.append_nil]
  have tail : ∀ (i : Nat), (L2.start N (v0 :: vs))[i + 1]? = (vs.map some ++ List.replicate (N.length - (vs.length + 1)) none)[i]? := fun i => by
    unfold L2.start
    rw [List.map_cons, List.cons_append, List.getElem?_cons_succ]
    rfl
  refine ⟨by simp [entM, hl]; omega, by simp [entM, L2.start, hl], fun i d e => ?_, fun i d e => ?_, fun a m => ?_, by rw [fl]; exact nd, fun a m => ?_, fun a z => r.some_ ds a z⟩
  · cases i with
    | zero =>
      have e : x = d := by simpa [entM] using e
      subst e
      exact ⟨v0, F0, by simp [L2.start], rfl, r0⟩
    | succ i =>
      unfold entM at e
      rw [List.getElem?_cons_succ] at e
      by_cases hi : i < (ds.map Sl.ro).length
      · rw [List.getElem?_append_left hi, List.getElem?_map] at e
        cases e2 : ds[i]? with
        | none => rw [e2] at e; cases e
        | some q => rw [e2] at e; cases e
      · rw [List.getElem?_append_right (Nat.not_lt.mp hi), List.getElem?_replicate] at e
        split at e <;> cases e
  · cases i with
    | zero => simp [entM] at e
    | succ i =>
      unfold entM at e
      rw [List.getElem?_cons_succ] at e
      by_cases hi : i < (ds.map Sl.ro).length
      · rw [List.getElem?_append_left hi, List.getElem?_map] at e
        cases e2 : ds[i]? with
        | none => rw [e2] at e; cases e
        | some q =>
          rw [e2] at e
          cases e
          obtain ⟨v, G, e3, rep, s⟩ := r.at2 e2
          refine ⟨v, G, ?_, rep, s⟩
          rw [tail, List.getElem?_append_left (by rw [List.length_map]; exact (List.getElem?_eq_some_iff.mp e3).1), List.getElem?_map, e3]
          rfl
      · rw [List.getElem?_append_right (Nat.not_lt.mp hi), List.getElem?_replicate] at e
        split at e <;> cases e
  · rw [fl] at m; exact mu a m
  · rw [fl] at m; exact dj a m
theorem wmM {n : Nat} {F0 : List Addr} {a : Addr} (w : Wm (F0 :: List.replicate n []) ms a) : a ∈ F0 := by
  have := w.flat
  rw [List.flatten_cons, rep_flat, List.append_nil] at this
  exact this
/-- the callee's end, told to the caller -/
theorem call_mut {N : List Str} {np : Nat} {f : SM} {x x' : D} {v0 : V} {F0 : List Addr} {ds : List D} {vs : List V} {Q : VK} {E : XK} (hv : vs.length + 1 = np) (hn : np ≤ N.length) (ha : f.asg.contains 0 = false)
    (r0 : Rep K cls H x v0 F0) (nd : F0.Nodup) (mu : ∀ a ∈ F0, Mut (H a)) (dj : ∀ a ∈ F0, a ∉ F) (r : Reps K cls H ds vs F) (e : rsM (f.run (entM N.length x ds)) = some (d, x'))
    (h : ∀ v H' F' F0', Keep (fun a => a ∈ F0) H H' → Rep K cls H' x' v0 F0' → F0'.Nodup → (∀ a ∈ F0', Mut (H' a) ∧ (a ∈ F0 ∨ H a = none)) → Rep K cls H' d v F' → F'.Nodup → (∀ a ∈ F', Mut (H' a) ∧ a ∉ F0' ∧ (a ∈ F0 ∨ H a = none)) → Q v H') : spD K cls N np f (v0 :: vs) H Q E := by
  have sr := srel_entM (N := N) (v0 := v0) r0 nd mu dj r (by omega)
  have h0 : (L2.start N (v0 :: vs))[0]? = some (some v0) := by simp [L2.start]
  have na : (0 : Nat) ∉ f.asg := fun m => by
    have := List.contains_iff_mem.mpr m
    rw [ha] at this
    cases this
  have key : ∀ {σ' : L2.St} {H' : Hp} {Fs' : List (List Addr)} {s : List Sl}, SRel K cls σ' (.own x' :: s) H' Fs' (fun a => a ∈ F) → Stp f.muts (entM N.length x ds) H (F0 :: List.replicate (N.length - 1) []) (.own x' :: s) H' Fs' → Fx f.asg (L2.start N (v0 :: vs)) σ' →
      ∃ F0', Fs'[0]? = some F0' ∧ Keep (fun a => a ∈ F0) H H' ∧ Rep K cls H' x' v0 F0' ∧ F0'.Nodup ∧ ∀ a ∈ F0', Mut (H' a) ∧ (a ∈ F0 ∨ H a = none) := by
    intro σ' H' Fs' s r' st fx
    obtain ⟨v, G, e1, e2, rep⟩ := r'.ow 0 x' rfl
    rw [fx 0 na, h0] at e1
    cases e1
    refine ⟨G, e2, fun a o ea n => st.keep a o ea fun w => n (wmM w), rep, (flat_out r'.nd e2).1, fun a m => ⟨r'.mu a (mem_flat.mpr ⟨0, G, e2, m⟩), ?_⟩⟩
    by_cases q : (0 : Nat) ∈ f.muts
    · exact (st.inn 0 q G e2 a m).imp (fun w => wmM w) id
    · rw [(st.out 0 q).2] at e2
      cases e2
      exact .inl m
  refine ⟨by rw [List.length_cons]; exact hv, _, _, _, sr, ?_⟩
  cases ef : f.run (entM N.length x ds) with
  | nx s =>
    rw [ef] at e
    unfold rsM at e
    split at e
    · rename_i eq; cases eq
    · rename_i y t eq
      cases eq
      cases e
      intro σ' H' Fs' r' st fx
      obtain ⟨G, e2, kp, rep, n1, q1⟩ := key r' st fx
      exact h .non H' [] G kp rep n1 q1 (by unfold Rep; exact ⟨rfl, rfl⟩) List.nodup_nil fun a m => by cases m
    · cases e
  | rt y s =>
    rw [ef] at e
    unfold rsM at e
    split at e
    · rename_i d0 y0 t eq
      cases eq
      cases e
      intro v σ' H' Fs' F' r' st fx hd og
      obtain ⟨G, e2, kp, rep, n1, q1⟩ := key r' st fx
      obtain ⟨p1, p2⟩ := hd.own rfl
      exact h v H' F' G kp rep n1 q1 hd.rep p1 fun a m => ⟨(p2 a m).1, fun z => (p2 a m).2.1 (mem_flat.mpr ⟨0, G, e2, z⟩), (og rfl a m).imp (fun w => wmM w) id⟩
    · rename_i eq; cases eq
    · cases e
  | bk s => rw [ef] at e; cases e
  | ct s => rw [ef] at e; cases e
  | exc c x s => rw [ef] at e; cases e
  | stuck => rw [ef] at e; cases e
theorem impCallM {N : List Str} {np i : Nat} {f : SM} {l : List EM} {Q : VK} (hl : l.length + 1 = np) (hn : np ≤ N.length) (ha : f.asg.contains 0 = false) (hr : (lRoots l).contains i = false) (h : tE K cls W (mCallM N.length f i l) σ H Q) : tCall (spD K cls N np f) [] E0 (tCons (tVar i) (tAL K cls l)) σ H Q := by
  obtain ⟨S, Fs, Z, r, h⟩ := h
  have wm : (mCallM N.length f i l).muts = lMuts l ++ [i] := rfl
  unfold mCallM xCallM at h
  dsimp only at h
  cases e0 : S[i]? with
  | none => rw [e0] at h; exact h.elim
  | some sl0 =>
  rw [e0] at h
  cases sl0 with
  | dead => exact h.elim
  | ro d => exact h.elim
  | own x0 =>
  dsimp only at h
  obtain ⟨v0, F00, s0, _, _⟩ := r.ow i x0 e0
  refine ⟨v0, s0, S, Fs, Z, r, ?_⟩
  cases e : eAL l S with
  | exc c d s => rw [e] at h; exact h.elim
  | stuck => rw [e] at h; exact h.elim
  | ok ds S1 =>
    rw [e] at h
    dsimp only at h ⊢
    intro vs H1 Fs1 F r1 st hd
    cases ei : S1[i]? with
    | none => rw [ei] at h; exact h.elim
    | some sl =>
      rw [ei] at h
      cases sl with
      | dead => exact h.elim
      | ro d => exact h.elim
      | own x =>
        dsimp only at h
        cases e2 : rsM (f.run (entM N.length x ds)) with
        | none => rw [e2] at h; exact h.elim
        | some q =>
          obtain ⟨d, x'⟩ := q
          rw [e2] at h
          dsimp only at h
          obtain ⟨v1, F0, s1, f1, rep⟩ := r1.ow i x ei
          rw [s0] at s1
          cases s1
          have ni : i ∉ lRoots l := fun m => by
            have := List.contains_iff_mem.mpr m
            rw [hr] at this
            cases this
          have inF : ∀ a ∈ F0, a ∈ Fs1.flatten := fun a m => mem_flat.mpr ⟨i, F0, f1, m⟩
          have dj : ∀ a ∈ F0, a ∉ F := fun a m n => by
            obtain ⟨j, hj, G, g, m2⟩ := hd.bor a n (inF a m)
            have := flat_one r1.nd f1 g m m2
            subst this
            exact ni hj
          have hi : i < Fs1.length := (List.getElem?_eq_some_iff.mp f1).1
          rw [List.append_nil]
          refine call_mut (by rw [hd.len.2]; exact hl) hn ha rep (flat_out r1.nd f1).1 (fun a m => r1.mu a (inF a m)) dj hd.reps e2 fun v H' F' F0' kp rep' nd' q1 rd nF q2 => ?_
          have fresh : ∀ a, H1 a = none → a ∉ Fs1.flatten ∧ ¬ Z a := fun a z => ⟨fun m => mut_ne (r1.mu a m) z, fun m => r1.zs a m z⟩
          have sr := SRel.put (d' := x') (F' := F0') r1 f1 kp rep' nd' (fun a m => ⟨(q1 a m).1, (q1 a m).2.imp id (fun z => fresh a z)⟩) rfl s0 (fun j _ => rfl)
          have sp : Stp (lMuts l ++ [i]) S H Fs (S1.set i (.own x')) H' (Fs1.set i F0') := Stp.put st r hi f1 kp fun a m => (q1 a m).2.elim (fun z => .inl z) fun z => .inr ((st.new r z).elim (fun z => .inr z) fun w => .inl w.app_l)
          refine h v H' (Fs1.set i F0') F' sr sp ⟨rd, fun _ => ⟨nF, fun a m => ⟨(q2 a m).1, fun z => ?_, ?_⟩⟩, fun z => by cases z⟩ fun _ a m => ?_
          · obtain ⟨j, G, g, m2⟩ := mem_flat.mp z
            rw [set_get hi] at g
            by_cases hij : i = j
            · rw [if_pos hij] at g
              cases g
              exact (q2 a m).2.1 m2
            · rw [if_neg hij] at g
              rcases (q2 a m).2.2 with w | w
              · exact hij (flat_one r1.nd f1 g w m2)
              · exact (fresh a w).1 (mem_flat.mpr ⟨j, G, g, m2⟩)
          · rcases (q2 a m).2.2 with w | w
            · exact r1.dj a (inF a w)
            · exact (fresh a w).2
          · rcases (q2 a m).2.2 with w | w
            · exact st.back (ms2 := [i]) ⟨i, by simp, F0, f1, w⟩
            · exact (st.new r w).elim (fun z => .inr z) fun w => .inl w.app_l
section
variable {k np i : Nat} {f : Addr} {fd : FuncData} {ps : List Str} {x y : Str} {p pos pos' : Pos} {es : List Expr} {N : List Str} {fm : SM} {l : List EM}
theorem s_callM (G : FnOk X.prog X.w X.K X.mg X.base CX0 k f fd ps (spD K cls N np fm)) (hr : Room k X.A) (hg : Gl X x) (hm : X.mg x = some (.ref f)) (hk : PySem.W.keepIn X.K (.ref f) = true) (hb : Binds X.K fd ps []) (ha : PA X es (tAL K cls l)) (hl : l.length + 1 = np) (hn : np ≤ N.length)
    (hasg : fm.asg.contains 0 = false) (hro : (lRoots l).contains i = false) (hN : X.N[i]? = some y) (hv : Vis X.env.scope y) (hy : (y == ("__debug__" : Str)) = false) (hcd : (y == ("__classdict__" : Str)) = false)
    (hdb : (x == ("__debug__" : Str)) = false) (he : starEach (.Name y pos' :: es) X.env = (false, eval (.Name y pos') X.env) :: starEach es X.env) (hpl : (backTo pos (starEach es X.env)).any (·.1) = false) :
    PE X (.Call (.Name x p) (.Name y pos' :: es) [] pos) (tE K cls W (mCallM N.length fm i l)) :=
  PE.imp (pe_call G hr hg hm hk hb .nil pass0 (pa_cons (pe_var hN hv hy hcd) ha he) hdb he hpl) fun σ H Q h => impCallM hl hn hasg hro h
end
end Bv
end

section
/-! enumerate and zip over lists, tuples, texts. -/
namespace Bv
open PySem PySem.Spec PyProof.Rows L2
/-- what an iterator stands on -/
inductive Sc where
  | lst (a : Addr) | tup (a : Addr) | str (x : Str)
def Sc.v : Sc → V
  | .lst a => .ref a
  | .tup a => .ref a
  | .str x => .str x
def Sc.adr : Sc → List Addr
  | .lst a => [a]
  | .tup a => [a]
  | .str _ => []
def Sc.At (H : Hp) : Sc → List V → Prop
  | .lst a, xs => H a = some (.lst xs)
  | .tup a, xs => H a = some (.tup xs)
  | .str x, xs => xs = x.cps.toList.map fun c => V.str ⟨#[c]⟩
theorem Sc.inj {c : Sc} {H : Hp} {xs ys : List V} (h : c.At H xs) (g : c.At H ys) : ys = xs := by
  cases c with
  | lst a => simp only [Sc.At] at h g; rw [h] at g; cases g; rfl
  | tup a => simp only [Sc.At] at h g; rw [h] at g; cases g; rfl
  | str x => simp only [Sc.At] at h g; rw [h, g]
def Sc.tn (it : Addr) : Sc → Nat → Heap → Prop
  | .lst a, i, h => h.IsListIter it a i
  | .tup a, i, h => h.IsTupleIter it a i
  | .str x, i, h => ∃ t, h.IsStrIter it (strIterType x) x t i
theorem Sc.tn_at {c : Sc} {it : Addr} {i : Nat} {h h' : Heap} (st : c.tn it i h) (k : ∀ o, h.get? it = some o → h'.get? it = some o) : c.tn it i h' := by
  cases c with
  | lst a => exact Heap.IsListIter.at st k
  | tup a => exact Heap.IsTupleIter.at st k
  | str x => obtain ⟨t, o, e, q⟩ := st; exact ⟨t, o, k o e, q⟩
theorem Sc.tn_obj {c : Sc} {it : Addr} {i : Nat} {h : Heap} (st : c.tn it i h) : ∃ o, h.get? it = some o ∧ ∀ v, o.data ≠ .cell v := by
  cases c with
  | lst a => obtain ⟨o, e, _, d⟩ := st; exact ⟨o, e, fun v z => by rw [d] at z; cases z⟩
  | tup a => obtain ⟨o, e, _, d⟩ := st; exact ⟨o, e, fun v z => by rw [d] at z; cases z⟩
  | str x => obtain ⟨t, o, e, _, d⟩ := st; exact ⟨o, e, fun v z => by rw [d] at z; cases z⟩
section
variable {X : Cx} {pins : List (Addr × Obj)} {s : Shared} {σ : L2.St} {H : Hp}
theorem vals_back {xs : List V} {us : List Value} (r : Vals xs us) {i : Nat} {u : Value} (h : us[i]? = some u) : ∃ x, xs[i]? = some x ∧ RelV x u := by
  have hl := r.length
  have hi : i < xs.length := by rw [hl]; exact (List.getElem?_eq_some_iff.mp h).1
  obtain ⟨u', e, q⟩ := r.get (List.getElem?_eq_getElem hi)
  rw [h] at e
  cases e
  exact ⟨_, List.getElem?_eq_getElem hi, q⟩
theorem Sc.draws {c : Sc} {it : Addr} {i : Nat} {xs : List V} (I : Inv X pins σ H s) (hh : X.A.handled = none) (g : c.At H xs) (st : c.tn it i s.heap) (hne : ∀ a ∈ c.adr, a ≠ it) :
    ∃ P St, Draws X.prog X.w X.A.in1 it (it :: c.adr) xs.length P St ∧ St i s.heap ∧ (∀ i h, St i h → c.tn it i h) ∧ ∀ i u, P i u → ∃ x, xs[i]? = some x ∧ RelV x u := by
  cases c with
  | lst a =>
    obtain ⟨its, rv, p, _⟩ := I.list (SqL.of g)
    have D := Draws.list (prog := X.prog) (w := X.w) (A := X.A.in1) hh it a (hne a (by simp [Sc.adr])) its.toArray
    rw [show its.toArray.size = xs.length by simp [rv.length]] at D
    exact ⟨_, _, D, ⟨st, p.isList⟩, fun i h q => q.1, fun i u q => vals_back rv (by simpa using q)⟩
  | tup a =>
    obtain ⟨its, rv, p, _⟩ := I.tuple (SqT.of g)
    have D := Draws.tuple (prog := X.prog) (w := X.w) (A := X.A.in1) hh it a (hne a (by simp [Sc.adr])) its.toArray
    rw [show its.toArray.size = xs.length by simp [rv.length]] at D
    exact ⟨_, _, D, ⟨st, p⟩, fun i h q => q.1, fun i u q => vals_back rv (by simpa using q)⟩
  | str x =>
    obtain ⟨t, st⟩ := st
    have D := Draws.text (prog := X.prog) (w := X.w) (A := X.A.in1) hh it x t
    have hl : x.cps.size = xs.length := by rw [show xs = _ from g]; simp
    rw [hl] at D
    refine ⟨_, _, D, st, fun i h q => ⟨t, q⟩, fun i u q => ?_⟩
    obtain ⟨ch, tk, e, rfl⟩ := q
    refine ⟨.str ⟨#[ch]⟩, ?_, ⟨tk, rfl⟩⟩
    rw [show xs = _ from g, List.getElem?_map]
    simp [e]
theorem Sc.begins {c : Sc} {xs : List V} {u : Value} (I : Inv X pins σ H s) (g : c.At H xs) (r : RelV c.v u) : ∃ o Hb, Begins u o Hb ∧ Hb s.heap ∧ (∀ (h' : Heap) (it : Addr), h'.get? it = some o → c.tn it 0 h') ∧ ∀ a ∈ c.adr, a < s.heap.objs.size := by
  cases c with
  | lst a =>
    obtain rfl : u = .ref a := r
    obtain ⟨its, rv, p, _⟩ := I.list (SqL.of g)
    refine ⟨_, _, begins_list a its.toArray, p.isList, fun h' it e => ⟨_, e, rfl, rfl⟩, fun b m => ?_⟩
    have : b = a := by simpa [Sc.adr] using m
    rw [this]
    exact p.lt
  | tup a =>
    obtain rfl : u = .ref a := r
    obtain ⟨its, rv, p, _⟩ := I.tuple (SqT.of g)
    refine ⟨_, _, begins_tuple a its.toArray, p, fun h' it e => ⟨_, e, rfl, rfl⟩, fun b m => ?_⟩
    have : b = a := by simpa [Sc.adr] using m
    rw [this]
    obtain ⟨o, e, _⟩ := p
    exact Heap.lt_size e
  | str x =>
    obtain ⟨t, rfl⟩ := r
    exact ⟨_, _, begins_text x t, trivial, fun h' it e => ⟨t, _, e, rfl, rfl⟩, fun a m => by simp [Sc.adr] at m⟩
end
/-! ### enumerate -/
def IteC (c : Sc) : It :=
  ⟨fun i H => ∃ (xs : List V), c.At H xs ∧ i < xs.length, fun i H v H' => ∃ T x, v = .ref T ∧ H T = none ∧ H' = upd H T (.tup [.int (i : Nat), x]) ∧ ∃ xs, c.At H xs ∧ xs[i]? = some x, fun i H => ∃ xs : List V, c.At H xs ∧ xs.length = i⟩
theorem turn_enumC {P : Program} {w : World} {K : PySem.W.Frag} {elts : List Expr} {kk : Nat} {tpos : Pos} {c : Sc} {e it : Addr} (hei : e ≠ it) (he : ∀ a ∈ c.adr, a ≠ e) (hi : ∀ a ∈ c.adr, a ≠ it) :
    Turn P w K (.Tuple elts kk tpos) (IteC c) [e, it] e (fun i h => (∃ old, IsEnum h e it (0 + ((i : Nat) : Int)) old) ∧ c.tn it i h) where
  mem := by simp
  obj := fun i h st b hb => by
    obtain ⟨⟨old, q⟩, st⟩ := st
    have e' : b = e ∨ b = it := by simpa using hb
    rcases e' with z | z
    · rw [z]; exact ⟨_, q, fun v q => nomatch q⟩
    · rw [z]; exact Sc.tn_obj st
  keep := fun i h h' st k => let ⟨⟨old, q⟩, st⟩ := st; ⟨⟨old, k e (by simp) _ q⟩, Sc.tn_at st fun o q => k it (by simp) o q⟩
  item := by
    intro X hP hw hK hc i pins s σ H E I hf st hg
    subst hP hw hK
    obtain ⟨hE, st⟩ := st
    obtain ⟨xs, g, hlt⟩ := hg
    obtain ⟨P, St, D, st0, up, pp⟩ := c.draws I (I.ok.hd hc) g st hi
    have W := GoesN.enumFrom (elts := elts) (x1 := kk) (pos := tpos) 0 D e hei (by
      intro m
      rcases List.mem_cons.mp m with z | z
      · exact hei z
      · exact he e z rfl) (List.mem_cons_self ..)
    refine W.goes i s _ E hlt ⟨hE, st0⟩ fun v h' tk ⟨T, t, y, ev, hle, hp, hT⟩ st' kp htk => ?_
    subst ev
    obtain ⟨x, hx, rx⟩ := pp i y hp
    have new : ObjOk X.prog X.w (upd H T (.tup [.int (0 + ((i : Nat) : Int)), x])) h' T (.tup [.int (0 + ((i : Nat) : Int)), x]) :=
      ⟨by show 2 ≤ sizeLine; decide, [.int (0 + ((i : Nat) : Int)) t, y], .cons ⟨t, rfl⟩ (.cons rx .nil), hT⟩
    have I1 := I.turnedNew (t' := tk) kp hf hle new
    refine ⟨.ref T, _, I1, rfl, ⟨T, x, rfl, I.hok.fresh hle, by rw [Int.zero_add], xs, g, hx⟩, ⟨st'.1, up _ _ st'.2⟩, fun b hb => ?_⟩
    have hb' : b < s.heap.objs.size := by
      have e' : b = e ∨ b = it := by simpa using hb
      rcases e' with z | z
      · rw [z]; obtain ⟨old, q⟩ := hE; exact Heap.lt_size q
      · rw [z]; obtain ⟨o, q, _⟩ := Sc.tn_obj st; exact Heap.lt_size q
    rw [upd_ne (Nat.ne_of_lt (Nat.lt_of_lt_of_le hb' hle))]
    exact (hf b hb).1
  done := by
    intro X hP hw hK hc i pins s σ H E I hf st hg
    subst hP hw hK
    obtain ⟨hE, st⟩ := st
    obtain ⟨xs, g, hlt⟩ := hg
    obtain ⟨P, St, D, st0, up, pp⟩ := c.draws I (I.ok.hd hc) g st hi
    have W := GoesN.enumFrom (elts := elts) (x1 := kk) (pos := tpos) 0 D e hei (by
      intro m
      rcases List.mem_cons.mp m with z | z
      · exact hei z
      · exact he e z rfl) (List.mem_cons_self ..)
    subst hlt
    exact W.stops s (fun s1 => Inv X pins σ H s1) E ⟨hE, st0⟩ fun h' tk kp htk => I.turnedL kp hf
  self := fun A i s Q E st h => let ⟨⟨_, he⟩, _⟩ := st; wpAny_pyIter_enum he h
end Bv
end

section
namespace Bv
open PySem PySem.Spec PyProof.Rows L2
/-! ### zip of two -/
def ItzC (c1 c2 : Sc) : It :=
  ⟨fun i H => ∃ xs ys : List V, c1.At H xs ∧ c2.At H ys ∧ i < min xs.length ys.length, fun i H v H' => ∃ T x y, v = .ref T ∧ H T = none ∧ H' = upd H T (.tup [x, y]) ∧ ∃ xs ys, c1.At H xs ∧ c2.At H ys ∧ xs[i]? = some x ∧ ys[i]? = some y,
    fun i H => ∃ xs ys : List V, c1.At H xs ∧ c2.At H ys ∧ min xs.length ys.length = i⟩
theorem turn_zipC {P : Program} {w : World} {K : PySem.W.Frag} {elts : List Expr} {kk : Nat} {tpos : Pos} {c1 c2 : Sc} {z TI TO i1 i2 : Addr} (Z : ZipSep2 z TI TO i1 i2 (i1 :: c1.adr) (i2 :: c2.adr)) (h1 : ∀ a ∈ c1.adr, a ≠ i1) (h2 : ∀ a ∈ c2.adr, a ≠ i2) :
    Turn P w K (.Tuple elts kk tpos) (ItzC c1 c2) [z, TI, TO, i1, i2] z (fun i h => IsZip h z TI TO .none ∧ IsTupOf2 h TI (.ref i1) (.ref i2) ∧ (∃ x y, IsTupOf2 h TO x y) ∧ c1.tn i1 i h ∧ c2.tn i2 i h) where
  mem := by simp
  obj := fun i h st c hc => by
    obtain ⟨hz, hTI, ⟨x, y, hTO⟩, s1, s2⟩ := st
    have e' : c = z ∨ c = TI ∨ c = TO ∨ c = i1 ∨ c = i2 := by simpa using hc
    rcases e' with q | q | q | q | q
    · rw [q]; exact ⟨_, hz, fun v q => nomatch q⟩
    · rw [q]; exact ⟨_, hTI, fun v q => nomatch q⟩
    · rw [q]; exact ⟨_, hTO, fun v q => nomatch q⟩
    · rw [q]; exact Sc.tn_obj s1
    · rw [q]; exact Sc.tn_obj s2
  keep := fun i h h' st k => by
    obtain ⟨hz, hTI, ⟨x, y, hTO⟩, s1, s2⟩ := st
    exact ⟨k z (by simp) _ hz, k TI (by simp) _ hTI, ⟨x, y, k TO (by simp) _ hTO⟩, Sc.tn_at s1 fun o q => k i1 (by simp) o q, Sc.tn_at s2 fun o q => k i2 (by simp) o q⟩
  item := by
    intro X hP hw hK hc i pins s σ H E I hf st hg
    subst hP hw hK
    obtain ⟨hz, hTI, hTO, s1, s2⟩ := st
    obtain ⟨xs, ys, g1, g2, hlt⟩ := hg
    obtain ⟨P1, St1, D1, st1, up1, pp1⟩ := c1.draws I (I.ok.hd hc) g1 s1 h1
    obtain ⟨P2, St2, D2, st2, up2, pp2⟩ := c2.draws I (I.ok.hd hc) g2 s2 h2
    have W := GoesN.zip2 (elts := elts) (x1 := kk) (pos := tpos) Z D1 D2
    have hf' : ∀ b ∈ [z, TO, i1, i2], FpOk X pins H b := fun b m => hf b (by
      have e' : b = z ∨ b = TO ∨ b = i1 ∨ b = i2 := by simpa using m
      rcases e' with q | q | q | q <;> simp [q])
    refine W.goes i s _ E hlt ⟨hz, hTI, hTO, st1, st2⟩ fun v h' tk ⟨T, x, y, ev, hle, hx, hy, hT⟩ st' kp htk => ?_
    subst ev
    obtain ⟨x', ex, rx⟩ := pp1 i x hx
    obtain ⟨y', ey, ry⟩ := pp2 i y hy
    have new : ObjOk X.prog X.w (upd H T (.tup [x', y'])) h' T (.tup [x', y']) :=
      ⟨by show 2 ≤ sizeLine; decide, [x, y], .cons rx (.cons ry .nil), hT⟩
    have I1 := I.turnedNew (t' := tk) kp hf' hle new
    refine ⟨.ref T, _, I1, rfl, ⟨T, x', y', rfl, I.hok.fresh hle, rfl, xs, ys, g1, g2, ex, ey⟩, ⟨st'.1, st'.2.1, st'.2.2.1, up1 _ _ st'.2.2.2.1, up2 _ _ st'.2.2.2.2⟩, fun b hb => ?_⟩
    have hb' : b < s.heap.objs.size := by
      have e' : b = z ∨ b = TI ∨ b = TO ∨ b = i1 ∨ b = i2 := by simpa using hb
      rcases e' with q | q | q | q | q
      · rw [q]; exact Heap.lt_size hz
      · rw [q]; exact Heap.lt_size hTI
      · rw [q]; obtain ⟨_, _, q⟩ := hTO; exact Heap.lt_size q
      · rw [q]; obtain ⟨o, q, _⟩ := Sc.tn_obj s1; exact Heap.lt_size q
      · rw [q]; obtain ⟨o, q, _⟩ := Sc.tn_obj s2; exact Heap.lt_size q
    rw [upd_ne (Nat.ne_of_lt (Nat.lt_of_lt_of_le hb' hle))]
    exact (hf b hb).1
  done := by
    intro X hP hw hK hc i pins s σ H E I hf st hg
    subst hP hw hK
    obtain ⟨hz, hTI, hTO, s1, s2⟩ := st
    obtain ⟨xs, ys, g1, g2, hlt⟩ := hg
    obtain ⟨P1, St1, D1, st1, up1, pp1⟩ := c1.draws I (I.ok.hd hc) g1 s1 h1
    obtain ⟨P2, St2, D2, st2, up2, pp2⟩ := c2.draws I (I.ok.hd hc) g2 s2 h2
    have W := GoesN.zip2 (elts := elts) (x1 := kk) (pos := tpos) Z D1 D2
    have hf' : ∀ b ∈ [z, TO, i1, i2], FpOk X pins H b := fun b m => hf b (by
      have e' : b = z ∨ b = TO ∨ b = i1 ∨ b = i2 := by simpa using m
      rcases e' with q | q | q | q <;> simp [q])
    subst hlt
    exact W.stops s (fun s1 => Inv X pins σ H s1) E ⟨hz, hTI, hTO, st1, st2⟩ fun h' tk kp htk => I.turnedL kp hf'
  self := fun A i s Q E st h => wpAny_pyIter_zip st.1 h
/-! ### they begin -/
section
variable {X : Cx} {e e2 : Expr} {ta : TA} {p pos tpos : Pos} {elts : List Expr} {kk : Nat}
def iZipC (ta : TA) : TI := fun σ H R => ta σ H fun vs H1 => ∃ c1 c2 xs ys, vs = [Sc.v c1, Sc.v c2] ∧ c1.At H1 xs ∧ c2.At H1 ys ∧ R (ItzC c1 c2) H1
theorem pi_zipC (hg : Gl X "zip") (hm : X.mg "zip" = none) (ha : PA X [e, e2] ta)
    (hs : starEach [e, e2] X.env = (false, eval e X.env) :: starEach [e2] X.env) (hpl : (backTo pos (starEach [e2] X.env)).any (·.1) = false) :
    PI X (.Tuple elts kk tpos) (.Call (.Name "zip" p) [e, e2] [] pos) (iZipC ta) := by
  refine ⟨fun pins s σ H R I h => ?_⟩
  refine Call_ (ld_blt I hg hm PyProof.Rows.boot_zip (PyProof.Rows.callWith_type1 (thn (ha.run pos pins s σ H _ I h) fun us s1 ⟨vs, H1, I1, r1, q1⟩ => ?_) hs hpl))
  obtain ⟨c1, c2, xs, ys, ex, g1, g2, q⟩ := q1
  subst ex
  cases r1 with
  | cons r rr =>
    cases rr with
    | cons r' rr =>
      cases rr
      obtain ⟨o1, B1, b1, w1, t1, a1⟩ := Sc.begins I1 g1 r
      obtain ⟨o2, B2, b2, w2, t2, a2⟩ := Sc.begins I1 g2 r'
      refine zip_begins2 b1 b2 w1 w2 fun h' hz hTI hTO e1 e2 hsz hk => wpAny_pyIter_zip hz ?_
      have I2 : Inv X pins σ H1 { s1 with heap := h' } := I1.kept (t' := s1.toks) hk
      refine ⟨s1.heap.objs.size + 4, [s1.heap.objs.size + 4, s1.heap.objs.size + 2, s1.heap.objs.size + 3, s1.heap.objs.size, s1.heap.objs.size + 1], _, _, H1, rfl, I2, turn_zipC (zip_sep2 a1 a2) (fun a m => Nat.ne_of_lt (a1 a m)) (fun a m => Nat.ne_of_lt (Nat.lt_succ_of_lt (a2 a m))), ⟨hz, hTI, ⟨_, _, hTO⟩, t1 _ _ e1, t2 _ _ e2⟩, fun c hcm => ?_, q⟩
      have e' : c = s1.heap.objs.size + 4 ∨ c = s1.heap.objs.size + 2 ∨ c = s1.heap.objs.size + 3 ∨ c = s1.heap.objs.size ∨ c = s1.heap.objs.size + 1 := by simpa using hcm
      have hle : s1.heap.objs.size ≤ c := by
        rcases e' with z | z | z | z | z
        · rw [z]; exact Nat.le_add_right _ _
        · rw [z]; exact Nat.le_add_right _ _
        · rw [z]; exact Nat.le_add_right _ _
        · rw [z]; exact Nat.le_refl _
        · rw [z]; exact Nat.le_add_right _ _
      exact I1.fpOk hle (I1.hok.fresh hle)
end
section
variable {prog : Program} {w : World} {A : Around} {E : Value → Shared → Prop} {s : Shared}
theorem meets_enumerate_new1 {v : Value} {o : Obj} {H : Heap → Prop} (B : Begins v o H) :
    Meets (Builtin.«enumerate.__new__» ⟨[.type "enumerate", v], []⟩) (fun _ R s => H s.heap ∧
      R (.ok (.ret (.ref (s.heap.push o).objs.size))) { s with heap := (s.heap.push o).push { cls := .type "enumerate", data := .fields #[.none, .bool false, .ref s.heap.objs.size, rawInt 0, .none, .none] } }) :=
  .of_wp fun prog w A R s h => by
    obtain ⟨hp, g, d, tk, os⟩ := s; obtain ⟨h1, h⟩ := h
    have hsub := sub_enumerate
    have q1 : ∀ {A' : Around} {E : Value → Shared → Prop} {Q : Value → Shared → Prop}, Q (.ref hp.objs.size) ⟨hp.push o, g, d, tk, os⟩ → wpAny (model prog w) A' (pyIter v) Q E ⟨hp, g, d, tk, os⟩ :=
      fun q => B.iter prog w _ _ ⟨hp, g, d, tk, os⟩ _ h1 q
    wp_walk using q1
    refine wpAny_stack_any fun st => wpAny_pure ?_
    split
    · rename_i c _ _ _ _ _
      cases (c == Value.type "enumerate")
      · wp_walk using q1
        exact ⟨_, rfl, h⟩
      · wp_walk using q1
        exact ⟨_, rfl, h⟩
    · wp_walk using q1
      exact ⟨_, rfl, h⟩
theorem enum_begins1 {v : Value} {o : Obj} {H : Heap → Prop} {Q : Value → Shared → Prop} (B : Begins v o H) (h1 : H s.heap)
    (h : ∀ h', IsEnum h' (s.heap.objs.size + 1) s.heap.objs.size 0 .none → h'.get? s.heap.objs.size = some o → h'.objs.size = s.heap.objs.size + 2 →
      (∀ b o, s.heap.get? b = some o → h'.get? b = some o) → Q (.ref (s.heap.objs.size + 1)) { s with heap := h' }) :
    wpAny (model prog w) A (call (.type "enumerate") [v]) Q E s := by
  refine callType_new F.called_enumerate (by decide) (F.typeCall_enumerate_1 _) (F.newCall_enumerate_1 _) (fun obj => F.args_object_init_2 obj _) F.entry_enumerate_new
    (meets_enumerate_new1 B) ⟨h1, ?_⟩
  have hz : (s.heap.push o).objs.size = s.heap.objs.size + 1 := Heap.size_push ..
  show _ ∧ _
  rw [hz]
  have he : IsEnum ((s.heap.push o).push { cls := .type "enumerate", data := .fields #[.none, .bool false, .ref s.heap.objs.size, rawInt 0, .none, .none] }) (s.heap.objs.size + 1) s.heap.objs.size 0 .none := by
    have := Heap.get?_push_size (s.heap.push o) (o := { cls := .type "enumerate", data := .fields #[.none, .bool false, .ref s.heap.objs.size, rawInt 0, .none, .none] }) rfl
    rw [hz] at this; exact this
  refine ⟨⟨_, he, rfl⟩, h _ he (Heap.get?_push_of_some _ (Heap.get?_push_size _ B.free)) (by rw [Heap.size_push, hz]) fun b o x => Heap.get?_push_of_some _ (Heap.get?_push_of_some _ x)⟩
end
section
variable {X : Cx} {e : Expr} {ta : TA} {p pos tpos : Pos} {elts : List Expr} {kk : Nat}
def iEnumC (ta : TA) : TI := fun σ H R => ta σ H fun vs H1 => ∃ c xs, vs = [Sc.v c] ∧ c.At H1 xs ∧ R (IteC c) H1
theorem pi_enumC (hg : Gl X "enumerate") (hm : X.mg "enumerate" = none) (ha : PA X [e] ta) (hs : starEach [e] X.env = [(false, eval e X.env)]) :
    PI X (.Tuple elts kk tpos) (.Call (.Name "enumerate" p) [e] [] pos) (iEnumC ta) := by
  refine ⟨fun pins s σ H R I h => ?_⟩
  refine Call_ (ld_blt I hg hm boot_enumerate (PyProof.Rows.callWith_type1 (thn (ha.run pos pins s σ H _ I h) fun us s1 ⟨vs, H1, I1, r1, q1⟩ => ?_) hs rfl))
  obtain ⟨c, xs, ex, g, q⟩ := q1
  subst ex
  cases r1 with
  | cons r rr =>
    cases rr
    obtain ⟨o1, B1, b1, w1, t1, a1⟩ := Sc.begins I1 g r
    refine enum_begins1 b1 w1 fun h' he e1 hsz hk => wpAny_pyIter_enum he ?_
    have I2 : Inv X pins σ H1 { s1 with heap := h' } := I1.kept (t' := s1.toks) hk
    refine ⟨s1.heap.objs.size + 1, [s1.heap.objs.size + 1, s1.heap.objs.size], _, _, H1, rfl, I2, turn_enumC (Nat.succ_ne_self _) (fun a m => Nat.ne_of_lt (Nat.lt_succ_of_lt (a1 a m))) (fun a m => Nat.ne_of_lt (a1 a m)), ⟨⟨.none, he⟩, t1 _ _ e1⟩, fun b hb => ?_, q⟩
    have e' : b = s1.heap.objs.size + 1 ∨ b = s1.heap.objs.size := by simpa using hb
    have hle : s1.heap.objs.size ≤ b := by
      rcases e' with z | z
      · rw [z]; exact Nat.le_add_right _ _
      · rw [z]; exact Nat.le_refl _
    exact I1.fpOk hle (I1.hok.fresh hle)
end
end Bv
end

section
/-! enumerate, zip, items, values by data. -/
namespace Bv
open PySem PySem.Spec PyProof.Rows L2
variable {K : PySem.W.Frag} {cls : Nat → Addr} {X : Cx}
variable {σ σ' σ0 σ1 : L2.St} {S S0 S1 S2 : List Sl} {H H0 H' H1 H2 Hl : Hp} {Fs Fs0 Fs1 Fs2 : List (List Addr)} {Z : Addr → Prop} {ms ms1 ms2 rs rs2 is : List Nat} {d d' c c' : D} {v v' : V} {F F' F1 F2 FC G : List Addr} {ow : Bool} {W : WX}
def mSrc (op : List D → Option (List D)) (l : List EM) : IM := ⟨xRng op l, false, lRoots l, lMuts l⟩
theorem src_run {op : List D → Option (List D)} {l : List EM} {R : It → Hp → Prop} {P : List V → Hp → Prop} (h : tI X cls (mSrc op l) σ H R)
    (k : ∀ ds xs vs H' F, op ds = some xs → Reps X.K cls H' ds vs F → (∀ J Hl, LkOk X H' Hl F → ItOk X.K cls J xs Hl F → R J Hl) → P vs H') : tAL X.K cls l σ H P := by
  obtain ⟨S, Fs, Z, r, h⟩ := h
  refine ⟨S, Fs, Z, r, ?_⟩
  unfold mSrc xRng at h
  dsimp only at h
  cases e : eAL l S with
  | exc c d s => rw [e] at h; exact h
  | stuck => rw [e] at h; exact h
  | ok ds S1 =>
    rw [e] at h
    dsimp only at h ⊢
    intro vs H' Fs' F r' st hd
    cases er : op ds with
    | none => rw [er] at h; exact h.elim
    | some xs =>
      rw [er] at h
      exact k ds xs vs H' F er hd.reps fun J Hl lk it => h J H' Hl Fs' F r' st ⟨hd.reps.some_, fun z => (by cases z), fun _ => hd.bor⟩ lk it
def srcItems : D → Option (List D)
  | .lst x => some x
  | .tup x => some x
  | .str x => some (charsD x)
  | _ => none
theorem chars_reps : ∀ x : List Nat, Reps K cls H (charsD x) (x.map fun c => V.str ⟨#[c]⟩) []
  | [] => Reps.nil
  | c :: r => by
    have h := (rStr (K := K) (cls := cls) (H := H) (x := [c]) (by simp [sizeLine])).consR (chars_reps r)
    exact h
theorem sc_of {ds : List D} (h : Rep K cls H d v F) (e : srcItems d = some ds) : ∃ (c : Sc) (xs : List V) (G : List Addr), v = c.v ∧ c.At H xs ∧ Reps K cls H ds xs G ∧ (∀ a ∈ G, a ∈ F) ∧ ∀ H2 F', (∀ a ∈ F, a ∈ F') → Stab H F' H2 → c.At H2 xs := by
  cases d with
  | lst x =>
    cases e
    obtain ⟨a, vs, G, rfl, rfl, t, r⟩ := rLst' h
    exact ⟨.lst a, vs, G, rfl, t, r, fun b m => List.mem_cons_of_mem _ m, fun H2 F' i s => s.at t (.inl (i a (by simp)))⟩
  | tup x =>
    cases e
    obtain ⟨a, vs, rfl, t, r⟩ := rTupS h
    exact ⟨.tup a, vs, F, rfl, t, r, fun b m => m, fun H2 F' i s => s.at t (.inr fun z => z)⟩
  | str x =>
    cases e
    obtain ⟨rfl, _⟩ := rStr' h
    exact ⟨.str (S' x), _, [], rfl, rfl, chars_reps x, fun b m => (by cases m), fun H2 F' _ s => rfl⟩
  | _ => cases e
def enumD : Nat → List D → List D
  | _, [] => []
  | i, d :: r => .tup [.int i, d] :: enumD (i + 1) r
theorem enumD_len : ∀ (l : List D) (i : Nat), (enumD i l).length = l.length
  | [], _ => rfl
  | d :: r, i => by rw [enumD, List.length_cons, enumD_len r, List.length_cons]
theorem enumD_get : ∀ (l : List D) (i j : Nat) (d : D), l[j]? = some d → (enumD i l)[j]? = some (.tup [.int (i + j : Nat), d])
  | [], i, j, d, h => by simp at h
  | d0 :: r, i, 0, d, h => by
    have : d0 = d := by simpa using h
    subst this
    rfl
  | d0 :: r, i, j + 1, d, h => by
    rw [enumD, List.getElem?_cons_succ, enumD_get r (i + 1) j d (by simpa using h), show i + 1 + j = i + (j + 1) by omega]
def zipD : List D → List D → List D
  | x :: r, y :: q => .tup [x, y] :: zipD r q
  | _, _ => []
theorem zipD_len : ∀ (l m : List D), (zipD l m).length = min l.length m.length
  | [], m => by simp [zipD]
  | x :: r, [] => by simp [zipD]
  | x :: r, y :: q => by rw [zipD, List.length_cons, zipD_len r q, List.length_cons, List.length_cons]; omega
theorem zipD_get : ∀ (l m : List D) (j : Nat) (d e : D), l[j]? = some d → m[j]? = some e → (zipD l m)[j]? = some (.tup [d, e])
  | [], m, j, d, e, h, g => by simp at h
  | x :: r, [], j, d, e, h, g => by simp at g
  | x :: r, y :: q, 0, d, e, h, g => by
    have h : x = d := by simpa using h
    have g : y = e := by simpa using g
    subst h; subst g
    rfl
  | x :: r, y :: q, j + 1, d, e, h, g => by
    rw [zipD, List.getElem?_cons_succ, zipD_get r q j d e (by simpa using h) (by simpa using g)]
theorem pair_rep {x y : D} {a b : V} {A B : List Addr} {T : Addr} {H2 H2' : Hp} (hT : H2 T = none) (e : H2' = upd H2 T (.tup [a, b])) (ra : Rep K cls H2 x a A) (rb : Rep K cls H2 y b B) : Same H2 H2' ∧ Rep K cls H2' (.tup [x, y]) (.ref T) (A ++ B) := by
  subst e
  have sm : Same H2 (upd H2 T (.tup [a, b])) := Same.new hT
  have := (ra.same sm).consR ((rb.same sm).consR Reps.nil)
  rw [List.append_nil] at this
  exact ⟨sm, rTup upd_same this⟩
theorem it_enum {c : Sc} {ds : List D} {xs : List V} (g : c.At Hl xs) (r : Reps K cls Hl ds xs G) (i : ∀ a ∈ G, a ∈ F) (s : ∀ H2, Stab Hl F H2 → c.At H2 xs) : ItOk K cls (IteC c) (enumD 0 ds) Hl F := by
  refine ⟨fun H2 => c.At H2 xs, fun i H2 v H2' => ∃ T x, v = .ref T ∧ H2 T = none ∧ H2' = upd H2 T (.tup [.int (i : Nat), x]) ∧ xs[i]? = some x, ⟨fun j H2 hj q => ⟨xs, q, by rw [enumD_len, r.length] at hj; exact hj⟩, fun H2 q => ⟨xs, q, by rw [enumD_len, r.length]⟩, fun j H2 x H2' _ q y => ?_⟩, s, fun j H2 x H2' st y => ?_⟩
  · obtain ⟨T, z, e1, e2, e3, ys, e4, e5⟩ := y
    have := Sc.inj q e4
    subst this
    exact ⟨T, z, e1, e2, e3, e5⟩
  · obtain ⟨T, z, rfl, e2, e3, e5⟩ := y
    obtain ⟨d, G', d1, rd, sub⟩ := (st.reps r i).part e5
    obtain ⟨sm, rep⟩ := pair_rep (x := .int (j : Nat)) e2 e3 rInt rd
    refine ⟨sm, _, _, ?_, rep, fun a m => i a (sub.subset (by simpa using m))⟩
    rw [enumD_get ds 0 j d d1, Nat.zero_add]
theorem it_zip {c1 c2 : Sc} {ds es : List D} {xs ys : List V} {G1 G2 : List Addr} (g1 : c1.At Hl xs) (g2 : c2.At Hl ys) (r1 : Reps K cls Hl ds xs G1) (r2 : Reps K cls Hl es ys G2) (i1 : ∀ a ∈ G1, a ∈ F) (i2 : ∀ a ∈ G2, a ∈ F) (s1 : ∀ H2, Stab Hl F H2 → c1.At H2 xs) (s2 : ∀ H2, Stab Hl F H2 → c2.At H2 ys) : ItOk K cls (ItzC c1 c2) (zipD ds es) Hl F := by
  have hlen : (zipD ds es).length = min xs.length ys.length := by rw [zipD_len, r1.length, r2.length]
  refine ⟨fun H2 => c1.At H2 xs ∧ c2.At H2 ys, fun i H2 v H2' => ∃ T x y, v = .ref T ∧ H2 T = none ∧ H2' = upd H2 T (.tup [x, y]) ∧ xs[i]? = some x ∧ ys[i]? = some y, ⟨fun j H2 hj q => ⟨xs, ys, q.1, q.2, by rw [hlen] at hj; exact hj⟩, fun H2 q => ⟨xs, ys, q.1, q.2, hlen.symm⟩, fun j H2 x H2' _ q y => ?_⟩, fun H2 s => ⟨s1 H2 s, s2 H2 s⟩, fun j H2 x H2' st y => ?_⟩
  · obtain ⟨T, z, u, e1, e2, e3, zs, us, e4, e5, e6, e7⟩ := y
    have := Sc.inj q.1 e4
    subst this
    have := Sc.inj q.2 e5
    subst this
    exact ⟨T, z, u, e1, e2, e3, e6, e7⟩
  · obtain ⟨T, z, u, rfl, e2, e3, e5, e6⟩ := y
    obtain ⟨d, A, d1, rd, sub⟩ := (st.reps r1 i1).part e5
    obtain ⟨e, B, d2, re, sub2⟩ := (st.reps r2 i2).part e6
    obtain ⟨sm, rep⟩ := pair_rep e2 e3 rd re
    exact ⟨sm, _, _, zipD_get _ _ j d e d1 d2, rep, fun a m => (List.mem_append.mp m).elim (fun m => i1 a (sub.subset m)) fun m => i2 a (sub2.subset m)⟩
def enumOp : List D → Option (List D)
  | [d] => (srcItems d).map (enumD 0)
  | _ => none
def zipOp : List D → Option (List D)
  | [d, e] => match srcItems d, srcItems e with
    | some x, some y => some (zipD x y)
    | _, _ => none
  | _ => none
section
variable {e e2 : Expr} {p pos tpos : Pos} {elts : List Expr} {kk : Nat} {m m2 : EM}
theorem s_enum (hg : Gl X "enumerate") (hm : X.mg "enumerate" = none) (ha : PA X [e] (tAL X.K cls [m])) (hs : starEach [e] X.env = [(false, eval e X.env)]) :
    PI X (.Tuple elts kk tpos) (.Call (.Name "enumerate" p) [e] [] pos) (tI X cls (mSrc enumOp [m])) := by
  refine PI.imp (pi_enumC hg hm ha hs) fun σ H R h => src_run h fun ds xs vs H' F er rr q => ?_
  unfold enumOp at er
  split at er
  · rename_i d
    obtain ⟨x, ex, rfl⟩ := Option.map_eq_some_iff.mp er
    obtain ⟨v, vr, F1, F2, rfl, rfl, r1, r2⟩ := rr.uncons
    unfold Reps at r2
    obtain ⟨rfl, rfl⟩ := r2
    obtain ⟨c, ys, G, rfl, g, r, i, s⟩ := sc_of r1 ex
    exact ⟨c, ys, rfl, g, q _ _ (.inl rfl) (it_enum g r (fun a m => List.mem_append_left _ (i a m)) fun H2 st => s H2 _ (fun a m => List.mem_append_left _ m) st)⟩
  · cases er
theorem s_zip (hg : Gl X "zip") (hm : X.mg "zip" = none) (ha : PA X [e, e2] (tAL X.K cls [m, m2])) (hs : starEach [e, e2] X.env = (false, eval e X.env) :: starEach [e2] X.env) (hpl : (backTo pos (starEach [e2] X.env)).any (·.1) = false) :
    PI X (.Tuple elts kk tpos) (.Call (.Name "zip" p) [e, e2] [] pos) (tI X cls (mSrc zipOp [m, m2])) := by
  refine PI.imp (pi_zipC hg hm ha hs hpl) fun σ H R h => src_run h fun ds xs vs H' F er rr q => ?_
  unfold zipOp at er
  split at er
  · rename_i d d2
    split at er
    · rename_i x y ex ey
      cases er
      obtain ⟨v, vr, F1, F2, rfl, rfl, r1, r2⟩ := rr.uncons
      obtain ⟨v2, vr2, F3, F4, rfl, rfl, r3, r4⟩ := r2.uncons
      unfold Reps at r4
      obtain ⟨rfl, rfl⟩ := r4
      obtain ⟨c, xs, G, rfl, g, r, i, s⟩ := sc_of r1 ex
      obtain ⟨c', ys, G', rfl, g', r', i', s'⟩ := sc_of r3 ey
      have l : ∀ a ∈ F1, a ∈ F1 ++ (F3 ++ []) := fun a m => List.mem_append_left _ m
      have l' : ∀ a ∈ F3, a ∈ F1 ++ (F3 ++ []) := fun a m => List.mem_append_right _ (List.mem_append_left _ m)
      exact ⟨c, c', xs, ys, rfl, g, g', q _ _ (.inl rfl) (it_zip g g' r r' (fun a m => l a (i a m)) (fun a m => l' a (i' a m)) (fun H2 st => s H2 _ l st) fun H2 st => s' H2 _ l' st)⟩
    · cases er
  · cases er
end
end Bv
end

section
/-! for .. in d.values(), d.items(), d.keys(): dicts of either kind. -/
namespace Bv
open PySem PySem.Spec PyProof.Rows L2
variable {K : PySem.W.Frag} {cls : Nat → Addr} {X : Cx}
variable {σ σ' σ0 σ1 : L2.St} {S S0 S1 S2 : List Sl} {H H0 H' H1 H2 Hl : Hp} {Fs Fs0 Fs1 Fs2 : List (List Addr)} {Z : Addr → Prop} {ms ms1 ms2 rs rs2 is : List Nat} {d d' c c' : D} {v v' : V} {F F' F1 F2 FC G : List Addr} {ow : Bool} {W : WX}
/-- a dict's entries, with the keys -/
theorem dict_rawK {pins : List (Addr × Obj)} {s : Shared} (I : Inv X pins σ H s) {a : Addr} {keys : List D} {vs : List V} (h : DictH H a keys vs) : (a == sysModules) = false ∧ ∃ es ep, s.heap.DictRaw a es ep ∧ es.size = keys.length ∧ keys.length = vs.length ∧
    ∀ (i : Nat) (hi : i < es.size), ∃ (k : D) (kv y : V), keys[i]? = some k ∧ Rep X.K cls H k kv [] ∧ RelV kv es[i].key ∧ vs[i]? = some y ∧ RelV y es[i].val := by
  obtain ⟨hb, ⟨ks, e, l, rd⟩ | ⟨ks, e, l, rd⟩⟩ := h
  · obtain ⟨z, lo, ws, kv, dd⟩ := dk_rd I.hok rd
    obtain ⟨es, ep, h1, h2, h3⟩ := dd.raw
    have l1 := kv.length
    rw [List.length_zip, ← l, Nat.min_self] at l1 z
    refine ⟨lo, es, ep, h1, by rw [e, List.length_map]; omega, by rw [e, List.length_map]; exact l, fun i hi => ?_⟩
    have hiv : i < (ks.zip vs).length := by rw [List.length_zip, ← l, Nat.min_self]; omega
    obtain ⟨y', e4, e5⟩ := paired_get kv (i := i) (List.getElem?_eq_getElem hiv)
    have e6 := List.getElem?_eq_getElem hiv
    rw [List.getElem?_zip_eq_some] at e6
    have h3' := h3 i hi y'.1 y'.2 e4
    have kb : bd (keyD ((ks.zip vs)[i]).1) := hb _ (by rw [e]; exact List.mem_map.mpr ⟨_, List.mem_of_getElem? e6.1, rfl⟩)
    refine ⟨keyD ((ks.zip vs)[i]).1, kV ((ks.zip vs)[i]).1, _, ?_, ?_, ?_, e6.2, by rw [h3'.2]; exact e5.2⟩
    · rw [e, List.getElem?_map, e6.1]; rfl
    · cases hk : ((ks.zip vs)[i]).1 with
      | inl j => rw [hk] at kb; exact rInt
      | inr x => rw [hk] at kb; exact rStr kb
    · rw [e5.1]
      exact relV_key (show keyIs _ _ = true from h3'.1)
  · obtain ⟨z, lo, xs, kv, dd⟩ := dt_rd I.hok rd
    obtain ⟨es, ep, h1, h2, h3⟩ := dd.raw
    have l1 : (ks.zip vs).length = xs.length := Paired.length kv
    rw [List.length_zip, ← l, Nat.min_self] at l1 z
    refine ⟨lo, es, ep, h1, by rw [e, List.length_map]; omega, by rw [e, List.length_map]; exact l, fun i hi => ?_⟩
    obtain ⟨y, e1, e2, e3, _⟩ := h3 i hi
    have hiv : i < (ks.zip vs).length := by rw [List.length_zip, ← l, Nat.min_self]; omega
    obtain ⟨y', e4, e5⟩ := paired_get kv (i := i) (List.getElem?_eq_getElem hiv)
    rw [e1] at e4
    cases e4
    have e6 := List.getElem?_eq_getElem hiv
    rw [List.getElem?_zip_eq_some] at e6
    have kb : bd (keysD ((ks.zip vs)[i]).1) := hb _ (by rw [e]; exact List.mem_map.mpr ⟨_, List.mem_of_getElem? e6.1, rfl⟩)
    refine ⟨keysD ((ks.zip vs)[i]).1, .ref y.2.1, _, ?_, keyT_rep e5.2.1 kb, e2, e6.2, by rw [e3]; exact e5.2.2⟩
    rw [e, List.getElem?_map, e6.1]; rfl
/-- locked at o -/
def Lkd (H : Hp) (a : Addr) (o : Obj) (keys : List D) (vs : List V) : Prop := (∃ u, H a = some (.frz o u)) ∧ DictH H a keys vs
theorem lkd_raw {pins : List (Addr × Obj)} {s : Shared} (I : Inv X pins σ H s) {a : Addr} {o : Obj} {keys : List D} {vs : List V} (h : Lkd H a o keys vs) : (a == sysModules) = false ∧ ∃ es ep, o.data = .dict es ep ∧ s.heap.DictRaw a es ep ∧ es.size = keys.length ∧ keys.length = vs.length ∧
    ∀ (i : Nat) (hi : i < es.size), ∃ (k : D) (kv y : V), keys[i]? = some k ∧ Rep X.K cls H k kv [] ∧ RelV kv es[i].key ∧ vs[i]? = some y ∧ RelV y es[i].val := by
  obtain ⟨⟨u, hu⟩, hd⟩ := h
  obtain ⟨lo, es, ep, ⟨od, h1, hc, h2⟩, h3⟩ := dict_rawK I hd
  have h4 : s.heap.get? a = some o := (I.hok a _ hu).1
  obtain rfl : od = o := Option.some.inj (h1.symm.trans h4)
  exact ⟨lo, es, ep, h2, ⟨od, h1, hc, h2⟩, h3⟩
/-! the values -/
def ItvR (a : Addr) (o : Obj) (keys : List D) (vs : List V) : It :=
  ⟨fun i H => Lkd H a o keys vs ∧ i < keys.length, fun i H x H' => H' = H ∧ vs[i]? = some x, fun i H => Lkd H a o keys vs ∧ keys.length ≤ i⟩
theorem turn_valsR {P : Program} {w : World} {tg : Expr} {a it : Addr} {o : Obj} {keys : List D} {vs : List V} {es : Array DictEntry} {ep : Nat} (hod : o.data = .dict es ep) : Turn P w K tg (ItvR a o keys vs) [it] it (fun i h => h.IsValIter it a i es.size ep) where
  mem := by simp
  obj := fun i h st b hb => by
    have e : b = it := by simpa using hb
    subst e
    obtain ⟨oi, e, c, dd⟩ := st
    exact ⟨oi, e, fun v z => by rw [dd] at z; cases z⟩
  keep := fun i h h' st k => st.at fun oi e => k it (by simp) oi e
  item := by
    intro X hP hw hK hc i pins s σ H E I hf st hg
    subst hP hw hK
    obtain ⟨hd, hi⟩ := hg
    obtain ⟨f0, f1, f2, f3, f4, f5⟩ := hf it (by simp)
    obtain ⟨lo, es', ep', h1, h2, h3, h4, h5⟩ := lkd_raw (cls := fun _ => 0) I hd
    obtain ⟨rfl, rfl⟩ := dict_ep hod h1
    have hi' : i < es'.size := by rw [h3]; exact hi
    obtain ⟨k, kv, y, q1, q2, q3, q4, q5⟩ := h5 i hi'
    refine wpAny_pyNext_values_item_raw st h2 hi' fun h' st' sb => ?_
    have I1 : Inv X pins σ H { s with heap := h' } := I.turned (t' := s.toks) (fun b ob hb e => (sb.2 b hb).trans e) f0 f1 f3 f4 f5
    obtain ⟨oi, e, c, dd⟩ := id st'
    exact ⟨_, rfl, go_of (s := { s with heap := h' }) e c dd (by decide) ⟨y, H, I1, q5, ⟨rfl, q4⟩, st', fun b hb => (hf b hb).1⟩⟩
  done := by
    intro X hP hw hK hc i pins s σ H E I hf st hg
    subst hP hw hK
    obtain ⟨hd, hi⟩ := hg
    obtain ⟨f0, f1, f2, f3, f4, f5⟩ := hf it (by simp)
    obtain ⟨lo, es', ep', h1, h2, h3, h4, h5⟩ := lkd_raw (cls := fun _ => 0) I hd
    obtain ⟨rfl, rfl⟩ := dict_ep hod h1
    exact wpAny_pyNext_values_end_raw (I.ok.hd hc) st h2 (by rw [h3]; exact hi) fun h' eb => ⟨rfl, I.turned (t' := s.toks) (fun b ob hb e => eb b ob hb e) f0 f1 f3 f4 f5⟩
  self := fun A i s Q E st h => wpAny_pyIter_valiter st h
/-! the pairs -/
def ItiR (cls : Nat → Addr) (K : PySem.W.Frag) (a : Addr) (o : Obj) (keys : List D) (vs : List V) : It :=
  ⟨fun i H => Lkd H a o keys vs ∧ i < keys.length, fun i H v H' => ∃ T k x y, v = .ref T ∧ H T = none ∧ H' = upd H T (.tup [x, y]) ∧ keys[i]? = some k ∧ Rep K cls H k x [] ∧ vs[i]? = some y, fun i H => Lkd H a o keys vs ∧ keys.length ≤ i⟩
theorem turn_itemsR {P : Program} {w : World} {elts : List Expr} {kk : Nat} {tpos : Pos} {a it : Addr} {o : Obj} {keys : List D} {vs : List V} {es : Array DictEntry} {ep : Nat} (hod : o.data = .dict es ep) : Turn P w K (.Tuple elts kk tpos) (ItiR cls K a o keys vs) [it] it (fun i h => ∃ ok ov, IsItemIter h it a i es.size ep ok ov) where
  mem := by simp
  obj := fun i h st b hb => by
    have e : b = it := by simpa using hb
    subst e
    obtain ⟨ok, ov, e⟩ := st
    exact ⟨_, e, fun v z => nomatch z⟩
  keep := fun i h h' st k => let ⟨ok, ov, e⟩ := st; ⟨ok, ov, k it (by simp) _ e⟩
  item := by
    intro X hP hw hK hc i pins s σ H E I hf st hg
    subst hP hw hK
    obtain ⟨hd, hi⟩ := hg
    obtain ⟨lo, es', ep', h1, h2, h3, h4, h5⟩ := lkd_raw (cls := cls) I hd
    obtain ⟨rfl, rfl⟩ := dict_ep hod h1
    have hi' : i < es'.size := by rw [h3]; exact hi
    obtain ⟨k, kv, y, q1, q2, q3, q4, q5⟩ := h5 i hi'
    obtain ⟨ok, ov, he⟩ := st
    have hlt : it < s.heap.objs.size := Heap.lt_size he
    refine wpAny_pyNext_items_item_raw he h2 hi' fun h' ho hT hz hk => ?_
    refine ⟨_, rfl, wpAny_letOwnedTupleGo_items (s := { s with heap := h' }) ho fun h'' he' sb => ?_⟩
    have hT2 : h''.get? s.heap.objs.size = some { cls := .type "tuple", data := .seq #[es'[i].key, es'[i].val] } := (sb.2 _ (Nat.ne_of_gt hlt)).trans hT
    have new : ObjOk X.prog X.w (upd H s.heap.objs.size (.tup [kv, y])) h'' s.heap.objs.size (.tup [kv, y]) :=
      ⟨by show 2 ≤ sizeLine; decide, [es'[i].key, es'[i].val], .cons q3 (.cons q5 .nil), ⟨_, hT2, rfl, _, rfl⟩⟩
    have I1 : Inv X pins σ (upd H s.heap.objs.size (.tup [kv, y])) { s with heap := h'' } :=
      I.turnedNew (t' := s.toks) (ch := [it]) (fun b ob hb e => (sb.2 b (by simpa using hb)).trans (hk b ob (by simpa using hb) e)) hf (Nat.le_refl _) new
    refine ⟨.ref s.heap.objs.size, _, I1, rfl, ⟨_, k, kv, y, rfl, I.hok.fresh (Nat.le_refl _), rfl, q1, q2, q4⟩, ⟨_, _, he'⟩, fun b hb => ?_⟩
    have e : b = it := by simpa using hb
    rw [e, upd_ne (Nat.ne_of_lt hlt)]
    exact (hf it (by simp)).1
  done := by
    intro X hP hw hK hc i pins s σ H E I hf st hg
    subst hP hw hK
    obtain ⟨hd, hi⟩ := hg
    obtain ⟨f0, f1, f2, f3, f4, f5⟩ := hf it (by simp)
    obtain ⟨lo, es', ep', h1, h2, h3, h4, h5⟩ := lkd_raw (cls := cls) I hd
    obtain ⟨rfl, rfl⟩ := dict_ep hod h1
    obtain ⟨ok, ov, he⟩ := st
    exact wpAny_pyNext_items_end_raw (I.ok.hd hc) he h2 (by rw [h3]; exact hi) fun h' eb => ⟨rfl, I.turned (t' := s.toks) (fun b ob hb e => eb b ob hb e) f0 f1 f3 f4 f5⟩
  self := fun A i s Q E st h => let ⟨_, _, e⟩ := st; PySem.W.kcp_self e h
/-! they begin -/
def iValsR (td : TE) : TI := fun σ H R => td σ H fun x H1 => ∃ a o keys vs, x = .ref a ∧ Lkd H1 a o keys vs ∧ R (ItvR a o keys vs) H1
def iItemsR (cls : Nat → Addr) (K : PySem.W.Frag) (td : TE) : TI := fun σ H R => td σ H fun x H1 => ∃ a o keys vs, x = .ref a ∧ Lkd H1 a o keys vs ∧ R (ItiR cls K a o keys vs) H1
section
variable {tg e : Expr} {td : TE} {apos cpos : Pos}
theorem pi_valuesR (he : PE X e td) (hbase : attributeBase e "values" X.env (eval e X.env) = eval e X.env) (hline : (apos.endLine == cpos.line) = true) : PI X tg (.Call (.Attribute e "values" apos) [] [] cpos) (iValsR td) := by
  refine ⟨fun pins s σ H R I h => ?_⟩
  refine wpAny_Call_method (T := "dict") (id := "dict.values") hbase rfl hline F.plainAttrs_dict F.slot_dict_values F.type_dict_values (thn (he.run pins s σ H _ I h) fun u s1 ⟨x, H1, I1, rx, d, o, keys, vs, ex, hd, q⟩ => ?_)
  subst ex
  obtain rfl : u = Value.ref d := rx
  obtain ⟨hs, es, ep, h1, h2, h3, _⟩ := lkd_raw (cls := fun _ => 0) I1 hd
  have nd : ∀ a : Addr, Value.ref d = Value.ref a → ∃ ob, s1.heap.get? a = some ob ∧ ob.dict = none := by
    obtain ⟨od, e, hc, _⟩ := id h2
    intro a e'
    cases e'
    exact ⟨od, e, hc.2.1⟩
  refine ⟨h2.typeIs, nd, ?_⟩
  have I2 : Inv X pins σ H1 { s1 with heap := s1.heap.push { cls := .type "dict_values", data := .fields #[.ref d] } } := I1.kept (t' := s1.toks) fun b ob q => Heap.get?_push_of_some _ q
  have fin : wpAny (model X.prog X.w) X.A (pyIter (.ref s1.heap.objs.size)) (PIE X pins σ tg R) X.xe { s1 with heap := s1.heap.push { cls := .type "dict_values", data := .fields #[.ref d] } } :=
    wpAny_pyIter_values_raw (d := d) ⟨_, Heap.get?_push_size _ rfl, rfl, rfl⟩ (h2.at fun o e => Heap.get?_push_of_some _ e) (pi_one (tk := s1.toks) I2 _ (turn_valsR h1) ⟨_, Heap.get?_push_size _ rfl, rfl, rfl⟩ q)
  show wpAny _ _ (callWith cpos (.builtin "dict.values") [.ref d] [] []) _ X.xe s1
  exact method_meetsIn F.slot_dict_values F.entry_dict_values rfl (PySem.evalArgs_none ⟨rfl, h2.typeIs, F.args_dict_values_1 _, _, meets_dict_values_raw d hs, ⟨_, _, h2⟩, fin⟩)
theorem pi_itemsR {elts : List Expr} {kk : Nat} {tpos : Pos} (he : PE X e td) (hbase : attributeBase e "items" X.env (eval e X.env) = eval e X.env) (hline : (apos.endLine == cpos.line) = true) :
    PI X (.Tuple elts kk tpos) (.Call (.Attribute e "items" apos) [] [] cpos) (iItemsR cls X.K td) := by
  refine ⟨fun pins s σ H R I h => ?_⟩
  refine wpAny_Call_method (T := "dict") (id := "dict.items") hbase rfl hline F.plainAttrs_dict F.slot_dict_items F.type_dict_items (thn (he.run pins s σ H _ I h) fun u s1 ⟨x, H1, I1, rx, d, o, keys, vs, ex, hd, q⟩ => ?_)
  subst ex
  obtain rfl : u = Value.ref d := rx
  obtain ⟨hs, es, ep, h1, h2, h3, _⟩ := lkd_raw (cls := cls) I1 hd
  have nd : ∀ a : Addr, Value.ref d = Value.ref a → ∃ ob, s1.heap.get? a = some ob ∧ ob.dict = none := by
    obtain ⟨od, e, hc, _⟩ := id h2
    intro a e'
    cases e'
    exact ⟨od, e, hc.2.1⟩
  refine ⟨h2.typeIs, nd, ?_⟩
  have I2 : Inv X pins σ H1 { s1 with heap := s1.heap.push { cls := .type "dict_items", data := .fields #[.ref d] } } := I1.kept (t' := s1.toks) fun b ob q => Heap.get?_push_of_some _ q
  have fin : wpAny (model X.prog X.w) X.A (pyIter (.ref s1.heap.objs.size)) (PIE X pins σ (.Tuple elts kk tpos) R) X.xe { s1 with heap := s1.heap.push { cls := .type "dict_items", data := .fields #[.ref d] } } :=
    wpAny_pyIter_items_raw (d := d) ⟨_, Heap.get?_push_size _ rfl, rfl, rfl⟩ (h2.at fun o e => Heap.get?_push_of_some _ e) (pi_one (tk := s1.toks) I2 _ (turn_itemsR h1) ⟨.none, .none, Heap.get?_push_size _ rfl⟩ q)
  show wpAny _ _ (callWith cpos (.builtin "dict.items") [.ref d] [] []) _ X.xe s1
  exact method_meetsIn F.slot_dict_items F.entry_dict_items rfl (PySem.evalArgs_none ⟨rfl, h2.typeIs, F.args_dict_items_1 _, _, meets_dict_items_raw d hs, ⟨_, _, h2⟩, fin⟩)
end
end Bv
end

section
/-! values and items gone over, by data. -/
namespace Bv
open PySem PySem.Spec PyProof.Rows L2
variable {K : PySem.W.Frag} {cls : Nat → Addr} {X : Cx}
variable {σ σ' σ0 σ1 : L2.St} {S S0 S1 S2 : List Sl} {H H0 H' H1 H2 Hl : Hp} {Fs Fs0 Fs1 Fs2 : List (List Addr)} {Z : Addr → Prop} {ms ms1 ms2 rs rs2 is : List Nat} {d d' c c' : D} {v v' : V} {F F' F1 F2 FC G : List Addr} {ow : Bool} {W : WX}
theorem DictH.eq_at {a : Addr} {keys : List D} {vs : List V} (h : DictH H a keys vs) (e : H2 a = H a) : DictH H2 a keys vs := by
  unfold DictH Rd at *
  rw [e]
  exact h
theorem Lkd.stab {a : Addr} {o : Obj} {keys : List D} {vs : List V} (h : Lkd Hl a o keys vs) (ha : a ∈ F) (s : Stab Hl F H2) : Lkd H2 a o keys vs := by
  obtain ⟨⟨u, hu⟩, hd⟩ := h
  have e := s.at hu (.inl ha)
  exact ⟨⟨u, e⟩, hd.eq_at (e.trans hu.symm)⟩
theorem it_values {a : Addr} {o : Obj} {kvs : List (D × D)} {keys : List D} {vs : List V} (h : Lkd Hl a o keys vs) (hk : keys.length = vs.length) (ha : a ∈ F) (r : Reps K cls Hl (valsOf kvs) vs G) (i : ∀ b ∈ G, b ∈ F) : ItOk K cls (ItvR a o keys vs) (valsOf kvs) Hl F := by
  have hlen : (valsOf kvs).length = keys.length := by rw [r.length, hk]
  refine ⟨fun H2 => Lkd H2 a o keys vs, fun i H x H' => H' = H ∧ vs[i]? = some x, ⟨fun j H2 hj q => ⟨q, by rw [hlen] at hj; exact hj⟩, fun H2 q => ⟨q, by rw [hlen]; exact Nat.le_refl _⟩, fun j H2 x H2' _ _ y => y⟩, fun H2 s => h.stab ha s, fun j H2 x H2' s y => ?_⟩
  obtain ⟨rfl, hx⟩ := y
  obtain ⟨d, G', e1, e2, e3⟩ := (s.reps r i).part hx
  exact ⟨Same.refl, d, G', e1, e2, fun b m => i b (e3.subset m)⟩
def pairsOf : List (D × D) → List D
  | [] => []
  | (k, v) :: r => .tup [k, v] :: pairsOf r
theorem pairsOf_get : ∀ (l : List (D × D)) (j : Nat) (k v : D), (l.map Prod.fst)[j]? = some k → (valsOf l)[j]? = some v → (pairsOf l)[j]? = some (.tup [k, v])
  | [], j, k, v, h, g => by simp at h
  | (a, b) :: r, 0, k, v, h, g => by
    have h : a = k := by simpa using h
    have g : b = v := by simpa [valsOf] using g
    subst h; subst g
    rfl
  | (a, b) :: r, j + 1, k, v, h, g => by
    rw [pairsOf, List.getElem?_cons_succ, pairsOf_get r j k v (by simpa using h) (by simpa [valsOf] using g)]
theorem pairsOf_len : ∀ l : List (D × D), (pairsOf l).length = l.length
  | [] => rfl
  | (a, b) :: r => by rw [pairsOf, List.length_cons, pairsOf_len r, List.length_cons]
theorem it_items {a : Addr} {o : Obj} {kvs : List (D × D)} {vs : List V} (h : Lkd Hl a o (kvs.map Prod.fst) vs) (hk : (kvs.map Prod.fst).length = vs.length) (ha : a ∈ F) (r : Reps K cls Hl (valsOf kvs) vs G) (i : ∀ b ∈ G, b ∈ F) : ItOk K cls (ItiR cls K a o (kvs.map Prod.fst) vs) (pairsOf kvs) Hl F := by
  have hlen : (pairsOf kvs).length = (kvs.map Prod.fst).length := by rw [pairsOf_len, List.length_map]
  refine ⟨fun H2 => Lkd H2 a o (kvs.map Prod.fst) vs, fun i H v H' => ∃ T k x y, v = .ref T ∧ H T = none ∧ H' = upd H T (.tup [x, y]) ∧ (kvs.map Prod.fst)[i]? = some k ∧ Rep K cls H k x [] ∧ vs[i]? = some y, ⟨fun j H2 hj q => ⟨q, by rw [hlen] at hj; exact hj⟩, fun H2 q => ⟨q, by rw [hlen]; exact Nat.le_refl _⟩, fun j H2 x H2' _ _ y => y⟩, fun H2 s => h.stab ha s, fun j H2 x H2' s y => ?_⟩
  obtain ⟨T, k, z, y, rfl, e2, e3, e4, e5, e6⟩ := y
  obtain ⟨d, G', d1, rd, sub⟩ := (s.reps r i).part e6
  obtain ⟨sm, rep⟩ := pair_rep e2 e3 e5 rd
  exact ⟨sm, _, _, pairsOf_get _ _ _ _ e4 d1, rep, fun b m => i b (sub.subset (by simpa using m))⟩
def valuesF : D → Option (List D)
  | .dct kvs => some (valsOf kvs)
  | _ => none
def itemsF : D → Option (List D)
  | .dct kvs => some (pairsOf kvs)
  | _ => none
theorem frz_new {a : Addr} {o : Obj} {u : HO} {keys : List D} {vs : List V} (h : DictH H a keys vs) (e : H a = some u) (mu : Mut (some u)) : Lkd (upd H a (.frz o u)) a o keys vs ∧ ∃ kvs, u = .dK kvs ∨ ∃ kvt, u = .dT kvt := by
  obtain ⟨hb, h⟩ := h
  rcases h with ⟨ks, ek, l, rd⟩ | ⟨ks, ek, l, rd⟩
  · rcases rd with rd | ⟨o', rd⟩
    · rw [e] at rd
      cases rd
      exact ⟨⟨⟨_, upd_same⟩, hb, .inl ⟨ks, ek, l, .inr ⟨o, upd_same⟩⟩⟩, _, .inl rfl⟩
    · rw [e] at rd
      cases rd
      exact mu.elim
  · rcases rd with rd | ⟨o', rd⟩
    · rw [e] at rd
      cases rd
      exact ⟨⟨⟨_, upd_same⟩, hb, .inr ⟨ks, ek, l, .inr ⟨o, upd_same⟩⟩⟩, [], .inr ⟨_, rfl⟩⟩
    · rw [e] at rd
      cases rd
      exact mu.elim
section
variable {tg e : Expr} {m : EM} {apos cpos : Pos}
/-- from a dict's reading to a locked one's -/
theorem lk_want {m : EM} {f : D → Option (List D)} {R : It → Hp → Prop} {J : Addr → Obj → List D → List V → It} (hf : ∀ d ds, f d = some ds → ∃ kvs, d = .dct kvs) (h : tI X cls (mIt m f) σ H R)
    (k : ∀ kvs a o vs Hl F G, f (.dct kvs) = some (f (.dct kvs) |>.getD []) → Lkd Hl a o (kvs.map Prod.fst) vs → (kvs.map Prod.fst).length = vs.length → a ∈ F → Reps X.K cls Hl (valsOf kvs) vs G → (∀ b ∈ G, b ∈ F) → ItOk X.K cls (J a o (kvs.map Prod.fst) vs) (f (.dct kvs) |>.getD []) Hl F) :
    tLk X (tE X.K cls W m) σ H fun x H1 => ∃ a o keys vs, x = .ref a ∧ Lkd H1 a o keys vs ∧ R (J a o keys vs) H1 := by
  refine it_want h fun d ds v H' F ef rep q => ?_
  obtain ⟨kvs, rfl⟩ := hf d ds ef
  have ef' : f (.dct kvs) = some (f (.dct kvs) |>.getD []) := by rw [ef]; rfl
  have eds : ds = (f (.dct kvs) |>.getD []) := by rw [ef]; rfl
  rw [eds] at q
  obtain ⟨a, vs, G, rfl, eG, t, rr⟩ := dct_ref rep
  rw [repV_iff, ← valsOf_eq] at rr
  have ha : a ∈ F := by rw [eG]; simp
  have hG : ∀ b ∈ G, b ∈ F := fun b m => by rw [eG]; exact List.mem_cons_of_mem _ m
  have hl : (kvs.map Prod.fst).length = vs.length := by rw [List.length_map, ← rr.length, valsOf_eq, List.length_map]
  refine ⟨a, rfl, ?_⟩
  have cases_ : (∃ o u, H' a = some (.frz o u)) ∨ ∃ u, H' a = some u ∧ Mut (some u) := by
    obtain ⟨_, ⟨ks, _, _, rd⟩ | ⟨ks, _, _, rd⟩⟩ := t
    · rcases rd with rd | ⟨o, rd⟩
      · exact .inr ⟨_, rd, trivial⟩
      · exact .inl ⟨o, _, rd⟩
    · rcases rd with rd | ⟨o, rd⟩
      · exact .inr ⟨_, rd, trivial⟩
      · exact .inl ⟨o, _, rd⟩
  rcases cases_ with ⟨o, u, e1⟩ | ⟨u, e1, mu⟩
  · exact .inl ⟨o, u, e1, a, o, _, vs, rfl, ⟨⟨u, e1⟩, t⟩, q _ _ (.inl rfl) (k kvs a o vs H' F G ef' ⟨⟨u, e1⟩, t⟩ hl ha rr hG)⟩
  · refine .inr ⟨u, e1, mu, fun o nf => ?_⟩
    obtain ⟨lk, hu⟩ := frz_new (o := o) t e1 mu
    have tn : Turned H' (upd H' a (.frz o u)) := ⟨a, o, u, mu, hu, .inl ⟨e1, rfl⟩⟩
    exact ⟨a, o, _, vs, rfl, lk, q _ _ (.inr ⟨a, o, u, ha, e1, mu, hu, rfl, nf⟩) (k kvs a o vs _ F G ef' lk hl ha (Reps.turn tn _ _ _ rr) hG)⟩
theorem s_values (he : PE X e (tE X.K cls W m)) (hbase : attributeBase e "values" X.env (eval e X.env) = eval e X.env) (hline : (apos.endLine == cpos.line) = true) : PI X tg (.Call (.Attribute e "values" apos) [] [] cpos) (tI X cls (mIt m valuesF)) :=
  PI.imp (pi_valuesR (pe_lockA he) hbase hline) fun σ H R h => lk_want (f := valuesF) (J := ItvR) (fun d ds e => by
    unfold valuesF at e
    split at e
    · exact ⟨_, rfl⟩
    · cases e) h fun kvs a o vs Hl F G _ lk hl ha r i => it_values lk hl ha r i
theorem s_items {elts : List Expr} {kk : Nat} {tpos : Pos} (he : PE X e (tE X.K cls W m)) (hbase : attributeBase e "items" X.env (eval e X.env) = eval e X.env) (hline : (apos.endLine == cpos.line) = true) : PI X (.Tuple elts kk tpos) (.Call (.Attribute e "items" apos) [] [] cpos) (tI X cls (mIt m itemsF)) :=
  PI.imp (pi_itemsR (pe_lockA he) hbase hline) fun σ H R h => lk_want (f := itemsF) (J := ItiR cls X.K) (fun d ds e => by
    unfold itemsF at e
    split at e
    · exact ⟨_, rfl⟩
    · cases e) h fun kvs a o vs Hl F G _ lk hl ha r i => it_items lk hl ha r i
end
end Bv
end

section
/-! [e for x in it if c for y in it1 if c1]. -/
namespace Bv
open PySem PySem.Spec PyProof.Rows L2
variable {K : PySem.W.Frag} {cls : Nat → Addr} {X : Cx}
variable {σ σ' σ0 σ1 : L2.St} {S S0 S1 S2 S3 S4 S' : List Sl} {H H0 H' H1 H2 Hl : Hp} {Fs Fs0 Fs1 Fs2 Fs' : List (List Addr)} {Z : Addr → Prop} {ms ms1 ms2 rs rs2 : List Nat} {d d' c c' dd yd : D} {v v' x : V} {F F' F1 F2 FC FA FF : List Addr} {ow : Bool} {W : WX}
/-- what was gone over is let go: names bound to parts of it are dropped -/
theorem SRel.unZ {σB : L2.St} {SB : List Sl} {HB : Hp} {FsB : List (List Addr)} {ZB Z1 : Addr → Prop} (rB : SRel K cls σB SB HB FsB ZB) (st : Stp ms SB HB FsB S1 H1 Fs1) (fx : Fx ms σB σ1) (r1 : SRel K cls σ1 S1 H1 Fs1 Z1) (sub : ∀ a, ZB a → Z1 a) : SRel K cls σ1 (clnS S1 ms) H1 Fs1 ZB := by
  refine ⟨by rw [clnS_len, r1.len], by rw [clnS_len, r1.sl], fun j d q => ?_, fun j d q => ?_, r1.mu, r1.nd, fun a m z => r1.dj a m (sub a z), fun a z => r1.zs a (sub a z)⟩
  · rw [clnS_get] at q
    split at q
    · cases e : S1[j]? with
      | none => rw [e] at q; cases q
      | some sl =>
        rw [e] at q
        cases sl with
        | own d0 => cases q; exact r1.ow j _ e
        | dead => cases q
        | ro d0 => rw [Option.map_some, cln_ro] at q; by_cases hi : im d0 = true <;> simp [hi] at q
    · exact r1.ow j d q
  · rw [clnS_get] at q
    split at q
    · cases e : S1[j]? with
      | none => rw [e] at q; cases q
      | some sl =>
        rw [e] at q
        cases sl with
        | own d0 => cases q
        | dead => cases q
        | ro d0 =>
          rw [Option.map_some, cln_ro] at q
          by_cases hi : im d0 = true
          · rw [if_pos hi] at q
            cases q
            obtain ⟨v, G, e1, rep, z⟩ := r1.ro j d e
            have g := Rep.im d hi rep
            subst g
            exact ⟨v, [], e1, rep, fun a m => by cases m⟩
          · rw [if_neg hi] at q
            cases q
    · rename_i nm
      rw [(st.out j nm).1] at q
      obtain ⟨v, G, e1, rep, z⟩ := rB.ro j d q
      exact ⟨v, G, by rw [fx j nm]; exact e1, Rep.keep rB.wmut st.keep d v G (fun a m w => rB.dj a w.flat (z a m)) rep, z⟩
theorem Stp.cln : Stp ms S1 H1 Fs1 (clnS S1 ms) H1 Fs1 := ⟨Keep.refl, fun j hj => ⟨by rw [clnS_get, if_neg hj], rfl⟩, fun j hj G e a m => .inl ⟨j, hj, G, e, m⟩⟩
/-- one turn of a list comprehension -/
theorem lc_step {σB : L2.St} {SB : List Sl} {HB : Hp} {FsB : List (List Addr)} {ZB : Addr → Prop} {tg : Tg} {tt : Option EM} {te : EM} {vs : List Nat} {acc : List D} {A : Addr} {k : Bool} {N : Hp → Prop} (rB : SRel K cls σB SB HB FsB ZB) (stB : Stp ms SB HB FsB S1 H1 Fs1) (og : ∀ a ∈ FA, Wm FsB ms a ∨ HB a = none) (ho : te.own = true)
    (hsub : ∀ i ∈ tg.ix ++ (oMuts tt ++ (te.muts ++ vs)), i ∈ ms) (htg : ∀ i ∈ tg.ix, i ∈ vs)
    (r1 : SRel K cls (wipe σ vs) S1 H1 Fs1 Z) (rep : Rep K cls H1 dd x FF) (zFF : ∀ a ∈ FF, Z a) (et : tgt tg dd S1 = some S2) (ec : xTst tt S2 = .ok k S3) (ey : k = true → te.run S3 = .ok yd S4)
    (hh : Held K cls true [] H1 Fs1 Z (.lst acc) (.ref A) FA) (hacc : k = true → acc.length < sizeLine)
    (next : ∀ S' H' Fs' acc' FA', SRel K cls (wipe σ vs) S' H' Fs' Z → Stp ms SB HB FsB S' H' Fs' → Held K cls true [] H' Fs' Z (.lst acc') (.ref A) FA' → (∀ a ∈ FA', Wm FsB ms a ∨ HB a = none) →
      ((k = false ∧ acc' = acc ∧ S' = dieS S3 vs) ∨ (k = true ∧ acc' = acc ++ [yd] ∧ S' = dieS S4 vs)) → Keep (fun a => Wm Fs1 ms a ∨ a ∈ FA) H1 H' → N H') :
    gTg K tg x (wipe σ vs) H1 fun σ2 H2 => wipe σ2 vs = wipe σ vs ∧ tTo K cls tt σ2 H2 fun b H3 =>
      if b = true then tE K cls W te σ2 H3 fun y H4 => ∃ acc, H4 A = some (.lst acc) ∧ acc.length < sizeLine ∧ N (upd H4 A (.lst (acc ++ [y]))) else N H3 := by
  have vsub : ∀ i ∈ vs, i ∈ ms := fun i m => hsub i (List.mem_append_right _ (List.mem_append_right _ (List.mem_append_right _ m)))
  refine tgt_run r1 rep zFF et fun σ2 Fs2 r2 st2 f2 => ?_
  have hw : wipe σ2 vs = wipe σ vs := wipe_eq (by rw [r2.sl, tgt_len et, ← r1.sl, wipe_length]) f2 htg
  refine ⟨hw, S2, Fs2, _, r2, ?_⟩
  have st12 : Stp ms S1 H1 Fs1 S2 H1 Fs2 := st2.mono fun x q => hsub x (List.mem_append_left _ q)
  have hh2 := hh.step r1 st2 (fun z => by cases z)
  rw [ec]
  dsimp only
  intro H3 Fs3 r3 st3
  have st13 : Stp ms S1 H1 Fs1 S3 H3 Fs3 := (st12.trans r1 st3).mono fun x q => (List.mem_append.mp q).elim id fun q => hsub x (List.mem_append_right _ (List.mem_append_left _ q))
  have hh3 := hh2.step r2 st3 (fun z => by cases z)
  cases k with
  | false =>
    rw [if_neg (by simp)]
    have rd := r3.die (vs := vs)
    rw [hw] at rd
    have stf : Stp ms S1 H1 Fs1 (dieS S3 vs) H3 (clrF Fs3 vs) := (st13.trans r1 Stp.die).mono fun x q => (List.mem_append.mp q).elim id (vsub x)
    exact next (dieS S3 vs) H3 (clrF Fs3 vs) acc FA rd ((stB.trans rB stf).mono fun x q => (List.mem_append.mp q).elim id id) (hh3.step r3 Stp.die (fun z => by cases z)) og (.inl ⟨rfl, rfl, rfl⟩) (stf.keep.mono fun a w => .inl w)
  | true =>
    rw [if_pos rfl]
    refine ⟨S3, Fs3, _, r3, ?_⟩
    rw [ey rfl]
    dsimp only
    intro yv H4 Fs4 Fy r4 st4 hy ogy
    rw [ho] at hy ogy
    have st14 : Stp ms S1 H1 Fs1 S4 H4 Fs4 := (st13.trans r1 st4).mono fun x q => (List.mem_append.mp q).elim id fun q => hsub x (List.mem_append_right _ (List.mem_append_right _ (List.mem_append_left _ q)))
    have hh4 := hh3.step r3 st4 (fun z => by cases z)
    obtain ⟨A', accV, GA, eA, eFA, tA, rA⟩ := rLst' hh4.rep
    cases eA
    have hl4 : accV.length < sizeLine := by rw [← rA.length]; exact hacc rfl
    refine ⟨accV, tA, hl4, ?_⟩
    have dj := Org.apart hh3.toO ogy
    have pl : Plc H4 FA Fy := ⟨(hh4.own rfl).1, (hy.own rfl).1, fun a m n => dj a n m, fun a m => ((hh4.own rfl).2 a m).1, fun a m => ((hy.own rfl).2 a m).1⟩
    have nGA : GA.Nodup := by have := pl.n1; rw [eFA] at this; exact (List.nodup_cons.mp this).2
    have stB3 : Stp ms SB HB FsB S3 H3 Fs3 := (stB.trans rB st13).mono fun x q => (List.mem_append.mp q).elim id id
    have ogy' : ∀ a ∈ Fy, Wm FsB ms a ∨ HB a = none := fun a m => by
      have := Org.back stB3 rB ogy rfl a m
      exact this.imp (fun w => w.mono fun x q => (List.mem_append.mp q).elim id fun q => hsub x (List.mem_append_right _ (List.mem_append_right _ (List.mem_append_left _ q)))) id
    have rd := r4.die (vs := vs)
    rw [hw] at rd
    have clr : ∀ {a : Addr}, a ∉ Fs4.flatten → a ∉ (clrF Fs4 vs).flatten := fun {a} n m => by
      obtain ⟨j, G, _, e, m⟩ := clr_mem m
      exact n (mem_flat.mpr ⟨j, G, e, m⟩)
    refine lst_chg (vs := accV) (ds' := acc ++ [yd]) (Q := N) pl eFA (rA.append hy.rep.one) (List.nodup_append.mpr ⟨nGA, pl.n2, fun a m b n z => pl.dj b n (by rw [eFA, ← z]; exact List.mem_cons_of_mem _ m)⟩) (fun b m => List.mem_append.mp m) fun H5 F5 hk rep5 nd5 hF5 => ?_
    have outF : ∀ a ∈ FA, a ∉ (clrF Fs4 vs).flatten ∧ ¬ Z a := fun a m => ⟨clr ((hh4.own rfl).2 a m).2.1, ((hh4.own rfl).2 a m).2.2⟩
    have stf : Stp ms SB HB FsB (dieS S4 vs) H4 (clrF Fs4 vs) := ((stB.trans rB (st14.trans r1 Stp.die)).mono fun x q => (List.mem_append.mp q).elim id fun q => (List.mem_append.mp q).elim id (vsub x))
    refine next (dieS S4 vs) H5 (clrF Fs4 vs) (acc ++ [yd]) F5 (rd.outside hk outF pl.m1) (Stp.outside stf hk og) ⟨rep5, fun _ => ⟨nd5, fun a m => ⟨(hF5 a m).1, ?_⟩⟩, fun z => by cases z⟩ (fun a m => ?_) (.inr ⟨rfl, rfl, rfl⟩) ((st14.keep.mono fun a w => .inl w).trans hk fun a m => .inl (.inr m))
    · rcases (hF5 a m).2 with q | q
      · exact outF a q
      · exact ⟨clr ((hy.own rfl).2 a q).2.1, ((hy.own rfl).2 a q).2.2⟩
    · rcases (hF5 a m).2 with q | q
      · exact og a q
      · exact ogy' a q
end Bv
end

section
/-! What a value can reach; inner sources. -/
namespace Bv
open PySem PySem.Spec PyProof.Rows L2
variable {K : PySem.W.Frag} {cls : Nat → Addr} {X : Cx}
variable {σ σ' σ0 σ1 : L2.St} {S S0 S1 S2 S3 S4 S' : List Sl} {H H0 H' H1 H2 Hl : Hp} {Fs Fs0 Fs1 Fs2 Fs' : List (List Addr)} {Z : Addr → Prop} {ms ms1 ms2 rs rs2 : List Nat} {d d' c c' dd yd : D} {v v' x : V} {F F' F1 F2 FC FA FF : List Addr} {ow : Bool} {W : WX}
def Reach (Fs : List (List Addr)) (Z : Addr → Prop) (H : Hp) (F : List Addr) : Prop := ∀ a ∈ F, a ∈ Fs.flatten ∨ Z a ∨ H a = none
def tER (K : PySem.W.Frag) (cls : Nat → Addr) (W : WX) (m : EM) : TE := fun σ H Q => ∃ S Fs Z, SRel K cls σ S H Fs Z ∧
  match m.run S with
  | .ok d S' => ∀ v H' Fs' F, SRel K cls σ S' H' Fs' Z → Stp m.muts S H Fs S' H' Fs' → Held K cls m.own m.roots H' Fs' Z d v F → Org m.own m.muts H Fs F → Reach Fs Z H F → Q v H'
  | .exc _ _ _ => False
  | .stuck => False
section
variable {e a b : Expr} {m ma mb : EM} {pos : Pos}
theorem r_own (he : PE X e (tE K cls W m)) (ho : m.own = true) : PE X e (tER K cls W m) := PE.imp he fun σ H Q ⟨S, Fs, Z, r, h⟩ => by
  refine ⟨S, Fs, Z, r, ?_⟩
  cases e : m.run S with
  | exc c d s => rw [e] at h; exact h
  | stuck => rw [e] at h; exact h
  | ok x S1 =>
    rw [e] at h
    exact fun v H' Fs' F r' st hd og => h v H' Fs' F r' st hd og fun a m => (og ho a m).elim (fun w => .inl w.flat) fun z => .inr (.inr z)
theorem r_var {i : Nat} {x : Str} (hN : X.N[i]? = some x) (hv : Vis X.env.scope x) (hd : (x == ("__debug__" : Str)) = false) (hcd : (x == ("__classdict__" : Str)) = false) :
    PE X (.Name x pos) (tER K cls W (mVar i)) := PE.imp (pe_var hN hv hd hcd) fun σ H Q ⟨S, Fs, Z, r, h⟩ => by
  unfold mVar eVar at h
  dsimp only at h
  split at h
  · rename_i d S' e
    split at e
    · rename_i d0 e0
      cases e
      obtain ⟨v, F, e1, e2, rep⟩ := r.ow i d e0
      exact ⟨v, e1, h v H Fs F r Stp.refl ⟨rep, (fun z => by cases z), fun _ a m _ => ⟨i, by simp, F, e2, m⟩⟩ (fun z => by cases z) fun a m => .inl (mem_flat.mpr ⟨i, F, e2, m⟩)⟩
    · rename_i d0 e0
      cases e
      obtain ⟨v, F, e1, rep, z⟩ := r.ro i d e0
      exact ⟨v, e1, h v H Fs F r Stp.refl ⟨rep, (fun z => by cases z), fun _ a m q => absurd (z a m) (r.dj a q)⟩ (fun z => by cases z) fun a m => .inr (.inl (z a m))⟩
    · cases e
  · exact h.elim
  · exact h.elim
theorem r_idx (hu : X.A.units + 1 < cLine) (ha : PE X a (tER X.K cls W ma)) (hb : PE X b (tE X.K cls W mb)) (hs : PlainIx b) (ap : apartB ma mb = true) : PE X (.Subscript a b pos) (tER X.K cls W (mIdx ma mb)) :=
  PE.imp (pe_ix (ix_seq.or (ix_dict hu)) ha hb hs) fun σ H Q ⟨S, Fs, Z, r, h⟩ => by
  refine ⟨S, Fs, Z, r, ?_⟩
  unfold mIdx e2 at h
  dsimp only at h
  cases e : ma.run S with
  | exc c d s => rw [e] at h; exact h
  | stuck => rw [e] at h; exact h
  | ok x S1 =>
    rw [e] at h
    dsimp only at h ⊢
    intro v H1 Fs1 F1 r1 st1 hd1 ho1 re1
    refine ⟨S1, Fs1, Z, r1, ?_⟩
    cases e2 : mb.run S1 with
    | exc c d s => rw [e2] at h; exact h
    | stuck => rw [e2] at h; exact h
    | ok y S2 =>
      rw [e2] at h
      dsimp only at h ⊢
      cases e3 : dIdx x y with
      | none => rw [e3] at h; exact h.elim
      | some z =>
        rw [e3] at h
        intro v2 H2 Fs2 F2 r2 st2 hd2 ho2
        have hd1' := hd1.step r1 st2 (apart_of ap)
        refine idx_rule hd1'.rep hd2.rep e3 fun v3 G sb rep => h v3 H2 Fs2 G r2 (st1.trans r st2) (hd1'.sub rep sb) (fun eo a m => ?_) fun a m => re1 a (sb.subset m)
        exact (ho1 eo a (sb.subset m)).imp (fun w => w.app_l) id
end
/-- a source that nothing locks -/
def tI1 (X : Cx) (cls : Nat → Addr) (m : IM) : TI := fun σ H R => ∃ S Fs Z, SRel X.K cls σ S H Fs Z ∧ match m.run S with
  | .ok ds S' => ∀ J H' Fs' F, SRel X.K cls σ S' H' Fs' Z → Stp m.muts S H Fs S' H' Fs' → HeldF m.own m.roots H' Fs' Z F → Reach Fs Z H F → ItOk X.K cls J ds H' F → R J H'
  | .exc _ _ _ => False
  | .stuck => False
theorem s_iter1 {tg e : Expr} {m : EM} (he : PE X e (tER X.K cls W m)) : PI X tg e (tI1 X cls (mIt m srcItems)) := by
  refine PI.imp (PI.or (PI.or (pi_list he) (pi_tup he)) (pi_str he)) fun σ H R ⟨S, Fs, Z, r, h⟩ => ?_
  unfold mIt xIt at h
  dsimp only at h
  cases e : m.run S with
  | exc c d s => rw [e] at h; exact h.elim
  | stuck => rw [e] at h; exact h.elim
  | ok d S1 =>
    rw [e] at h
    dsimp only at h
    cases d with
    | lst x =>
      refine .inl (.inl ⟨S, Fs, Z, r, ?_⟩)
      rw [e]
      intro v H' Fs' F r' st hd ho re
      obtain ⟨a, vs, G, rfl, eG, t, rr⟩ := rLst' hd.rep
      exact ⟨a, rfl, ⟨vs, SqL.of t⟩, h (Itl X.K a) H' Fs' F r' st hd.f re (by rw [eG]; exact it_list t rr)⟩
    | tup x =>
      refine .inl (.inr ⟨S, Fs, Z, r, ?_⟩)
      rw [e]
      intro v H' Fs' F r' st hd ho re
      obtain ⟨a, vs, rfl, t, rr⟩ := rTupS hd.rep
      exact ⟨a, rfl, ⟨vs, SqT.of t⟩, h (Itt X.K a) H' Fs' F r' st hd.f re (it_tup t rr)⟩
    | str x =>
      refine .inr ⟨S, Fs, Z, r, ?_⟩
      rw [e]
      intro v H' Fs' F r' st hd ho re
      exact ⟨S' x, (rStr' hd.rep).1, h (Its (S' x)) H' Fs' F r' st hd.f re it_str⟩
    | dct kvs => exact h.elim
    | non => exact h.elim
    | bl b => exact h.elim
    | int i => exact h.elim
    | ins c fs => exact h.elim
theorem rng_run1 {op : List D → Option (List D)} {l : List EM} {R : It → Hp → Prop} {P : List V → Hp → Prop} (h : tI1 X cls (mRng op l) σ H R)
    (k : ∀ ds xs vs H' F, op ds = some xs → Reps X.K cls H' ds vs F → (∀ J, ItOk X.K cls J xs H' [] → R J H') → P vs H') : tAL X.K cls l σ H P := by
  obtain ⟨S, Fs, Z, r, h⟩ := h
  refine ⟨S, Fs, Z, r, ?_⟩
  unfold mRng xRng at h
  dsimp only at h
  cases e : eAL l S with
  | exc c d s => rw [e] at h; exact h
  | stuck => rw [e] at h; exact h
  | ok ds S1 =>
    rw [e] at h
    dsimp only at h ⊢
    intro vs H' Fs' F r' st hd
    cases er : op ds with
    | none => rw [er] at h; exact h.elim
    | some xs =>
      rw [er] at h
      exact k ds xs vs H' F er hd.reps fun J it => h J H' Fs' [] r' st (Held.scal (rNon (K := X.K) (cls := cls))).f (fun a m => by cases m) it
theorem s_rng1' {tg a : Expr} {p pos : Pos} {m : EM} (hg : Gl X "range") (hm : X.mg "range" = none) (ha : PA X [a] (tAL X.K cls [m])) (hs : starEach [a] X.env = [(false, eval a X.env)]) : PI X tg (.Call (.Name "range" p) [a] [] pos) (tI1 X cls (mRng rng1 [m])) := by
  refine PI.imp (pi_range1 hg hm ha hs) fun σ H R h => rng_run1 h fun ds xs vs H' F er rr q => ?_
  unfold rng1 at er
  split at er
  · split at er
    · rename_i j c
      cases er
      obtain ⟨v, rfl, h1⟩ := reps1 rr
      obtain ⟨c1, c2⟩ := small62_of c
      exact ⟨j, by rw [rInt' h1], c1, c2, q _ it_range⟩
    · cases er
  · cases er
theorem s_rng2' {tg a b : Expr} {p pos : Pos} {m1 m2 : EM} (hg : Gl X "range") (hm : X.mg "range" = none) (ha : PA X [a, b] (tAL X.K cls [m1, m2])) (hs : starEach [a, b] X.env = [(false, eval a X.env), (false, eval b X.env)]) (hs2 : starEach [b] X.env = [(false, eval b X.env)]) : PI X tg (.Call (.Name "range" p) [a, b] [] pos) (tI1 X cls (mRng rng2 [m1, m2])) := by
  refine PI.imp (pi_range2 hg hm ha hs hs2) fun σ H R h => rng_run1 h fun ds xs vs H' F er rr q => ?_
  unfold rng2 at er
  split at er
  · split at er
    · rename_i i j c
      cases er
      rw [Bool.and_eq_true] at c
      obtain ⟨v, w, F1, F2, rfl, h1, h2⟩ := reps2 rr
      obtain ⟨c1, c2⟩ := small62_of c.1
      obtain ⟨c3, c4⟩ := small62_of c.2
      exact ⟨i, j, by rw [rInt' h1, rInt' h2], ⟨c1, c2, c3, c4⟩, q _ it_range⟩
    · cases er
  · cases er
end Bv
end

section
/-! [e for x in it if c for y in it1 if c1]: the two loops. -/
namespace Bv
open PySem PySem.Spec PyProof.Rows L2
variable {K : PySem.W.Frag} {cls : Nat → Addr} {X : Cx}
variable {σ σ' σ0 σ1 : L2.St} {S S0 S1 S2 S3 S4 S' : List Sl} {H H0 H' H1 H2 Hl : Hp} {Fs Fs0 Fs1 Fs2 Fs' : List (List Addr)} {Z : Addr → Prop} {ms ms1 ms2 rs rs2 : List Nat} {d d' c c' dd yd : D} {v v' x : V} {F F' F1 F2 FC FA FF : List Addr} {ow : Bool} {W : WX}
theorem walkW {J : It} {n : Nat} {G : Hp → Prop} {Y : Nat → Hp → V → Hp → Prop} (w : Walk J n G Y) {Qd : Hp → Prop} (body : (Hp → Prop) → V → Hp → Prop) (Pv : Nat → Hp → Prop) (h0 : Pv 0 H0) (hG : ∀ i H, i ≤ n → Pv i H → G H)
    (hs : ∀ i x H H', i < n → Pv i H → Y i H x H' → body (Pv (i + 1)) x H') (hd : ∀ H, Pv n H → Qd H) :
    ∃ W : Nat → Nat → Hp → Prop, (∃ m, W 0 m H0) ∧ ∀ i m H, W i m H → (J.stop i H ∧ Qd H) ∨ (J.go i H ∧ ∃ Nx : Hp → Prop, (∀ H', Nx H' → ∃ m', m' < m ∧ W (i + 1) m' H') ∧ ∀ x H', J.yld i H x H' → body Nx x H') := by
  refine ⟨fun i m H => m = n - i ∧ i ≤ n ∧ Pv i H, ⟨n, by simp, Nat.zero_le _, h0⟩, ?_⟩
  rintro i m H ⟨rfl, hi, p⟩
  have g := hG i H hi p
  by_cases hlt : i < n
  · exact .inr ⟨w.goes i H hlt g, Pv (i + 1), fun H' p' => ⟨n - (i + 1), by omega, rfl, hlt, p'⟩, fun x H' y => hs i x H H' hlt p (w.yields i H x H' hlt g y)⟩
  · have : i = n := by omega
    subst this
    exact .inl ⟨w.stops H g, hd H p⟩
def lcR2 (tg : Tg) (tt : Option EM) (it1 : List Sl → R (List D)) (tg1 : Tg) (tt1 : Option EM) (te : SE) (vs vs1 ms : List Nat) : List D → List Sl → R (List D)
  | [], S => .ok [] S
  | d :: ds, S => match tgt tg d S with
    | some S1 => (match xTst tt S1 with
      | .ok true S2 => (match it1 S2 with
        | .ok ds1 S3 => (match lcR tg1 tt1 te vs1 ds1 (dieS S3 vs1) with
          | .ok ys S4 => preR ys (lcR2 tg tt it1 tg1 tt1 te vs vs1 ms ds (dieS (clnS S4 ms) vs))
          | .exc c d s => .exc c d s
          | .stuck => .stuck)
        | .exc c d s => .exc c d s
        | .stuck => .stuck)
      | .ok false S2 => lcR2 tg tt it1 tg1 tt1 te vs vs1 ms ds (dieS S2 vs)
      | .exc c d s => .exc c d s
      | .stuck => .stuck)
    | none => .stuck
theorem preR_preR {a b : List D} {r : R (List D)} : preR a (preR b r) = preR (a ++ b) r := by cases r <;> simp [preR]
theorem preR_ok {a ys : List D} {r : R (List D)} {S : List Sl} (e : preR a r = .ok ys S) : ∃ zs, r = .ok zs S ∧ ys = a ++ zs := by
  cases r with
  | ok zs S' => cases e; exact ⟨zs, rfl, rfl⟩
  | exc _ _ _ => cases e
  | stuck => cases e
theorem wipe_wipe {vs vs1 : List Nat} (h : ∀ i ∈ vs1, i ∈ vs) : wipe (wipe σ vs1) vs = wipe σ vs := by
  refine List.ext_getElem? fun j => ?_
  rw [wipe_get, wipe_get, wipe_length, wipe_get]
  by_cases hj : j ∈ vs ∧ j < σ.length
  · rw [if_pos hj, if_pos hj]
  · rw [if_neg hj, if_neg hj, if_neg (fun z => hj ⟨h j z.1, z.2⟩)]
/-- the inner loop, from the state at its source -/
theorem in_fin {σB : L2.St} {SB : List Sl} {HB : Hp} {FsB : List (List Addr)} {ZB : Addr → Prop} {tg1 : Tg} {tt1 : Option EM} {te : EM} {vs1 : List Nat} {acc : List D} {A : Addr} {J1 : It} {ds1 : List D} {N : Hp → Prop} {rest : List Sl → R (List D)} {ys0 : List D} {SF : List Sl} (rB : SRel K cls σB SB HB FsB ZB) (stB : Stp ms SB HB FsB S H Fs) (fx : Fx ms σB σ) (og : ∀ a ∈ FA, Wm FsB ms a ∨ HB a = none) (ho : te.own = true)
    (hsub : ∀ i ∈ tg1.ix ++ (oMuts tt1 ++ (te.muts ++ vs1)), i ∈ ms) (htg : ∀ i ∈ tg1.ix, i ∈ vs1)
    (r : SRel K cls σ S H Fs ZB) (hh : Held K cls true [] H Fs ZB (.lst acc) (.ref A) FA) (hF : ∀ a ∈ F1, H a ≠ none ∧ a ∉ Fs.flatten ∧ a ∉ FA) (io : ItOk K cls J1 ds1 H F1)
    (full : (match lcR tg1 tt1 te.run vs1 ds1 (dieS S vs1) with
      | .ok ys S4 => preR (acc ++ ys) (rest S4)
      | .exc c d s => .exc c d s
      | .stuck => .stuck) = .ok ys0 SF) (hlen : ys0.length ≤ sizeLine)
    (next : ∀ S' H' Fs' acc' FA', SRel K cls (wipe σ vs1) (clnS S' ms) H' Fs' ZB → Stp ms SB HB FsB (clnS S' ms) H' Fs' → Held K cls true [] H' Fs' ZB (.lst acc') (.ref A) FA' → (∀ a ∈ FA', Wm FsB ms a ∨ HB a = none) → preR acc' (rest S') = .ok ys0 SF → N H') :
    ∃ W1 : Nat → Nat → Hp → Prop, (∃ m, W1 0 m H) ∧ ∀ j k H, W1 j k H →
      (J1.stop j H ∧ N H) ∨ (J1.go j H ∧ ∃ Nx1 : Hp → Prop, (∀ H', Nx1 H' → ∃ k', k' < k ∧ W1 (j + 1) k' H') ∧ ∀ x H', J1.yld j H x H' → gTg K tg1 x (wipe σ vs1) H' fun σ3 H5 => wipe σ3 vs1 = wipe σ vs1 ∧ tTo K cls tt1 σ3 H5 fun b H6 =>
        if b = true then tE K cls W te σ3 H6 fun y H7 => ∃ acc, H7 A = some (.lst acc) ∧ acc.length < sizeLine ∧ Nx1 (upd H7 A (.lst (acc ++ [y]))) else Nx1 H6) := by
  obtain ⟨G, Y, wk, stab, yl⟩ := io
  have vsub : ∀ i ∈ vs1, i ∈ ms := fun i m => hsub i (List.mem_append_right _ (List.mem_append_right _ (List.mem_append_right _ m)))
  let Z1 : Addr → Prop := fun a => ZB a ∨ a ∈ F1
  have r1 : SRel K cls σ S H Fs Z1 := ⟨r.len, r.sl, r.ow, fun i d e => (by
    obtain ⟨v, G, e1, rep, z⟩ := r.ro i d e
    exact ⟨v, G, e1, rep, fun a m => .inl (z a m)⟩), r.mu, r.nd, fun a m z => z.elim (r.dj a m) fun z => (hF a z).2.1 m, fun a z => z.elim (r.zs a) fun z => (hF a z).1⟩
  have hh1 : Held K cls true [] H Fs Z1 (.lst acc) (.ref A) FA := ⟨hh.rep, fun _ => ⟨(hh.own rfl).1, fun a m => ⟨((hh.own rfl).2 a m).1, ((hh.own rfl).2 a m).2.1, fun z => z.elim ((hh.own rfl).2 a m).2.2 fun z => (hF a z).2.2 m⟩⟩, fun z => by cases z⟩
  have zB : ∀ a ∈ F1, Z1 a := fun a m => .inr m
  have hl0 : ∀ {acc' : List D} {R : R (List D)}, preR acc' R = .ok ys0 SF → acc'.length ≤ ys0.length := fun {acc' R} e => by
    obtain ⟨zs, _, e2⟩ := preR_ok e
    rw [e2, List.length_append]
    omega
  let Pv : Nat → Hp → Prop := fun i H1 => ∃ S1 Fs1 acc' FA', SRel K cls (wipe σ vs1) S1 H1 Fs1 Z1 ∧ Stp ms SB HB FsB S1 H1 Fs1 ∧ (∀ a o, H a = some o → (¬ Mut (some o) ∨ a ∈ F1) → H1 a = some o) ∧ Held K cls true [] H1 Fs1 Z1 (.lst acc') (.ref A) FA' ∧ (∀ a ∈ FA', Wm FsB ms a ∨ HB a = none) ∧
    (match lcR tg1 tt1 te.run vs1 (ds1.drop i) S1 with
      | .ok ys S4 => preR (acc' ++ ys) (rest S4)
      | .exc c d s => .exc c d s
      | .stuck => .stuck) = .ok ys0 SF
  have stabOf : ∀ {H1 : Hp}, (∀ a o, H a = some o → (¬ Mut (some o) ∨ a ∈ F1) → H1 a = some o) → Stab H F1 H1 := fun {H1} kp => by
    refine ⟨fun a => Mut (H a) ∧ a ∉ F1, fun a o e n => kp a o e ?_, fun a w => w.1, fun a w => w.2⟩
    by_cases q : a ∈ F1
    · exact .inr q
    · refine .inl fun mu => n ⟨?_, q⟩
      rw [e]
      exact mu
  refine walkW wk (fun Nx1 x H' => gTg K tg1 x (wipe σ vs1) H' fun σ3 H5 => wipe σ3 vs1 = wipe σ vs1 ∧ tTo K cls tt1 σ3 H5 fun b H6 =>
        if b = true then tE K cls W te σ3 H6 fun y H7 => ∃ acc, H7 A = some (.lst acc) ∧ acc.length < sizeLine ∧ Nx1 (upd H7 A (.lst (acc ++ [y]))) else Nx1 H6) Pv ?_ (fun i H1 hi ⟨S1, Fs1, acc', FA', r1', st1, kp, _⟩ => stab H1 (stabOf kp)) (fun i x H1 H1' hi ⟨S1, Fs1, acc', FA', r1', st1, kp, hh', og', e1⟩ y => ?_) (fun H1 ⟨S1, Fs1, acc', FA', r1', st1, kp, hh', og', e1⟩ => ?_)
  · refine ⟨dieS S vs1, clrF Fs vs1, acc, FA, r1.die, (stB.trans rB Stp.die).mono fun x q => (List.mem_append.mp q).elim id (vsub x), fun a o e _ => e, hh1.step r1 Stp.die (fun z => by cases z), og, ?_⟩
    rw [List.drop_zero]
    exact full
  · obtain ⟨sm, dd, FF, e2, rep, hFF⟩ := yl i H1 x H1' (stabOf kp) y
    have hdrop : ds1.drop i = dd :: ds1.drop (i + 1) := by
      obtain ⟨hi', e3⟩ := List.getElem?_eq_some_iff.mp e2
      rw [← e3]
      exact List.drop_eq_getElem_cons hi'
    rw [hdrop, lcR] at e1
    cases et : tgt tg1 dd S1 with
    | none => rw [et] at e1; cases e1
    | some S2 =>
      rw [et] at e1
      dsimp only at e1
      cases ec : xTst tt1 S2 with
      | exc c1 d1 s1 => rw [ec] at e1; cases e1
      | stuck => rw [ec] at e1; cases e1
      | ok k S3 =>
        rw [ec] at e1
        have r1s := r1'.same sm
        have st1s : Stp ms SB HB FsB S1 H1' Fs1 := by
          have := st1.trans rB (Stp.of_same (S := S1) (Fs := Fs1) sm)
          rwa [List.append_nil] at this
        have hhs := hh'.step r1' (Stp.of_same (S := S1) (Fs := Fs1) sm) (fun z => by cases z)
        have kps : ∀ {H5 : Hp}, Keep (fun a => Wm Fs1 ms a ∨ a ∈ FA') H1' H5 → ∀ a o, H a = some o → (¬ Mut (some o) ∨ a ∈ F1) → H5 a = some o := fun {H5} k a o e q => by
          have e5 := sm a o (kp a o e q)
          refine k a o e5 fun w => ?_
          rcases q with q | q
          · refine q ?_
            have mu : Mut (H1' a) := w.elim (fun w => r1s.mu a w.flat) fun m => ((hhs.own rfl).2 a m).1
            rw [e5] at mu
            exact mu
          · exact w.elim (fun w => r1s.dj a w.flat (zB a q)) fun m => ((hhs.own rfl).2 a m).2.2 (zB a q)
        have key : ∃ S4 yd, (k = true → te.run S3 = .ok yd S4) ∧ (k = true → acc'.length < sizeLine) ∧
            ∀ acc2 S5, ((k = false ∧ acc2 = acc' ∧ S5 = dieS S3 vs1) ∨ (k = true ∧ acc2 = acc' ++ [yd] ∧ S5 = dieS S4 vs1)) → (match lcR tg1 tt1 te.run vs1 (ds1.drop (i + 1)) S5 with
              | .ok ys S4 => preR (acc2 ++ ys) (rest S4)
              | .exc c d s => .exc c d s
              | .stuck => .stuck) = .ok ys0 SF := by
          cases k with
          | false =>
            refine ⟨S3, .non, fun z => (by cases z), fun z => (by cases z), fun acc2 S5 q => ?_⟩
            rcases q with ⟨_, rfl, rfl⟩ | ⟨z, _⟩
            · exact e1
            · cases z
          | true =>
            dsimp only at e1
            cases ey : te.run S3 with
            | exc c1 d1 s1 => rw [ey] at e1; cases e1
            | stuck => rw [ey] at e1; cases e1
            | ok yd S4 =>
              rw [ey] at e1
              dsimp only at e1
              cases e6 : lcR tg1 tt1 te.run vs1 (ds1.drop (i + 1)) (dieS S4 vs1) with
              | exc c1 d1 s1 => rw [e6] at e1; cases e1
              | stuck => rw [e6] at e1; cases e1
              | ok ys S5 =>
                rw [e6] at e1
                dsimp only at e1
                refine ⟨S4, yd, fun _ => rfl, fun _ => ?_, fun acc2 S6 q => ?_⟩
                · have := hl0 e1
                  rw [List.length_append, List.length_cons] at this
                  omega
                · rcases q with ⟨z, _⟩ | ⟨_, rfl, rfl⟩
                  · cases z
                  · rw [e6]
                    dsimp only
                    rw [List.append_assoc]
                    exact e1
        obtain ⟨S4, yd, ey, hacc, fin⟩ := key
        exact lc_step (W := W) (N := Pv (i + 1)) rB st1s og' ho hsub htg r1s rep (fun a m => zB a (hFF a m)) et ec ey hhs hacc fun S' H' Fs' acc2 FA2 r2 st2 hh2 og2 q k => ⟨S', Fs', acc2, FA2, r2, st2, kps k, hh2, og2, fin acc2 S' q⟩
  · rw [List.drop_length, lcR] at e1
    dsimp only at e1
    rw [List.append_nil] at e1
    have fx' : Fx ms σB (wipe σ vs1) := fun j hj => by
      rw [wipe_get, if_neg (fun z => hj (vsub j z.1))]
      exact fx j hj
    exact next S1 H1 Fs1 acc' FA' (SRel.unZ rB st1 fx' r1' fun a z => .inl z) ((st1.trans rB Stp.cln).mono fun x q => (List.mem_append.mp q).elim id id) ⟨hh'.rep, fun _ => ⟨(hh'.own rfl).1, fun a m => ⟨((hh'.own rfl).2 a m).1, ((hh'.own rfl).2 a m).2.1, fun z => ((hh'.own rfl).2 a m).2.2 (.inl z)⟩⟩, fun z => by cases z⟩ og' e1
end Bv
end

section
/-! [e for x in it if c for y in it1 if c1], proved. -/
namespace Bv
open PySem PySem.Spec PyProof.Rows L2
variable {K : PySem.W.Frag} {cls : Nat → Addr} {X : Cx}
variable {σ σ' σ0 σ1 : L2.St} {S S0 S1 S2 S3 S4 S' : List Sl} {H H0 H' H1 H2 Hl : Hp} {Fs Fs0 Fs1 Fs2 Fs' : List (List Addr)} {Z : Addr → Prop} {ms ms1 ms2 rs rs2 : List Nat} {d d' c c' dd yd : D} {v v' x : V} {F F' F1 F2 FC FA FF : List Addr} {ow : Bool} {W : WX}
def eLc2 (it : List Sl → R (List D)) (tg : Tg) (tt : Option EM) (it1 : List Sl → R (List D)) (tg1 : Tg) (tt1 : Option EM) (te : SE) (vs vs1 is ms : List Nat) : SE := fun s => match it s with
  | .ok ds s' => (match lcR2 tg tt it1 tg1 tt1 te vs vs1 ms ds (dieS (frzS s' is) vs) with
    | .ok ys s2 => if Nat.ble ys.length lineN then .ok (.lst ys) (thaw (backS s2 (frzS s' is) vs) s' is ms) else .stuck
    | .exc c d s => .stuck
    | .stuck => .stuck)
  | .exc c d s => .exc c d s
  | .stuck => .stuck
def mLc2 (it : IM) (tg : Tg) (tt : Option EM) (it1 : IM) (tg1 : Tg) (tt1 : Option EM) (te : EM) (vs vs1 is ms : List Nat) : EM := ⟨eLc2 it.run tg tt it1.run tg1 tt1 te.run vs vs1 is ms, true, [], it.muts ++ ms⟩
/-- the tail behind the turns: what is wanted of the new container -/
theorem lc_done {is vs : List Nat} {m : EM} {Q : VK} {A : Addr} {dA : D} (h0 : SRel X.K cls σ S H Fs Z) (hm : ∀ x ∈ ms2 ++ ms, x ∈ m.muts) (ho : m.own = true) (hdis : ∀ i ∈ is, i ∉ ms) (vsub : ∀ i ∈ vs, i ∈ ms)
    (r : SRel X.K cls σ S' H' Fs' Z) (st : Stp ms2 S H Fs S' H' Fs') (lk : LkOk X H' Hl F) (rf : SRel X.K cls σ (frzS S' is) Hl (clrF Fs' is) (Zof Z Fs' is F))
    (r1 : SRel X.K cls (wipe σ vs) S1 H1 Fs1 (Zof Z Fs' is F)) (st1 : Stp ms (frzS S' is) Hl (clrF Fs' is) S1 H1 Fs1) (hh : Held X.K cls true [] H1 Fs1 (Zof Z Fs' is F) dA (.ref A) FA) (og : ∀ a ∈ FA, Wm (clrF Fs' is) ms a ∨ Hl a = none)
    (w : Want X.K cls m σ S H Fs Z dA (thaw (backS S1 (frzS S' is) vs) S' is ms) Q) : Q (.ref A) H1 ∨ ∃ a o u, H1 a = some (.frz o u) ∧ (∀ o' u', X.H_0 a ≠ some (.frz o' u')) ∧ Q (.ref A) (upd H1 a u) := by
  have rb := SRel.back rf r1 st1
  have sb : Stp ms (frzS S' is) Hl (clrF Fs' is) (backS S1 (frzS S' is) vs) H1 (clrF Fs1 vs) := (st1.trans rf Stp.back').mono fun x q => (List.mem_append.mp q).elim id (vsub x)
  obtain ⟨H2, th, q⟩ := out_of (asg := []) lk r rf hdis (fun i m => by cases m) rb sb Fx.refl
  have g : Q (.ref A) H2 := by
    refine w (.ref A) H2 _ FA th.srel ((st.trans h0 th.stp).mono hm) (by
      rw [ho]
      refine ⟨th.l2.rep hh.rep, fun _ => ⟨(hh.own rfl).1, fun a m => ?_⟩, fun z => by cases z⟩
      obtain ⟨mu, nf, nz⟩ := (hh.own rfl).2 a m
      refine ⟨by rw [th.hc a nz]; exact mu, fun z => ?_, fun z => nz (.inl z)⟩
      obtain ⟨j, G', e5, m5⟩ := mem_flat.mp z
      rw [rstF_get] at e5
      split at e5
      · rename_i y
        cases e6 : Fs'[j]? with
        | none => rw [e6] at e5; cases e5; cases m5
        | some G0 => rw [e6] at e5; cases e5; exact nz (.inr (.inl ⟨j, y.1, _, e6, m5⟩))
      · rw [clrF_get] at e5
        split at e5
        · cases e5; cases m5
        · exact nf (mem_flat.mpr ⟨j, G', e5, m5⟩)) fun z a m => ?_
    have back : Wm Fs' ms a ∨ H' a = none := by
      rcases og a m with w | w
      · obtain ⟨j, hj, G', e5, m5⟩ := w
        rw [clrF_get] at e5
        split at e5
        · cases e5; cases m5
        · exact .inl ⟨j, hj, G', e5, m5⟩
      · exact .inr (lk.lk.none_iff.mp w)
    rcases back with w | w
    · exact (st.back w).imp (fun w => w.mono hm) id
    · exact (st.new h0 w).symm.imp (fun w => w.mono fun x q => hm x (List.mem_append_left _ q)) id
  rcases q with rfl | ⟨a, o, u, ea, nf, rfl⟩
  · exact .inl g
  · exact .inr ⟨a, o, u, ea, nf, g⟩
theorem lc2_fin {W0 : WX} {it it1 : IM} {tg tg1 : Tg} {tt tt1 : Option EM} {te : EM} {vs vs1 is ms : List Nat} {Q : VK} {J : It} {ds : List D} {ys0 : List D} {SF : List Sl} (h0 : SRel X.K cls σ S H Fs Z) (ho : te.own = true)
    (hsub : ∀ i ∈ tg.ix ++ (oMuts tt ++ (it1.muts ++ vs)), i ∈ ms) (hsub1 : ∀ i ∈ tg1.ix ++ (oMuts tt1 ++ (te.muts ++ vs1)), i ∈ ms) (htg : ∀ i ∈ tg.ix, i ∈ vs) (htg1 : ∀ i ∈ tg1.ix, i ∈ vs1) (hv1 : ∀ i ∈ vs1, i ∈ vs) (hdis : ∀ i ∈ is, i ∉ ms) (hdt : ∀ i ∈ tg.ix, i ∉ oMuts tt ++ it1.muts) (hrt : it.own = false → ∀ i ∈ it.roots, i ∈ is) (hrt1 : it1.own = false → ∀ i ∈ it1.roots, i ∈ is ∨ i ∈ tg.ix)
    (r : SRel X.K cls σ S' H' Fs' Z) (st : Stp it.muts S H Fs S' H' Fs') (hd : HeldF it.own it.roots H' Fs' Z F) (lk : LkOk X H' Hl F) (io : ItOk X.K cls J ds Hl F)
    (hok : lcR2 tg tt it1.run tg1 tt1 te.run vs vs1 ms ds (dieS (frzS S' is) vs) = .ok ys0 SF) (hlen : ys0.length ≤ sizeLine)
    (hf : Want X.K cls (mLc2 it tg tt it1 tg1 tt1 te vs vs1 is ms) σ S H Fs Z (.lst ys0) (thaw (backS SF (frzS S' is) vs) S' is ms) Q)
    (A : Addr) (hA : Hl A = none) :
    ∃ W : Nat → Nat → Hp → Prop, (∃ m, W 0 m (upd Hl A (.lst []))) ∧ ∀ i m H, W i m H →
      (J.stop i H ∧ (Q (.ref A) H ∨ ∃ a o u, H a = some (.frz o u) ∧ (∀ o' u', X.H_0 a ≠ some (.frz o' u')) ∧ Q (.ref A) (upd H a u))) ∨
      (J.go i H ∧ ∃ Nx : Hp → Prop, (∀ H', Nx H' → ∃ m', m' < m ∧ W (i + 1) m' H') ∧ ∀ x H', J.yld i H x H' → gTg X.K tg x (wipe σ vs) H' fun σ2 H2 => wipe σ2 vs = wipe σ vs ∧ tTo X.K cls tt σ2 H2 fun b H3 =>
        if b = true then tI1 X cls it1 σ2 H3 fun J1 H4 => ∃ W1 : Nat → Nat → Hp → Prop, (∃ m, W1 0 m H4) ∧ ∀ j k H, W1 j k H →
          (J1.stop j H ∧ Nx H) ∨ (J1.go j H ∧ ∃ Nx1 : Hp → Prop, (∀ H', Nx1 H' → ∃ k', k' < k ∧ W1 (j + 1) k' H') ∧ ∀ x H', J1.yld j H x H' → gTg X.K tg1 x (wipe σ2 vs1) H' fun σ3 H5 => wipe σ3 vs1 = wipe σ2 vs1 ∧ tTo X.K cls tt1 σ3 H5 fun b H6 =>
            if b = true then tE X.K cls W0 te σ3 H6 fun y H7 => ∃ acc, H7 A = some (.lst acc) ∧ acc.length < sizeLine ∧ Nx1 (upd H7 A (.lst (acc ++ [y]))) else Nx1 H6)
        else Nx H3) := by
  have hd' : HeldF it.own is H' Fs' Z F := ⟨hd.al, hd.own, fun e a m z => (hd.bor e a m z).mono (hrt e)⟩
  have rf := r.freeze hd' lk.lk lk.ne
  have zF : ∀ a ∈ F, Zof Z Fs' is F a := fun a m => .inr (.inr m)
  obtain ⟨G, Y, wk, stab, yl⟩ := io
  have vsub : ∀ i ∈ vs, i ∈ ms := fun i m => hsub i (List.mem_append_right _ (List.mem_append_right _ (List.mem_append_right _ m)))
  have tsub : ∀ i ∈ tg.ix, i ∈ ms := fun i m => hsub i (List.mem_append_left _ m)
  let Pv : Nat → Hp → Prop := fun i H1 => ∃ S1 Fs1 acc FA, SRel X.K cls (wipe σ vs) S1 H1 Fs1 (Zof Z Fs' is F) ∧ Stp ms (frzS S' is) Hl (clrF Fs' is) S1 H1 Fs1 ∧ Held X.K cls true [] H1 Fs1 (Zof Z Fs' is F) (.lst acc) (.ref A) FA ∧
    (∀ a ∈ FA, Wm (clrF Fs' is) ms a ∨ Hl a = none) ∧ (∀ i ∈ vs, ∀ G, Fs1[i]? = some G → G = []) ∧ preR acc (lcR2 tg tt it1.run tg1 tt1 te.run vs vs1 ms (ds.drop i) S1) = .ok ys0 SF
  refine walkW wk (fun Nx x H' => gTg X.K tg x (wipe σ vs) H' fun σ2 H2 => wipe σ2 vs = wipe σ vs ∧ tTo X.K cls tt σ2 H2 fun b H3 =>
        if b = true then tI1 X cls it1 σ2 H3 fun J1 H4 => ∃ W1 : Nat → Nat → Hp → Prop, (∃ m, W1 0 m H4) ∧ ∀ j k H, W1 j k H →
          (J1.stop j H ∧ Nx H) ∨ (J1.go j H ∧ ∃ Nx1 : Hp → Prop, (∀ H', Nx1 H' → ∃ k', k' < k ∧ W1 (j + 1) k' H') ∧ ∀ x H', J1.yld j H x H' → gTg X.K tg1 x (wipe σ2 vs1) H' fun σ3 H5 => wipe σ3 vs1 = wipe σ2 vs1 ∧ tTo X.K cls tt1 σ3 H5 fun b H6 =>
            if b = true then tE X.K cls W0 te σ3 H6 fun y H7 => ∃ acc, H7 A = some (.lst acc) ∧ acc.length < sizeLine ∧ Nx1 (upd H7 A (.lst (acc ++ [y]))) else Nx1 H6)
        else Nx H3) Pv ?_ (fun i H1 hi ⟨S1, Fs1, acc, FA, r1, st1, _⟩ => stab H1 (Stab.of st1 rf zF)) (fun i x H1 H1' hi ⟨S1, Fs1, acc, FA, r1, st1, hh, og, hv, e1⟩ y => ?_) (fun H1 ⟨S1, Fs1, acc, FA, r1, st1, hh, og, hv, e1⟩ => ?_)
  · have rd := rf.die (vs := vs)
    have sm : Same Hl (upd Hl A (.lst [])) := Same.new hA
    refine ⟨dieS (frzS S' is) vs, clrF (clrF Fs' is) vs, [], [A], rd.same sm, ?_, HeldO.nil.lst hA rd, fun a m => ?_, fun i hi G e => ?_, ?_⟩
    · have := (Stp.die (vs := vs) (S := frzS S' is) (H := Hl) (Fs := clrF Fs' is)).trans rf (Stp.of_same (S := dieS (frzS S' is) vs) (Fs := clrF (clrF Fs' is) vs) sm)
      exact this.mono fun x q => (List.mem_append.mp q).elim (vsub x) fun q => by cases q
    · have : a = A := by simpa using m
      subst this
      exact .inr hA
    · rw [clrF_get] at e
      split at e
      · cases e; rfl
      · rename_i n
        exact absurd ⟨hi, by rw [← clrF_len (is := vs)]; exact (List.getElem?_eq_some_iff.mp (by rw [clrF_get, if_neg n]; exact e)).1⟩ n
    · rw [List.drop_zero, hok]
      simp [preR]
  · obtain ⟨sm, dd, FF, e2, rep, hFF⟩ := yl i H1 x H1' (Stab.of st1 rf zF) y
    have hdrop : ds.drop i = dd :: ds.drop (i + 1) := by
      obtain ⟨hi', e3⟩ := List.getElem?_eq_some_iff.mp e2
      rw [← e3]
      exact List.drop_eq_getElem_cons hi'
    rw [hdrop, lcR2] at e1
    cases et : tgt tg dd S1 with
    | none => rw [et] at e1; cases e1
    | some S2 =>
      rw [et] at e1
      dsimp only at e1
      have r1' := r1.same sm
      have st1' : Stp ms (frzS S' is) Hl (clrF Fs' is) S1 H1' Fs1 := by
        have := st1.trans rf (Stp.of_same (S := S1) (Fs := Fs1) sm)
        rwa [List.append_nil] at this
      have hh1 := hh.step r1 (Stp.of_same (S := S1) (Fs := Fs1) sm) (fun z => by cases z)
      refine tgt_run r1' rep (fun a m => zF a (hFF a m)) et fun σ2 Fs2 r2 st2 f2 => ?_
      have hw : wipe σ2 vs = wipe σ vs := wipe_eq (by rw [r2.sl, tgt_len et, ← r1.sl, wipe_length]) f2 htg
      refine ⟨hw, S2, Fs2, _, r2, ?_⟩
      have st12 : Stp ms (frzS S' is) Hl (clrF Fs' is) S2 H1' Fs2 := (st1'.trans rf st2).mono fun x q => (List.mem_append.mp q).elim id (tsub x)
      have hh2 := hh1.step r1' st2 (fun z => by cases z)
      have hv2 : ∀ i ∈ tg.ix, ∀ G, Fs2[i]? = some G → G = [] := fun i hi G e => by
        refine List.eq_nil_iff_forall_not_mem.mpr fun a m => ?_
        rcases st2.inn i hi G e a m with w | w
        · obtain ⟨j, hj, G', e', m'⟩ := w
          rw [hv j (htg j hj) G' e'] at m'
          cases m'
        · exact mut_ne (r2.mu a (mem_flat.mpr ⟨i, G, e, m⟩)) w
      cases ec : xTst tt S2 with
      | exc c1 d1 s1 => rw [ec] at e1; cases e1
      | stuck => rw [ec] at e1; cases e1
      | ok k S3 =>
        rw [ec] at e1
        dsimp only
        intro H3 Fs3 r3 st3
        have st13 : Stp ms (frzS S' is) Hl (clrF Fs' is) S3 H3 Fs3 := (st12.trans rf st3).mono fun x q => (List.mem_append.mp q).elim id fun q => hsub x (List.mem_append_right _ (List.mem_append_left _ q))
        have hh3 := hh2.step r2 st3 (fun z => by cases z)
        have hvd : ∀ {Fs : List (List Addr)}, ∀ i ∈ vs, ∀ G, (clrF Fs vs)[i]? = some G → G = [] := fun {Fs} i hi G e => by
          rw [clrF_get] at e
          split at e
          · cases e; rfl
          · rename_i n
            exact absurd ⟨hi, (List.getElem?_eq_some_iff.mp e).1⟩ n
        cases k with
        | false =>
          rw [if_neg (by simp)]
          have rd := r3.die (vs := vs)
          rw [hw] at rd
          exact ⟨dieS S3 vs, clrF Fs3 vs, acc, FA, rd, (st13.trans rf Stp.die).mono fun x q => (List.mem_append.mp q).elim id (vsub x), hh3.step r3 Stp.die (fun z => by cases z), og, hvd, e1⟩
        | true =>
          rw [if_pos rfl]
          dsimp only at e1
          refine ⟨S3, Fs3, _, r3, ?_⟩
          cases ei : it1.run S3 with
          | exc c1 d1 s1 => rw [ei] at e1; cases e1
          | stuck => rw [ei] at e1; cases e1
          | ok ds1 S4 =>
            rw [ei] at e1
            dsimp only at e1
            intro J1 H4 Fs4 F1 r4 st4 hd4 re io1
            have st14 : Stp ms (frzS S' is) Hl (clrF Fs' is) S4 H4 Fs4 := (st13.trans rf st4).mono fun x q => (List.mem_append.mp q).elim id fun q => hsub x (List.mem_append_right _ (List.mem_append_right _ (List.mem_append_left _ q)))
            have hh4 := hh3.step r3 st4 (fun z => by cases z)
            have hF : ∀ a ∈ F1, H4 a ≠ none ∧ a ∉ Fs4.flatten ∧ a ∉ FA := fun a m => by
              refine ⟨hd4.al a m, fun fl => ?_, fun n => ?_⟩
              · cases eo : it1.own with
                | true => exact ((hd4.own eo).2 a m).2.1 fl
                | false =>
                  obtain ⟨j, hj, G', e', m'⟩ := hd4.bor eo a m fl
                  rcases hrt1 eo j hj with q | q
                  · rw [(st14.out j (hdis j q)).2, clrF_get] at e'
                    split at e'
                    · cases e'; cases m'
                    · rename_i n
                      exact absurd ⟨q, (List.getElem?_eq_some_iff.mp e').1⟩ n
                  · have q1 : j ∉ oMuts tt := fun z => hdt j q (List.mem_append_left _ z)
                    have q2 : j ∉ it1.muts := fun z => hdt j q (List.mem_append_right _ z)
                    rw [(st4.out j q2).2, (st3.out j q1).2] at e'
                    rw [hv2 j q G' e'] at m'
                    cases m'
              · obtain ⟨mu, nf, nz⟩ := (hh3.own rfl).2 a n
                rcases re a m with q | q | q
                · exact nf q
                · exact nz q
                · exact mut_ne mu q
            have fx : Fx ms σ σ2 := fun j hj => by
              rw [f2 j fun z => hj (tsub j z), wipe_get, if_neg (fun z => hj (vsub j z.1))]
            have full : (match lcR tg1 tt1 te.run vs1 ds1 (dieS S4 vs1) with
                | .ok ys S5 => preR (acc ++ ys) (lcR2 tg tt it1.run tg1 tt1 te.run vs vs1 ms (ds.drop (i + 1)) (dieS (clnS S5 ms) vs))
                | .exc c d s => .exc c d s
                | .stuck => .stuck) = .ok ys0 SF := by
              cases e6 : lcR tg1 tt1 te.run vs1 ds1 (dieS S4 vs1) with
              | exc c1 d1 s1 => rw [e6] at e1; cases e1
              | stuck => rw [e6] at e1; cases e1
              | ok ys S5 =>
                rw [e6] at e1
                dsimp only at e1 ⊢
                rw [← preR_preR]
                exact e1
            refine in_fin (W := W0) (rest := fun S5 => lcR2 tg tt it1.run tg1 tt1 te.run vs vs1 ms (ds.drop (i + 1)) (dieS (clnS S5 ms) vs)) rf st14 fx og ho hsub1 htg1 r4 hh4 hF io1 full hlen fun S5 H5 Fs5 acc5 FA5 r5 st5 hh5 og5 e5 => ?_
            have rd := r5.die (vs := vs)
            rw [wipe_wipe hv1, hw] at rd
            exact ⟨_, _, acc5, FA5, rd, (st5.trans rf Stp.die).mono fun x q => (List.mem_append.mp q).elim id (vsub x), hh5.step r5 Stp.die (fun z => by cases z), og5, hvd, e5⟩
  · rw [List.drop_length, lcR2] at e1
    obtain ⟨zs, e2, e3⟩ := preR_ok e1
    cases e2
    rw [List.append_nil] at e3
    subst e3
    exact lc_done (m := mLc2 it tg tt it1 tg1 tt1 te vs vs1 is ms) h0 (fun x q => q) rfl hdis vsub r st lk rf r1 st1 hh og hf
/-- the static conditions -/
def lc2Ok (it : IM) (tg : Tg) (tt : Option EM) (it1 : IM) (tg1 : Tg) (tt1 : Option EM) (te : EM) (vs vs1 is ms : List Nat) : Bool :=
  te.own && (subL (tg.ix ++ (oMuts tt ++ (it1.muts ++ vs))) ms && (subL (tg1.ix ++ (oMuts tt1 ++ (te.muts ++ vs1))) ms && (subL tg.ix vs && (subL tg1.ix vs1 && (subL vs1 vs && (disL is ms && (disL tg.ix (oMuts tt ++ it1.muts) && ((it.own || subL it.roots is) && (it1.own || subL it1.roots (is ++ tg.ix))))))))))
theorem lc2_imp {it it1 : IM} {tg tg1 : Tg} {tt tt1 : Option EM} {te : EM} {vs vs1 is ms : List Nat} {Q : VK} (ok : lc2Ok it tg tt it1 tg1 tt1 te vs vs1 is ms = true) (h : tE X.K cls W (mLc2 it tg tt it1 tg1 tt1 te vs vs1 is ms) σ H Q) :
    tLc2 (tI X cls it) (gTg X.K tg) (tTo X.K cls tt) (tI1 X cls it1) (gTg X.K tg1) (tTo X.K cls tt1) (tE X.K cls W te) vs vs1 σ H fun v H' => Q v H' ∨ ∃ a o u, H' a = some (.frz o u) ∧ (∀ o' u', X.H_0 a ≠ some (.frz o' u')) ∧ Q v (upd H' a u) := by
  unfold lc2Ok at ok
  simp only [Bool.and_eq_true] at ok
  obtain ⟨ho, hsub, hsub1, htg, htg1, hv1, hdis, hdt, hrt, hrt1⟩ := ok
  obtain ⟨S, Fs, Z, r, h⟩ := h
  refine ⟨S, Fs, Z, r, ?_⟩
  unfold mLc2 eLc2 at h
  dsimp only at h
  cases e : it.run S with
  | exc c d s => rw [e] at h; exact h
  | stuck => rw [e] at h; exact h
  | ok ds S' =>
    rw [e] at h
    dsimp only at h
    intro J H' Hl Fs' F r' st hd lk io A hA
    cases e2 : lcR2 tg tt it1.run tg1 tt1 te.run vs vs1 ms ds (dieS (frzS S' is) vs) with
    | exc c d s => rw [e2] at h; exact h.elim
    | stuck => rw [e2] at h; exact h.elim
    | ok ys S2 =>
      rw [e2] at h
      dsimp only at h
      by_cases hl : Nat.ble ys.length lineN = true
      · rw [if_pos hl] at h
        have hl := Nat.le_of_ble_eq_true hl
        rw [lineN_eq] at hl
        refine lc2_fin (it := it) (it1 := it1) (tt := tt) (tt1 := tt1) (W0 := W) (Q := Q) r ho (subL_of hsub) (subL_of hsub1) (subL_of htg) (subL_of htg1) (subL_of hv1) (disL_of hdis) (disL_of hdt) (fun eo => by rw [eo, Bool.false_or] at hrt; exact subL_of hrt) (fun eo i m => ?_) r' st hd lk io e2 hl h A hA
        rw [eo, Bool.false_or] at hrt1
        exact List.mem_append.mp (subL_of hrt1 i m)
      · rw [if_neg hl] at h
        exact h.elim
section
variable {elt tgE iter tgE1 iter1 : Expr} {ifs ifs1 : List Expr} {scope : Scope} {own : List (Str × Nat)} {pos : Pos} {it it1 : IM} {tg tg1 : Tg} {tt tt1 : Option EM} {te : EM} {vs1 is ms : List Nat}
theorem s_lc2 (hc : X.calm = true) (hN : X.N.Nodup) (hi : PI X tgE iter (tI X cls it)) (ok : BlkOk X.N X.env.scope scope own) (hv : ∀ i ∈ vs1, i ∈ own.map (·.2))
    (hg : ∀ (s : Shared) (H : Hp) (C : Addr) (cl : List (Str × Addr)) (fp : List Addr), PG (X.blk s H scope (compEnvC scope cl C X.env) fp) tgE (gTg X.K tg)) (ht : ∀ (s : Shared) (H : Hp) (C : Addr) (cl : List (Str × Addr)) (fp : List Addr), PTs (X.blk s H scope (compEnvC scope cl C X.env) fp) ifs (tTo X.K cls tt))
    (hi1 : ∀ (s : Shared) (H : Hp) (C : Addr) (cl : List (Str × Addr)) (fp : List Addr), PI (X.blk s H scope (compEnvC scope cl C X.env) fp) tgE1 iter1 (tI1 X cls it1))
    (hg1 : ∀ (s : Shared) (H : Hp) (C : Addr) (cl : List (Str × Addr)) (fp : List Addr), PG (X.blk s H scope (compEnvC scope cl C X.env) fp) tgE1 (gTg X.K tg1)) (ht1 : ∀ (s : Shared) (H : Hp) (C : Addr) (cl : List (Str × Addr)) (fp : List Addr), PTs (X.blk s H scope (compEnvC scope cl C X.env) fp) ifs1 (tTo X.K cls tt1))
    (he : ∀ (s : Shared) (H : Hp) (C : Addr) (cl : List (Str × Addr)) (fp : List Addr), PE (X.blk s H scope (compEnvC scope cl C X.env) fp) elt (tE X.K cls W te)) (hs : ∀ x, foldedSetIterable iter X.env x = pure x) (hs1 : ∀ env x, foldedSetIterable iter1 env x = pure x) (lo : lc2Ok it tg tt it1 tg1 tt1 te (own.map (·.2)) vs1 is ms = true) :
    PE X (.ListComp elt [⟨tgE, iter, ifs, 0⟩, ⟨tgE1, iter1, ifs1, 0⟩] scope pos) (tE X.K cls W (mLc2 it tg tt it1 tg1 tt1 te (own.map (·.2)) vs1 is ms)) :=
  PE.imp (pe_unl (pe_lc2 hc hN hi ok hv hg ht hi1 hg1 ht1 he hs hs1)) fun σ H Q h => lc2_imp lo h
theorem ss_setLc2 {i : Nat} {y : Str} {py spos : Pos} (hc : X.calm = true) (hN : X.N.Nodup) (hy : X.N[i]? = some y) (hyl : X.env.scope.names.lookup y = some .local)
    (hsw : swapsWith (.ListComp elt [⟨tgE, iter, ifs, 0⟩, ⟨tgE1, iter1, ifs1, 0⟩] scope pos) (some (.Name y py)) spos.line X.env = pure true) (hi : PI X tgE iter (tI X cls it)) (ok : BlkOk X.N X.env.scope scope own) (hv : ∀ i ∈ vs1, i ∈ own.map (·.2))
    (hg : ∀ (s : Shared) (H : Hp) (C : Addr) (cl : List (Str × Addr)) (fp : List Addr), PG (X.blk s H scope (compEnvC scope cl C X.env) fp) tgE (gTg X.K tg)) (ht : ∀ (s : Shared) (H : Hp) (C : Addr) (cl : List (Str × Addr)) (fp : List Addr), PTs (X.blk s H scope (compEnvC scope cl C X.env) fp) ifs (tTo X.K cls tt))
    (hi1 : ∀ (s : Shared) (H : Hp) (C : Addr) (cl : List (Str × Addr)) (fp : List Addr), PI (X.blk s H scope (compEnvC scope cl C X.env) fp) tgE1 iter1 (tI1 X cls it1))
    (hg1 : ∀ (s : Shared) (H : Hp) (C : Addr) (cl : List (Str × Addr)) (fp : List Addr), PG (X.blk s H scope (compEnvC scope cl C X.env) fp) tgE1 (gTg X.K tg1)) (ht1 : ∀ (s : Shared) (H : Hp) (C : Addr) (cl : List (Str × Addr)) (fp : List Addr), PTs (X.blk s H scope (compEnvC scope cl C X.env) fp) ifs1 (tTo X.K cls tt1))
    (he : ∀ (s : Shared) (H : Hp) (C : Addr) (cl : List (Str × Addr)) (fp : List Addr), PE (X.blk s H scope (compEnvC scope cl C X.env) fp) elt (tE X.K cls W te)) (hs : ∀ x, foldedSetIterable iter X.env x = pure x) (hs1 : ∀ env x, foldedSetIterable iter1 env x = pure x) (lo : lc2Ok it tg tt it1 tg1 tt1 te (own.map (·.2)) vs1 is ms = true) :
    PS X (.Assign [.Name y py] (.ListComp elt [⟨tgE, iter, ifs, 0⟩, ⟨tgE1, iter1, ifs1, 0⟩] scope pos) spos) (tS X.K cls (mSet i (mLc2 it tg tt it1 tg1 tt1 te (own.map (·.2)) vs1 is ms))) :=
  PS.imp (ps_unl (ps_setLc2 hc hN hy hyl hsw hi ok hv hg ht hi1 hg1 ht1 he hs hs1)) fun D' σ H h => lc2_imp lo (set_run (W := W) h)
end
end Bv
end

section
/-! {k: v for x in it if c}. -/
namespace Bv
open PySem PySem.Spec PyProof.Rows L2
variable {K : PySem.W.Frag} {cls : Nat → Addr} {X : Cx}
variable {σ σ' σ0 σ1 : L2.St} {S S0 S1 S2 S3 S4 S5 S' : List Sl} {H H0 H' H1 H2 Hl : Hp} {Fs Fs0 Fs1 Fs2 Fs' : List (List Addr)} {Z : Addr → Prop} {ms ms1 ms2 rs rs2 : List Nat} {d d' c c' dd yd kd : D} {v v' x : V} {F F' F1 F2 FC FA FF : List Addr} {ow : Bool} {W : WX}
/-- the dict being made, its keys ints and texts -/
structure DkAt (K : PySem.W.Frag) (cls : Nat → Addr) (H : Hp) (A : Addr) (acc : List (D × D)) (FA : List Addr) (ks : List Key) (vs : List V) (G : List Addr) : Prop where
  eF : FA = A :: G
  at_ : H A = some (.dK (ks.zip vs))
  keys : acc.map Prod.fst = ks.map keyD
  len : ks.length = vs.length
  nd : ks.Nodup
  bd : ∀ d ∈ acc.map Prod.fst, bd d
  rep : RepV K cls H acc vs G
theorem DkAt.rp {A : Addr} {acc : List (D × D)} {ks : List Key} {vs : List V} {G : List Addr} (h : DkAt K cls H A acc FA ks vs G) : Rep K cls H (.dct acc) (.ref A) FA := by
  unfold Rep
  exact ⟨A, vs, G, rfl, h.eF, ⟨h.bd, .inl ⟨ks, h.keys, h.len, .inl h.at_⟩⟩, h.rep⟩
theorem putK_mem {ks : List Key} {vs : List V} {k : Key} {y : V} (l : ks.length = vs.length) (h : k ∈ ks) : (putK (ks.zip vs) k y).length = ks.length := by
  obtain ⟨i, hi⟩ := List.mem_iff_getElem?.mp h
  have hi1 := (List.getElem?_eq_some_iff.mp hi).1
  have hv : vs[i]? = some (vs[i]'(by omega)) := List.getElem?_eq_getElem _
  have any : ((ks.zip vs).any fun q => decide (q.1 = k)) = true := List.any_eq_true.mpr ⟨(k, vs[i]'(by omega)), List.mem_iff_getElem?.mpr ⟨i, by rw [List.getElem?_zip_eq_some]; exact ⟨hi, hv⟩⟩, by simp⟩
  unfold putK
  rw [if_pos any, List.length_map, List.length_zip, ← l, Nat.min_self]
theorem DkAt.put {A : Addr} {acc : List (D × D)} {ks : List Key} {vs : List V} {G : List Addr} {kk : Key} {y : V} {Q : Hp → Prop} (h : DkAt K cls H A acc FA ks vs G) (p : Plc H FA FF) (bk : Bv.bd (keyD kk)) (hy : Rep K cls H yd y FF)
    (q : ∀ H' FA' ks' vs' G', Keep (fun a => a ∈ FA) H H' → DkAt K cls H' A (putD acc (keyD kk) yd) FA' ks' vs' G' → FA'.Nodup → (∀ a ∈ FA', Mut (H' a) ∧ (a ∈ FA ∨ a ∈ FF)) → Q H') : Q (upd H A (.dK (putK (ks.zip vs) kk y))) := by
  have nG : G.Nodup := by
    have := p.n1
    rw [h.eF] at this
    exact (List.nodup_cons.mp this).2
  have hG : ∀ b ∈ G, b ∈ FA := fun b m => by rw [h.eF]; exact List.mem_cons_of_mem _ m
  have ha : Mut (H A) := by rw [h.at_]; trivial
  have la : acc.length = ks.length := by have := congrArg List.length h.keys; rw [List.length_map, List.length_map] at this; exact this
  have fin : ∀ (kvs' : List (D × D)) (ks' : List Key) (vs' : List V), putD acc (keyD kk) yd = kvs' → putK (ks.zip vs) kk y = ks'.zip vs' → kvs'.map Prod.fst = ks'.map keyD → ks'.length = vs'.length → ks'.Nodup → (∀ d ∈ kvs'.map Prod.fst, Bv.bd d) →
      ((kvs' = acc ++ [(keyD kk, yd)] ∧ vs' = vs ++ [y]) ∨ ∃ j, j < acc.length ∧ kvs' = acc.set j (keyD kk, yd) ∧ vs' = vs.set j y) → Q (upd H A (.dK (putK (ks.zip vs) kk y))) := fun kvs' ks' vs' e1 e2 e3 e4 e5 e6 e7 => by
    obtain ⟨G', g1, g2, g3⟩ := put_vals p hG nG h.rep hy e7
    rw [e2]
    have na : A ∉ G' := fun m => by
      rcases g3 A m with m | m
      · have := p.n1
        rw [h.eF] at this
        exact (List.nodup_cons.mp this).1 m
      · exact p.dj A m (by rw [h.eF]; simp)
    have r' : RepV K cls (upd H A (.dK (ks'.zip vs'))) kvs' vs' G' := RepV.keep (W := fun b => b = A) (fun b w => by subst w; exact ha) (upd_keep rfl) kvs' vs' G' (fun b m z => na (z ▸ m)) g1
    refine q _ (A :: G') ks' vs' G' (upd_keep (by rw [h.eF]; simp)) ⟨rfl, upd_same, by rw [e1]; exact e3, e4, e5, by rw [e1]; exact e6, by rw [e1]; exact r'⟩ (List.nodup_cons.mpr ⟨na, g2⟩) fun b m => ?_
    rcases List.mem_cons.mp m with rfl | m
    · exact ⟨by rw [upd_same]; trivial, .inl (by rw [h.eF]; simp)⟩
    · rcases g3 b m with k | k
      · exact ⟨mut_upd trivial (p.m1 b (hG b k)), .inl (hG b k)⟩
      · exact ⟨mut_upd trivial (p.m2 b k), .inr k⟩
  rcases putD_of keyD (fun _ _ => keyD_inj) kk yd y h.keys h.len h.nd with ⟨a1, a2⟩ | ⟨j, a0, a1, a2, a3⟩
  · refine fin _ (ks ++ [kk]) (vs ++ [y]) a2 a1 (by rw [List.map_append, List.map_append, h.keys]; rfl) (by simp [h.len]) (List.nodup_append.mpr ⟨h.nd, by simp, fun a m b n z => ?_⟩) (fun d hd => ?_) (.inl ⟨rfl, rfl⟩)
    · have n : b = kk := by simpa using n
      subst z
      have := putK_mem (y := y) h.len (n ▸ m)
      rw [a1, List.length_zip, List.length_append, List.length_append, ← h.len, List.length_singleton, List.length_singleton] at this
      omega
    · rw [List.map_append] at hd
      rcases List.mem_append.mp hd with hd | hd
      · exact h.bd d hd
      · have : d = keyD kk := by simpa using hd
        rw [this]; exact bk
  · have ek2 : (acc.set j (keyD kk, yd)).map Prod.fst = acc.map Prod.fst := by
      rw [List.map_set]
      refine List.ext_getElem? fun i => ?_
      rw [List.getElem?_set]
      by_cases hij : j = i
      · subst hij
        rw [if_pos rfl, List.getElem?_map, a3]
        rw [if_pos (by rw [List.length_map]; omega)]
      · rw [if_neg hij]
    exact fin _ ks (vs.set j y) a2 a1 (by rw [ek2]; exact h.keys) (by rw [List.length_set]; exact h.len) h.nd (fun d hd => h.bd d (by rw [← ek2]; exact hd)) (.inr ⟨j, by omega, rfl, rfl⟩)
theorem DkAt.keep {A : Addr} {acc : List (D × D)} {ks : List Key} {vs : List V} {G : List Addr} {P : Addr → Prop} (h : DkAt K cls H A acc FA ks vs G) (mu : ∀ a, P a → Mut (H a)) (k : Keep P H H') (n : ∀ a ∈ FA, ¬ P a) : DkAt K cls H' A acc FA ks vs G :=
  ⟨h.eF, k A _ h.at_ (n A (by rw [h.eF]; simp)), h.keys, h.len, h.nd, h.bd, RepV.keep mu k _ _ _ (fun a m => n a (by rw [h.eF]; exact List.mem_cons_of_mem _ m)) h.rep⟩
/-- one turn of a dict comprehension: its data -/
def dPair (acc : List (D × D)) (k v : D) : Option (List (D × D)) := match toKey k with
  | some _ => if Nat.blt acc.length lineN then some (putD acc k v) else none
  | none => none
def dcR (tg : Tg) (tt : Option EM) (tk tv : SE) (vs : List Nat) : List D → List (D × D) → List Sl → R (List (D × D))
  | [], acc, S => .ok acc S
  | d :: ds, acc, S => match tgt tg d S with
    | some S1 => (match xTst tt S1 with
      | .ok true S2 => (match tk S2 with
        | .ok k S3 => (match tv S3 with
          | .ok y S4 => (match dPair acc k y with
            | some acc' => dcR tg tt tk tv vs ds acc' (dieS S4 vs)
            | none => .stuck)
          | .exc c d s => .exc c d s
          | .stuck => .stuck)
        | .exc c d s => .exc c d s
        | .stuck => .stuck)
      | .ok false S2 => dcR tg tt tk tv vs ds acc (dieS S2 vs)
      | .exc c d s => .exc c d s
      | .stuck => .stuck)
    | none => .stuck
/-- the container being made is in no slot -/
structure Acc (H : Hp) (Fs : List (List Addr)) (Z : Addr → Prop) (FA : List Addr) : Prop where
  nd : FA.Nodup
  out : ∀ a ∈ FA, Mut (H a) ∧ a ∉ Fs.flatten ∧ ¬ Z a
theorem Acc.nW (h : Acc H Fs Z FA) : ∀ a ∈ FA, ¬ Wm Fs ms a := fun a m w => (h.out a m).2.1 w.flat
theorem Acc.step (h : Acc H Fs Z FA) (r : SRel K cls σ S H Fs Z) (s : Stp ms S H Fs S1 H1 Fs1) : Acc H1 Fs1 Z FA := by
  refine ⟨h.nd, fun a m => ⟨?_, fun z => ?_, (h.out a m).2.2⟩⟩
  · have mu := (h.out a m).1
    cases e : H a with
    | none => rw [e] at mu; exact mu.elim
    | some o => rw [s.keep a o e (h.nW a m)]; rw [e] at mu; exact mu
  · obtain ⟨i, G, e1, m1⟩ := mem_flat.mp z
    by_cases q1 : i ∈ ms
    · rcases s.inn i q1 G e1 a m1 with w | w
      · exact h.nW a m w
      · exact mut_ne (h.out a m).1 w
    · rw [(s.out i q1).2] at e1
      exact (h.out a m).2.1 (mem_flat.mpr ⟨i, G, e1, m1⟩)
theorem Stp.same' (s : Stp ms S H Fs S1 H1 Fs1) (r : SRel K cls σ S H Fs Z) : ∀ a, Wm Fs ms a → Mut (H a) := r.wmut
theorem dc_step {σB : L2.St} {SB : List Sl} {HB : Hp} {FsB : List (List Addr)} {ZB : Addr → Prop} {tg : Tg} {tt : Option EM} {tk tv : EM} {vs : List Nat} {acc acc2 : List (D × D)} {ks : List Key} {us : List V} {G : List Addr} {A : Addr} {k : Bool} {N : Hp → Prop} (rB : SRel K cls σB SB HB FsB ZB) (stB : Stp ms SB HB FsB S1 H1 Fs1) (og : ∀ a ∈ FA, Wm FsB ms a ∨ HB a = none) (ho : tv.own = true)
    (hsub : ∀ i ∈ tg.ix ++ (oMuts tt ++ (tk.muts ++ (tv.muts ++ vs))), i ∈ ms) (htg : ∀ i ∈ tg.ix, i ∈ vs)
    (r1 : SRel K cls (wipe σ vs) S1 H1 Fs1 Z) (rep : Rep K cls H1 dd x FF) (zFF : ∀ a ∈ FF, Z a) (et : tgt tg dd S1 = some S2) (ec : xTst tt S2 = .ok k S3) (ek : k = true → tk.run S3 = .ok kd S4) (ey : k = true → tv.run S4 = .ok yd S5) (ep : k = true → dPair acc kd yd = some acc2)
    (ha : Acc H1 Fs1 Z FA) (dk : DkAt K cls H1 A acc FA ks us G)
    (next : ∀ S' H' Fs' acc' FA' ks' us' G', SRel K cls (wipe σ vs) S' H' Fs' Z → Stp ms SB HB FsB S' H' Fs' → Acc H' Fs' Z FA' → DkAt K cls H' A acc' FA' ks' us' G' → (∀ a ∈ FA', Wm FsB ms a ∨ HB a = none) →
      ((k = false ∧ acc' = acc ∧ S' = dieS S3 vs) ∨ (k = true ∧ acc' = acc2 ∧ S' = dieS S5 vs)) → Keep (fun a => Wm Fs1 ms a ∨ a ∈ FA) H1 H' → N H') :
    gTg K tg x (wipe σ vs) H1 fun σ2 H2 => wipe σ2 vs = wipe σ vs ∧ tTo K cls tt σ2 H2 fun b H3 =>
      if b = true then tE K cls W tk σ2 H3 fun y H4 => tE K cls W tv σ2 H4 fun z H5 => ∃ kvs k, y = kV k ∧ H5 A = some (.dK kvs) ∧ kvs.length < sizeLine ∧ N (upd H5 A (.dK (putK kvs k z))) else N H3 := by
  have vsub : ∀ i ∈ vs, i ∈ ms := fun i m => hsub i (List.mem_append_right _ (List.mem_append_right _ (List.mem_append_right _ (List.mem_append_right _ m))))
  refine tgt_run r1 rep zFF et fun σ2 Fs2 r2 st2 f2 => ?_
  have hw : wipe σ2 vs = wipe σ vs := wipe_eq (by rw [r2.sl, tgt_len et, ← r1.sl, wipe_length]) f2 htg
  refine ⟨hw, S2, Fs2, _, r2, ?_⟩
  have st12 : Stp ms S1 H1 Fs1 S2 H1 Fs2 := st2.mono fun x q => hsub x (List.mem_append_left _ q)
  rw [ec]
  dsimp only
  intro H3 Fs3 r3 st3
  have st13 : Stp ms S1 H1 Fs1 S3 H3 Fs3 := (st12.trans r1 st3).mono fun x q => (List.mem_append.mp q).elim id fun q => hsub x (List.mem_append_right _ (List.mem_append_left _ q))
  have ha3 := ha.step r1 st13
  have dk3 := dk.keep r1.wmut st13.keep ha.nW
  cases k with
  | false =>
    rw [if_neg (by simp)]
    have rd := r3.die (vs := vs)
    rw [hw] at rd
    have stf : Stp ms S1 H1 Fs1 (dieS S3 vs) H3 (clrF Fs3 vs) := (st13.trans r1 Stp.die).mono fun x q => (List.mem_append.mp q).elim id (vsub x)
    exact next (dieS S3 vs) H3 (clrF Fs3 vs) acc FA ks us G rd ((stB.trans rB stf).mono fun x q => (List.mem_append.mp q).elim id id) (ha3.step r3 Stp.die) dk3 og (.inl ⟨rfl, rfl, rfl⟩) (stf.keep.mono fun a w => .inl w)
  | true =>
    rw [if_pos rfl]
    refine ⟨S3, Fs3, _, r3, ?_⟩
    rw [ek rfl]
    dsimp only
    intro kv H4 Fs4 Fk r4 st4 hk ogk
    have st14 : Stp ms S1 H1 Fs1 S4 H4 Fs4 := (st13.trans r1 st4).mono fun x q => (List.mem_append.mp q).elim id fun q => hsub x (List.mem_append_right _ (List.mem_append_right _ (List.mem_append_left _ q)))
    refine ⟨S4, Fs4, _, r4, ?_⟩
    rw [ey rfl]
    dsimp only
    intro yv H5 Fs5 Fy r5 st5 hy ogy
    rw [ho] at hy ogy
    have tvs : ∀ x, x ∈ tv.muts → x ∈ ms := fun x q => hsub x (List.mem_append_right _ (List.mem_append_right _ (List.mem_append_right _ (List.mem_append_left _ q))))
    have st15 : Stp ms S1 H1 Fs1 S5 H5 Fs5 := (st14.trans r1 st5).mono fun x q => (List.mem_append.mp q).elim id (tvs x)
    have ep := ep rfl
    unfold dPair at ep
    cases ekk : toKey kd with
    | none => rw [ekk] at ep; cases ep
    | some kk =>
      rw [ekk] at ep
      dsimp only at ep
      split at ep
      · rename_i hlen
        cases ep
        rw [Nat.blt_eq, lineN_eq] at hlen
        have ekd := toKey_some ekk
        have ekv := keyV hk.rep ekd
        have bk : bd (keyD kk) := by
          have := key_bd hk.rep (by
            unfold kkind
            rw [ekk]
            exact Nat.zero_lt_two)
          rw [ekd] at this
          exact this
        have ha5 := ha.step r1 st15
        have dk5 := dk.keep r1.wmut st15.keep ha.nW
        have la : acc.length = ks.length := by have := congrArg List.length dk.keys; rw [List.length_map, List.length_map] at this; exact this
        refine ⟨ks.zip us, kk, ekv, dk5.at_, by rw [List.length_zip, ← dk.len, Nat.min_self]; omega, ?_⟩
        have dj : ∀ a ∈ Fy, a ∉ FA := fun a m n => by
          have ha4 := ha.step r1 st14
          rcases ogy rfl a m with w | w
          · exact (ha4.out a n).2.1 w.flat
          · exact mut_ne (ha4.out a n).1 w
        have pl : Plc H5 FA Fy := ⟨ha5.nd, (hy.own rfl).1, dj, fun a m => (ha5.out a m).1, fun a m => ((hy.own rfl).2 a m).1⟩
        have stB4 : Stp ms SB HB FsB S4 H4 Fs4 := (stB.trans rB st14).mono fun x q => (List.mem_append.mp q).elim id id
        have ogy' : ∀ a ∈ Fy, Wm FsB ms a ∨ HB a = none := fun a m => (Org.back stB4 rB ogy rfl a m).imp (fun w => w.mono fun x q => (List.mem_append.mp q).elim id (tvs x)) id
        have rd := r5.die (vs := vs)
        rw [hw] at rd
        have clr : ∀ {a : Addr}, a ∉ Fs5.flatten → a ∉ (clrF Fs5 vs).flatten := fun {a} n m => by
          obtain ⟨j, G, _, e, m⟩ := clr_mem m
          exact n (mem_flat.mpr ⟨j, G, e, m⟩)
        have outF : ∀ a ∈ FA, a ∉ (clrF Fs5 vs).flatten ∧ ¬ Z a := fun a m => ⟨clr (ha5.out a m).2.1, (ha5.out a m).2.2⟩
        have stf : Stp ms SB HB FsB (dieS S5 vs) H5 (clrF Fs5 vs) := ((stB.trans rB (st15.trans r1 Stp.die)).mono fun x q => (List.mem_append.mp q).elim id fun q => (List.mem_append.mp q).elim id (vsub x))
        refine dk5.put pl bk hy.rep fun H6 F6 ks' us' G' hk6 dk6 nd6 hF6 => ?_
        rw [← ekd] at dk6
        refine next (dieS S5 vs) H6 (clrF Fs5 vs) _ F6 ks' us' G' (rd.outside hk6 outF pl.m1) (Stp.outside stf hk6 og) ⟨nd6, fun a m => ⟨(hF6 a m).1, ?_⟩⟩ dk6 (fun a m => ?_) (.inr ⟨rfl, rfl, rfl⟩) ((st15.keep.mono fun a w => .inl w).trans hk6 fun a m => .inl (.inr m))
        · rcases (hF6 a m).2 with q | q
          · exact outF a q
          · exact ⟨clr ((hy.own rfl).2 a q).2.1, ((hy.own rfl).2 a q).2.2⟩
        · rcases (hF6 a m).2 with q | q
          · exact og a q
          · exact ogy' a q
      · cases ep
end Bv
end

section
/-! {k: v for x in it if c}, proved. -/
namespace Bv
open PySem PySem.Spec PyProof.Rows L2
variable {K : PySem.W.Frag} {cls : Nat → Addr} {X : Cx}
variable {σ σ' σ0 σ1 : L2.St} {S S0 S1 S2 S3 S4 S5 S' : List Sl} {H H0 H' H1 H2 Hl : Hp} {Fs Fs0 Fs1 Fs2 Fs' : List (List Addr)} {Z : Addr → Prop} {ms ms1 ms2 rs rs2 : List Nat} {d d' c c' dd yd kd : D} {v v' x : V} {F F' F1 F2 FC FA FF : List Addr} {ow : Bool} {W : WX}
def eDc (it : List Sl → R (List D)) (tg : Tg) (tt : Option EM) (tk tv : SE) (vs is ms : List Nat) : SE := fun s => match it s with
  | .ok ds s' => (match dcR tg tt tk tv vs ds [] (dieS (frzS s' is) vs) with
    | .ok kvs s2 => .ok (.dct kvs) (thaw (backS s2 (frzS s' is) vs) s' is ms)
    | .exc c d s => .stuck
    | .stuck => .stuck)
  | .exc c d s => .exc c d s
  | .stuck => .stuck
def mDc (it : IM) (tg : Tg) (tt : Option EM) (tk tv : EM) (vs is ms : List Nat) : EM := ⟨eDc it.run tg tt tk.run tv.run vs is ms, true, [], it.muts ++ ms⟩
theorem Acc.held {A : Addr} {acc : List (D × D)} {ks : List Key} {us : List V} {G : List Addr} (h : Acc H Fs Z FA) (k : DkAt K cls H A acc FA ks us G) : Held K cls true [] H Fs Z (.dct acc) (.ref A) FA := ⟨k.rp, fun _ => ⟨h.nd, h.out⟩, fun z => by cases z⟩
theorem dk_nil {A : Addr} : DkAt K cls (upd H A (.dK [])) A [] [A] [] [] [] := ⟨rfl, upd_same, rfl, rfl, List.nodup_nil, (fun d h => by cases h), by unfold RepV; exact ⟨rfl, rfl⟩⟩
theorem acc_new {A : Addr} {o : HO} (hA : H A = none) (mo : Mut (some o)) (r : SRel K cls σ S H Fs Z) : Acc (upd H A o) Fs Z [A] := ⟨by simp, fun a m => by
  have e : a = A := by simpa using m
  subst e
  exact ⟨by rw [upd_same]; exact mo, fun z => mut_ne (r.mu a z) hA, fun z => r.zs a z hA⟩⟩
theorem dc_fin {W0 : WX} {it : IM} {tg : Tg} {tt : Option EM} {tk tv : EM} {vs is ms : List Nat} {Q : VK} {J : It} {ds : List D} {kvs0 : List (D × D)} {SF : List Sl} (h0 : SRel X.K cls σ S H Fs Z) (ho : tv.own = true)
    (hsub : ∀ i ∈ tg.ix ++ (oMuts tt ++ (tk.muts ++ (tv.muts ++ vs))), i ∈ ms) (htg : ∀ i ∈ tg.ix, i ∈ vs) (hdis : ∀ i ∈ is, i ∉ ms) (hrt : it.own = false → ∀ i ∈ it.roots, i ∈ is)
    (r : SRel X.K cls σ S' H' Fs' Z) (st : Stp it.muts S H Fs S' H' Fs') (hd : HeldF it.own it.roots H' Fs' Z F) (lk : LkOk X H' Hl F) (io : ItOk X.K cls J ds Hl F)
    (hok : dcR tg tt tk.run tv.run vs ds [] (dieS (frzS S' is) vs) = .ok kvs0 SF)
    (hf : Want X.K cls (mDc it tg tt tk tv vs is ms) σ S H Fs Z (.dct kvs0) (thaw (backS SF (frzS S' is) vs) S' is ms) Q) (A : Addr) (hA : Hl A = none) :
    ∃ W : Nat → Nat → Hp → Prop, (∃ m, W 0 m (upd Hl A (.dK []))) ∧ ∀ i m H, W i m H →
      (J.stop i H ∧ (Q (.ref A) H ∨ ∃ a o u, H a = some (.frz o u) ∧ (∀ o' u', X.H_0 a ≠ some (.frz o' u')) ∧ Q (.ref A) (upd H a u))) ∨
      (J.go i H ∧ ∃ Nx : Hp → Prop, (∀ H', Nx H' → ∃ m', m' < m ∧ W (i + 1) m' H') ∧ ∀ x H', J.yld i H x H' → gTg X.K tg x (wipe σ vs) H' fun σ2 H2 => wipe σ2 vs = wipe σ vs ∧ tTo X.K cls tt σ2 H2 fun b H3 =>
        if b = true then tE X.K cls W0 tk σ2 H3 fun y H4 => tE X.K cls W0 tv σ2 H4 fun z H5 => ∃ kvs k, y = kV k ∧ H5 A = some (.dK kvs) ∧ kvs.length < sizeLine ∧ Nx (upd H5 A (.dK (putK kvs k z))) else Nx H3) := by
  have hd' : HeldF it.own is H' Fs' Z F := ⟨hd.al, hd.own, fun e a m z => (hd.bor e a m z).mono (hrt e)⟩
  have rf := r.freeze hd' lk.lk lk.ne
  have zF : ∀ a ∈ F, Zof Z Fs' is F a := fun a m => .inr (.inr m)
  obtain ⟨G, Y, wk, stab, yl⟩ := io
  have vsub : ∀ i ∈ vs, i ∈ ms := fun i m => hsub i (List.mem_append_right _ (List.mem_append_right _ (List.mem_append_right _ (List.mem_append_right _ m))))
  let Pv : Nat → Hp → Prop := fun i H1 => ∃ S1 Fs1 acc FA ks us G, SRel X.K cls (wipe σ vs) S1 H1 Fs1 (Zof Z Fs' is F) ∧ Stp ms (frzS S' is) Hl (clrF Fs' is) S1 H1 Fs1 ∧ Acc H1 Fs1 (Zof Z Fs' is F) FA ∧ DkAt X.K cls H1 A acc FA ks us G ∧
    (∀ a ∈ FA, Wm (clrF Fs' is) ms a ∨ Hl a = none) ∧ dcR tg tt tk.run tv.run vs (ds.drop i) acc S1 = .ok kvs0 SF
  refine walkW wk (fun Nx x H' => gTg X.K tg x (wipe σ vs) H' fun σ2 H2 => wipe σ2 vs = wipe σ vs ∧ tTo X.K cls tt σ2 H2 fun b H3 =>
        if b = true then tE X.K cls W0 tk σ2 H3 fun y H4 => tE X.K cls W0 tv σ2 H4 fun z H5 => ∃ kvs k, y = kV k ∧ H5 A = some (.dK kvs) ∧ kvs.length < sizeLine ∧ Nx (upd H5 A (.dK (putK kvs k z))) else Nx H3) Pv ?_ (fun i H1 hi ⟨S1, Fs1, acc, FA, ks, us, G, r1, st1, _⟩ => stab H1 (Stab.of st1 rf zF)) (fun i x H1 H1' hi ⟨S1, Fs1, acc, FA, ks, us, G, r1, st1, ha, dk, og, e1⟩ y => ?_) (fun H1 ⟨S1, Fs1, acc, FA, ks, us, G, r1, st1, ha, dk, og, e1⟩ => ?_)
  · have rd := rf.die (vs := vs)
    have sm : Same Hl (upd Hl A (.dK [])) := Same.new hA
    refine ⟨dieS (frzS S' is) vs, clrF (clrF Fs' is) vs, [], [A], [], [], [], rd.same sm, ?_, acc_new hA trivial rd, dk_nil, fun a m => ?_, ?_⟩
    · have := (Stp.die (vs := vs) (S := frzS S' is) (H := Hl) (Fs := clrF Fs' is)).trans rf (Stp.of_same (S := dieS (frzS S' is) vs) (Fs := clrF (clrF Fs' is) vs) sm)
      exact this.mono fun x q => (List.mem_append.mp q).elim (vsub x) fun q => by cases q
    · have : a = A := by simpa using m
      subst this
      exact .inr hA
    · rw [List.drop_zero]
      exact hok
  · obtain ⟨sm, dd, FF, e2, rep, hFF⟩ := yl i H1 x H1' (Stab.of st1 rf zF) y
    have hdrop : ds.drop i = dd :: ds.drop (i + 1) := by
      obtain ⟨hi', e3⟩ := List.getElem?_eq_some_iff.mp e2
      rw [← e3]
      exact List.drop_eq_getElem_cons hi'
    rw [hdrop, dcR] at e1
    cases et : tgt tg dd S1 with
    | none => rw [et] at e1; cases e1
    | some S2 =>
      rw [et] at e1
      dsimp only at e1
      cases ec : xTst tt S2 with
      | exc c1 d1 s1 => rw [ec] at e1; cases e1
      | stuck => rw [ec] at e1; cases e1
      | ok k S3 =>
        rw [ec] at e1
        have r1s := r1.same sm
        have st0 := Stp.of_same (S := S1) (Fs := Fs1) sm
        have st1s : Stp ms (frzS S' is) Hl (clrF Fs' is) S1 H1' Fs1 := by
          have := st1.trans rf st0
          rwa [List.append_nil] at this
        have key : ∃ S4 S5 kd yd acc2, (k = true → tk.run S3 = .ok kd S4) ∧ (k = true → tv.run S4 = .ok yd S5) ∧ (k = true → dPair acc kd yd = some acc2) ∧
            ∀ acc' S6, ((k = false ∧ acc' = acc ∧ S6 = dieS S3 vs) ∨ (k = true ∧ acc' = acc2 ∧ S6 = dieS S5 vs)) → dcR tg tt tk.run tv.run vs (ds.drop (i + 1)) acc' S6 = .ok kvs0 SF := by
          cases k with
          | false =>
            refine ⟨S3, S3, .non, .non, [], fun z => (by cases z), fun z => (by cases z), fun z => (by cases z), fun acc' S6 q => ?_⟩
            rcases q with ⟨_, rfl, rfl⟩ | ⟨z, _⟩
            · exact e1
            · cases z
          | true =>
            dsimp only at e1
            cases ek : tk.run S3 with
            | exc c1 d1 s1 => rw [ek] at e1; cases e1
            | stuck => rw [ek] at e1; cases e1
            | ok kd S4 =>
              rw [ek] at e1
              dsimp only at e1
              cases ey : tv.run S4 with
              | exc c1 d1 s1 => rw [ey] at e1; cases e1
              | stuck => rw [ey] at e1; cases e1
              | ok yd S5 =>
                rw [ey] at e1
                dsimp only at e1
                cases ep : dPair acc kd yd with
                | none => rw [ep] at e1; cases e1
                | some acc2 =>
                  rw [ep] at e1
                  refine ⟨S4, S5, kd, yd, acc2, fun _ => rfl, fun _ => ey, fun _ => ep, fun acc' S6 q => ?_⟩
                  rcases q with ⟨z, _⟩ | ⟨_, rfl, rfl⟩
                  · cases z
                  · exact e1
        obtain ⟨S4, S5, kd, yd, acc2, ek, ey, ep, fin⟩ := key
        exact dc_step (W := W0) (N := Pv (i + 1)) rf st1s og ho hsub htg r1s rep (fun a m => zF a (hFF a m)) et ec ek ey ep (ha.step r1 st0) (dk.keep r1.wmut st0.keep ha.nW) fun S' H' Fs' acc' FA' ks' us' G' r2 st2 ha2 dk2 og2 q _ => ⟨S', Fs', acc', FA', ks', us', G', r2, st2, ha2, dk2, og2, fin acc' S' q⟩
  · rw [List.drop_length, dcR] at e1
    cases e1
    exact lc_done (m := mDc it tg tt tk tv vs is ms) h0 (fun x q => q) rfl hdis vsub r st lk rf r1 st1 (ha.held dk) og hf
/-- the static conditions -/
def dcOk (it : IM) (tg : Tg) (tt : Option EM) (tk tv : EM) (vs is ms : List Nat) : Bool := tv.own && (subL (tg.ix ++ (oMuts tt ++ (tk.muts ++ (tv.muts ++ vs)))) ms && (subL tg.ix vs && (disL is ms && (it.own || subL it.roots is))))
theorem dc_imp {it : IM} {tg : Tg} {tt : Option EM} {tk tv : EM} {vs is ms : List Nat} {Q : VK} (ok : dcOk it tg tt tk tv vs is ms = true) (h : tE X.K cls W (mDc it tg tt tk tv vs is ms) σ H Q) :
    tDc (tI X cls it) (gTg X.K tg) (tTo X.K cls tt) (tE X.K cls W tk) (tE X.K cls W tv) vs σ H fun v H' => Q v H' ∨ ∃ a o u, H' a = some (.frz o u) ∧ (∀ o' u', X.H_0 a ≠ some (.frz o' u')) ∧ Q v (upd H' a u) := by
  unfold dcOk at ok
  simp only [Bool.and_eq_true] at ok
  obtain ⟨ho, hsub, htg, hdis, hrt⟩ := ok
  obtain ⟨S, Fs, Z, r, h⟩ := h
  refine ⟨S, Fs, Z, r, ?_⟩
  unfold mDc eDc at h
  dsimp only at h
  cases e : it.run S with
  | exc c d s => rw [e] at h; exact h
  | stuck => rw [e] at h; exact h
  | ok ds S' =>
    rw [e] at h
    dsimp only at h
    intro J H' Hl Fs' F r' st hd lk io A hA
    cases e2 : dcR tg tt tk.run tv.run vs ds [] (dieS (frzS S' is) vs) with
    | exc c d s => rw [e2] at h; exact h.elim
    | stuck => rw [e2] at h; exact h.elim
    | ok ys S2 =>
      rw [e2] at h
      exact dc_fin (it := it) (tt := tt) (W0 := W) (Q := Q) r ho (subL_of hsub) (subL_of htg) (disL_of hdis) (fun eo => by rw [eo, Bool.false_or] at hrt; exact subL_of hrt) r' st hd lk io e2 h A hA
theorem s_dc {kx vx tgE iter : Expr} {ifs : List Expr} {scope : Scope} {own : List (Str × Nat)} {pos : Pos} {it : IM} {tg : Tg} {tt : Option EM} {tk tv : EM} {is ms : List Nat} (hc : X.calm = true) (hN : X.N.Nodup) (hi : PI X tgE iter (tI X cls it)) (ok : BlkOk X.N X.env.scope scope own)
    (hg : ∀ (s : Shared) (H : Hp) (C : Addr) (cl : List (Str × Addr)) (fp : List Addr), PG (X.blk s H scope (compEnvC scope cl C X.env) fp) tgE (gTg X.K tg)) (ht : ∀ (s : Shared) (H : Hp) (C : Addr) (cl : List (Str × Addr)) (fp : List Addr), PTs (X.blk s H scope (compEnvC scope cl C X.env) fp) ifs (tTo X.K cls tt))
    (hk : ∀ (s : Shared) (H : Hp) (C : Addr) (cl : List (Str × Addr)) (fp : List Addr), PE (X.blk s H scope (compEnvC scope cl C X.env) fp) kx (tE X.K cls W tk))
    (he : ∀ (s : Shared) (H : Hp) (C : Addr) (cl : List (Str × Addr)) (fp : List Addr), PE (X.blk s H scope (compEnvC scope cl C X.env) fp) vx (tE X.K cls W tv)) (hs : ∀ x, foldedSetIterable iter X.env x = pure x) (lo : dcOk it tg tt tk tv (own.map (·.2)) is ms = true) :
    PE X (.DictComp kx vx [⟨tgE, iter, ifs, 0⟩] scope pos) (tE X.K cls W (mDc it tg tt tk tv (own.map (·.2)) is ms)) :=
  PE.imp (pe_unl (pe_dc hc hN hi ok hg ht hk he hs)) fun σ H Q h => dc_imp lo h
end Bv
end

section
/-! x = {k: v for ..}. -/
namespace Bv
open PySem PySem.Spec PyProof.Rows L2
variable {cls : Nat → Addr} {X : Cx}
section
variable {i : Nat} {y : Str} {py : Pos} {kx vx tg iter : Expr} {ifs : List Expr} {scope : Scope} {own : List (Str × Nat)} {pos spos : Pos}
theorem swD_true {l : Nat} {env : Env} {gs : List Comprehension} (hk : env.scope.kind = .function) (hy : env.scope.names.lookup y = some .local) (hl : (py.line == pos.line) = true)
    (ha : (scope.names.any fun (n, k) => n == y && (k == .local || k == .cell)) = false) : swapsWith (.DictComp kx vx gs scope pos) (some (.Name y py)) l env = pure true := by
  have ky : env.kindOf y = some .local := hy
  have hb : env.blockKind = .function := by unfold Env.blockKind; rw [hk]; rfl
  unfold swapsWith
  simp only [hb, ky, ha, Expr.pos, hl]
  rfl
theorem ps_setDc {wi : TI} {g : TG} {tt : TT} {tk tv : TE} (hc : X.calm = true) (hN : X.N.Nodup) (hy : X.N[i]? = some y) (hyl : X.env.scope.names.lookup y = some .local)
    (hsw : swapsWith (.DictComp kx vx [⟨tg, iter, ifs, 0⟩] scope pos) (some (.Name y py)) spos.line X.env = pure true) (hi : PI X tg iter wi) (ok : BlkOk X.N X.env.scope scope own)
    (hg : ∀ (s : Shared) (H : Hp) (C : Addr) (cl : List (Str × Addr)) (fp : List Addr), PG (X.blk s H scope (compEnvC scope cl C X.env) fp) tg g) (ht : ∀ (s : Shared) (H : Hp) (C : Addr) (cl : List (Str × Addr)) (fp : List Addr), PTs (X.blk s H scope (compEnvC scope cl C X.env) fp) ifs tt)
    (hk : ∀ (s : Shared) (H : Hp) (C : Addr) (cl : List (Str × Addr)) (fp : List Addr), PE (X.blk s H scope (compEnvC scope cl C X.env) fp) kx tk)
    (he : ∀ (s : Shared) (H : Hp) (C : Addr) (cl : List (Str × Addr)) (fp : List Addr), PE (X.blk s H scope (compEnvC scope cl C X.env) fp) vx tv) (hs : ∀ x, foldedSetIterable iter X.env x = pure x) :
    PS X (.Assign [.Name y py] (.DictComp kx vx [⟨tg, iter, ifs, 0⟩] scope pos) spos) (tAsg (tDc wi g tt tk tv (own.map (·.2))) (gName i)) := by
  refine ⟨fun pins s σ H D I h => ?_⟩
  rw [exec_Assign_Name_used _ _ _ _ hsw]
  refine wpAny_bind (wpAny_standAt (wpAny_bind ?_))
  show wpAny _ X.A (do let _ ← comprehension (.DictComp kx vx [⟨tg, iter, ifs, 0⟩] scope pos) scope X.env (firstIterPos [⟨tg, iter, ifs, 0⟩] pos) newDict false (eval iter X.env) (some (assign (.Name y py) X.env))) _ _ s
  have h : tDc wi g tt tk tv (own.map (·.2)) σ H (fun x H1 => gName i x σ H1 D.nx) := h
  refine wpAny_bind (thn (dc_core (Qf := fun _ s' => SP X pins D .next s') hc hN I hi ok hg ht hk he hs h fun L C s' m H' I' q hn f => ?_) fun _ s' hq => wpAny_pure (wpAny_pure hq))
  show wpAny _ _ (assign (.Name y py) X.env (.ref L)) _ _ _
  refine wpAny_assign_Name (store_ok2 (v := V.ref L) I' hN hy (.inl hyl) rfl (fun s2 I2 ⟨a, sb, ha⟩ => ?_) (.inr hyl))
  obtain ⟨f0, f1, f2, f3, f4, f5⟩ := f
  have haC : C ≠ a := by
    rcases ha with z | z
    · rw [z]; exact f1
    · exact fun e => f4 y a z e.symm
  refine ⟨m, hn.sameBut sb haC, fun h3 sb3 => ?_⟩
  exact ⟨_, H', I2.turned (t' := s2.toks) (fun b o hb e => (sb3.2 b hb).trans e) f0 f1 f3 f4 f5, q⟩
theorem ss_setDc {W : WX} {tgE : Expr} {it : IM} {tgT : Tg} {tt : Option EM} {tk tv : EM} {is ms : List Nat} (hc : X.calm = true) (hN : X.N.Nodup) (hy : X.N[i]? = some y) (hyl : X.env.scope.names.lookup y = some .local)
    (hsw : swapsWith (.DictComp kx vx [⟨tgE, iter, ifs, 0⟩] scope pos) (some (.Name y py)) spos.line X.env = pure true) (hi : PI X tgE iter (tI X cls it)) (ok : BlkOk X.N X.env.scope scope own)
    (hg : ∀ (s : Shared) (H : Hp) (C : Addr) (cl : List (Str × Addr)) (fp : List Addr), PG (X.blk s H scope (compEnvC scope cl C X.env) fp) tgE (gTg X.K tgT)) (ht : ∀ (s : Shared) (H : Hp) (C : Addr) (cl : List (Str × Addr)) (fp : List Addr), PTs (X.blk s H scope (compEnvC scope cl C X.env) fp) ifs (tTo X.K cls tt))
    (hk : ∀ (s : Shared) (H : Hp) (C : Addr) (cl : List (Str × Addr)) (fp : List Addr), PE (X.blk s H scope (compEnvC scope cl C X.env) fp) kx (tE X.K cls W tk))
    (he : ∀ (s : Shared) (H : Hp) (C : Addr) (cl : List (Str × Addr)) (fp : List Addr), PE (X.blk s H scope (compEnvC scope cl C X.env) fp) vx (tE X.K cls W tv)) (hs : ∀ x, foldedSetIterable iter X.env x = pure x) (lo : dcOk it tgT tt tk tv (own.map (·.2)) is ms = true) :
    PS X (.Assign [.Name y py] (.DictComp kx vx [⟨tgE, iter, ifs, 0⟩] scope pos) spos) (tS X.K cls (mSet i (mDc it tgT tt tk tv (own.map (·.2)) is ms))) :=
  PS.imp (ps_unl (ps_setDc hc hN hy hyl hsw hi ok hg ht hk he hs)) fun D' σ H h => dc_imp lo (set_run (W := W) h)
end
end Bv
end

section
/-! d.get(k), d.get(k, x); {k: v, ..}; range with a step. -/
namespace Bv
open PySem PySem.Spec PyProof.Rows L2
variable {K : PySem.W.Frag} {cls : Nat → Addr} {X : Cx}
variable {σ σ' σ0 σ1 : L2.St} {S S0 S1 S2 S3 S4 S' : List Sl} {H H0 H' H1 H2 Hl : Hp} {Fs Fs0 Fs1 Fs2 Fs' : List (List Addr)} {Z : Addr → Prop} {ms ms1 ms2 rs rs2 : List Nat} {d d' c c' dd yd : D} {v v' x : V} {F F' F1 F2 FC FA FF : List Addr} {ow : Bool} {W : WX}
/-- what a look-up finds, an empty dict of either kind -/
def DG (H : Hp) (a : Addr) (y : V) (o : Option V) : Prop := DGet H a y o ∨ (o = none ∧ (∃ vs, DictH H a [] vs) ∧ ((∃ k : Key, y = kV k) ∨ ∃ (k : List Key) (b : Addr), y = .ref b ∧ H b = some (.tup (k.map kV))))
section
variable {A : Around} {pins : List (Addr × Obj)} {s : Shared} {a : Addr} {y z : V} {u r : Value} {o : Option V}
theorem d_getE1 {Q : Value → Shared → Prop} {E : Value → Shared → Prop} (hu : A.units + 1 < cLine) (I : Inv X pins σ H s) (g : DG H a y o) (ry : RelV y u) (h : ∀ w' s', Inv X pins σ H s' → RelV (o.getD .non) w' → Q w' s') :
    wpAny (model X.prog X.w) A (call (.builtin "dict.get") [.ref a, u]) Q E s := by
  rcases g with g | ⟨rfl, ⟨vs, hd⟩, ⟨k, rfl⟩ | ⟨k, b, rfl, eb⟩⟩
  · exact d_get1 hu I g ry h
  · obtain ⟨lo, dd, _⟩ := dict_empty I hd
    exact call_meetsIn PySem.F.slot_dict_get dd.typeIs PySem.F.entry_dict_get (PySem.F.args_dict_get_2 _ _) (meets_dict_get (mixKind X.prog X.w) a (kV_is ry) lo) ⟨_, dd.mapOf, h _ _ (I.tok _) rfl⟩
  · cases (show u = Value.ref b from ry)
    obtain ⟨lo, dd0, dd⟩ := dict_empty I hd
    exact call_meetsIn PySem.F.slot_dict_get dd.typeIs PySem.F.entry_dict_get (PySem.F.args_dict_get_2 _ _) (meetsH_dict_get (tupleKind (mixKind X.prog X.w)) a b lo) ⟨tupleKind_room_in1 hu, k, _, key_of I.hok eb, dd, h _ _ (I.tok _) rfl⟩
theorem d_getE2 {Q : Value → Shared → Prop} {E : Value → Shared → Prop} (hu : A.units + 1 < cLine) (I : Inv X pins σ H s) (g : DG H a y o) (ry : RelV y u) (rd : RelV z r) (h : ∀ w' s', Inv X pins σ H s' → RelV (o.getD z) w' → Q w' s') :
    wpAny (model X.prog X.w) A (call (.builtin "dict.get") [.ref a, u, r]) Q E s := by
  rcases g with g | ⟨rfl, ⟨vs, hd⟩, ⟨k, rfl⟩ | ⟨k, b, rfl, eb⟩⟩
  · exact d_get2 hu I g ry rd h
  · obtain ⟨lo, dd, _⟩ := dict_empty I hd
    exact call_meetsIn PySem.F.slot_dict_get dd.typeIs PySem.F.entry_dict_get (PySem.F.args_dict_get_3 _ _ _) (meets_dict_get_default (mixKind X.prog X.w) a (kV_is ry) lo r) ⟨_, dd.mapOf, h _ _ (I.tok _) rd⟩
  · cases (show u = Value.ref b from ry)
    obtain ⟨lo, dd0, dd⟩ := dict_empty I hd
    exact call_meetsIn PySem.F.slot_dict_get dd.typeIs PySem.F.entry_dict_get (PySem.F.args_dict_get_3 _ _ _) (meetsH_dict_get_default (tupleKind (mixKind X.prog X.w)) a b lo r) ⟨tupleKind_room_in1 hu, k, _, key_of I.hok eb, dd, h _ _ (I.tok _) rd⟩
end
theorem dict_getE {a : Addr} {kvs : List (D × D)} {vs : List V} {k : D} {y : V} (h : DictH H a (kvs.map Prod.fst) vs) (ok : keyOk kvs k = true) (r : Rep K cls H k y F) :
    ∃ o, DG H a y o ∧ ((o = none ∧ dget kvs k = none) ∨ ∃ (j : Nat) (z : V) (d : D), o = some z ∧ dget kvs k = some d ∧ vs[j]? = some z ∧ kvs[j]? = some (k, d)) := by
  by_cases ne : kvs = []
  · subst ne
    refine ⟨none, .inr ⟨rfl, ⟨vs, h⟩, ?_⟩, .inl ⟨rfl, rfl⟩⟩
    unfold keyOk at ok
    dsimp only at ok
    rw [Nat.blt_eq] at ok
    unfold kkind at ok
    cases e1 : toKey k with
    | some q => exact .inl ⟨q, keyV r (toKey_some e1)⟩
    | none =>
      rw [e1] at ok
      dsimp only at ok
      cases e2 : toKeys k with
      | none => rw [e2] at ok; exact absurd ok (by simp)
      | some q =>
        have ek := toKeys_some e2
        rw [ek] at r
        obtain ⟨b, ws, rfl, t, rr⟩ := rTupS r
        have := keysV rr
        subst this
        exact .inr ⟨q, b, rfl, t⟩
  · obtain ⟨o, g, q⟩ := dict_get h ne ok r
    exact ⟨o, .inl g, q⟩
def tG1 (td ty : TE) : TE := fun σ H Q => td σ H fun x H1 => ∃ a ks vs, x = .ref a ∧ DictH H1 a ks vs ∧ ty σ H1 fun y H2 => ∃ o, DG H2 a y o ∧ Q (o.getD .non) H2
def tG2 (td ty tx : TE) : TE := fun σ H Q => td σ H fun x H1 => ∃ a ks vs, x = .ref a ∧ DictH H1 a ks vs ∧ ty σ H1 fun y H2 => tx σ H2 fun z H3 => ∃ o, DG H3 a y o ∧ Q (o.getD z) H3
section
variable {o e f : Expr} {apos cpos : Pos} {td ty tx : TE}
theorem dict_at {pins : List (Addr × Obj)} {s : Shared} (I : Inv X pins σ H s) {a : Addr} {ks : List D} {vs : List V} (h : DictH H a ks vs) : s.TypeIs (.ref a) "dict" ∧ ∀ b : Addr, Value.ref a = Value.ref b → ∃ ob, s.heap.get? b = some ob ∧ ob.dict = none := by
  obtain ⟨lo, es, ep, h1, _⟩ := dict_raw I h
  refine ⟨h1.typeIs, fun b e => ?_⟩
  cases e
  obtain ⟨od, e, hc, _⟩ := id h1
  exact ⟨od, e, hc.2.1⟩
theorem pe_get1 (hu : X.A.units + 1 < cLine) (ho : PE X o td) (he : PE X e ty) (m : M1 X o "get" apos e cpos) : PE X (.Call (.Attribute o "get" apos) [e] [] cpos) (tG1 td ty) := by
  refine ⟨fun pins s σ H Q I h => ?_⟩
  refine wpAny_Call_method m.base m.few m.line PySem.F.plainAttrs_dict PySem.F.slot_dict_get PySem.F.type_dict_get (thn (ho.run pins s σ H _ I h) fun u s1 ⟨x, H1, I1, rx, a, ks, vs, ex, d, q1⟩ => ?_)
  subst ex
  obtain rfl : u = Value.ref a := rx
  obtain ⟨t1, t2⟩ := dict_at I1 d
  refine ⟨t1, t2, ?_⟩
  rw [m.trees]
  refine Calls.callWith_builtin rfl (Calls.evalArgs_plain (Calls.spliced_cons (thn (he.run pins s1 σ H1 _ I1 q1) fun iv s2 ⟨y, H2, I2, ry, ov, g, q2⟩ => Calls.spliced_nil ?_)))
  exact d_getE1 hu I2 g ry fun w' s3 I3 rw' => ⟨_, H2, I3, rw', q2⟩
theorem pe_get2 (hu : X.A.units + 1 < cLine) (ho : PE X o td) (he : PE X e ty) (hf : PE X f tx) (m : M2 X o "get" apos e f cpos) : PE X (.Call (.Attribute o "get" apos) [e, f] [] cpos) (tG2 td ty tx) := by
  refine ⟨fun pins s σ H Q I h => ?_⟩
  refine wpAny_Call_method m.base m.few m.line PySem.F.plainAttrs_dict PySem.F.slot_dict_get PySem.F.type_dict_get (thn (ho.run pins s σ H _ I h) fun u s1 ⟨x, H1, I1, rx, a, ks, vs, ex, d, q1⟩ => ?_)
  subst ex
  obtain rfl : u = Value.ref a := rx
  obtain ⟨t1, t2⟩ := dict_at I1 d
  refine ⟨t1, t2, ?_⟩
  rw [m.trees]
  refine Calls.callWith_builtin rfl (Calls.evalArgs_plain (Calls.spliced_cons (thn (he.run pins s1 σ H1 _ I1 q1) fun iv s2 ⟨y, H2, I2, ry, q2⟩ =>
    Calls.spliced_cons (thn (hf.run pins s2 σ H2 _ I2 q2) fun fv s3 ⟨z, H3, I3, rz, ov, g, q3⟩ => Calls.spliced_nil ?_))))
  exact d_getE2 hu I3 g ry rz fun w' s4 I4 rw' => ⟨_, H3, I4, rw', q3⟩
end
/-! by data -/
def dGet1 : D → D → Option D
  | .dct kvs, k => if keyOk kvs k then some ((dget kvs k).getD .non) else none
  | _, _ => none
def mGet1 (a b : EM) : EM := ⟨e2 dGet1 a.run b.run, a.own, a.roots, a.muts ++ b.muts⟩
def e3G (a b c : SE) : SE := fun s => match a s with
  | .ok (.dct kvs) s1 => (match b s1 with
    | .ok k s2 => (match c s2 with
      | .ok z s3 => if keyOk kvs k then .ok ((dget kvs k).getD z) s3 else .stuck
      | .exc c d s => .exc c d s
      | .stuck => .stuck)
    | .exc c d s => .exc c d s
    | .stuck => .stuck)
  | .ok _ _ => .stuck
  | .exc c d s => .exc c d s
  | .stuck => .stuck
def mGet2 (a b c : EM) : EM := ⟨e3G a.run b.run c.run, a.own && c.own, (if a.own then [] else a.roots) ++ (if c.own then [] else c.roots), a.muts ++ (b.muts ++ c.muts)⟩
section
variable {o e f : Expr} {apos cpos : Pos} {ma mb mc : EM}
theorem dget_val {a : Addr} {kvs : List (D × D)} {vs : List V} {G : List Addr} {j : Nat} {z : V} {k : D} (r : RepV K cls H kvs vs G) (h1 : vs[j]? = some z) (h2 : kvs[j]? = some (k, d)) : ∃ G', Rep K cls H d z G' ∧ G'.Sublist G := by
  rw [repV_iff] at r
  obtain ⟨d', G', e1, e2, e3⟩ := r.part h1
  rw [List.getElem?_map, h2] at e1
  cases e1
  exact ⟨G', e2, e3⟩
theorem s_get1 (hu : X.A.units + 1 < cLine) (ha : PE X o (tE X.K cls W ma)) (hb : PE X e (tE X.K cls W mb)) (m : M1 X o "get" apos e cpos) (ap : apartB ma mb = true) : PE X (.Call (.Attribute o "get" apos) [e] [] cpos) (tE X.K cls W (mGet1 ma mb)) :=
  PE.imp (pe_get1 hu ha hb m) fun σ H Q ⟨S, Fs, Z, r, h⟩ => by
  refine ⟨S, Fs, Z, r, ?_⟩
  unfold mGet1 e2 at h
  dsimp only at h
  cases e : ma.run S with
  | exc c d s => rw [e] at h; exact h
  | stuck => rw [e] at h; exact h
  | ok x S1 =>
    rw [e] at h
    dsimp only at h ⊢
    intro v H1 Fs1 F1 r1 st1 hd1 ho1
    cases e2 : mb.run S1 with
    | exc c d s => rw [e2] at h; exact h.elim
    | stuck => rw [e2] at h; exact h.elim
    | ok y S2 =>
      rw [e2] at h
      dsimp only at h
      cases e3 : dGet1 x y with
      | none => rw [e3] at h; exact h.elim
      | some z =>
        rw [e3] at h
        unfold dGet1 at e3
        split at e3
        · rename_i kvs
          split at e3
          · rename_i ok
            cases e3
            obtain ⟨a, vs, G, rfl, eG, t, rr⟩ := dct_ref hd1.rep
            refine ⟨a, _, vs, rfl, t, S1, Fs1, Z, r1, ?_⟩
            rw [e2]
            dsimp only
            intro v2 H2 Fs2 F2 r2 st2 hd2 ho2
            have hd1' := hd1.step r1 st2 (apart_of ap)
            obtain ⟨a', vs', G', ea, eG', t', rr'⟩ := dct_ref hd1'.rep
            cases ea
            obtain ⟨o, g, q⟩ := dict_getE t' ok hd2.rep
            refine ⟨o, g, ?_⟩
            rcases q with ⟨rfl, q⟩ | ⟨j, w, d, rfl, q, q1, q2⟩
            · rw [q] at h
              exact h .non H2 Fs2 [] r2 (st1.trans r st2) (hd1'.sub rNon (List.nil_sublist _)) Org.nil
            · rw [q] at h
              obtain ⟨G2, rw2, sb⟩ := dget_val (a := a) rr' q1 q2
              have sb' : G2.Sublist F1 := by rw [eG']; exact sb.trans (List.sublist_cons_self _ _)
              exact h w H2 Fs2 G2 r2 (st1.trans r st2) (hd1'.sub rw2 sb') fun eo a m => (ho1 eo a (sb'.subset m)).imp (fun w => w.app_l) id
          · cases e3
        · cases e3
theorem s_get2 (hu : X.A.units + 1 < cLine) (ha : PE X o (tE X.K cls W ma)) (hb : PE X e (tE X.K cls W mb)) (hc : PE X f (tE X.K cls W mc)) (m : M2 X o "get" apos e f cpos) (ap : (apartB ma mb && (apartB ma mc)) = true) : PE X (.Call (.Attribute o "get" apos) [e, f] [] cpos) (tE X.K cls W (mGet2 ma mb mc)) :=
  PE.imp (pe_get2 hu ha hb hc m) fun σ H Q ⟨S, Fs, Z, r, h⟩ => by
  rw [Bool.and_eq_true] at ap
  have wm : (mGet2 ma mb mc).muts = ma.muts ++ (mb.muts ++ mc.muts) := rfl
  have wo : (mGet2 ma mb mc).own = (ma.own && mc.own) := rfl
  have wr : (mGet2 ma mb mc).roots = (if ma.own then [] else ma.roots) ++ (if mc.own then [] else mc.roots) := rfl
  refine ⟨S, Fs, Z, r, ?_⟩
  have wrun : (mGet2 ma mb mc).run = e3G ma.run mb.run mc.run := rfl
  rw [wrun] at h
  unfold e3G at h
  cases e : ma.run S with
  | exc c d s => rw [e] at h; exact h
  | stuck => rw [e] at h; exact h
  | ok x S1 =>
    rw [e] at h
    dsimp only at h ⊢
    intro v H1 Fs1 F1 r1 st1 hd1 ho1
    cases x with
    | dct kvs =>
      dsimp only at h
      obtain ⟨a, vs, G, rfl, eG, t, rr⟩ := dct_ref hd1.rep
      refine ⟨a, _, vs, rfl, t, S1, Fs1, Z, r1, ?_⟩
      cases e2 : mb.run S1 with
      | exc c d s => rw [e2] at h; exact h.elim
      | stuck => rw [e2] at h; exact h.elim
      | ok y S2 =>
        rw [e2] at h
        dsimp only at h ⊢
        intro v2 H2 Fs2 F2 r2 st2 hd2 ho2
        refine ⟨S2, Fs2, Z, r2, ?_⟩
        cases e3 : mc.run S2 with
        | exc c d s => rw [e3] at h; exact h.elim
        | stuck => rw [e3] at h; exact h.elim
        | ok zd S3 =>
          rw [e3] at h
          dsimp only at h ⊢
          intro v3 H3 Fs3 F3 r3 st3 hd3 ho3
          by_cases ok : keyOk kvs y = true
          · rw [if_pos ok] at h
            dsimp only at h
            have hd1' := (hd1.step r1 st2 (apart_of ap.1)).step r2 st3 (apart_of ap.2)
            have st23 := st2.trans r1 st3
            obtain ⟨a', vs', G', ea, eG', t', rr'⟩ := dct_ref hd1'.rep
            cases ea
            -- the key is a key still
            have kk : kkind y < 2 := by
              unfold keyOk at ok
              split at ok
              · rwa [Nat.blt_eq] at ok
              · rw [Bool.and_eq_true, Nat.blt_eq] at ok
                exact ok.1
            have ikey : im y = true := by
              unfold kkind at kk
              cases e1 : toKey y with
              | some q => rw [toKey_some e1]; cases q <;> rfl
              | none =>
                rw [e1] at kk
                dsimp only at kk
                cases e2 : toKeys y with
                | none => rw [e2] at kk; exact absurd kk (by simp)
                | some q =>
                  rw [toKeys_some e2]
                  have : ∀ l : List Key, ims (l.map keyD) = true := fun l => by
                    induction l with
                    | nil => rfl
                    | cons k l ih => rw [List.map_cons, ims, ih]; cases k <;> rfl
                  exact this q
            have rk : Rep X.K cls H3 y v2 [] := by
              have g := Rep.im y ikey hd2.rep
              have q := hd2.rep
              rw [g] at q
              exact Rep.keep r2.wmut st3.keep y v2 [] (fun a m => by cases m) q
            obtain ⟨o, g, q⟩ := dict_getE t' ok rk
            refine ⟨o, g, ?_⟩
            have stA : Stp (ma.muts ++ (mb.muts ++ mc.muts)) S H Fs S3 H3 Fs3 := st1.trans r st23
            rcases q with ⟨rfl, q⟩ | ⟨j, w, d, rfl, q, q1, q2⟩
            · rw [q] at h
              refine h v3 H3 Fs3 F3 r3 stA ?_ fun eo a m => ?_
              · rw [wo, wr]
                cases eo : mc.own with
                | true =>
                  cases ea : ma.own with
                  | true => exact ⟨hd3.rep, fun _ => hd3.own eo, fun z => by cases z⟩
                  | false => exact hd3.weak fun z => (by rw [eo] at z; cases z)
                | false =>
                  rw [Bool.and_false]
                  exact hd3.weak fun _ i m => List.mem_append_right _ (by rw [if_neg (by simp)]; exact m)
              · rw [wo, Bool.and_eq_true] at eo
                have := Org.back (st1.trans r st2) r (by rw [eo.2] at ho3; exact ho3) rfl a m
                exact this.imp (fun w => w.mono fun x q => by
                  rcases List.mem_append.mp q with q | q
                  · rcases List.mem_append.mp q with q | q
                    · exact List.mem_append_left _ q
                    · exact List.mem_append_right _ (List.mem_append_left _ q)
                  · exact List.mem_append_right _ (List.mem_append_right _ q)) id
            · rw [q] at h
              obtain ⟨G2, rw2, sb⟩ := dget_val (a := a) rr' q1 q2
              have sb' : G2.Sublist F1 := by rw [eG']; exact sb.trans (List.sublist_cons_self _ _)
              refine h w H3 Fs3 G2 r3 stA ?_ fun eo a m => ?_
              · rw [wo, wr]
                have hs := hd1'.sub rw2 sb'
                cases ea : ma.own with
                | true =>
                  cases eo : mc.own with
                  | true => exact ⟨hs.rep, fun _ => hs.own ea, fun z => by cases z⟩
                  | false => exact hs.weak fun z => (by rw [ea] at z; cases z)
                | false =>
                  rw [Bool.false_and]
                  exact hs.weak fun _ i m => List.mem_append_left _ (by rw [if_neg (by simp)]; exact m)
              · rw [wo, Bool.and_eq_true] at eo
                exact (ho1 eo.1 a (sb'.subset m)).imp (fun w => w.app_l) id
          · rw [if_neg ok] at h
            exact h.elim
    | _ => exact h.elim
end
end Bv
end

section
/-! {}, {k: v, ..}. -/
namespace Bv
open PySem PySem.Spec PyProof.Rows L2
variable {K : PySem.W.Frag} {cls : Nat → Addr} {X : Cx}
variable {σ σ' σ0 σ1 : L2.St} {S S0 S1 S2 S3 S4 S' : List Sl} {H H0 H' H1 H2 Hl : Hp} {Fs Fs0 Fs1 Fs2 Fs' : List (List Addr)} {Z : Addr → Prop} {ms ms1 ms2 rs rs2 : List Nat} {d d' c c' dd yd : D} {v v' x : V} {F F' F1 F2 FC FA FF : List Addr} {ow : Bool} {W : WX}
def mDNew : EM := mLit (.dct [])
theorem s_dnew {pos : Pos} : PE X (.Dict [] [] pos) (tE K cls W mDNew) := PE.imp pe_dnewK fun σ H Q ⟨S, Fs, Z, r, h⟩ p hp => by
  have sm : Same H (upd H p (.dK [])) := Same.new hp
  exact h (.ref p) _ Fs [p] (r.same sm) (Stp.of_same sm) ((acc_new (o := .dK []) hp trivial r).held dk_nil) fun _ a m => (by
    have : a = p := by simpa using m
    subst this
    exact .inr hp)
def mergeD : List (D × D) → List (D × D) → List (D × D)
  | acc, [] => acc
  | acc, p :: r => mergeD (putD acc p.1 p.2) r
theorem dk_merge {A : Addr} : ∀ (ps : List (D × D)) (kvs : List (Key × V)) (H : Hp) (acc : List (D × D)) (ks : List Key) (vs : List V), DkAt K cls H A acc [A] ks vs [] → Paired (fun (d : D × D) (kv : Key × V) => d.1 = keyD kv.1 ∧ bd d.1 ∧ Rep K cls H d.2 kv.2 []) ps kvs →
    ∃ ks' vs', DkAt K cls (upd H A (.dK (mergeK (ks.zip vs) kvs))) A (mergeD acc ps) [A] ks' vs' []
  | [], _, H, acc, ks, vs, h, .nil => by
    have e : upd H A (.dK (mergeK (ks.zip vs) [])) = H := by
      funext b
      by_cases q : b = A
      · subst q; rw [upd_same]; exact h.at_.symm
      · rw [upd_ne q]
    exact ⟨ks, vs, by rw [e]; exact h⟩
  | p :: ps, kv :: kvs, H, acc, ks, vs, h, .cons ⟨e1, e2, e3⟩ t => by
    have mu : Mut (H A) := by rw [h.at_]; trivial
    have key : ∃ ks' vs', DkAt K cls (upd H A (.dK (putK (ks.zip vs) kv.1 kv.2))) A (putD acc p.1 p.2) [A] ks' vs' [] := by
      rw [e1]
      refine h.put (Q := fun H' => ∃ ks' vs', DkAt K cls H' A (putD acc (keyD kv.1) p.2) [A] ks' vs' []) (FF := []) ⟨by simp, List.nodup_nil, (fun a m => by cases m), (fun a m => by
        have : a = A := by simpa using m
        rw [this]; exact mu), (fun a m => by cases m)⟩ (by rw [← e1]; exact e2) e3 fun H' FA' ks' vs' G' _ dk nd hF => ?_
      have eG : G' = [] := by
        refine List.eq_nil_iff_forall_not_mem.mpr fun a m => ?_
        rcases (hF a (by rw [dk.eF]; exact List.mem_cons_of_mem _ m)).2 with q | q
        · have : a = A := by simpa using q
          subst this
          rw [dk.eF] at nd
          exact (List.nodup_cons.mp nd).1 m
        · cases q
      subst eG
      have eF := dk.eF
      subst eF
      exact ⟨ks', vs', dk⟩
    obtain ⟨ks', vs', dk⟩ := key
    have ez : putK (ks.zip vs) kv.1 kv.2 = ks'.zip vs' := by
      have := dk.at_
      rw [upd_same] at this
      exact HO.dK.inj (Option.some.inj this)
    obtain ⟨k2, v2, d2⟩ := dk_merge ps kvs _ _ _ _ dk (by
      clear ez dk
      induction t with
      | nil => exact .nil
      | cons q t ih => exact .cons ⟨q.1, q.2.1, Rep.keep (W := fun b => b = A) (fun b w => by subst w; exact mu) (upd_keep rfl) _ _ [] (fun a m => by cases m) q.2.2⟩ ih)
    refine ⟨k2, v2, ?_⟩
    have : upd (upd H A (.dK (putK (ks.zip vs) kv.1 kv.2))) A (.dK (mergeK (ks'.zip vs') kvs)) = upd H A (.dK (mergeK (ks.zip vs) (kv :: kvs))) := by
      rw [upd_upd, ← ez]
      rfl
    rw [this] at d2
    exact d2
def ePairs : List (EM × EM) → List Sl → R (List (D × D))
  | [], s => .ok [] s
  | m :: r, s => match m.1.run s with
    | .ok k s1 => (match m.2.run s1 with
      | .ok v s2 => (match toKey k with
        | some _ => if im v then (match ePairs r s2 with
          | .ok ps s3 => .ok ((k, v) :: ps) s3
          | .exc c d s => .exc c d s
          | .stuck => .stuck) else .stuck
        | none => .stuck)
      | .exc c d s => .exc c d s
      | .stuck => .stuck)
    | .exc c d s => .exc c d s
    | .stuck => .stuck
def pMuts : List (EM × EM) → List Nat
  | [] => []
  | m :: r => m.1.muts ++ (m.2.muts ++ pMuts r)
def eDisp (l : List (EM × EM)) : SE := fun s => match ePairs l s with
  | .ok ps s' => .ok (.dct (mergeD [] ps)) s'
  | .exc c d s => .exc c d s
  | .stuck => .stuck
def mDisp (l : List (EM × EM)) : EM := ⟨eDisp l, true, [], pMuts l⟩
def tEs (K : PySem.W.Frag) (cls : Nat → Addr) (W : WX) : List (EM × EM) → List (TE × TE)
  | [] => []
  | m :: r => (tE K cls W m.1, tE K cls W m.2) :: tEs K cls W r
abbrev PV (K : PySem.W.Frag) (cls : Nat → Addr) (H : Hp) : List (D × D) → List (V × V) → Prop := Paired fun d v => (∃ k, toKey d.1 = some k) ∧ Rep K cls H d.1 v.1 [] ∧ Rep K cls H d.2 v.2 []
theorem PV.keep {ps : List (D × D)} {vs : List (V × V)} {P : Addr → Prop} (mu : ∀ a, P a → Mut (H a)) (k : Keep P H H') (h : PV K cls H ps vs) : PV K cls H' ps vs := by
  induction h with
  | nil => exact .nil
  | cons q t ih => exact .cons ⟨q.1, Rep.keep mu k _ _ [] (fun a m => by cases m) q.2.1, Rep.keep mu k _ _ [] (fun a m => by cases m) q.2.2⟩ ih
theorem pairs_run : ∀ (l : List (EM × EM)) {σ : L2.St} {S S' : List Sl} {H : Hp} {Fs : List (List Addr)} {ps : List (D × D)} {Q : List (V × V) → Hp → Prop}, SRel K cls σ S H Fs Z → ePairs l S = .ok ps S' →
    (∀ vs H' Fs', SRel K cls σ S' H' Fs' Z → Stp (pMuts l) S H Fs S' H' Fs' → PV K cls H' ps vs → Q vs H') → tPairs (tEs K cls W l) σ H Q
  | [], σ, S, S', H, Fs, ps, Q, r, e, h => by
    cases e
    exact h [] H Fs r Stp.refl .nil
  | m :: l, σ, S, S', H, Fs, ps, Q, r, e, h => by
    unfold ePairs at e
    cases e1 : m.1.run S with
    | exc c d s => rw [e1] at e; cases e
    | stuck => rw [e1] at e; cases e
    | ok k S1 =>
      rw [e1] at e
      dsimp only at e
      refine ⟨S, Fs, Z, r, ?_⟩
      rw [e1]
      intro x H1 Fs1 F1 r1 st1 hd1 _
      refine ⟨S1, Fs1, Z, r1, ?_⟩
      cases e2 : m.2.run S1 with
      | exc c d s => rw [e2] at e; cases e
      | stuck => rw [e2] at e; cases e
      | ok w S2 =>
        rw [e2] at e
        dsimp only at e ⊢
        intro y H2 Fs2 F2 r2 st2 hd2 _
        cases ek : toKey k with
        | none => rw [ek] at e; cases e
        | some kk =>
          rw [ek] at e
          dsimp only at e
          by_cases hi : im w = true
          · rw [if_pos hi] at e
            cases e3 : ePairs l S2 with
            | exc c d s => rw [e3] at e; cases e
            | stuck => rw [e3] at e; cases e
            | ok ps' S3 =>
              rw [e3] at e
              cases e
              refine pairs_run l r2 e3 fun vs H' Fs' r3 st3 pv => ?_
              have ik : im k = true := by rw [toKey_some ek]; cases kk <;> rfl
              have rk : Rep K cls H1 k x [] := by have g := Rep.im k ik hd1.rep; have q := hd1.rep; rw [g] at q; exact q
              have rw' : Rep K cls H2 w y [] := by have g := Rep.im w hi hd2.rep; have q := hd2.rep; rw [g] at q; exact q
              have st23 := st2.trans r1 st3
              exact h _ H' Fs' r3 (st1.trans r (st2.trans r1 st3)) (.cons ⟨⟨kk, ek⟩, Rep.keep r1.wmut st23.keep k x [] (fun a m => by cases m) rk, Rep.keep r2.wmut st3.keep w y [] (fun a m => by cases m) rw'⟩ pv)
          · rw [if_neg hi] at e; cases e
theorem pv_keys : ∀ {ps : List (D × D)} {vs : List (V × V)}, PV K cls H ps vs → ∃ kvs : List (Key × V), vs = kvs.map (fun kv => (kV kv.1, kv.2)) ∧ kvs.length = ps.length ∧ Paired (fun (d : D × D) (kv : Key × V) => d.1 = keyD kv.1 ∧ bd d.1 ∧ Rep K cls H d.2 kv.2 []) ps kvs
  | _, _, .nil => ⟨[], rfl, rfl, .nil⟩
  | d :: ps, v :: vs, .cons ⟨⟨k, ek⟩, rk, rv⟩ t => by
    obtain ⟨kvs, e1, e2, e3⟩ := pv_keys t
    have ed := toKey_some ek
    have ev := keyV rk ed
    refine ⟨(k, v.2) :: kvs, ?_, by simp [e2], .cons ⟨ed, key_bd rk (by unfold kkind; rw [ek]; exact Nat.zero_lt_two), rv⟩ e3⟩
    rw [List.map_cons, ← e1, ← ev]
theorem s_disp {pos : Pos} {keys : List (Option Expr)} {values : List Expr} {l : List (EM × EM)} (h : PPs X pos keys values (tEs X.K cls W l)) (hall : keys.all (·.isSome) = true) (hl : keys.length = values.length) (h0 : keys ≠ []) (hk : Nat.ble keys.length 15 = true) (h15 : Nat.ble l.length 15 = true) : PE X (.Dict keys values pos) (tE X.K cls W (mDisp l)) :=
  PE.imp (pe_disp h hall hl h0 (Nat.le_of_ble_eq_true hk)) fun σ H Q ⟨S, Fs, Z, r, h⟩ p hp => by
  have sm : Same H (upd H p (.dK [])) := Same.new hp
  unfold mDisp eDisp at h
  dsimp only at h
  cases e : ePairs l S with
  | exc c d s => rw [e] at h; exact h.elim
  | stuck => rw [e] at h; exact h.elim
  | ok ps S' =>
    rw [e] at h
    dsimp only at h
    have r0 := r.same sm
    have ac := acc_new (o := .dK []) hp trivial r
    refine pairs_run l r0 e fun vs H' Fs' r' st' pv => ?_
    have ac' := ac.step r0 st'
    have dk' := (dk_nil (K := X.K) (cls := cls)).keep r0.wmut st'.keep ac.nW
    obtain ⟨kvs, e1, e2, e3⟩ := pv_keys pv
    have hlen : ∀ {l : List (EM × EM)} {S S' : List Sl} {ps : List (D × D)}, ePairs l S = .ok ps S' → ps.length = l.length := fun {l} => by
      induction l with
      | nil => intro S S' ps e; cases e; rfl
      | cons m l ih =>
        intro S S' ps e
        unfold ePairs at e
        split at e
        · split at e
          · split at e
            · split at e
              · split at e
                · rename_i e4
                  cases e
                  rw [List.length_cons, List.length_cons, ih e4]
                · cases e
                · cases e
              · cases e
            · cases e
          · cases e
          · cases e
        · cases e
        · cases e
    refine ⟨dk'.at_, kvs, e1, by rw [e2, hlen e]; exact Nat.le_of_ble_eq_true h15, ?_⟩
    obtain ⟨ks', vs', dk⟩ := dk_merge ps kvs H' [] [] [] dk' e3
    have mu : ∀ a ∈ [p], Mut (H' a) := fun a m => (ac'.out a m).1
    have kp : Keep (fun a => a ∈ [p]) H' (upd H' p (.dK (mergeK [] kvs))) := upd_keep (by simp)
    have r2 := r'.outside kp (fun a m => (ac'.out a m).2) mu
    have st1 : Stp (pMuts l) S H Fs S' H' Fs' := by
      have := (Stp.of_same (S := S) (Fs := Fs) sm).trans r st'
      simpa using this
    have hF : ∀ a ∈ [p], Wm Fs (pMuts l) a ∨ H a = none := fun a m => by
      have : a = p := by simpa using m
      subst this
      exact .inr hp
    refine h (.ref p) _ Fs' [p] r2 (Stp.outside st1 kp hF) (Acc.held ⟨by simp, fun a m => ⟨?_, (ac'.out a m).2⟩⟩ dk) fun _ => hF
    have : a = p := by simpa using m
    rw [this, upd_same]
    trivial
theorem p_nil {pos : Pos} : PPs X pos [] [] (tEs K cls W []) := pps_nil
theorem p_cons {pos : Pos} {k v : Expr} {ks : List (Option Expr)} {vs : List Expr} {mk mv : EM} {l : List (EM × EM)} (hk : PE X k (tE K cls W mk)) (hv : PE X v (tE K cls W mv)) (hr : PPs X pos ks vs (tEs K cls W l)) : PPs X pos (some k :: ks) (v :: vs) (tEs K cls W ((mk, mv) :: l)) := pps_cons hk hv hr
end Bv
end

section
/-! range with a step. -/
namespace Bv
open PySem PySem.Spec PyProof.Rows L2
variable {K : PySem.W.Frag} {cls : Nat → Addr} {X : Cx} {σ : L2.St} {Hl : Hp} {F : List Addr}
def stepD (lo c : Int) : Nat → List D
  | 0 => []
  | n + 1 => .int lo :: stepD (lo + c) c n
theorem stepD_len : ∀ (n : Nat) (lo c : Int), (stepD lo c n).length = n
  | 0, _, _ => rfl
  | n + 1, lo, c => by rw [stepD, List.length_cons, stepD_len n]
theorem stepD_get : ∀ (n : Nat) (lo c : Int) (i : Nat), i < n → (stepD lo c n)[i]? = some (.int (lo + (i : Nat) * c))
  | 0, _, _, i, h => absurd h (Nat.not_lt_zero _)
  | n + 1, lo, c, 0, _ => by rw [stepD]; simp
  | n + 1, lo, c, i + 1, h => by
    rw [stepD, List.getElem?_cons_succ, stepD_get n (lo + c) c i (by omega)]
    congr 2
    rw [show ((i + 1 : Nat) : Int) = (i : Int) + 1 from rfl, Int.add_mul, Int.one_mul]
    omega
theorem it_step {lo c : Int} {n : Nat} : ItOk K cls (Itc lo c n) (stepD lo c n) Hl F := by
  have w : Walk (Itc lo c n) (stepD lo c n).length (fun _ => True) (fun i H x H' => i < n ∧ H' = H ∧ x = .int (lo + (i : Nat) * c)) := by
    rw [stepD_len]
    exact ⟨fun i H h _ => h, fun H _ => Nat.le_refl _, fun i H x H' h _ y => ⟨h, y⟩⟩
  refine ⟨_, _, w, fun H2 s => trivial, fun i H2 y H2' s q => ?_⟩
  obtain ⟨hi, rfl, rfl⟩ := q
  exact ⟨Same.refl, _, [], stepD_get n lo c i hi, rInt, fun a m => by cases m⟩
def rng3 : List D → Option (List D)
  | [.int i, .int j, .int c] => if small62 i && small62 j then
      (if decide (c = -1) then some (stepD i (-1) (i - j).toNat)
        else if !decide (c = 0) && (decide (c.natAbs < 1073741824) && (Builtin.Range.small i j c && decide (Builtin.Range.rangeSize i j c = ((Builtin.Range.rangeSize i j c).toNat : Int)))) then some (stepD i c (Builtin.Range.rangeSize i j c).toNat) else none)
      else none
  | _ => none
theorem rng3_of {i j c : Int} {xs : List D} (e : rng3 [.int i, .int j, .int c] = some xs) : ∃ n, RgC i j c n ∧ xs = stepD i c n := by
  unfold rng3 at e
  dsimp only at e
  split at e
  · rename_i q
    rw [Bool.and_eq_true] at q
    obtain ⟨c1, c2⟩ := small62_of q.1
    obtain ⟨c3, c4⟩ := small62_of q.2
    split at e
    · rename_i h
      have h := of_decide_eq_true h
      subst h
      cases e
      exact ⟨_, RgC.neg c1 c2 c3 c4, rfl⟩
    · split at e
      · rename_i h
        simp only [Bool.and_eq_true, Bool.not_eq_true', decide_eq_false_iff_not, decide_eq_true_eq] at h
        cases e
        exact ⟨_, ⟨h.1, h.2.1, h.2.2.1, h.2.2.2⟩, rfl⟩
      · cases e
  · cases e
theorem reps3 {a b c : D} {vs : List V} {H : Hp} (h : Reps K cls H [a, b, c] vs F) : ∃ x y z F1 F2 F3, vs = [x, y, z] ∧ Rep K cls H a x F1 ∧ Rep K cls H b y F2 ∧ Rep K cls H c z F3 := by
  obtain ⟨v, vr, F1, F2, rfl, _, r1, r2⟩ := h.uncons
  obtain ⟨x, y, G1, G2, rfl, r3, r4⟩ := reps2 r2
  exact ⟨v, x, y, F1, G1, G2, rfl, r1, r3, r4⟩
theorem rng3_args {ds xs : List D} (e : rng3 ds = some xs) : ∃ i j c, ds = [.int i, .int j, .int c] := by
  unfold rng3 at e
  split at e
  · exact ⟨_, _, _, rfl⟩
  · cases e
section
variable {tg a b c : Expr} {p pos : Pos} {m1 m2 m3 : EM}
theorem s_rng3 (hg : Gl X "range") (hm : X.mg "range" = none) (ha : PA X [a, b, c] (tAL X.K cls [m1, m2, m3])) (hs : starEach [a, b, c] X.env = (false, eval a X.env) :: starEach [b, c] X.env) (hpl : (backTo pos (starEach [b, c] X.env)).any (·.1) = false) : PI X tg (.Call (.Name "range" p) [a, b, c] [] pos) (tI X cls (mRng rng3 [m1, m2, m3])) := by
  refine PI.imp (pi_range3 hg hm ha hs hpl) fun σ H R h => rng_run h fun ds xs vs H' F er rr q => ?_
  obtain ⟨i, j, k, rfl⟩ := rng3_args er
  obtain ⟨n, g, rfl⟩ := rng3_of er
  obtain ⟨x, y, z, F1, F2, F3, rfl, h1, h2, h3⟩ := reps3 rr
  exact ⟨i, j, k, n, by rw [rInt' h1, rInt' h2, rInt' h3], g, q _ it_step⟩
end
end Bv
end

section
/-! The rules as they are used by the printed proofs: what a literal text decides is decided there. -/
namespace Bv
open PySem PySem.Spec PyProof.Rows L2
abbrev Wz : WX := fun _ _ _ _ => False
variable {cls : Nat → Addr} {X : Cx}
abbrev QE (X : Cx) (cls : Nat → Addr) (e : Expr) (m : EM) : Prop := PE X e (tE X.K cls Wz m)
abbrev QT (X : Cx) (cls : Nat → Addr) (e : Expr) (m : EM) : Prop := PT X e (tT X.K cls m)
abbrev QL (X : Cx) (cls : Nat → Addr) (es : List Expr) (l : List EM) : Prop := PA X es (tAL X.K cls l)
abbrev QO (X : Cx) (cls : Nat → Addr) (es : List Expr) (l : List (Bool × EM)) : Prop := PA X es (tAO X.K cls l)
abbrev QS (X : Cx) (cls : Nat → Addr) (s : Stmt) (m : SM) : Prop := PS X s (tS X.K cls m)
abbrev QSs (X : Cx) (cls : Nat → Addr) (s : List Stmt) (m : SM) : Prop := PSs X s (tS X.K cls m)
abbrev QI (X : Cx) (cls : Nat → Addr) (tg e : Expr) (m : IM) : Prop := PI X tg e (tI X cls m)
section
variable {e a b c : Expr} {es : List Expr} {pos p : Pos} {m ma mb mc : EM} {l : List EM} {x : Str}
theorem qV (i : Nat) (hN : X.N[i]? = some x := by rfl) (hv : Vis X.env.scope x := by first | exact Or.inl rfl | exact Or.inr (Or.inl rfl) | exact Or.inr (Or.inr rfl)) (hd : (x == ("__debug__" : Str)) = false := by decide) (hcd : (x == ("__classdict__" : Str)) = false := by decide) : QE X cls (.Name x pos) (mVar i) := s_var hN hv hd hcd
theorem qM (i : Nat) (hN : X.N[i]? = some x := by rfl) (hv : Vis X.env.scope x := by first | exact Or.inl rfl | exact Or.inr (Or.inl rfl) | exact Or.inr (Or.inr rfl)) (hd : (x == ("__debug__" : Str)) = false := by decide) (hcd : (x == ("__classdict__" : Str)) = false := by decide) : QE X cls (.Name x pos) (mMv i) := s_mv hN hv hd hcd
theorem qStr (t : List Nat) {j} (h : x.cps.toList = t := by decide +kernel) (hl : Nat.ble t.length lineN = true := by rfl) : QE X cls (.Constant (.str x) j pos) (mLit (.str t)) := by
  subst h
  exact s_str (by rw [← lineN_eq]; exact Nat.le_of_ble_eq_true hl)
theorem qIdx (hu : X.A.units + 64 < cLine) (ha : QE X cls a ma) (hb : QE X cls b mb) (hs : PlainIx b := by intro _ _; rfl) (ap : apartB ma mb = true := by rfl) : QE X cls (.Subscript a b pos) (mIdx ma mb) := s_idx (by omega) ha hb hs ap
theorem qNil : QL X cls [] [] := al_nil
theorem qCons (he : QE X cls e m) (hr : QL X cls es l) (ap : (m.own || m.roots.all fun i => !(lMuts l).contains i) = true := by rfl) (hs : starEach (e :: es) X.env = (false, eval e X.env) :: starEach es X.env := by rfl) : QL X cls (e :: es) (m :: l) := al_cons he hr ap hs
theorem oNil : QO X cls [] [] := ao_nil
theorem oCons {l : List (Bool × EM)} (he : QE X cls e m) (hr : QO X cls es l) (ho : m.own = true := by rfl) (hs : starEach (e :: es) X.env = (false, eval e X.env) :: starEach es X.env := by rfl) : QO X cls (e :: es) ((false, m) :: l) := ao_cons he hr ho hs
theorem oStar {l : List (Bool × EM)} (he : QE X cls e m) (hr : QO X cls es l) (hs : starEach (.Starred e p :: es) X.env = (true, eval e X.env) :: starEach es X.env := by rfl) : QO X cls (.Starred e p :: es) ((true, m) :: l) := ao_star he hr hs
/-- f(..), f a built-in function that changes nothing -/
theorem qB {id : String} {op : List D → Option D} (hc : CallR X (.builtin id) (rDn X.K cls op)) (ha : QL X cls (e :: es) l) (hm : X.mg x = none) (hg : Gl X x := by rfl) (hv : bootBuiltins x = some (.builtin id) := by decide +kernel) (hn : x ≠ "__name__" := by decide) (hdb : (x == ("__debug__" : Str)) = false := by decide)
    (he : starEach (e :: es) X.env = (false, eval e X.env) :: starEach es X.env := by rfl) (hpl : (backTo pos (starEach es X.env)).any (·.1) = false := by rfl) : QE X cls (.Call (.Name x p) (e :: es) [] pos) (mP op l) :=
  PE.imp (pe_callB hc hg hm hv ha hn hdb he hpl) fun σ H Q h => impP h
theorem qTy {T : String} {op : List D → Option D} (hc : CallR X (.type T) (rDn X.K cls op)) (ha : QL X cls (e :: es) l) (hm : X.mg x = none) (hg : Gl X x := by rfl) (hv : bootBuiltins x = some (.type T) := by decide +kernel) (hn : x ≠ "__name__" := by decide) (hdb : (x == ("__debug__" : Str)) = false := by decide)
    (he : starEach (e :: es) X.env = (false, eval e X.env) :: starEach es X.env := by rfl) (hpl : (backTo pos (starEach es X.env)).any (·.1) = false := by rfl) : QE X cls (.Call (.Name x p) (e :: es) [] pos) (mP op l) :=
  PE.imp (pe_callTy hc hg hm hv ha hn hdb he hpl) fun σ H Q h => impP h
/-- tests -/
theorem tPl (h : QE X cls a m) (he : PlainT X a := by intro _; rfl) : QT X cls a m := t_plain h he
end
end Bv
end

section
/-! Calls and statements as the printed proofs use them. -/
namespace Bv
open PySem PySem.Spec PyProof.Rows L2
variable {cls : Nat → Addr} {X : Cx}
/-- a function of the text that means m -/
structure FnAt (P : Program) (w : World) (K : PySem.W.Frag) (mg : Str → Option Value) (base : Heap) (cls : Nat → Addr) (k : Nat) (x : Str) (N ps : List Str) (m : SM) : Prop where
  ex : ∃ (f : Addr) (fd : FuncData), FnOk P w K mg base CX0 k f fd ps (spD K cls N ps.length m) ∧ mg x = some (.ref f) ∧ PySem.W.keepIn K (.ref f) = true ∧ Binds K fd ps []
abbrev CXn (P : Program) (w : World) (K : PySem.W.Frag) (mg : Str → Option Value) (base : Heap) (N : List Str) (qual : Str) (scope : Scope) (f : Addr) (cd : Value) (A : Around) (outer : List Env) (s : Shared) (H : Hp) (E : XK) : Cx := (cxOf CX0 P w K mg base N qual scope f cd A outer s H E).nox
section
variable {e a b c : Expr} {es : List Expr} {pos p pos' : Pos} {m ma mb mc : EM} {l : List EM} {x y : Str} {k : Nat} {N ps : List Str} {fm : SM}
theorem qF (Fa : FnAt X.prog X.w X.K X.mg X.base cls k x N ps fm) (hr : Room k X.A) (ha : QL X cls (e :: es) l) (hl : l.length = ps.length := by rfl) (hn : Nat.ble ps.length N.length = true := by rfl) (hg : Gl X x := by rfl) (hdb : (x == ("__debug__" : Str)) = false := by decide)
    (he : starEach (e :: es) X.env = (false, eval e X.env) :: starEach es X.env := by rfl) (hpl : (backTo pos (starEach es X.env)).any (·.1) = false := by rfl) : QE X cls (.Call (.Name x p) (e :: es) [] pos) (mCall N.length fm l) := by
  obtain ⟨f, fd, G, hm, hk, hb⟩ := Fa.ex
  exact s_call G hr hg hm hk hb ha hl (Nat.le_of_ble_eq_true hn) hdb he hpl
theorem qFM (i : Nat) (Fa : FnAt X.prog X.w X.K X.mg X.base cls k x N ps fm) (hr : Room k X.A) (ha : QL X cls es l) (hl : l.length + 1 = ps.length := by rfl) (hn : Nat.ble ps.length N.length = true := by rfl) (hasg : fm.asg.contains 0 = false := by rfl) (hro : (lRoots l).contains i = false := by rfl) (hg : Gl X x := by rfl)
    (hN : X.N[i]? = some y := by rfl) (hv : Vis X.env.scope y := by first | exact Or.inl rfl | exact Or.inr (Or.inl rfl) | exact Or.inr (Or.inr rfl)) (hy : (y == ("__debug__" : Str)) = false := by decide) (hcd : (y == ("__classdict__" : Str)) = false := by decide)
    (hdb : (x == ("__debug__" : Str)) = false := by decide) (he : starEach (.Name y pos' :: es) X.env = (false, eval (.Name y pos') X.env) :: starEach es X.env := by rfl) (hpl : (backTo pos (starEach es X.env)).any (·.1) = false := by rfl) :
    QE X cls (.Call (.Name x p) (.Name y pos' :: es) [] pos) (mCallM N.length fm i l) := by
  obtain ⟨f, fd, G, hm, hk, hb⟩ := Fa.ex
  exact s_callM G hr hg hm hk hb ha hl (Nat.le_of_ble_eq_true hn) hasg hro hN hv hy hcd hdb he hpl
theorem qIsi (t : Ty) (he : QE X cls e m) (hm : X.mg x = none) (hm2 : X.mg y = none) (hg : Gl X x := by rfl) (hv : bootBuiltins x = some (.builtin "isinstance") := by decide +kernel) (hn : x ≠ "__name__" := by decide) (hdb : (x == ("__debug__" : Str)) = false := by decide)
    (hg2 : Gl X y := by rfl) (hv2 : bootBuiltins y = some (.type t.name) := by decide +kernel) (hn2 : y ≠ "__name__" := by decide) (hdb2 : (y == ("__debug__" : Str)) = false := by decide) (hs : starEach [e, .Name y pos'] X.env = (false, eval e X.env) :: starEach [.Name y pos'] X.env := by rfl) (hpl : (backTo pos (starEach [.Name y pos'] X.env)).any (·.1) = false := by rfl) :
    QE X cls (.Call (.Name x p) [e, .Name y pos'] [] pos) (m1 (dIsi t) m) := s_isi he hg hm hv hn hdb hg2 hm2 hv2 hn2 hdb2 hs hpl
/-! statements -/
theorem sSet (i : Nat) (he : QE X cls e m) (hN : X.N.Nodup := by decide) (hi : X.N[i]? = some x := by rfl) (hx : Loc X.env.scope x := by first | exact Or.inl rfl | exact Or.inr rfl) (hs : swapsWith e (some (.Name x pos')) pos.line X.env = pure false := by rfl) (hf : X.fn x = true ∨ X.env.scope.names.lookup x = some .local := by first | exact .inl rfl | exact .inr rfl) : QS X cls (.Assign [.Name x pos'] e pos) (mSet i m) := ss_set hN hi hx he hs hf
theorem sAug (i : Nat) {o : Operator} {op : D → D → Option D} (ho : OpR X (inplaceOp o) (rD2 X.K cls op)) (he : QE X cls e m) (hN : X.N.Nodup := by decide) (hi : X.N[i]? = some x := by rfl) (hx : Loc X.env.scope x := by first | exact Or.inl rfl | exact Or.inr rfl) (hf : X.fn x = true ∨ X.env.scope.names.lookup x = some .local := by first | exact .inl rfl | exact .inr rfl) : QS X cls (.AugAssign (.Name x pos') o e pos) (mAug i op m) := ss_aug hN hi hx he ho hf
theorem sExpr (he : QE X cls e m) (hs : swapsWith e none pos.line X.env = pure false := by rfl) : QS X cls (.Expr e pos) (mDrop m) := ss_expr he hs
theorem sRet (he : QE X cls e m) (ho : m.own = true := by rfl) : QS X cls (.Return (some e) pos) (mRet m) := ss_ret he ho
theorem gOne (i : Nat) (hN : X.N.Nodup := by decide) (hi : X.N[i]? = some x := by rfl) (hx : Loc X.env.scope x := by first | exact Or.inl rfl | exact Or.inr rfl) (hf : X.fn x = true ∨ X.env.scope.names.lookup x = some .local := by first | exact .inl rfl | exact .inr rfl) : PG X (.Name x pos) (gTg X.K (.one i)) := pg_name hN hi hx hf
theorem gsCons {is : List Nat} (i : Nat) (h2 : PGs X es (gAll is)) (hN : X.N.Nodup := by decide) (hi : X.N[i]? = some x := by rfl) (hx : Loc X.env.scope x := by first | exact Or.inl rfl | exact Or.inr rfl) (hf : X.fn x = true ∨ X.env.scope.names.lookup x = some .local := by first | exact .inl rfl | exact .inr rfl)
    (hs : (assignEach (.Name x pos :: es) X.env).map (·.2) = assign (.Name x pos) X.env :: (assignEach es X.env).map (·.2) := by rfl) : PGs X (.Name x pos :: es) (gAll (i :: is)) := gs_cons hN hi hx hf h2 hs
theorem gTupl {is : List Nat} {j : Nat} (h : PGs X es (gAll is)) (hc : X.calm = true := by rfl) (hn : (assignEach es X.env).length = is.length := by rfl) (hst : (assignEach es X.env).findIdx? (·.1) = none := by rfl) : PG X (.Tuple es j pos) (gTg X.K (.tup is)) := pg_tup hc h hn hst
end
end Bv
end

section
/-! Methods as the printed proofs use them. -/
namespace Bv
open PySem PySem.Spec PyProof.Rows L2
variable {cls : Nat → Addr} {X : Cx}
section
variable {o e a b c : Expr} {es : List Expr} {pos p apos cpos : Pos} {m ma mb mc : EM} {l : List EM} {lo : List (Bool × EM)} {x y : Str} {T id : String} {name : Str}
theorem qPm {op : List D → Option D} (hm : MtR X id (rDm X.K cls op)) (pa : PlainAttrs T) (slot : Slot T name id) (hty : typeOf (.builtin id) = pure (.type "method_descriptor")) (ho : QE X cls o ma) (ha : QL X cls (e :: es) l) (hT : T ≠ "dict" := by decide) (ap : apartM ma l = true := by rfl)
    (hbase : attributeBase o name X.env (eval o X.env) = eval o X.env := by rfl)
    (hfew : ((backTo cpos (starEach (e :: es) X.env)).all (fun x => !x.1) && (backToKw cpos (keywordEach [] X.env)).all (fun x => x.1.isSome)
      && decide ((e :: es).length + ([] : List Keyword).length + (if ([] : List Keyword).isEmpty then 0 else 1) < 30)) = true := by rfl)
    (hline : (apos.endLine == cpos.line) = true := by rfl) (hs : starEach (e :: es) X.env = (false, eval e X.env) :: starEach es X.env := by rfl) (hplain : (backTo cpos (starEach es X.env)).any (·.1) = false := by rfl) :
    QE X cls (.Call (.Attribute o name apos) (e :: es) [] cpos) (mPm T op ma l) :=
  PE.imp (pe_bm pa slot hty hm ho ha hbase hfew hline hs hplain) fun σ H Q h => impPm ap hT h
theorem qStarts (ho : QE X cls o ma) (ha : QL X cls (e :: es) l) (ap : apartM ma l = true := by rfl) (hbase : attributeBase o "startswith" X.env (eval o X.env) = eval o X.env := by rfl)
    (hfew : ((backTo cpos (starEach (e :: es) X.env)).all (fun x => !x.1) && (backToKw cpos (keywordEach [] X.env)).all (fun x => x.1.isSome)
      && decide ((e :: es).length + ([] : List Keyword).length + (if ([] : List Keyword).isEmpty then 0 else 1) < 30)) = true := by rfl)
    (hline : (apos.endLine == cpos.line) = true := by rfl) (hs : starEach (e :: es) X.env = (false, eval e X.env) :: starEach es X.env := by rfl) (hplain : (backTo cpos (starEach es X.env)).any (·.1) = false := by rfl) :
    QE X cls (.Call (.Attribute o "startswith" apos) (e :: es) [] cpos) (mPm "str" dStarts ma l) := qPm m_starts F.plainAttrs_str F.slot_str_startswith F.type_str_startswith ho ha (by decide) ap hbase hfew hline hs hplain
theorem qEnds (ho : QE X cls o ma) (ha : QL X cls (e :: es) l) (ap : apartM ma l = true := by rfl) (hbase : attributeBase o "endswith" X.env (eval o X.env) = eval o X.env := by rfl)
    (hfew : ((backTo cpos (starEach (e :: es) X.env)).all (fun x => !x.1) && (backToKw cpos (keywordEach [] X.env)).all (fun x => x.1.isSome)
      && decide ((e :: es).length + ([] : List Keyword).length + (if ([] : List Keyword).isEmpty then 0 else 1) < 30)) = true := by rfl)
    (hline : (apos.endLine == cpos.line) = true := by rfl) (hs : starEach (e :: es) X.env = (false, eval e X.env) :: starEach es X.env := by rfl) (hplain : (backTo cpos (starEach es X.env)).any (·.1) = false := by rfl) :
    QE X cls (.Call (.Attribute o "endswith" apos) (e :: es) [] cpos) (mPm "str" dEnds ma l) := qPm m_ends F.plainAttrs_str F.slot_str_endswith F.type_str_endswith ho ha (by decide) ap hbase hfew hline hs hplain
theorem qJoin (ho : QE X cls o ma) (ha : QL X cls (e :: es) l) (ap : apartM ma l = true := by rfl) (hbase : attributeBase o "join" X.env (eval o X.env) = eval o X.env := by rfl)
    (hfew : ((backTo cpos (starEach (e :: es) X.env)).all (fun x => !x.1) && (backToKw cpos (keywordEach [] X.env)).all (fun x => x.1.isSome)
      && decide ((e :: es).length + ([] : List Keyword).length + (if ([] : List Keyword).isEmpty then 0 else 1) < 30)) = true := by rfl)
    (hline : (apos.endLine == cpos.line) = true := by rfl) (hs : starEach (e :: es) X.env = (false, eval e X.env) :: starEach es X.env := by rfl) (hplain : (backTo cpos (starEach es X.env)).any (·.1) = false := by rfl) :
    QE X cls (.Call (.Attribute o "join" apos) (e :: es) [] cpos) (mPm "str" dJoin ma l) := qPm m_join F.plainAttrs_str F.slot_str_join F.type_str_join ho ha (by decide) ap hbase hfew hline hs hplain
theorem qMut (i : Nat) {op : D → List D → Option (D × D)} (hm : MtR X id (rMut X.K cls op)) (pa : PlainAttrs T) (slot : Slot T name id) (hty : typeOf (.builtin id) = pure (.type "method_descriptor")) (ha : QO X cls (e :: es) lo) (ni : (aMuts lo).contains i = false := by rfl)
    (hN : X.N[i]? = some y := by rfl) (hv : Vis X.env.scope y := by first | exact Or.inl rfl | exact Or.inr (Or.inl rfl) | exact Or.inr (Or.inr rfl)) (hy : (y == ("__debug__" : Str)) = false := by decide) (hcd : (y == ("__classdict__" : Str)) = false := by decide)
    (hbase : attributeBase (.Name y p) name X.env (eval (.Name y p) X.env) = eval (.Name y p) X.env := by rfl)
    (hfew : ((backTo cpos (starEach (e :: es) X.env)).all (fun x => !x.1) && (backToKw cpos (keywordEach [] X.env)).all (fun x => x.1.isSome)
      && decide ((e :: es).length + ([] : List Keyword).length + (if ([] : List Keyword).isEmpty then 0 else 1) < 30)) = true := by rfl)
    (hline : (apos.endLine == cpos.line) = true := by rfl) (hs : starEach (e :: es) X.env = (false, eval e X.env) :: starEach es X.env := by rfl) (hplain : (backTo cpos (starEach es X.env)).any (·.1) = false := by rfl) :
    QE X cls (.Call (.Attribute (.Name y p) name apos) (e :: es) [] cpos) (mMut T i op lo) :=
  PE.imp (pe_bm pa slot hty hm (pe_var hN hv hy hcd) ha hbase hfew hline hs hplain) fun σ H Q h => mut_run ni h
theorem qPop0 (i : Nat) (hN : X.N[i]? = some y := by rfl) (hv : Vis X.env.scope y := by first | exact Or.inl rfl | exact Or.inr (Or.inl rfl) | exact Or.inr (Or.inr rfl)) (hy : (y == ("__debug__" : Str)) = false := by decide) (hcd : (y == ("__classdict__" : Str)) = false := by decide)
    (hbase : attributeBase (.Name y p) "pop" X.env (eval (.Name y p) X.env) = eval (.Name y p) X.env := by rfl) (hline : (apos.endLine == cpos.line) = true := by rfl) : QE X cls (.Call (.Attribute (.Name y p) "pop" apos) [] [] cpos) (mMut "list" i mtPop []) :=
  PE.imp (pe_bm0 F.plainAttrs_list F.slot_list_pop F.type_list_pop m_pop (pe_var hN hv hy hcd) hbase hline) fun σ H Q h => mut_run0 h
end
end Bv
end

section
namespace Bv
open PySem PySem.Spec PyProof.Rows L2
variable {cls : Nat → Addr} {X : Cx}
section
variable {x : Str} {pos : Pos}
theorem qGlobI {v : Int} (h : ∃ t, X.mg x = some (.int v t)) (hg : Gl X x := by rfl) (hd : (x == ("__debug__" : Str)) = false := by decide) : QE X cls (.Name x pos) (mLit (.int v)) := by
  obtain ⟨t, h⟩ := h
  exact s_glob (v := .int v) hg h ⟨t, rfl⟩ (fun H => rInt) hd
theorem qGlobS (l : List Nat) {v : Str} (h : ∃ t, X.mg x = some (.str v t)) (e : v.cps.toList = l := by decide +kernel) (hl : Nat.ble l.length lineN = true := by rfl) (hg : Gl X x := by rfl) (hd : (x == ("__debug__" : Str)) = false := by decide) : QE X cls (.Name x pos) (mLit (.str l)) := by
  obtain ⟨t, h⟩ := h
  subst e
  exact s_glob (v := .str v) hg h ⟨t, rfl⟩ (fun H => rStr (x := v.cps.toList) (by rw [← lineN_eq]; exact Nat.le_of_ble_eq_true hl)) hd
end
theorem bl_dEq : ∀ x y z, dEq x y = some z → ∃ k, z = .bl k := fun x y z h => by
  unfold dEq at h
  repeat' split at h
  all_goals first | (cases h; exact ⟨_, rfl⟩) | (cases h) | (obtain ⟨k, _, rfl⟩ := Option.map_eq_some_iff.mp h; exact ⟨_, rfl⟩)
theorem bl_dNe : ∀ x y z, dNe x y = some z → ∃ k, z = .bl k := fun x y z h => by
  unfold dNe at h
  repeat' split at h
  all_goals first | (cases h; exact ⟨_, rfl⟩) | (cases h) | (obtain ⟨k, _, rfl⟩ := Option.map_eq_some_iff.mp h; exact ⟨_, rfl⟩)
theorem bl_dLt : ∀ x y z, dLt x y = some z → ∃ k, z = .bl k := fun x y z h => by
  unfold dLt at h
  repeat' split at h
  all_goals first | (cases h; exact ⟨_, rfl⟩) | (cases h) | (obtain ⟨k, _, rfl⟩ := Option.map_eq_some_iff.mp h; exact ⟨_, rfl⟩)
theorem bl_dGt : ∀ x y z, dGt x y = some z → ∃ k, z = .bl k := fun x y z h => by
  unfold dGt at h
  repeat' split at h
  all_goals first | (cases h; exact ⟨_, rfl⟩) | (cases h) | (obtain ⟨k, _, rfl⟩ := Option.map_eq_some_iff.mp h; exact ⟨_, rfl⟩)
theorem bl_dLe : ∀ x y z, dLe x y = some z → ∃ k, z = .bl k := fun x y z h => by
  unfold dLe at h
  repeat' split at h
  all_goals first | (cases h; exact ⟨_, rfl⟩) | (cases h) | (obtain ⟨k, _, rfl⟩ := Option.map_eq_some_iff.mp h; exact ⟨_, rfl⟩)
theorem bl_dGe : ∀ x y z, dGe x y = some z → ∃ k, z = .bl k := fun x y z h => by
  unfold dGe at h
  repeat' split at h
  all_goals first | (cases h; exact ⟨_, rfl⟩) | (cases h) | (obtain ⟨k, _, rfl⟩ := Option.map_eq_some_iff.mp h; exact ⟨_, rfl⟩)
theorem bl_dIs : ∀ x y z, dIs x y = some z → ∃ k, z = .bl k := fun x y z h => by
  unfold dIs at h
  repeat' split at h
  all_goals first | (cases h; exact ⟨_, rfl⟩) | (cases h) | (obtain ⟨k, _, rfl⟩ := Option.map_eq_some_iff.mp h; exact ⟨_, rfl⟩)
theorem bl_dIsNot : ∀ x y z, dIsNot x y = some z → ∃ k, z = .bl k := fun x y z h => by
  unfold dIsNot at h
  repeat' split at h
  all_goals first | (cases h; exact ⟨_, rfl⟩) | (cases h) | (obtain ⟨k, _, rfl⟩ := Option.map_eq_some_iff.mp h; exact ⟨_, rfl⟩)
theorem bl_dIn : ∀ x y z, dIn x y = some z → ∃ k, z = .bl k := fun x y z h => by
  unfold dIn at h
  repeat' split at h
  all_goals first | (cases h; exact ⟨_, rfl⟩) | (cases h) | (obtain ⟨k, _, rfl⟩ := Option.map_eq_some_iff.mp h; exact ⟨_, rfl⟩)
theorem bl_dNotIn : ∀ x y z, dNotIn x y = some z → ∃ k, z = .bl k := fun x y z h => by
  unfold dNotIn at h
  repeat' split at h
  all_goals first | (cases h; exact ⟨_, rfl⟩) | (cases h) | (obtain ⟨k, _, rfl⟩ := Option.map_eq_some_iff.mp h; exact ⟨_, rfl⟩)
end Bv
end

section
/-! A law's start: draw = [script[:63], 0, 0]; its promise. -/
namespace Bv
open PySem PySem.Spec PyProof.Rows L2
variable {K : PySem.W.Frag} {cls : Nat → Addr} {X : Cx}
def tInit (K : PySem.W.Frag) : TE := tLst (tCons (tSl (rSlL K) (tVar 0) tNoPart (tPart (tC (.int 63)))) (tCons (tC (.int 0)) (tCons (tC (.int 0)) tNil)))
theorem pe_init {x : Str} {px p1 p2 c1 c2 c3 pL : Pos} {j1 j2 j3} (hN : X.N[0]? = some x := by rfl) (hv : Vis X.env.scope x := by first | exact Or.inl rfl | exact Or.inr (Or.inl rfl) | exact Or.inr (Or.inr rfl)) (hd : (x == ("__debug__" : Str)) = false := by decide) (hcd : (x == ("__classdict__" : Str)) = false := by decide) :
    PE X (.List [.Subscript (.Name x px) (.Slice none (some (.Constant (.int 63) j1 c1)) none p2) p1, .Constant (.int 0) j2 c2, .Constant (.int 0) j3 c3] pL) (tInit X.K) :=
  pe_lst (pa_cons (pe_slice sl_list (pe_var hN hv hd hcd) po_none (po_some pe_int)) (pa_cons pe_int (pa_cons pe_int pa_nil)))
def drawD (ns : List Int) : D := .lst [.lst (ns.map D.int), .int 0, .int 0]
def spLaw (K : PySem.W.Frag) : Sp := fun vs H Q _ => ∃ (a : Addr) (ns : List Int), vs = [.ref a] ∧ SqL K H a (ns.map V.int) ∧ ns.length ≤ 63 ∧ ∀ H', Q (.bl true) H'
def lawS (n : Nat) (ns : List Int) : List Sl := .dead :: .own (drawD ns) :: List.replicate n .dead
theorem ints_reps {H : Hp} : ∀ ns : List Int, Reps K cls H (ns.map D.int) (ns.map V.int) []
  | [] => Reps.nil
  | n :: r => by
    have := (rInt (K := K) (cls := cls) (H := H) (i := n)).consR (ints_reps r)
    exact this
theorem cut63 {xs : List V} (h : xs.length ≤ 63) : cutV xs none (some 63) = xs := by
  unfold cutV
  have e1 : HT.sIx xs.length 0 none = 0 := rfl
  have e2 : HT.sIx xs.length xs.length (some 63) = xs.length := by
    have := HT.sIx_nat xs.length xs.length 63
    rw [show ((63 : Nat) : Int) = 63 from rfl] at this
    rw [this]
    omega
  rw [e1, e2, List.drop_zero, Nat.sub_zero, List.take_length]
theorem law_run {N : List Str} {m : SM} {vs : List V} {H : Hp} {Q : VK} {E : XK} {n : Nat} (hn : N.length = n + 2) (hm : ∀ ns : List Int, ns.length ≤ 63 → ∃ S', m.run (lawS n ns) = .rt (.bl true) S') (h : spLaw K vs H Q E) :
    tSeq (tAsg (tInit K) (gName 1)) (tS K cls m) { nx := fun _ H' => Q .non H', rt := Q } (L2.start N vs) H := by
  obtain ⟨a, ns, rfl, hS, hl, hQ⟩ := h
  have st : L2.start N [V.ref a] = some (.ref a) :: none :: List.replicate n none := by
    unfold L2.start
    rw [hn, show n + 2 - [V.ref a].length = n + 1 from rfl, List.replicate_succ]
    rfl
  rw [st]
  refine ⟨_, rfl, _, rfl, a, ns.map V.int, rfl, hS, fun p2 hp2 => ?_⟩
  rw [cut63 (by rw [List.length_map]; exact hl)]
  refine ⟨by show 3 ≤ sizeLine; decide, fun p1 hp1 => ?_⟩
  have ne : p1 ≠ p2 := fun e => by rw [e, upd_same] at hp1; cases hp1
  obtain ⟨S', e⟩ := hm ns hl
  generalize hHf : upd (upd H p2 (.lst (ns.map V.int))) p1 (.lst [.ref p2, .int 0, .int 0]) = Hf
  have e1 : Hf p1 = some (.lst [.ref p2, .int 0, .int 0]) := by rw [← hHf]; exact upd_same
  have e2 : Hf p2 = some (.lst (ns.map V.int)) := by rw [← hHf, upd_ne (fun z => ne z.symm), upd_same]
  have rep : Rep K cls Hf (drawD ns) (.ref p1) [p1, p2] := by
    refine rLst e1 ?_
    have := (rLst e2 (ints_reps (cls := cls) ns)).consR ((rInt (K := K) (cls := cls) (H := Hf) (i := 0)).consR ((rInt (K := K) (cls := cls) (H := Hf) (i := 0)).consR Reps.nil))
    exact this
  show tS K cls m { nx := fun _ H' => Q .non H', rt := Q } (some (.ref a) :: some (.ref p1) :: List.replicate n none) Hf
  have fl : ([] :: [p1, p2] :: List.replicate n ([] : List Addr)).flatten = [p1, p2] := by rw [List.flatten_cons, List.flatten_cons, rep_flat]; rfl
  refine ⟨lawS n ns, [] :: [p1, p2] :: List.replicate n [], fun _ => False, ⟨by simp [lawS], by simp [lawS], fun i d q => ?_, fun i d q => ?_, fun b mb => ?_, ?_, fun b _ z => z, fun b z => z.elim⟩, ?_⟩
  · match i, q with
    | 0, q => simp [lawS] at q
    | 1, q =>
      have q : drawD ns = d := by simpa [lawS] using q
      subst q
      exact ⟨_, _, rfl, rfl, rep⟩
    | i + 2, q =>
      simp only [lawS, List.getElem?_cons_succ] at q
      rw [List.getElem?_replicate] at q
      split at q <;> cases q
  · match i, q with
    | 0, q => simp [lawS] at q
    | 1, q => simp [lawS] at q
    | i + 2, q =>
      simp only [lawS, List.getElem?_cons_succ] at q
      rw [List.getElem?_replicate] at q
      split at q <;> cases q
  · rw [fl] at mb
    rcases List.mem_cons.mp mb with rfl | mb
    · rw [e1]; trivial
    · have : b = p2 := by simpa using mb
      rw [this, e2]; trivial
  · rw [fl]
    exact List.nodup_cons.mpr ⟨by simpa using ne, by simp⟩
  · rw [e]
    intro v σ' H' Fs' F r' st' _ hd og
    have := rBl' hd.rep
    subst this
    exact hQ H'
end Bv
end

section
/-! Reckoning with meanings: what each construct does, as rewriting rules. -/
namespace Bv
open PySem PySem.Spec PyProof.Rows L2
variable {α β : Type}
@[simp] theorem blt_dec (a b : Nat) : Nat.blt a b = decide (a < b) := by
  by_cases h : a < b
  · rw [decide_eq_true h, Nat.blt_eq]; exact h
  · rw [decide_eq_false h, ← Bool.not_eq_true, Nat.blt_eq]; exact h
@[simp] theorem ble_dec (a b : Nat) : Nat.ble a b = decide (a ≤ b) := by
  by_cases h : a ≤ b
  · rw [decide_eq_true h, Nat.ble_eq]; exact h
  · rw [decide_eq_false h, ← Bool.not_eq_true, Nat.ble_eq]; exact h
@[simp] theorem beq_dec (a b : Nat) : Nat.beq a b = decide (a = b) := by
  by_cases h : a = b
  · rw [decide_eq_true h, Nat.beq_eq]; exact h
  · rw [decide_eq_false h, ← Bool.not_eq_true, Nat.beq_eq]; exact h
theorem lineN_val : lineN = 16777216 := (rfl)
def bR (r : R α) (k : α → List Sl → R β) : R β := match r with
  | .ok x s => k x s
  | .exc c d s => .exc c d s
  | .stuck => .stuck
def oR (o : Option α) (s : List Sl) : R α := match o with
  | some x => .ok x s
  | none => .stuck
def vR (o : Option Sl) (s : List Sl) : R D := match o with
  | some (.own d) => .ok d s
  | some (.ro d) => .ok d s
  | _ => .stuck
@[simp] theorem bR_ok (x : α) (s : List Sl) (k : α → List Sl → R β) : bR (.ok x s) k = k x s := (rfl)
@[simp] theorem bR_stuck (k : α → List Sl → R β) : bR .stuck k = .stuck := (rfl)
@[simp] theorem oR_some (x : α) (s : List Sl) : oR (some x) s = .ok x s := (rfl)
@[simp] theorem oR_none (s : List Sl) : oR (none : Option α) s = .stuck := (rfl)
@[simp] theorem vR_own (d : D) (s : List Sl) : vR (some (.own d)) s = .ok d s := (rfl)
@[simp] theorem vR_ro (d : D) (s : List Sl) : vR (some (.ro d)) s = .ok d s := (rfl)
/-- by a truth value -/
def tR (o : Option Bool) (a b : α) (z : α) : α := match o with
  | some true => a
  | some false => b
  | none => z
@[simp] theorem tR_true (a b z : α) : tR (some true) a b z = a := (rfl)
@[simp] theorem tR_false (a b z : α) : tR (some false) a b z = b := (rfl)
@[simp] theorem truth_bl (b : Bool) : truth (.bl b) = some b := (rfl)
@[simp] theorem truth_non : truth .non = some false := (rfl)
@[simp] theorem truth_int (i : Int) : truth (.int i) = some (i != 0) := (rfl)
@[simp] theorem truth_str (x : List Nat) : truth (.str x) = some (!x.isEmpty) := (rfl)
theorem append_lst (xs : List D) (d : D) (h : xs.length < 16777216) : mtAppend (.lst xs) [d] = some (.non, .lst (xs ++ [d])) := by
  show (if Nat.blt xs.length lineN then some (D.non, D.lst (xs ++ [d])) else none) = _
  rw [lineN_val, blt_dec, if_pos (by simpa using h)]
def gR (b : Bool) (a z : α) : α := if b then a else z
@[simp] theorem gR_true (a z : α) : gR true a z = a := (rfl)
@[simp] theorem gR_false (a z : α) : gR false a z = z := (rfl)
/-- what a call gives -/
def rv (r : RS) : Option D := match rsD r with
  | some (d, _) => some d
  | none => none
@[simp] theorem rv_rt (d : D) (s : List Sl) : rv (.rt d s) = some d := (rfl)
@[simp] theorem rv_nx (s : List Sl) : rv (.nx s) = some .non := (rfl)
theorem rv_some {r : RS} {d : D} (h : rv r = some d) : ∃ s, rsD r = some (d, s) := by
  unfold rv at h
  split at h
  · rename_i d' s e
    cases h
    exact ⟨s, e⟩
  · cases h

/-! expressions -/
section
variable (a b c : EM) (s : List Sl) (i : Nat) (d : D)
@[simp] theorem run_lit : (mLit d).run s = .ok d s := (rfl)
@[simp] theorem run_dnew : mDNew.run s = .ok (.dct []) s := (rfl)
theorem run_var : (mVar i).run s = vR s[i]? s := (rfl)
@[simp] theorem run_cp : (mCp a).run s = bR (a.run s) fun x t => gR (im x) (.ok x t) .stuck := by
  show eCp a.run s = _
  unfold eCp bR gR
  cases a.run s <;> first | rfl | (dsimp only; split <;> first | rfl | simp_all)
def mvR (o : Option Sl) (s s' : List Sl) : R D := match o with
  | some (.own d) => if im d then .ok d s else .ok d s'
  | some (.ro d) => if im d then .ok d s else .stuck
  | _ => .stuck
@[simp] theorem mvR_own : mvR (some (.own d)) s t = if im d then .ok d s else .ok d t := (rfl)
@[simp] theorem mvR_ro : mvR (some (.ro d)) s t = if im d then .ok d s else .stuck := (rfl)
theorem run_mv : (mMv i).run s = mvR s[i]? s (s.set i .dead) := (rfl)
@[simp] theorem run_m1 (op : D → Option D) : (m1 op a).run s = bR (a.run s) fun x t => oR (op x) t := by
  show e1 op a.run s = _
  unfold e1 bR oR
  cases a.run s with
  | ok x t => dsimp only; cases op x <;> first | rfl | (dsimp only; split <;> first | rfl | simp_all)
  | _ => rfl
@[simp] theorem run_m2 (op : D → D → Option D) : (m2 op a b).run s = bR (a.run s) fun x t => bR (b.run t) fun y u => oR (op x y) u := by
  show e2 op a.run b.run s = _
  unfold e2 bR oR
  cases a.run s with
  | ok x t =>
    dsimp only
    cases b.run t with
    | ok y u => dsimp only; cases op x y <;> first | rfl | (dsimp only; split <;> first | rfl | simp_all)
    | _ => rfl
  | _ => rfl
def cR (o : Option D) (k : R D) (s : List Sl) : R D := match o with
  | some (.bl true) => k
  | some (.bl false) => .ok (.bl false) s
  | _ => .stuck
@[simp] theorem cR_true (k : R D) : cR (some (.bl true)) k s = k := (rfl)
@[simp] theorem cR_false (k : R D) : cR (some (.bl false)) k s = .ok (.bl false) s := (rfl)
def kR (o : Option D) (s : List Sl) : R D := match o with
  | some (.bl k) => .ok (.bl k) s
  | _ => .stuck
@[simp] theorem kR_some (k : Bool) : kR (some (.bl k)) s = .ok (.bl k) s := (rfl)
@[simp] theorem run_chain (f g : D → D → Option D) : (mChain f g a b c).run s = bR (a.run s) fun x t => bR (b.run t) fun y u => cR (f x y) (bR (c.run u) fun z w => kR (g y z) w) u := by
  show eChain f g a.run b.run c.run s = _
  unfold eChain bR cR kR
  cases a.run s with
  | ok x t =>
    dsimp only
    cases b.run t with
    | ok y u =>
      dsimp only
      cases f x y with
      | none => rfl
      | some z =>
        cases z with
        | bl k =>
          cases k
          · rfl
          · dsimp only
            cases c.run u with
            | ok z w => first | rfl | (dsimp only; rcases g y z with _ | q <;> first | rfl | (cases q <;> rfl))
            | _ => rfl
        | _ => rfl
    | _ => rfl
  | _ => rfl
def bK (d : D) (t f z : R D) : R D := match d with
  | .bl true => t
  | .bl false => f
  | _ => z
@[simp] theorem bK_true (t f z : R D) : bK (.bl true) t f z = t := (rfl)
@[simp] theorem bK_false (t f z : R D) : bK (.bl false) t f z = f := (rfl)
@[simp] theorem run_and : (mAnd a b).run s = bR (a.run s) fun x t => bK x (b.run t) (.ok (.bl false) t) .stuck := by
  show eAnd a.run b.run s = _
  unfold eAnd bR bK
  cases a.run s with
  | ok x t => cases x <;> first | rfl | (rename_i k; cases k <;> first | rfl | (dsimp only; split <;> first | rfl | simp_all))
  | _ => rfl
@[simp] theorem run_or : (mOr a b).run s = bR (a.run s) fun x t => bK x (.ok (.bl true) t) (b.run t) .stuck := by
  show eOr a.run b.run s = _
  unfold eOr bR bK
  cases a.run s with
  | ok x t => cases x <;> first | rfl | (rename_i k; cases k <;> first | rfl | (dsimp only; split <;> first | rfl | simp_all))
  | _ => rfl
@[simp] theorem run_if : (mIf c a b).run s = bR (c.run s) fun x t => tR (truth x) (a.run t) (b.run t) .stuck := by
  show eIf c.run a.run b.run s = _
  unfold eIf bR tR
  cases c.run s with
  | ok x t => first | rfl | (dsimp only; rcases truth x with _ | k <;> first | rfl | (cases k <;> rfl))
  | _ => rfl
@[simp] theorem eargs_nil : eArgs [] s = .ok [] s := (rfl)
@[simp] theorem eargs_cons (r : List (Bool × EM)) : eArgs ((false, a) :: r) s = bR (a.run s) fun x t => bR (eArgs r t) fun xs u => .ok (x :: xs) u := by
  rw [eArgs]
  unfold bR
  cases a.run s with
  | ok x t => dsimp only; cases eArgs r t <;> first | rfl | (dsimp only; split <;> first | rfl | simp_all)
  | _ => rfl
@[simp] theorem eargs_star (r : List (Bool × EM)) : eArgs ((true, a) :: r) s = bR (a.run s) fun x t => bR (oR (itemsD x) t) fun ys _ => bR (eArgs r t) fun xs u => .ok (ys ++ xs) u := by
  rw [eArgs]
  unfold bR oR
  cases a.run s with
  | ok x t =>
    dsimp only
    cases itemsD x with
    | none => rfl
    | some ys => dsimp only; cases eArgs r t <;> first | rfl | (dsimp only; split <;> first | rfl | simp_all)
  | _ => rfl
@[simp] theorem run_tup (l : List (Bool × EM)) : (mTup l).run s = bR (eArgs l s) fun xs t => gR (Nat.ble xs.length lineN) (.ok (.tup xs) t) .stuck := by
  show eTup l s = _
  unfold eTup bR gR
  cases eArgs l s <;> first | rfl | (dsimp only; split <;> first | rfl | simp_all)
@[simp] theorem run_lst (l : List (Bool × EM)) : (mLst l).run s = bR (eArgs l s) fun xs t => gR (Nat.ble xs.length lineN) (.ok (.lst xs) t) .stuck := by
  show eLst l s = _
  unfold eLst bR gR
  cases eArgs l s <;> first | rfl | (dsimp only; split <;> first | rfl | simp_all)
@[simp] theorem run_idx : (mIdx a b).run s = bR (a.run s) fun x t => bR (b.run t) fun y u => oR (dIdx x y) u := run_m2 a b s dIdx
@[simp] theorem run_get1 : (mGet1 a b).run s = bR (a.run s) fun x t => bR (b.run t) fun y u => oR (dGet1 x y) u := run_m2 a b s dGet1
def iR (d : D) (s : List Sl) : R (Option Int) := match d with
  | .int i => .ok (some i) s
  | _ => .stuck
@[simp] theorem iR_int (i : Int) : iR (.int i) s = .ok (some i) s := (rfl)
@[simp] theorem opt_none : eOpt none s = .ok none s := (rfl)
@[simp] theorem opt_some : eOpt (some a) s = bR (a.run s) iR := by
  rw [eOpt]
  unfold bR iR
  cases a.run s with
  | ok x t => cases x <;> first | rfl | (dsimp only; split <;> first | rfl | simp_all)
  | _ => rfl
@[simp] theorem run_sl (lo hi : Option EM) : (mSl a lo hi).run s = bR (a.run s) fun x t => bR (eOpt lo t) fun l u => bR (eOpt hi u) fun h w => oR (dSl x l h) w := by
  show eSl a.run lo hi s = _
  unfold eSl bR oR
  cases a.run s with
  | ok x t =>
    dsimp only
    cases eOpt lo t with
    | ok l u =>
      dsimp only
      cases eOpt hi u with
      | ok h w => dsimp only; cases dSl x l h <;> rfl
      | _ => rfl
    | _ => rfl
  | _ => rfl
@[simp] theorem al_nil' : eAL [] s = .ok [] s := (rfl)
@[simp] theorem al_cons' (r : List EM) : eAL (a :: r) s = bR (a.run s) fun x t => bR (eAL r t) fun xs u => .ok (x :: xs) u := by
  rw [eAL]
  unfold bR
  cases a.run s with
  | ok x t => dsimp only; cases eAL r t <;> first | rfl | (dsimp only; split <;> first | rfl | simp_all)
  | _ => rfl
@[simp] theorem run_p (op : List D → Option D) (l : List EM) : (mP op l).run s = bR (eAL l s) fun xs t => oR (op xs) t := by
  show eP op l s = _
  unfold eP bR oR
  cases eAL l s <;> first | rfl | (dsimp only; split <;> first | rfl | simp_all)
@[simp] theorem run_pm (T : String) (op : List D → Option D) (l : List EM) : (mPm T op a l).run s = bR (a.run s) fun x t => gR (tyD T x) (bR (eAL l t) fun xs u => oR (op (x :: xs)) u) .stuck := by
  show ePm T op a.run l s = _
  unfold ePm bR gR oR
  cases a.run s with
  | ok x t =>
    dsimp only
    cases tyD T x with
    | false => rfl
    | true => rw [if_pos rfl, if_pos rfl]; cases eAL l t <;> first | rfl | (dsimp only; split <;> first | rfl | simp_all)
  | _ => rfl
@[simp] theorem run_call (n : Nat) (f : SM) (l : List EM) : (mCall n f l).run s = bR (eAL l s) fun xs t => oR (rv (f.run (ent n xs))) t := by
  show xCall n f l s = _
  unfold xCall bR oR rv
  cases eAL l s with
  | ok xs t =>
    dsimp only
    cases rsD (f.run (ent n xs)) with
    | none => rfl
    | some p => rfl
  | _ => rfl
/-- a call that changes its first argument -/
def cM (o : Option (D × D)) (i : Nat) (s : List Sl) : R D := match o with
  | some (d, x) => .ok d (s.set i (.own x))
  | none => .stuck
@[simp] theorem cM_some (x : D) : cM (some (d, x)) i s = .ok d (s.set i (.own x)) := (rfl)
def ownK (o : Option Sl) (k : D → R α) : R α := match o with
  | some (.own d) => k d
  | _ => .stuck
@[simp] theorem ownK_some (k : D → R α) : ownK (some (.own d)) k = k d := (rfl)
theorem run_callM (n : Nat) (f : SM) (l : List EM) : (mCallM n f i l).run s = ownK s[i]? fun _ => bR (eAL l s) fun xs t => ownK t[i]? fun x => cM (rsM (f.run (entM n x xs))) i t := by
  show xCallM n f i l s = _
  unfold xCallM
  unfold bR cM
  cases s[i]? with
  | none => rfl
  | some q =>
    cases q with
    | own d =>
      dsimp only
      rw [ownK_some]
      cases eAL l s with
      | ok xs t =>
        dsimp only
        cases t[i]? with
        | none => rfl
        | some q => cases q <;> first | rfl | (dsimp only; split <;> first | rfl | simp_all)
      | _ => rfl
    | _ => rfl
theorem run_mut (T : String) (op : D → List D → Option (D × D)) (l : List (Bool × EM)) : (mMut T i op l).run s = bR (oR (ownAt s i) s) fun c _ => gR (tyD T c) (bR (eArgs l s) fun ds t => cM (op c ds) i t) .stuck := by
  show eMut T i op l s = _
  unfold eMut bR oR gR cM
  cases ownAt s i with
  | none => rfl
  | some c =>
    dsimp only
    cases tyD T c with
    | false => rfl
    | true => rw [if_pos rfl, if_pos rfl]; cases eArgs l s <;> first | rfl | (dsimp only; split <;> first | rfl | simp_all)
@[simp] theorem pairs_nil : ePairs [] s = .ok [] s := (rfl)
@[simp] theorem pairs_cons (r : List (EM × EM)) : ePairs ((a, b) :: r) s = bR (a.run s) fun k t => bR (b.run t) fun v u => gR ((toKey k).isSome && im v) (bR (ePairs r u) fun ps w => .ok ((k, v) :: ps) w) .stuck := by
  rw [ePairs]
  unfold bR gR
  cases a.run s with
  | ok k t =>
    dsimp only
    cases b.run t with
    | ok v u =>
      dsimp only
      cases toKey k with
      | none => rfl
      | some z =>
        dsimp only [Option.isSome, Bool.true_and]
        cases im v with
        | false => rfl
        | true => simp only [if_true]; cases ePairs r u <;> rfl
    | _ => rfl
  | _ => rfl
@[simp] theorem run_disp (l : List (EM × EM)) : (mDisp l).run s = bR (ePairs l s) fun ps t => .ok (.dct (mergeD [] ps)) t := by
  show eDisp l s = _
  unfold eDisp bR
  cases ePairs l s <;> first | rfl | (dsimp only; split <;> first | rfl | simp_all)
def g2R (d k z : D) (s : List Sl) : R D := match d with
  | .dct kvs => if keyOk kvs k then .ok ((dget kvs k).getD z) s else .stuck
  | _ => .stuck
@[simp] theorem g2R_dct (kvs : List (D × D)) (k z : D) : g2R (.dct kvs) k z s = if keyOk kvs k then .ok ((dget kvs k).getD z) s else .stuck := (rfl)
theorem run_get2 : (mGet2 a b c).run s = bR (a.run s) fun x t => match x with
    | .dct kvs => bR (b.run t) fun k u => bR (c.run u) fun z w => g2R (.dct kvs) k z w
    | _ => .stuck := by
  show e3G a.run b.run c.run s = _
  unfold e3G bR g2R
  cases a.run s with
  | ok x t =>
    cases x with
    | dct kvs =>
      dsimp only
      cases b.run t with
      | ok k u => dsimp only; cases c.run u <;> first | rfl | (dsimp only; split <;> first | rfl | simp_all)
      | _ => rfl
    | _ => rfl
  | _ => rfl
end
/-! statements -/
section
variable (a : EM) (p q : SM) (s : List Sl) (i : Nat) (d : D)
def sR (r : RS) (k : List Sl → RS) : RS := match r with
  | .nx s => k s
  | r => r
@[simp] theorem sR_nx (k : List Sl → RS) : sR (.nx s) k = k s := (rfl)
@[simp] theorem sR_rt (k : List Sl → RS) : sR (.rt d s) k = .rt d s := (rfl)
@[simp] theorem sR_bk (k : List Sl → RS) : sR (.bk s) k = .bk s := (rfl)
@[simp] theorem sR_ct (k : List Sl → RS) : sR (.ct s) k = .ct s := (rfl)
def eR (r : R α) (k : α → List Sl → RS) : RS := match r with
  | .ok x s => k x s
  | .exc c d s => .exc c d s
  | .stuck => .stuck
@[simp] theorem eR_ok (x : α) (k : α → List Sl → RS) : eR (.ok x s) k = k x s := (rfl)
def pS (o : Option α) (k : α → RS) : RS := match o with
  | some x => k x
  | none => .stuck
@[simp] theorem pS_some (x : α) (k : α → RS) : pS (some x) k = k x := (rfl)
@[simp] theorem run_seq : (mSeq p q).run s = sR (p.run s) q.run := (rfl)
@[simp] theorem run_next : mNext.run s = .nx s := (rfl)
@[simp] theorem run_break : mBreak.run s = .bk s := (rfl)
@[simp] theorem run_cont : mCont.run s = .ct s := (rfl)
@[simp] theorem run_never : mNever.run s = .stuck := (rfl)
@[simp] theorem run_retN : mRetN.run s = .rt .non s := (rfl)
@[simp] theorem run_ret : (mRet a).run s = eR (a.run s) .rt := by
  show xRet a.run s = _
  unfold xRet eR
  cases a.run s <;> first | rfl | (dsimp only; split <;> first | rfl | simp_all)
@[simp] theorem run_drop : (mDrop a).run s = eR (a.run s) fun _ t => .nx t := by
  show xDrop a.run s = _
  unfold xDrop eR
  cases a.run s <;> first | rfl | (dsimp only; split <;> first | rfl | simp_all)
@[simp] theorem run_ifs : (mIfS a p q).run s = eR (a.run s) fun x t => tR (truth x) (p.run t) (q.run t) .stuck := by
  show xIf a.run p.run q.run s = _
  unfold xIf eR tR
  cases a.run s with
  | ok x t => first | rfl | (dsimp only; rcases truth x with _ | k <;> first | rfl | (cases k <;> rfl))
  | _ => rfl
theorem run_set : (mSet i a).run s = eR (a.run s) fun x t => gR ((a.own || im x) && Nat.blt i t.length) (.nx (t.set i (.own x))) .stuck := by
  show xSet i a.own a.run s = _
  unfold xSet eR gR
  cases a.run s <;> first | rfl | (dsimp only; split <;> first | rfl | simp_all)
def uR (d : D) (k : List D → RS) : RS := match d with
  | .tup ds => k ds
  | _ => .stuck
@[simp] theorem uR_tup (ds : List D) (k : List D → RS) : uR (.tup ds) k = k ds := (rfl)
theorem run_unp (is : List Nat) : (mUnp is a).run s = eR (a.run s) fun x t => uR x fun ds => gR ((a.own || ims ds) && (inS t is && Nat.beq ds.length is.length)) (.nx (setAllS t is ds)) .stuck := by
  show xUnp is a.own a.run s = _
  unfold xUnp eR uR gR
  cases a.run s with
  | ok x t => cases x <;> first | rfl | (dsimp only; split <;> first | rfl | simp_all)
  | _ => rfl
theorem run_par (is : List Nat) (l : List (Bool × EM)) : (mPar is l).run s = eR (eArgs l s) fun ds t => gR (inS t is && Nat.beq ds.length is.length) (.nx (setAllS t is ds)) .stuck := by
  show xPar is l s = _
  unfold xPar eR gR
  cases eArgs l s <;> first | rfl | (dsimp only; split <;> first | rfl | simp_all)
theorem run_sub (mk mv : EM) : (mSub i mk mv).run s = eR (mv.run s) fun d t => pS (ownAt t i) fun c => eR (mk.run t) fun k u => pS (dPut c k d) fun c' => .nx (u.set i (.own c')) := by
  show xSub i mk.run mv.run s = _
  unfold xSub eR pS
  cases mv.run s with
  | ok d t =>
    dsimp only
    cases ownAt t i with
    | none => rfl
    | some c => dsimp only; cases mk.run t <;> first | rfl | (dsimp only; split <;> first | rfl | simp_all)
  | _ => rfl
theorem run_aug (op : D → D → Option D) : (mAug i op a).run s = pS (valAt s i) fun c => gR (im c) (eR (a.run s) fun d t => pS (op c d) fun z => gR (Nat.blt i t.length) (.nx (t.set i (.own z))) .stuck) .stuck := by
  show xAug i op a.run s = _
  unfold xAug eR pS gR
  cases valAt s i with
  | none => rfl
  | some c =>
    dsimp only
    cases im c with
    | false => rfl
    | true => rw [if_pos rfl, if_pos rfl]; cases a.run s <;> first | rfl | (dsimp only; split <;> first | rfl | simp_all)
theorem run_augsub (op : D → D → Option D) (mk mv : EM) : (mAugSub i op mk mv).run s = pS (ownAt s i) fun c => eR (mk.run s) fun k t => pS (dIdx c k) fun o => gR (im o) (eR (mv.run t) fun d u => pS (op o d) fun z => gR (im z) (pS (dPut c k z) fun c' => .nx (u.set i (.own c'))) .stuck) .stuck := by
  show xAugSub i op mk.run mv.run s = _
  unfold xAugSub eR pS gR
  cases ownAt s i with
  | none => rfl
  | some c =>
    dsimp only
    cases mk.run s with
    | ok k t =>
      dsimp only
      cases dIdx c k with
      | none => rfl
      | some o =>
        dsimp only
        cases im o with
        | false => rfl
        | true =>
          rw [if_pos rfl, if_pos rfl]
          cases mv.run t with
          | ok d u =>
            dsimp only
            cases op o d with
            | none => rfl
            | some z =>
              dsimp only
              cases im z with
              | false => rfl
              | true => rw [if_pos rfl, if_pos rfl]; cases dPut c k z <;> rfl
          | _ => rfl
    | _ => rfl
theorem run_for (it : IM) (tg : Tg) (b : SM) (is ms : List Nat) : (mFor it tg b is ms).run s = eR (it.run s) fun ds t => thawR t is ms (loopR tg b.run ds (frzS t is)) := by
  show xFor it.run tg b.run is ms s = _
  unfold xFor eR
  cases it.run s <;> first | rfl | (dsimp only; split <;> first | rfl | simp_all)
theorem run_while (n : Nat) (c : EM) (b : SM) : (mWhile n c b).run s = whileR c.run b.run n s := (rfl)
def lR (r : RS) (k : List Sl → RS) : RS := match r with
  | .nx s => k s
  | .ct s => k s
  | .bk s => .nx s
  | .rt d s => .rt d s
  | .exc c d s => .exc c d s
  | .stuck => .stuck
@[simp] theorem lR_nx (k : List Sl → RS) : lR (.nx s) k = k s := (rfl)
@[simp] theorem lR_ct (k : List Sl → RS) : lR (.ct s) k = k s := (rfl)
@[simp] theorem lR_bk (k : List Sl → RS) : lR (.bk s) k = .nx s := (rfl)
@[simp] theorem lR_rt (k : List Sl → RS) : lR (.rt d s) k = .rt d s := (rfl)
@[simp] theorem loop_nil (tg : Tg) (b : List Sl → RS) : loopR tg b [] s = .nx s := (rfl)
theorem loop_cons (tg : Tg) (b : List Sl → RS) (ds : List D) : loopR tg b (d :: ds) s = pS (tgt tg d s) fun t => lR (b t) (loopR tg b ds) := by
  rw [loopR]
  unfold pS lR
  cases tgt tg d s with
  | none => rfl
  | some t => first | rfl | (dsimp only; cases b t <;> first | rfl | (dsimp only; split <;> first | rfl | simp_all))
theorem while_succ (n : Nat) (c : SE) (b : List Sl → RS) : whileR c b (n + 1) s = eR (c s) fun x t => tR (truth x) (lR (b t) (whileR c b n)) (.nx t) .stuck := by
  rw [whileR]
  unfold eR tR lR
  cases c s with
  | ok x t =>
    first
      | rfl
      | (dsimp only
         rcases truth x with _ | k
         · rfl
         · cases k with
           | false => rfl
           | true => first | rfl | (dsimp only; cases b t <;> first | rfl | (dsimp only; split <;> first | rfl | simp_all)))
  | _ => rfl
end
/-! what is gone over -/
section
variable (a : EM) (s : List Sl)
theorem run_it (f : D → Option (List D)) : (mIt a f).run s = bR (a.run s) fun x t => oR (f x) t := by
  show xIt a.run f s = _
  unfold xIt bR oR
  cases a.run s <;> first | rfl | (dsimp only; split <;> first | rfl | simp_all)
theorem run_rng (op : List D → Option (List D)) (l : List EM) : (mRng op l).run s = bR (eAL l s) fun xs t => oR (op xs) t := by
  show xRng op l s = _
  unfold xRng bR oR
  cases eAL l s <;> first | rfl | (dsimp only; split <;> first | rfl | simp_all)
theorem run_src (op : List D → Option (List D)) (l : List EM) : (mSrc op l).run s = bR (eAL l s) fun xs t => oR (op xs) t := run_rng s op l
theorem run_lc (it : IM) (tg : Tg) (tt : Option EM) (te : EM) (vs is ms : List Nat) : (mLc it tg tt te vs is ms).run s = bR (it.run s) fun ds t => gR (Nat.ble ds.length lineN) (match lcR tg tt te.run vs ds (dieS (frzS t is) vs) with
    | .ok ys u => .ok (.lst ys) (thaw (backS u (frzS t is) vs) t is ms)
    | _ => .stuck) .stuck := by
  show eLc it.run tg tt te.run vs is ms s = _
  unfold eLc bR gR
  cases it.run s with
  | ok ds t =>
    dsimp only
    cases Nat.ble ds.length lineN with
    | false => rfl
    | true => rw [if_pos rfl, if_pos rfl]; cases lcR tg tt te.run vs ds (dieS (frzS t is) vs) <;> first | rfl | (dsimp only; split <;> first | rfl | simp_all)
  | _ => rfl
end

/-! whether a value is own -/
section
variable (a b c : EM) (i n : Nat) (d : D)
@[simp] theorem own_lit : (mLit d).own = true := (rfl)
@[simp] theorem own_dnew : mDNew.own = true := (rfl)
@[simp] theorem own_var : (mVar i).own = false := (rfl)
@[simp] theorem own_mv : (mMv i).own = true := (rfl)
@[simp] theorem own_cp : (mCp a).own = true := (rfl)
@[simp] theorem own_m1 (op) : (m1 op a).own = true := (rfl)
@[simp] theorem own_m2 (op) : (m2 op a b).own = true := (rfl)
@[simp] theorem own_chain (f g) : (mChain f g a b c).own = true := (rfl)
@[simp] theorem own_and : (mAnd a b).own = b.own := (rfl)
@[simp] theorem own_or : (mOr a b).own = b.own := (rfl)
@[simp] theorem own_if : (mIf c a b).own = (a.own && b.own) := (rfl)
@[simp] theorem own_tup (l) : (mTup l).own = true := (rfl)
@[simp] theorem own_lst (l) : (mLst l).own = true := (rfl)
@[simp] theorem own_idx : (mIdx a b).own = a.own := (rfl)
@[simp] theorem own_get1 : (mGet1 a b).own = a.own := (rfl)
@[simp] theorem own_get2 : (mGet2 a b c).own = (a.own && c.own) := (rfl)
@[simp] theorem own_sl (lo hi) : (mSl a lo hi).own = true := (rfl)
@[simp] theorem own_p (op l) : (mP op l).own = true := (rfl)
@[simp] theorem own_pm (T op l) : (mPm T op a l).own = true := (rfl)
@[simp] theorem own_call (f l) : (mCall n f l).own = true := (rfl)
@[simp] theorem own_callM (f l) : (mCallM n f i l).own = true := (rfl)
@[simp] theorem own_mut (T op l) : (mMut T i op l).own = true := (rfl)
@[simp] theorem own_disp (l) : (mDisp l).own = true := (rfl)
@[simp] theorem own_lc (it tg tt te vs is ms) : (mLc it tg tt te vs is ms).own = true := (rfl)
@[simp] theorem own_lc2 (it tg tt it1 tg1 tt1 te vs vs1 is ms) : (mLc2 it tg tt it1 tg1 tt1 te vs vs1 is ms).own = true := (rfl)
@[simp] theorem own_dc (it tg tt tk tv vs is ms) : (mDc it tg tt tk tv vs is ms).own = true := (rfl)
@[simp] theorem rsM_rt (x : D) (t : List Sl) : rsM (.rt d (.own x :: t)) = some (d, x) := (rfl)
@[simp] theorem rsM_nx (x : D) (t : List Sl) : rsM (.nx (.own x :: t)) = some (.non, x) := (rfl)
end
end Bv
end

section
/-! A name for a part of what is only read. -/
namespace Bv
open PySem PySem.Spec PyProof.Rows L2
variable {K : PySem.W.Frag} {cls : Nat → Addr} {X : Cx}
variable {σ σ' : L2.St} {S S1 S2 : List Sl} {H H' H1 H2 : Hp} {Fs Fs1 Fs2 : List (List Addr)} {Z : Addr → Prop} {ms ms1 ms2 rs rs2 : List Nat} {d d' : D} {v v' : V} {F F' F1 F2 : List Addr} {ow : Bool} {W : WX}
def tEZ (K : PySem.W.Frag) (cls : Nat → Addr) (m : EM) : TE := fun σ H Q => ∃ S Fs Z, SRel K cls σ S H Fs Z ∧
  match m.run S with
  | .ok d S' => ∀ v H' Fs' F, SRel K cls σ S' H' Fs' Z → Stp m.muts S H Fs S' H' Fs' → Rep K cls H' d v F → (∀ a ∈ F, Z a) → Q v H'
  | .exc _ _ _ => False
  | .stuck => False
def eVarR (i : Nat) : SE := fun s => match s[i]? with
  | some (.ro d) => .ok d s
  | _ => .stuck
def mVarR (i : Nat) : EM := ⟨eVarR i, false, [i], []⟩
section
variable {e a b : Expr} {m ma mb : EM} {pos : Pos}
theorem z_var {i : Nat} {x : Str} (hN : X.N[i]? = some x) (hv : Vis X.env.scope x) (hd : (x == ("__debug__" : Str)) = false) (hcd : (x == ("__classdict__" : Str)) = false) :
    PE X (.Name x pos) (tEZ K cls (mVarR i)) := PE.imp (pe_var hN hv hd hcd) fun σ H Q ⟨S, Fs, Z, r, h⟩ => by
  unfold mVarR eVarR at h
  dsimp only at h
  split at h
  · rename_i d S' e
    split at e
    · rename_i d0 e0
      cases e
      obtain ⟨v, F, e1, rep, z⟩ := r.ro i d e0
      exact ⟨v, e1, h v H Fs F r Stp.refl rep z⟩
    · cases e
  · exact h.elim
  · exact h.elim
theorem z_idx (hu : X.A.units + 1 < cLine) (ha : PE X a (tEZ X.K cls ma)) (hb : PE X b (tE X.K cls W mb)) (hs : PlainIx b) : PE X (.Subscript a b pos) (tEZ X.K cls (mIdx ma mb)) :=
  PE.imp (pe_ix (ix_seq.or (ix_dict hu)) ha hb hs) fun σ H Q ⟨S, Fs, Z, r, h⟩ => by
  refine ⟨S, Fs, Z, r, ?_⟩
  unfold mIdx e2 at h
  dsimp only at h
  cases e : ma.run S with
  | exc c d s => rw [e] at h; exact h
  | stuck => rw [e] at h; exact h
  | ok x S1 =>
    rw [e] at h
    dsimp only at h ⊢
    intro v H1 Fs1 F1 r1 st1 rep1 z1
    refine ⟨S1, Fs1, Z, r1, ?_⟩
    cases e2 : mb.run S1 with
    | exc c d s => rw [e2] at h; exact h
    | stuck => rw [e2] at h; exact h
    | ok y S2 =>
      rw [e2] at h
      dsimp only at h ⊢
      cases e3 : dIdx x y with
      | none => rw [e3] at h; exact h.elim
      | some z =>
        rw [e3] at h
        intro v2 H2 Fs2 F2 r2 st2 hd2 ho2
        have rep1' : Rep X.K cls H2 x v F1 := Rep.keep r1.wmut st2.keep x v F1 (fun a m w => r1.dj a w.flat (z1 a m)) rep1
        exact idx_rule rep1' hd2.rep e3 fun v3 G sb rep => h v3 H2 Fs2 G r2 (st1.trans r st2) rep fun a m => z1 a (sb.subset m)
end
def xSetB (i : Nat) (a : SE) : List Sl → RS := fun s => match a s with
  | .ok d s' => if Nat.blt i s'.length then .nx (s'.set i (itm d)) else .stuck
  | .exc c d s => .exc c d s
  | .stuck => .stuck
def mSetB (i : Nat) (m : EM) : SM := ⟨xSetB i m.run, m.muts ++ [i], [i]⟩
theorem ss_setB {i : Nat} {x : Str} {e : Expr} {pos pos' : Pos} {m : EM} (hN : X.N.Nodup) (hi : X.N[i]? = some x) (hx : Loc X.env.scope x) (he : PE X e (tEZ K cls m)) (hs : swapsWith e (some (.Name x pos')) pos.line X.env = pure false) (hf : X.fn x = true ∨ X.env.scope.names.lookup x = some .local) :
    PS X (.Assign [.Name x pos'] e pos) (tS K cls (mSetB i m)) := PS.imp (ps_set hN hi hx he hs hf) fun D' σ H ⟨S, Fs, Z, r, h⟩ => by
  refine ⟨S, Fs, Z, r, ?_⟩
  unfold mSetB xSetB at h
  dsimp only at h
  cases e : m.run S with
  | exc c d s => rw [e] at h; exact h
  | stuck => rw [e] at h; exact h
  | ok d S1 =>
    rw [e] at h
    dsimp only at h ⊢
    intro v H1 Fs1 F r1 st rep z
    split at h
    · rename_i c
      have c : i < S1.length := by rw [← Nat.blt_eq]; exact c
      have r2 := SRel.item r1 c rep z
      obtain ⟨F0, e0⟩ := fs_get r1 c
      refine h _ H1 _ r2 (st.put r (List.getElem?_eq_some_iff.mp e0).1 e0 Keep.refl fun a m => by cases m) fun j q => ?_
      rw [List.getElem?_set_ne]
      intro z
      exact q (by simp [z])
    · exact h.elim
theorem run_setB (i : Nat) (a : EM) (s : List Sl) : (mSetB i a).run s = eR (a.run s) fun x t => gR (Nat.blt i t.length) (.nx (t.set i (itm x))) .stuck := by
  show xSetB i a.run s = _
  unfold xSetB eR gR
  cases a.run s <;> rfl
theorem run_varR (i : Nat) (s : List Sl) : (mVarR i).run s = ownK (s[i]?.map fun q => match q with | .ro d => .own d | _ => .dead) fun d => .ok d s := by
  show eVarR i s = _
  unfold eVarR
  cases s[i]? with
  | none => rfl
  | some q => cases q <;> rfl
end Bv
end

section
/-! zip whose pairs are kept: for p in zip(a, b). -/
namespace Bv
open PySem PySem.Spec PyProof.Rows L2
/-- a zip, whatever it knows of the tuple it handed out last -/
abbrev ZipA (h : Heap) (z TI TO : Addr) (v : Value) (b : Bool) : Prop :=
  h.get? z = some { cls := .type "zip", dict := none, data := .fields #[v, .bool b, .bool false, .ref TI, .ref TO], slots := #[] }
def KnowsT (v : Value) : Prop := v = .none ∨ ∃ T : Addr, v = rawInt T
def ZipE (h : Heap) (z TI TO : Addr) : Prop := ∃ v b, KnowsT v ∧ ZipA h z TI TO v b
section
variable {prog : Program} {w : World} {A : Around} {E : Value → Shared → Prop} {s : Shared} {z TI TO i1 i2 : Addr} {f1 f2 : List Addr} {n1 n2 i : Nat} {P1 P2 : Nat → Value → Prop} {R1 R2 : Nat → Heap → Prop} {a1 a2 v0 : Value} {b0 : Bool}
theorem free_or {Q : Bool → Shared → Prop} (hz : ZipA s.heap z TI TO v0 b0) (hv : KnowsT v0) (ht : Q true s) (hf : ∀ h', ZipA h' z TI TO v0 true → Heap.SameBut z s.heap h' → Q false { s with heap := h' }) :
    wpAny (model prog w) A (Builtin.SmallTypes.ownedTupleIsFree (.ref z)) Q E s := by
  unfold Builtin.SmallTypes.ownedTupleIsFree
  rcases hv with rfl | ⟨T, rfl⟩
  · exact wpAny_bind (wpAny_field hz rfl (x := .none) rfl (wpAny_pure ht))
  · refine wpAny_bind (wpAny_field hz rfl (x := rawInt T) rfl ?_)
    show wpAny _ _ (loadIfAlive ((T : Int).toNat) >>= _) _ _ _
    rw [Int.toNat_natCast]
    refine wpAny_bind ?_
    cases e : s.heap.get? T with
    | none =>
      have : wpAny (model prog w) A (loadIfAlive T) (fun o s' => o = none ∧ s' = s) E s := by
        have q : (s.heap.get? T = none ∧ s = s) := ⟨e, rfl⟩
        exact fun _ _ _ => q
      refine wpAny_mono this (fun o s' q => ?_) fun _ _ q => q
      obtain ⟨rfl, rfl⟩ := q
      simp only [Option.isNone_none, if_true]
      exact wpAny_pure ht
    | some oT =>
      refine PySem.W.kdx_alive e ?_
      simp only [Option.isNone_some, Bool.false_eq_true, if_false]
      refine wpAny_bind (wpAny_field hz rfl (x := .bool b0) rfl ?_)
      cases b0 with
      | true =>
        rw [if_neg (show ¬ ((Value.bool true != Value.bool true) = true) by decide)]
        exact wpAny_pure (hf s.heap hz (Heap.SameBut.refl _ _))
      | false =>
        rw [if_pos (show (Value.bool false != Value.bool true) = true by decide)]
        exact wpAny_bind (wpAny_setField_rec hz (by simp) fun h' q1 q2 => wpAny_pure (hf h' q1 q2))
theorem zipP_item {Q : Value → Shared → Prop} (S : ZipSep2 z TI TO i1 i2 f1 f2) (D1 : Draws prog w A i1 f1 n1 P1 R1) (D2 : Draws prog w A i2 f2 n2 P2 R2)
    (hz : ZipE s.heap z TI TO) (hTI : IsTupOf2 s.heap TI (.ref i1) (.ref i2)) (hTO : IsTupOf2 s.heap TO a1 a2) (t1 : R1 i s.heap) (t2 : R2 i s.heap) (l1 : i < n1) (l2 : i < n2)
    (hQ : ∀ x1 x2 h' tk, P1 i x1 → P2 i x2 → ZipE h' z TI TO → (∃ b1 b2, IsTupOf2 h' TO b1 b2) → R1 (i + 1) h' → R2 (i + 1) h' → IsTupOf2 h' s.heap.objs.size x1 x2 → h'.objs.size = s.heap.objs.size + 1 →
      (∀ c o, c ≠ z → c ≠ TO → c ≠ i1 → c ≠ i2 → s.heap.get? c = some o → h'.get? c = some o) → Q (.ref s.heap.objs.size) { s with heap := h', toks := tk }) :
    wpAny (model prog w) A (Builtin.«zip.__next__» ⟨[.ref z], []⟩) (fun fin s' => ∃ v, fin = .done (.ret v) ∧ Q v s') E s := by
  obtain ⟨h0, g, d, k0, os⟩ := s
  obtain ⟨v0, b0, hv, hz⟩ := hz
  show wpAny _ _ (field (.ref z) 2 >>= _) _ _ _
  refine wpAny_bind (wpAny_field hz rfl (x := .bool false) rfl ?_); show wpAny _ _ (field (.ref z) 3 >>= _) _ _ _
  refine wpAny_bind (wpAny_field hz rfl (x := .ref TI) rfl ?_); refine wpAny_bind (wpAny_seqItems hTI rfl ?_)
  show wpAny _ _ (Builtin.SmallTypes.ownedTupleIsFree (.ref z) >>= _) _ _ _; refine wpAny_bind (free_or hz hv ?_ fun hh hzh hsh => ?_)
  · simp only [if_true]
    refine wpAny_bind (wpAny_rule ?_); refine wpAny_bind (wpAny_field hz rfl (x := .ref TO) rfl ?_)
    refine wpAny_bind (wpAny_setField_rec hz (by simp) fun c0 hz0 hs0 => ?_); replace hz0 : ZipA c0 z TI TO .ellipsis b0 := hz0
    replace hs0 : Heap.SameBut z h0 c0 := hs0
    refine wpAny_bind ?_; simp only [List.zipIdx_cons, List.zipIdx_nil, List.forIn_cons, List.forIn_nil]
    refine wpAny_bind (wpAny_bind (wpAny_onRaise ?_)); show wpAny _ _ (Builtin.SmallTypes.nextOf (.ref i1) >>= _) _ _ ⟨c0, g, d, k0, os⟩
    refine wpAny_bind (D1.item i _ _ _ l1 (D1.over t1 hs0 S.zf1) fun x1 p1 k1 hx1 sn1 hp1 => wpAny_pure ?_)
    replace hp1 : Heap.SameBut i1 c0 p1 := hp1
    have u1 : IsTupOf2 p1 TO a1 a2 := hp1.extBut _ _ S.Ti1 (hs0.extBut _ _ S.TOz hTO)
    refine wpAny_bind (wpAny_seqItems (s := ⟨p1, g, d, k1, os⟩) u1 rfl ?_); refine wpAny_bind (updateSeq_IsTupOf2 (s := ⟨p1, g, d, k1, os⟩) u1 fun c1 hT1 hs1 => ?_)
    replace hT1 : IsTupOf2 c1 TO x1 a2 := hT1
    replace hs1 : Heap.SameBut TO p1 c1 := hs1
    refine wpAny_bind (wpAny_letGo (wpAny_pure ?_)); refine wpAny_bind (wpAny_bind (wpAny_onRaise ?_))
    show wpAny _ _ (Builtin.SmallTypes.nextOf (.ref i2) >>= _) _ _ ⟨c1, g, d, k1, os⟩
    refine wpAny_bind (D2.item i _ _ _ l2 (D2.over (D2.over (D2.over t2 hs0 S.zf2) hp1 S.sep1_2) hs1 S.Tf2) fun x2 p2 k2 hx2 sn2 hp2 => wpAny_pure ?_)
    replace hp2 : Heap.SameBut i2 c1 p2 := hp2
    have u2 : IsTupOf2 p2 TO x1 a2 := hp2.extBut _ _ S.Ti2 hT1
    refine wpAny_bind (wpAny_seqItems (s := ⟨p2, g, d, k2, os⟩) u2 rfl ?_); refine wpAny_bind (updateSeq_IsTupOf2 (s := ⟨p2, g, d, k2, os⟩) u2 fun c2 hT2 hs2 => ?_)
    replace hT2 : IsTupOf2 c2 TO x1 x2 := hT2
    replace hs2 : Heap.SameBut TO p2 c2 := hs2
    refine wpAny_bind (wpAny_letGo (wpAny_pure (wpAny_pure ?_))); refine wpAny_bind (wpAny_seqItems (s := ⟨c2, g, d, k2, os⟩) hT2 rfl ?_)
    refine wpAny_bind (wpAny_newTuple ?_)
    have sz : c2.objs.size = h0.objs.size := by rw [hs2.1, hp2.1, hs1.1, hp1.1, hs0.1]
    have zz : ZipA c2 z TI TO .ellipsis b0 := (hs2.extBut _ _ S.TOz.symm (hp2.extBut _ _ S.zi2 (hs1.extBut _ _ S.TOz.symm (hp1.extBut _ _ S.zi1 hz0))))
    have kk : ∀ c o, c ≠ z → c ≠ TO → c ≠ i1 → c ≠ i2 → h0.get? c = some o → c2.get? c = some o := fun c o cz cT e1 e2 e =>
      (hs2.extBut _ _ cT (hp2.extBut _ _ e2 (hs1.extBut _ _ cT (hp1.extBut _ _ e1 (hs0.extBut _ _ cz e)))))
    have j1 : R1 (i + 1) c2 := (D1.over (D1.over (D1.over sn1 hs1 S.Tf1) hp2 S.sep2_1) hs2 S.Tf1)
    have j2 : R2 (i + 1) c2 := (D2.over sn2 hs2 S.Tf2)
    have zl : z < c2.objs.size := Heap.lt_size zz
    show wpAny _ _ (Builtin.SmallTypes.ownedTupleHandOut (.ref z) (.ref c2.objs.size) >>= _) _ _ ⟨c2.push { cls := .type "tuple", data := .seq #[x1, x2] }, g, d, k2, os⟩
    refine wpAny_bind ?_
    unfold Builtin.SmallTypes.ownedTupleHandOut
    have z6 : ZipA (c2.push { cls := .type "tuple", data := .seq #[x1, x2] }) z TI TO .ellipsis b0 := Heap.get?_push_of_some _ zz
    refine wpAny_bind (wpAny_setField_rec z6 (by simp) fun h7 z7 s7 => ?_); replace z7 : ZipA h7 z TI TO (rawInt c2.objs.size) b0 := z7
    refine wpAny_setField_rec z7 (by simp) fun h8 z8 s8 => ?_
    replace z8 : ZipA h8 z TI TO (rawInt c2.objs.size) false := z8
    replace s7 : Heap.SameBut z (c2.push { cls := .type "tuple", data := .seq #[x1, x2] }) h7 := s7
    replace s8 : Heap.SameBut z h7 h8 := s8
    have up : ∀ c o, c ≠ z → c2.get? c = some o → h8.get? c = some o := fun c o e1 e => s8.extBut _ _ e1 (s7.extBut _ _ e1 (Heap.get?_push_of_some _ e))
    have T8 : IsTupOf2 h8 c2.objs.size x1 x2 := s8.extBut _ _ (Nat.ne_of_gt zl) (s7.extBut _ _ (Nat.ne_of_gt zl) (Heap.get?_push_size _ rfl))
    have l8 : h8.objs.size = c2.objs.size + 1 := by rw [s8.1, s7.1, Heap.size_push]
    rw [sz] at z8 T8 l8
    refine wpAny_pure ⟨_, rfl, ?_⟩
    show Q (.ref c2.objs.size) ⟨h8, g, d, k2, os⟩
    rw [sz]
    exact hQ x1 x2 h8 k2 hx1 hx2 ⟨_, _, .inr ⟨_, rfl⟩, z8⟩ ⟨_, _, up _ _ S.TOz hT2⟩ (D1.frame _ _ _ j1 fun b hb o e => up b o (fun q => S.zf1 (q ▸ hb)) e) (D2.frame _ _ _ j2 fun b hb o e => up b o (fun q => S.zf2 (q ▸ hb)) e) T8 l8 fun c o cz cT e1 e2 e => up c o cz (kk c o cz cT e1 e2 e)
  · simp only [Bool.false_eq_true, if_false]
    replace hsh : Heap.SameBut z h0 hh := hsh
    refine wpAny_bind ?_
    rw [← Array.forIn_toList]
    simp only [List.forIn_cons, List.forIn_nil]
    refine wpAny_bind (wpAny_bind (wpAny_holding ?_)); show wpAny _ _ (Builtin.SmallTypes.nextOf (.ref i1) >>= _) _ _ ⟨hh, g, d, k0, os⟩
    refine wpAny_bind (D1.item i _ _ _ l1 (D1.over t1 hsh S.zf1) fun x1 p1 k1 hx1 sn1 hp1 => wpAny_pure ?_)
    replace hp1 : Heap.SameBut i1 hh p1 := hp1
    refine wpAny_pure ?_
    refine wpAny_bind (wpAny_bind (wpAny_holding ?_)); show wpAny _ _ (Builtin.SmallTypes.nextOf (.ref i2) >>= _) _ _ ⟨p1, g, d, k1, os⟩
    refine wpAny_bind (D2.item i _ _ _ l2 (D2.over (D2.over t2 hsh S.zf2) hp1 S.sep1_2) fun x2 p2 k2 hx2 sn2 hp2 => wpAny_pure ?_)
    replace hp2 : Heap.SameBut i2 p1 p2 := hp2
    refine wpAny_pure (wpAny_pure ?_)
    show wpAny _ _ (newTuple [x1, x2] >>= _) _ _ _
    refine wpAny_bind (wpAny_newTuple ?_)
    have sz : p2.objs.size = h0.objs.size := by rw [hp2.1, hp1.1, hsh.1]
    have zz : ZipA p2 z TI TO v0 true := hp2.extBut _ _ S.zi2 (hp1.extBut _ _ S.zi1 hzh)
    refine wpAny_pure ⟨_, rfl, ?_⟩
    show Q (.ref p2.objs.size) ⟨p2.push { cls := .type "tuple", data := .seq #[x1, x2] }, g, d, k2, os⟩
    rw [sz]
    have T8 : IsTupOf2 (p2.push { cls := .type "tuple", data := .seq #[x1, x2] }) p2.objs.size x1 x2 := Heap.get?_push_size _ rfl
    have l8 : (p2.push { cls := .type "tuple", data := .seq #[x1, x2] }).objs.size = p2.objs.size + 1 := Heap.size_push ..
    rw [sz] at T8 l8
    have kk : ∀ c o, c ≠ z → c ≠ i1 → c ≠ i2 → h0.get? c = some o → p2.get? c = some o := fun c o cz e1 e2 e => hp2.extBut _ _ e2 (hp1.extBut _ _ e1 (hsh.extBut _ _ cz e))
    exact hQ x1 x2 _ k2 hx1 hx2 ⟨v0, true, hv, Heap.get?_push_of_some _ zz⟩ ⟨_, _, Heap.get?_push_of_some _ (kk _ _ S.TOz S.Ti1 S.Ti2 hTO)⟩
      (D1.frame _ _ _ (D1.over sn1 hp2 S.sep2_1) fun b hb o e => Heap.get?_push_of_some _ e) (D2.frame _ _ _ sn2 fun b hb o e => Heap.get?_push_of_some _ e) T8 l8 fun c o cz cT e1 e2 e => Heap.get?_push_of_some _ (kk c o cz e1 e2 e)
theorem zipP_end {Q : PySem.Fin → Shared → Prop} (S : ZipSep2 z TI TO i1 i2 f1 f2) (D1 : Draws prog w A i1 f1 n1 P1 R1) (D2 : Draws prog w A i2 f2 n2 P2 R2)
    (hz : ZipE s.heap z TI TO) (hTI : IsTupOf2 s.heap TI (.ref i1) (.ref i2)) (hTO : IsTupOf2 s.heap TO a1 a2) (t1 : R1 i s.heap) (t2 : R2 i s.heap) (l1 : i ≤ n1) (l2 : i ≤ n2) (hend : i = n1 ∨ i = n2)
    (hE : ∀ h' tk e, (∀ c o, c ≠ z → c ≠ TO → c ≠ i1 → c ≠ i2 → s.heap.get? c = some o → h'.get? c = some o) → (∃ o, h'.get? e = some o ∧ o.cls = .type "StopIteration") → E (.ref e) { s with heap := h', toks := tk }) :
    wpAny (model prog w) A (Builtin.«zip.__next__» ⟨[.ref z], []⟩) Q E s := by
  obtain ⟨h0, g, d, k0, os⟩ := s
  obtain ⟨v0, b0, hv, hz⟩ := hz
  show wpAny _ _ (field (.ref z) 2 >>= _) _ _ _
  refine wpAny_bind (wpAny_field hz rfl (x := .bool false) rfl ?_); show wpAny _ _ (field (.ref z) 3 >>= _) _ _ _
  refine wpAny_bind (wpAny_field hz rfl (x := .ref TI) rfl ?_); refine wpAny_bind (wpAny_seqItems hTI rfl ?_)
  show wpAny _ _ (Builtin.SmallTypes.ownedTupleIsFree (.ref z) >>= _) _ _ _; refine wpAny_bind (free_or hz hv ?_ fun hh hzh hsh => ?_)
  · simp only [if_true]
    refine wpAny_bind (wpAny_rule ?_); refine wpAny_bind (wpAny_field hz rfl (x := .ref TO) rfl ?_)
    refine wpAny_bind (wpAny_setField_rec hz (by simp) fun c0 hz0 hs0 => ?_); replace hz0 : ZipA c0 z TI TO .ellipsis b0 := hz0
    replace hs0 : Heap.SameBut z h0 c0 := hs0
    refine wpAny_bind ?_; simp only [List.zipIdx_cons, List.zipIdx_nil, List.forIn_cons, List.forIn_nil]
    refine wpAny_bind (wpAny_bind (wpAny_onRaise ?_)); show wpAny _ _ (Builtin.SmallTypes.nextOf (.ref i1) >>= _) _ _ ⟨c0, g, d, k0, os⟩
    by_cases q1 : i < n1
    · refine wpAny_bind (D1.item i _ _ _ q1 (D1.over t1 hs0 S.zf1) fun x1 p1 k1 hx1 sn1 hp1 => wpAny_pure ?_)
      replace hp1 : Heap.SameBut i1 c0 p1 := hp1
      have u1 : IsTupOf2 p1 TO a1 a2 := hp1.extBut _ _ S.Ti1 (hs0.extBut _ _ S.TOz hTO)
      refine wpAny_bind (wpAny_seqItems (s := ⟨p1, g, d, k1, os⟩) u1 rfl ?_); refine wpAny_bind (updateSeq_IsTupOf2 (s := ⟨p1, g, d, k1, os⟩) u1 fun c1 hT1 hs1 => ?_)
      replace hT1 : IsTupOf2 c1 TO x1 a2 := hT1
      replace hs1 : Heap.SameBut TO p1 c1 := hs1
      refine wpAny_bind (wpAny_letGo (wpAny_pure ?_)); have q2 : i = n2 := by omega
      refine wpAny_bind (wpAny_bind (wpAny_onRaise ?_)); show wpAny _ _ (Builtin.SmallTypes.nextOf (.ref i2) >>= _) _ _ ⟨c1, g, d, k1, os⟩
      refine wpAny_bind (D2.done ⟨c1, g, d, k1, os⟩ _ _ (by rw [← q2]; exact (D2.over (D2.over (D2.over t2 hs0 S.zf2) hp1 S.sep1_2) hs1 S.Tf2)) fun q e hq he => ?_)
      replace hq : Heap.ExtBut i2 c1 q := hq
      obtain ⟨oe, e1, e2⟩ := he
      replace e1 : q.get? e = some oe := e1
      have zq : ZipA q z TI TO .ellipsis b0 := hq _ _ S.zi2 (hs1.extBut _ _ S.TOz.symm (hp1.extBut _ _ S.zi1 hz0))
      have ez : e ≠ z := fun x => by subst x; rw [zq] at e1; cases e1; simp at e2
      refine wpAny_setField_rec (s := ⟨q, g, d, k1, os⟩) zq (by simp) fun q' _ hq' => ?_
      replace hq' : Heap.SameBut z q q' := hq'
      exact hE q' k1 e (fun c o cz cT e1 e2 x => hq'.extBut _ _ cz (hq _ _ e2 (hs1.extBut _ _ cT (hp1.extBut _ _ e1 (hs0.extBut _ _ cz x))))) ⟨oe, hq'.extBut _ _ ez e1, e2⟩
    · have q2 : i = n1 := by omega
      refine wpAny_bind (D1.done ⟨c0, g, d, k0, os⟩ _ _ (by rw [← q2]; exact (D1.over t1 hs0 S.zf1)) fun q e hq he => ?_)
      replace hq : Heap.ExtBut i1 c0 q := hq
      obtain ⟨oe, e1, e2⟩ := he
      replace e1 : q.get? e = some oe := e1
      have zq : ZipA q z TI TO .ellipsis b0 := hq _ _ S.zi1 hz0
      have ez : e ≠ z := fun x => by subst x; rw [zq] at e1; cases e1; simp at e2
      refine wpAny_setField_rec (s := ⟨q, g, d, k0, os⟩) zq (by simp) fun q' _ hq' => ?_
      replace hq' : Heap.SameBut z q q' := hq'
      exact hE q' k0 e (fun c o cz cT e1 e2 x => hq'.extBut _ _ cz (hq _ _ e1 (hs0.extBut _ _ cz x))) ⟨oe, hq'.extBut _ _ ez e1, e2⟩
  · simp only [Bool.false_eq_true, if_false]
    replace hsh : Heap.SameBut z h0 hh := hsh
    refine wpAny_bind ?_
    rw [← Array.forIn_toList]
    simp only [List.forIn_cons, List.forIn_nil]
    refine wpAny_bind (wpAny_bind (wpAny_holding ?_)); show wpAny _ _ (Builtin.SmallTypes.nextOf (.ref i1) >>= _) _ _ ⟨hh, g, d, k0, os⟩
    by_cases q1 : i < n1
    · refine wpAny_bind (D1.item i _ _ _ q1 (D1.over t1 hsh S.zf1) fun x1 p1 k1 hx1 sn1 hp1 => wpAny_pure ?_)
      replace hp1 : Heap.SameBut i1 hh p1 := hp1
      refine wpAny_pure ?_
      have q2 : i = n2 := by omega
      refine wpAny_bind (wpAny_bind (wpAny_holding ?_)); show wpAny _ _ (Builtin.SmallTypes.nextOf (.ref i2) >>= _) _ _ ⟨p1, g, d, k1, os⟩
      refine wpAny_bind (D2.done ⟨p1, g, d, k1, os⟩ _ _ (by rw [← q2]; exact D2.over (D2.over t2 hsh S.zf2) hp1 S.sep1_2) fun q e hq he => ?_)
      replace hq : Heap.ExtBut i2 p1 q := hq
      exact hE q k1 e (fun c o cz cT e1 e2 x => hq _ _ e2 (hp1.extBut _ _ e1 (hsh.extBut _ _ cz x))) he
    · have q2 : i = n1 := by omega
      refine wpAny_bind (D1.done ⟨hh, g, d, k0, os⟩ _ _ (by rw [← q2]; exact (D1.over t1 hsh S.zf1)) fun q e hq he => ?_)
      replace hq : Heap.ExtBut i1 hh q := hq
      exact hE q k0 e (fun c o cz cT e1 e2 x => hq _ _ e1 (hsh.extBut _ _ cz x)) he
theorem next_zipP_item {Q : Option Value → Shared → Prop} (S : ZipSep2 z TI TO i1 i2 f1 f2) (D1 : Draws prog w A.in1 i1 f1 n1 P1 R1) (D2 : Draws prog w A.in1 i2 f2 n2 P2 R2)
    (hz : ZipE s.heap z TI TO) (hTI : IsTupOf2 s.heap TI (.ref i1) (.ref i2)) (hTO : IsTupOf2 s.heap TO a1 a2) (t1 : R1 i s.heap) (t2 : R2 i s.heap) (l1 : i < n1) (l2 : i < n2)
    (hQ : ∀ x1 x2 h' tk, P1 i x1 → P2 i x2 → ZipE h' z TI TO → (∃ b1 b2, IsTupOf2 h' TO b1 b2) → R1 (i + 1) h' → R2 (i + 1) h' → IsTupOf2 h' s.heap.objs.size x1 x2 → h'.objs.size = s.heap.objs.size + 1 →
      (∀ c o, c ≠ z → c ≠ TO → c ≠ i1 → c ≠ i2 → s.heap.get? c = some o → h'.get? c = some o) → Q (some (.ref s.heap.objs.size)) { s with heap := h', toks := tk }) :
    wpAny (model prog w) A (pyNext (.ref z)) Q E s := by
  have hT : s.TypeIs (.ref z) "zip" := let ⟨_, _, _, q⟩ := hz; ⟨_, q, rfl⟩
  unfold pyNext
  exact wpAny_bind (wpAny_attempt (wpAny_callSpecial?_slot (name := Str.ofString "__next__") hT F.slot_zip_next (wpAny_call_entry F.slot_zip_next hT F.entry_zip_next
      (zipP_item S D1 D2 hz hTI hTO t1 t2 l1 l2 fun x1 x2 h' tk y1 y2 b1 b2 d1 d2 b5 b6 b7 => wpAny_pure (hQ x1 x2 h' tk y1 y2 b1 b2 d1 d2 b5 b6 b7)) (F.args_zip_next_1 _))))
theorem next_zipP_end {Q : Option Value → Shared → Prop} (S : ZipSep2 z TI TO i1 i2 f1 f2) (D1 : Draws prog w A.in1 i1 f1 n1 P1 R1) (D2 : Draws prog w A.in1 i2 f2 n2 P2 R2)
    (hz : ZipE s.heap z TI TO) (hTI : IsTupOf2 s.heap TI (.ref i1) (.ref i2)) (hTO : IsTupOf2 s.heap TO a1 a2) (t1 : R1 i s.heap) (t2 : R2 i s.heap) (l1 : i ≤ n1) (l2 : i ≤ n2) (hend : i = n1 ∨ i = n2)
    (hQ : ∀ h' tk, (∀ c o, c ≠ z → c ≠ TO → c ≠ i1 → c ≠ i2 → s.heap.get? c = some o → h'.get? c = some o) → Q none { s with heap := h', toks := tk }) : wpAny (model prog w) A (pyNext (.ref z)) Q E s := by
  have hT : s.TypeIs (.ref z) "zip" := let ⟨_, _, _, q⟩ := hz; ⟨_, q, rfl⟩
  unfold pyNext
  refine wpAny_bind (wpAny_attempt (wpAny_callSpecial?_slot (name := Str.ofString "__next__") hT F.slot_zip_next (wpAny_call_entry F.slot_zip_next hT F.entry_zip_next
    (zipP_end S D1 D2 hz hTI hTO t1 t2 l1 l2 hend fun h' tk e hk he => ?_) (F.args_zip_next_1 _))))
  obtain ⟨o, p, q⟩ := he
  exact wpAny_bind (wpAny_isInstance (T := "StopIteration") (b := true) ⟨o, p, q⟩ isSubtype_stop (wpAny_pure (hQ _ _ hk)))
theorem iter_zipE {Q : Value → Shared → Prop} (h : ZipE s.heap z TI TO) (q : Q (.ref z) s) : wpAny (model prog w) A (pyIter (.ref z)) Q E s := by
  have hT : s.TypeIs (.ref z) "zip" := let ⟨_, _, _, q⟩ := h; ⟨_, q, rfl⟩
  refine wpAny_pyIter_slot hT F.slot_zip_iter (wpAny_call_entry F.slot_zip_iter hT F.entry_zip_iter ?_ (F.args_zip_iter_1 _)); show wpAny _ _ (ret (.ref z)) _ _ s
  exact wpAny_pure ⟨_, rfl, "zip", _, hT, F.slot_zip_next.lookup, q⟩
end
theorem turn_zipP {P : Program} {w : World} {K : PySem.W.Frag} {nm : Str} {tpos : Pos} {c1 c2 : Sc} {z TI TO i1 i2 : Addr} (Z : ZipSep2 z TI TO i1 i2 (i1 :: c1.adr) (i2 :: c2.adr)) (h1 : ∀ a ∈ c1.adr, a ≠ i1) (h2 : ∀ a ∈ c2.adr, a ≠ i2) :
    Turn P w K (.Name nm tpos) (ItzC c1 c2) [z, TI, TO, i1, i2] z (fun i h => ZipE h z TI TO ∧ IsTupOf2 h TI (.ref i1) (.ref i2) ∧ (∃ x y, IsTupOf2 h TO x y) ∧ c1.tn i1 i h ∧ c2.tn i2 i h) where
  mem := by simp
  obj := fun i h st c hc => by
    obtain ⟨⟨v0, b0, _, hz⟩, hTI, ⟨x, y, hTO⟩, s1, s2⟩ := st
    have e' : c = z ∨ c = TI ∨ c = TO ∨ c = i1 ∨ c = i2 := by simpa using hc
    rcases e' with q | q | q | q | q <;> rw [q]
    · exact ⟨_, hz, fun v q => nomatch q⟩
    · exact ⟨_, hTI, fun v q => nomatch q⟩
    · exact ⟨_, hTO, fun v q => nomatch q⟩
    · exact Sc.tn_obj s1
    · exact Sc.tn_obj s2
  keep := fun i h h' st k => by
    obtain ⟨⟨v0, b0, hv, hz⟩, hTI, ⟨x, y, hTO⟩, s1, s2⟩ := st
    exact ⟨⟨v0, b0, hv, k z (by simp) _ hz⟩, k TI (by simp) _ hTI, ⟨x, y, k TO (by simp) _ hTO⟩, Sc.tn_at s1 fun o q => k i1 (by simp) o q, Sc.tn_at s2 fun o q => k i2 (by simp) o q⟩
  item := by
    intro X hP hw hK hc i pins s σ H E I hf st hg
    subst hP hw hK
    obtain ⟨hz, hTI, ⟨a1, a2, hTO⟩, s1, s2⟩ := st
    obtain ⟨xs, ys, g1, g2, hlt⟩ := hg
    obtain ⟨P1, St1, D1, st1, up1, pp1⟩ := c1.draws I (I.ok.hd hc) g1 s1 h1
    obtain ⟨P2, St2, D2, st2, up2, pp2⟩ := c2.draws I (I.ok.hd hc) g2 s2 h2
    have hf' : ∀ b ∈ [z, TO, i1, i2], FpOk X pins H b := fun b m => hf b (by
      have e' : b = z ∨ b = TO ∨ b = i1 ∨ b = i2 := by simpa using m
      rcases e' with q | q | q | q <;> simp [q])
    refine next_zipP_item Z D1 D2 hz hTI hTO st1 st2 (by omega) (by omega) fun x y h' tk hx hy hz' hTO' t1 t2 hT hsz kp => ⟨_, rfl, ?_⟩
    refine wpAny_pure ?_
    obtain ⟨x', ex, rx⟩ := pp1 i x hx
    obtain ⟨y', ey, ry⟩ := pp2 i y hy
    have hle : s.heap.objs.size ≤ s.heap.objs.size := Nat.le_refl _
    have new : ObjOk X.prog X.w (upd H s.heap.objs.size (.tup [x', y'])) h' s.heap.objs.size (.tup [x', y']) :=
      ⟨by show 2 ≤ sizeLine; decide, [x, y], .cons rx (.cons ry .nil), ⟨_, hT, rfl, _, rfl⟩⟩
    have I1 := I.turnedNew (t' := tk) (fun b o nb e => kp b o (fun q => nb (by simp [q])) (fun q => nb (by simp [q])) (fun q => nb (by simp [q])) (fun q => nb (by simp [q])) e) hf' hle new
    have old : ∀ b ∈ [z, TI, TO, i1, i2], b < s.heap.objs.size := fun b hb => by
      have e' : b = z ∨ b = TI ∨ b = TO ∨ b = i1 ∨ b = i2 := by simpa using hb
      rcases e' with q | q | q | q | q <;> rw [q]
      · obtain ⟨_, _, _, q⟩ := hz; exact Heap.lt_size q
      · exact Heap.lt_size hTI
      · exact Heap.lt_size hTO
      · obtain ⟨o, q, _⟩ := Sc.tn_obj s1; exact Heap.lt_size q
      · obtain ⟨o, q, _⟩ := Sc.tn_obj s2; exact Heap.lt_size q
    refine ⟨.ref s.heap.objs.size, _, I1, rfl, ⟨s.heap.objs.size, x', y', rfl, I.hok.fresh hle, rfl, xs, ys, g1, g2, ex, ey⟩, ⟨hz', kp _ _ Z.TIz Z.TITO Z.TIi1 Z.TIi2 hTI, hTO', up1 _ _ t1, up2 _ _ t2⟩, fun b hb => ?_⟩
    rw [upd_ne (Nat.ne_of_lt (old b hb))]
    exact (hf b hb).1
  done := by
    intro X hP hw hK hc i pins s σ H E I hf st hg
    subst hP hw hK
    obtain ⟨hz, hTI, ⟨a1, a2, hTO⟩, s1, s2⟩ := st
    obtain ⟨xs, ys, g1, g2, hlt⟩ := hg
    obtain ⟨P1, St1, D1, st1, up1, pp1⟩ := c1.draws I (I.ok.hd hc) g1 s1 h1
    obtain ⟨P2, St2, D2, st2, up2, pp2⟩ := c2.draws I (I.ok.hd hc) g2 s2 h2
    have hf' : ∀ b ∈ [z, TO, i1, i2], FpOk X pins H b := fun b m => hf b (by
      have e' : b = z ∨ b = TO ∨ b = i1 ∨ b = i2 := by simpa using m
      rcases e' with q | q | q | q <;> simp [q])
    exact next_zipP_end Z D1 D2 hz hTI hTO st1 st2 (by omega) (by omega) (by omega) fun h' tk kp => ⟨rfl, I.turnedL (fun b o nb e => kp b o (fun q => nb (by simp [q])) (fun q => nb (by simp [q])) (fun q => nb (by simp [q])) (fun q => nb (by simp [q])) e) hf'⟩
  self := fun A i s Q E st h => iter_zipE st.1 h
section
variable {X : Cx} {e e2 : Expr} {ta : TA} {p pos tpos : Pos} {nm : Str}
theorem pi_zipP (hg : Gl X "zip") (hm : X.mg "zip" = none) (ha : PA X [e, e2] ta)
    (hs : starEach [e, e2] X.env = (false, eval e X.env) :: starEach [e2] X.env) (hpl : (backTo pos (starEach [e2] X.env)).any (·.1) = false) :
    PI X (.Name nm tpos) (.Call (.Name "zip" p) [e, e2] [] pos) (iZipC ta) := by
  refine ⟨fun pins s σ H R I h => ?_⟩
  refine Call_ (ld_blt I hg hm PyProof.Rows.boot_zip (PyProof.Rows.callWith_type1 (thn (ha.run pos pins s σ H _ I h) fun us s1 ⟨vs, H1, I1, r1, q1⟩ => ?_) hs hpl))
  obtain ⟨c1, c2, xs, ys, ex, g1, g2, q⟩ := q1
  subst ex
  cases r1 with
  | cons r rr =>
    cases rr with
    | cons r' rr =>
      cases rr
      obtain ⟨o1, B1, b1, w1, t1, a1⟩ := Sc.begins I1 g1 r
      obtain ⟨o2, B2, b2, w2, t2, a2⟩ := Sc.begins I1 g2 r'
      refine zip_begins2 b1 b2 w1 w2 fun h' hz hTI hTO e1 e2 hsz hk => iter_zipE ⟨_, _, .inl rfl, hz⟩ ?_
      have I2 : Inv X pins σ H1 { s1 with heap := h' } := I1.kept (t' := s1.toks) hk
      refine ⟨s1.heap.objs.size + 4, [s1.heap.objs.size + 4, s1.heap.objs.size + 2, s1.heap.objs.size + 3, s1.heap.objs.size, s1.heap.objs.size + 1], _, _, H1, rfl, I2, turn_zipP (zip_sep2 a1 a2) (fun a m => Nat.ne_of_lt (a1 a m)) (fun a m => Nat.ne_of_lt (Nat.lt_succ_of_lt (a2 a m))), ⟨⟨_, _, .inl rfl, hz⟩, hTI, ⟨_, _, hTO⟩, t1 _ _ e1, t2 _ _ e2⟩, fun c hcm => ?_, q⟩
      have e' : c = s1.heap.objs.size + 4 ∨ c = s1.heap.objs.size + 2 ∨ c = s1.heap.objs.size + 3 ∨ c = s1.heap.objs.size ∨ c = s1.heap.objs.size + 1 := by simpa using hcm
      have hle : s1.heap.objs.size ≤ c := by
        rcases e' with z | z | z | z | z <;> rw [z] <;> omega
      exact I1.fpOk hle (I1.hok.fresh hle)
variable {cls : Nat → Addr} {m m2 : EM}
theorem s_zipP (hg : Gl X "zip") (hm : X.mg "zip" = none) (ha : PA X [e, e2] (tAL X.K cls [m, m2])) (hs : starEach [e, e2] X.env = (false, eval e X.env) :: starEach [e2] X.env) (hpl : (backTo pos (starEach [e2] X.env)).any (·.1) = false) :
    PI X (.Name nm tpos) (.Call (.Name "zip" p) [e, e2] [] pos) (tI X cls (mSrc zipOp [m, m2])) := by
  refine PI.imp (pi_zipP hg hm ha hs hpl) fun σ H R h => src_run h fun ds xs vs H' F er rr q => ?_
  unfold zipOp at er
  split at er
  · rename_i d d2
    split at er
    · rename_i x y ex ey
      cases er
      obtain ⟨v, vr, F1, F2, rfl, rfl, r1, r2⟩ := rr.uncons
      obtain ⟨v2, vr2, F3, F4, rfl, rfl, r3, r4⟩ := r2.uncons
      unfold Reps at r4
      obtain ⟨rfl, rfl⟩ := r4
      obtain ⟨c, xs, G, rfl, g, r, i, s⟩ := sc_of r1 ex
      obtain ⟨c', ys, G', rfl, g', r', i', s'⟩ := sc_of r3 ey
      have l : ∀ a ∈ F1, a ∈ F1 ++ (F3 ++ []) := fun a m => List.mem_append_left _ m
      have l' : ∀ a ∈ F3, a ∈ F1 ++ (F3 ++ []) := fun a m => List.mem_append_right _ (List.mem_append_left _ m)
      exact ⟨c, c', xs, ys, rfl, g, g', q _ _ (.inl rfl) (it_zip g g' r r' (fun a m => l a (i a m)) (fun a m => l' a (i' a m)) (fun H2 st => s H2 _ l st) fun H2 st => s' H2 _ l' st)⟩
    · cases er
  · cases er
end
end Bv
end

section
/-! list(text). -/
namespace Bv
open PySem PySem.Spec PyProof.Rows L2
variable {K : PySem.W.Frag} {cls : Nat → Addr} {X : Cx}
def dListA : List D → Option D
  | [.str x] => some (.lst (charsD x))
  | ds => dListOf ds
theorem vals_signs {x : List Nat} {acc : List Value} (hl : acc.length = x.length) (h : ∀ (j : Nat) (v : Value), acc[j]? = some v → SignAt (S' x) j v) : Vals (x.map fun c => V.str ⟨#[c]⟩) acc := by
  induction x generalizing acc with
  | nil =>
    cases acc with
    | nil => exact .nil
    | cons _ _ => simp at hl
  | cons c r ih =>
    cases acc with
    | nil => simp at hl
    | cons a t =>
      refine .cons ?_ (ih (by simpa using hl) fun j v e => ?_)
      · obtain ⟨c', u, e1, e2⟩ := h 0 a (by simp)
        have e1 : c = c' := by simpa using e1
        exact ⟨u, by rw [e1]; exact e2⟩
      · obtain ⟨c', u, e1, e2⟩ := h (j + 1) v (by simpa using e)
        exact ⟨c', u, by simpa using e1, e2⟩
theorem call_listStr (hc : X.calm = true) : CallR X (.type "list") (fun xs H Q => ∃ x : List Nat, xs = [.str (S' x)] ∧ x.length ≤ sizeLine ∧ ∀ p, H p = none → Q (.ref p) (upd H p (.lst (x.map fun c => V.str ⟨#[c]⟩)))) := by
  intro pins s σ H xs us Q I r q
  obtain ⟨x, ex, hx, q⟩ := q
  subst ex
  obtain ⟨u, eu, rx⟩ := vals1 r
  subst eu
  obtain ⟨t, rfl⟩ := rx
  refine call_list_str (I.ok.hd hc) (S' x) t (hn := by simpa using hx) fun h' tk acc c' hk hD hacc => ?_
  have hv : Vals (x.map fun c => V.str ⟨#[c]⟩) acc.toList := vals_signs (by rw [Array.length_toList, hacc.1]; simp) fun j v e => hacc.2 j v (by rw [← Array.getElem?_toList]; exact e)
  refine ⟨.ref s.heap.objs.size, upd H s.heap.objs.size (.lst (x.map fun c => V.str ⟨#[c]⟩)), I.laid (t' := tk) hk (Nat.le_refl _)
    (show ObjOk X.prog X.w _ _ _ (.lst (x.map fun c => V.str ⟨#[c]⟩)) from ⟨by rw [List.length_map]; exact hx, acc.toList, c', hv, by rw [Array.toArray_toList]; exact hD⟩), rfl, q _ (I.hok.fresh (Nat.le_refl _))⟩
theorem c_listA (hc : X.calm = true) : CallR X (.type "list") (rDn X.K cls dListA) := by
  rintro pins s σ H xs us Q I rx ⟨ds, F, d, h, e, af⟩
  unfold dListA at e
  split at e
  · rename_i x
    cases e
    obtain ⟨v, rfl, h1⟩ := reps1 h
    obtain ⟨rfl, rfl, hl⟩ := (show v = .str (S' x) ∧ F = [] ∧ x.length ≤ sizeLine by unfold Rep at h1; exact h1)
    exact call_listStr hc pins s σ H _ us Q I rx ⟨x, rfl, hl, fun p hp => af.lst hp (chars_reps x)⟩
  · exact c_list pins s σ H xs us Q I rx ⟨ds, F, d, h, e, af⟩
end Bv
end

section
set_option maxHeartbeats 0
namespace G64
open PySem PySem.Spec PyProof.Rows L2 Bv
def top (i : Nat) : Stmt := PySem.Challenge.pw_longtexts_k64_known_grammars.main.body.getD i (.Pass ⟨0, 0, 0, 0⟩)
variable {P : Program} {w : World} {K : PySem.W.Frag} {mg : Str → Option Value} {base : Heap} {f : Addr} {cdv : Value} {A : Around} {outer : List Env} {s : Shared} {H : Hp} {E : XK} {cls : Nat → Addr}
structure Gs (mg : Str → Option Value) : Prop where
  all_ : mg "all" = none
  bool_ : mg "bool" = none
  enumerate_ : mg "enumerate" = none
  int_ : mg "int" = none
  isinstance_ : mg "isinstance" = none
  len_ : mg "len" = none
  list_ : mg "list" = none
  max_ : mg "max" = none
  range_ : mg "range" = none
  sorted_ : mg "sorted" = none
  str_ : mg "str" = none
  sum_ : mg "sum" = none
  tuple_ : mg "tuple" = none
  zip_ : mg "zip" = none
  MOST_PARTS_ : ∃ t, mg "MOST_PARTS" = some (.int 20 t)
  MOST_ROWS_ : ∃ t, mg "MOST_ROWS" = some (.int 60 t)
  MOST_SIGNS_ : ∃ t, mg "MOST_SIGNS" = some (.int 5000 t)
  SIGNS_ : ∃ t, mg "SIGNS" = some (.str " !\"#$%&'()*+,-./0123456789:;<=>?@ABCDEFGHIJKLMNOPQRSTUVWXYZ[\\]^_`abcdefghijklmnopqrstuvwxyz{|}~" t)
/-! ### is_whole -/
abbrev N7 : List Str := ["thing"]
theorem nd7 : N7.Nodup := by decide
def m7 : SM := (mRet (mAnd (m1 (dIsi .int) (mVar 0)) (m1 opNot (m1 (dIsi .bool) (mVar 0)))))
theorem b7 (G : Gs mg)  (hr : Room 0 (A.deeper (envOfC "is_whole" (defScope (top 7)) s.heap.objs.size f cdv))) : QSs (CXn P w K mg base N7 "is_whole" (defScope (top 7)) f cdv A outer s H E) cls (defBody (top 7)) m7 := by
  have hu := hr.units
  have hh := hr.hd
  have hu1 := hu_of hr
  exact (ss_one (sRet (s_and (qIsi .int (qV 0) G.isinstance_ G.int_) (s_one (s_not (qIsi .bool (qV 0) G.isinstance_ G.bool_))))))
theorem sc7 : FnScope N7 ["thing"] (defScope (top 7)) := ⟨rfl, rfl, rfl, nd7, rfl, by decide +kernel, by decide +kernel⟩
theorem a7 (G : Gs mg)  {fd : FuncData} (F : FunD K "is_whole" "is_whole" (defArgs (top 7)) (defBody (top 7)) (defScope (top 7)) [] [] f fd) (gm : mg "is_whole" = some (.ref f)) : FnAt P w K mg base cls 1 "is_whole" N7 ["thing"] m7 := ⟨f, fd, fn_ok F sc7 (fun cdv A outer s H E hr => b7 G  hr), gm, F.kp, F.bindsN fun _ _ _ _ _ _ us hl => match us, hl with | [_], _ => rfl⟩
/-! ### is_from -/
abbrev N8 : List Str := ["thing", "least", "most"]
theorem nd8 : N8.Nodup := by decide
def m8 : SM := (mRet (mAnd (mCall N7.length m7 [(mVar 0)]) (mChain dLe dLe (mVar 1) (mVar 0) (mVar 2))))
theorem b8 (G : Gs mg) (F7 : FnAt P w K mg base cls 1 "is_whole" N7 ["thing"] m7) (hr : Room 1 (A.deeper (envOfC "is_from" (defScope (top 8)) s.heap.objs.size f cdv))) : QSs (CXn P w K mg base N8 "is_from" (defScope (top 8)) f cdv A outer s H E) cls (defBody (top 8)) m8 := by
  have hu := hr.units
  have hh := hr.hd
  have hu1 := hu_of hr
  exact (ss_one (sRet (s_and (qF F7 (hr.mono (by decide)) (qCons (qV 0) qNil)) (s_one (s_chain (o_le hu) (o_le hu) (qV 1) (qV 0) (qV 2) rfl rfl rfl)))))
theorem sc8 : FnScope N8 ["thing", "least", "most"] (defScope (top 8)) := ⟨rfl, rfl, rfl, nd8, rfl, by decide +kernel, by decide +kernel⟩
theorem a8 (G : Gs mg) (F7 : FnAt P w K mg base cls 1 "is_whole" N7 ["thing"] m7) {fd : FuncData} (F : FunD K "is_from" "is_from" (defArgs (top 8)) (defBody (top 8)) (defScope (top 8)) [] [] f fd) (gm : mg "is_from" = some (.ref f)) : FnAt P w K mg base cls 2 "is_from" N8 ["thing", "least", "most"] m8 := ⟨f, fd, fn_ok F sc8 (fun cdv A outer s H E hr => b8 G F7 hr), gm, F.kp, F.bindsN fun _ _ _ _ _ _ us hl => match us, hl with | [_, _, _], _ => rfl⟩
/-! ### is_text -/
abbrev N9 : List Str := ["thing", "sign"]
theorem nd9 : N9.Nodup := by decide
def m9 : SM := (mSeq (mIfS (mOr (m1 opNot (m1 (dIsi .str) (mVar 0))) (m2 dGt (mP dLen [(mVar 0)]) (mLit (.int 5000)))) (mRet (mLit (.bl false))) mNext) (mRet (mP dAll [(mLc (mIt (mVar 0) itemsOf) (.one 1) none (mOr (m2 dEq (mVar 1) (mLit (.str [10]))) (m2 dIn (mVar 1) (mLit (.str [32, 33, 34, 35, 36, 37, 38, 39, 40, 41, 42, 43, 44, 45, 46, 47, 48, 49, 50, 51, 52, 53, 54, 55, 56, 57, 58, 59, 60, 61, 62, 63, 64, 65, 66, 67, 68, 69, 70, 71, 72, 73, 74, 75, 76, 77, 78, 79, 80, 81, 82, 83, 84, 85, 86, 87, 88, 89, 90, 91, 92, 93, 94, 95, 96, 97, 98, 99, 100, 101, 102, 103, 104, 105, 106, 107, 108, 109, 110, 111, 112, 113, 114, 115, 116, 117, 118, 119, 120, 121, 122, 123, 124, 125, 126])))) [1] [0] [1])])))
theorem b9 (G : Gs mg)  (hr : Room 0 (A.deeper (envOfC "is_text" (defScope (top 9)) s.heap.objs.size f cdv))) : QSs (CXn P w K mg base N9 "is_text" (defScope (top 9)) f cdv A outer s H E) cls (defBody (top 9)) m9 := by
  have hu := hr.units
  have hh := hr.hd
  have hu1 := hu_of hr
  exact (ss_cons (ss_if (PW.pt (w_or (t_not (tPl (qIsi .str (qV 0) G.isinstance_ G.str_))) (pw_or1 (t_cmp (W := Wz) bl_dGt (o_gt hu) (qB c_len (qCons (qV 0) qNil) G.len_) (qGlobI G.MOST_SIGNS_) rfl rfl)))) (ss_one (sRet s_bl)) ss_nil) (ss_one (sRet (qB (c_all rfl) (qCons (s_lc (W := Wz) (own := [("sign", 1)]) (is := [0]) (ms := [1]) rfl nd9 (s_iter (W := Wz) (qV 0)) (blkOk_by (by kernel_rfl)) (fun _ _ _ _ _ => (gOne 1 nd9)) (fun _ _ _ _ _ => ts_nil) (fun _ _ _ _ _ => (s_or (s_cmp (o_eq hu) (qV 1) (qStr [10]) rfl rfl) (s_one (s_cmp (o_in hu) (qV 1) (qGlobS [32, 33, 34, 35, 36, 37, 38, 39, 40, 41, 42, 43, 44, 45, 46, 47, 48, 49, 50, 51, 52, 53, 54, 55, 56, 57, 58, 59, 60, 61, 62, 63, 64, 65, 66, 67, 68, 69, 70, 71, 72, 73, 74, 75, 76, 77, 78, 79, 80, 81, 82, 83, 84, 85, 86, 87, 88, 89, 90, 91, 92, 93, 94, 95, 96, 97, 98, 99, 100, 101, 102, 103, 104, 105, 106, 107, 108, 109, 110, 111, 112, 113, 114, 115, 116, 117, 118, 119, 120, 121, 122, 123, 124, 125, 126] G.SIGNS_) rfl rfl)))) (fun _ => rfl) rfl) qNil) G.all_))))
theorem sc9 : FnScope N9 ["thing"] (defScope (top 9)) := ⟨rfl, rfl, rfl, nd9, rfl, by decide +kernel, by decide +kernel⟩
theorem a9 (G : Gs mg)  {fd : FuncData} (F : FunD K "is_text" "is_text" (defArgs (top 9)) (defBody (top 9)) (defScope (top 9)) [] [] f fd) (gm : mg "is_text" = some (.ref f)) : FnAt P w K mg base cls 1 "is_text" N9 ["thing"] m9 := ⟨f, fd, fn_ok F sc9 (fun cdv A outer s H E hr => b9 G  hr), gm, F.kp, F.bindsN fun _ _ _ _ _ _ us hl => match us, hl with | [_], _ => rfl⟩
/-! ### check_text -/
abbrev N11 : List Str := ["text"]
theorem nd11 : N11.Nodup := by decide
def m11 : SM := (mIfS (m1 opNot (mCall N9.length m9 [(mVar 0)])) mNever mNext)
theorem b11 (G : Gs mg) (F9 : FnAt P w K mg base cls 1 "is_text" N9 ["thing"] m9) (hr : Room 1 (A.deeper (envOfC "check_text" (defScope (top 11)) s.heap.objs.size f cdv))) : QSs (CXn P w K mg base N11 "check_text" (defScope (top 11)) f cdv A outer s H E) cls (defBody (top 11)) m11 := by
  have hu := hr.units
  have hh := hr.hd
  have hu1 := hu_of hr
  exact (ss_one (ss_if (t_not (tPl (qF F9 (hr.mono (by decide)) (qCons (qV 0) qNil)))) (ss_one ss_never) ss_nil))
theorem sc11 : FnScope N11 ["text"] (defScope (top 11)) := ⟨rfl, rfl, rfl, nd11, rfl, by decide +kernel, by decide +kernel⟩
theorem a11 (G : Gs mg) (F9 : FnAt P w K mg base cls 1 "is_text" N9 ["thing"] m9) {fd : FuncData} (F : FunD K "check_text" "check_text" (defArgs (top 11)) (defBody (top 11)) (defScope (top 11)) [] [] f fd) (gm : mg "check_text" = some (.ref f)) : FnAt P w K mg base cls 2 "check_text" N11 ["text"] m11 := ⟨f, fd, fn_ok F sc11 (fun cdv A outer s H E hr => b11 G F9 hr), gm, F.kp, F.bindsN fun _ _ _ _ _ _ us hl => match us, hl with | [_], _ => rfl⟩
/-! ### is_part -/
abbrev N16 : List Str := ["number", "thing"]
theorem nd16 : N16.Nodup := by decide
def m16 : SM := (mSeq (mIfS (m1 (dIsi .str) (mVar 1)) (mRet (mAnd (m2 dEq (mP dLen [(mVar 1)]) (mLit (.int 1))) (mCall N9.length m9 [(mVar 1)]))) mNext) (mRet (mCall N8.length m8 [(mVar 1), (mLit (.int 0)), (m2 dSub (mVar 0) (mLit (.int 1)))])))
theorem b16 (G : Gs mg) (F9 : FnAt P w K mg base cls 1 "is_text" N9 ["thing"] m9) (F8 : FnAt P w K mg base cls 2 "is_from" N8 ["thing", "least", "most"] m8) (hr : Room 2 (A.deeper (envOfC "is_part" (defScope (top 16)) s.heap.objs.size f cdv))) : QSs (CXn P w K mg base N16 "is_part" (defScope (top 16)) f cdv A outer s H E) cls (defBody (top 16)) m16 := by
  have hu := hr.units
  have hh := hr.hd
  have hu1 := hu_of hr
  exact (ss_cons (ss_if (tPl (qIsi .str (qV 1) G.isinstance_ G.str_)) (ss_one (sRet (s_and (s_cmp (o_eq hu) (qB c_len (qCons (qV 1) qNil) G.len_) s_int rfl rfl) (s_one (qF F9 (hr.mono (by decide)) (qCons (qV 1) qNil)))))) ss_nil) (ss_one (sRet (qF F8 (hr.mono (by decide)) (qCons (qV 1) (qCons s_int (qCons (s_bin o_sub (qV 0) s_int rfl) qNil)))))))
theorem sc16 : FnScope N16 ["number", "thing"] (defScope (top 16)) := ⟨rfl, rfl, rfl, nd16, rfl, by decide +kernel, by decide +kernel⟩
theorem a16 (G : Gs mg) (F9 : FnAt P w K mg base cls 1 "is_text" N9 ["thing"] m9) (F8 : FnAt P w K mg base cls 2 "is_from" N8 ["thing", "least", "most"] m8) {fd : FuncData} (F : FunD K "is_part" "is_part" (defArgs (top 16)) (defBody (top 16)) (defScope (top 16)) [] [] f fd) (gm : mg "is_part" = some (.ref f)) : FnAt P w K mg base cls 3 "is_part" N16 ["number", "thing"] m16 := ⟨f, fd, fn_ok F sc16 (fun cdv A outer s H E hr => b16 G F9 F8 hr), gm, F.kp, F.bindsN fun _ _ _ _ _ _ us hl => match us, hl with | [_, _], _ => rfl⟩
/-! ### lengths_in -/
abbrev N15 : List Str := ["thing", "found", "number", "row", "part"]
theorem nd15 : N15.Nodup := by decide
def m15 : SM := (mSeq (mIfS (mOr (m1 opNot (m1 (dIsi .tuple) (mVar 0))) (m1 opNot (mChain dLe dLe (mLit (.int 1)) (mP dLen [(mVar 0)]) (mLit (.int 60))))) (mRet (mLit .non)) mNext) (mSeq (mSet 1 (mLst [])) (mSeq (mFor (mSrc enumOp [(mVar 0)]) (.tup [2, 3]) (mSeq (mIfS (mOr (m1 opNot (m1 (dIsi .tuple) (mVar 3))) (m1 opNot (mChain dLe dLe (mLit (.int 1)) (mP dLen [(mVar 3)]) (mLit (.int 20))))) (mRet (mLit .non)) mNext) (mSeq (mIfS (m1 opNot (mP dAll [(mLc (mIt (mVar 3) itemsOf) (.one 4) none (mCall N16.length m16 [(mVar 2), (mVar 4)]) [4] [3] [4])])) (mRet (mLit .non)) mNext) (mSeq (mDrop (mMut "list" 1 mtAppend [(false, (mP dSum [(mLc (mIt (mVar 3) itemsOf) (.one 4) none (mIf (m1 (dIsi .str) (mVar 4)) (mLit (.int 1)) (mCp (mIdx (mVar 1) (mVar 4)))) [4] [3] [4])]))])) (mIfS (m2 dGt (mIdx (mVar 1) (m1 dNeg (mLit (.int 1)))) (mLit (.int 5000))) (mRet (mLit .non)) mNext)))) [0] [2, 3, 4, 1]) (mRet (mMv 1)))))
theorem b15 (G : Gs mg) (F16 : FnAt P w K mg base cls 3 "is_part" N16 ["number", "thing"] m16) (hr : Room 3 (A.deeper (envOfC "lengths_in" (defScope (top 15)) s.heap.objs.size f cdv))) : QSs (CXn P w K mg base N15 "lengths_in" (defScope (top 15)) f cdv A outer s H E) cls (defBody (top 15)) m15 := by
  have hu := hr.units
  have hh := hr.hd
  have hu1 := hu_of hr
  exact (ss_cons (ss_if (PW.pt (w_or (t_not (tPl (qIsi .tuple (qV 0) G.isinstance_ G.tuple_))) (pw_or1 (t_not (t_chain (W := Wz) (o_le hu) (o_le hu) s_int (qB c_len (qCons (qV 0) qNil) G.len_) (qGlobI G.MOST_ROWS_) rfl rfl rfl))))) (ss_one (sRet s_non)) ss_nil) (ss_cons (sSet 1 (s_lst oNil) nd15) (ss_cons (ss_for (is := [0]) (ms := [2, 3, 4, 1]) PassesOwn.never rfl (s_enum rfl G.enumerate_ (qCons (qV 0) qNil) rfl) (gTupl (gsCons 2 (gsCons 3 gs_nil nd15) nd15)) (ss_cons (ss_if (PW.pt (w_or (t_not (tPl (qIsi .tuple (qV 3) G.isinstance_ G.tuple_))) (pw_or1 (t_not (t_chain (W := Wz) (o_le hu) (o_le hu) s_int (qB c_len (qCons (qV 3) qNil) G.len_) (qGlobI G.MOST_PARTS_) rfl rfl rfl))))) (ss_one (sRet s_non)) ss_nil) (ss_cons (ss_if (t_not (tPl (qB (c_all rfl) (qCons (s_lc (W := Wz) (own := [("part", 4)]) (is := [3]) (ms := [4]) rfl nd15 (s_iter (W := Wz) (qV 3)) (blkOk_by (by kernel_rfl)) (fun _ _ _ _ _ => (gOne 4 nd15)) (fun _ _ _ _ _ => ts_nil) (fun _ _ _ _ _ => (qF F16 (hr.mono (by decide)) (qCons (qV 2) (qCons (qV 4) qNil)))) (fun _ => rfl) rfl) qNil) G.all_))) (ss_one (sRet s_non)) ss_nil) (ss_cons (sExpr (qMut 1 m_append F.plainAttrs_list F.slot_list_append F.type_list_append (oCons (qB (c_sumD hh rfl) (qCons (s_lc (W := Wz) (own := [("part", 4)]) (is := [3]) (ms := [4]) rfl nd15 (s_iter (W := Wz) (qV 3)) (blkOk_by (by kernel_rfl)) (fun _ _ _ _ _ => (gOne 4 nd15)) (fun _ _ _ _ _ => ts_nil) (fun _ _ _ _ _ => (s_if (tPl (qIsi .str (qV 4) G.isinstance_ G.str_)) s_int (s_cp (qIdx hu (qV 1) (qV 4))))) (fun _ => rfl) rfl) qNil) G.sum_) oNil))) (ss_one (ss_if (t_cmp (W := Wz) bl_dGt (o_gt hu) (qIdx hu (qV 1) (s_un o_neg s_int)) (qGlobI G.MOST_SIGNS_) rfl rfl) (ss_one (sRet s_non)) ss_nil))))) (fun _ => rfl) rfl rfl rfl rfl) (ss_one (sRet (qM 1))))))
theorem sc15 : FnScope N15 ["thing"] (defScope (top 15)) := ⟨rfl, rfl, rfl, nd15, rfl, by decide +kernel, by decide +kernel⟩
theorem a15 (G : Gs mg) (F16 : FnAt P w K mg base cls 3 "is_part" N16 ["number", "thing"] m16) {fd : FuncData} (F : FunD K "lengths_in" "lengths_in" (defArgs (top 15)) (defBody (top 15)) (defScope (top 15)) [] [] f fd) (gm : mg "lengths_in" = some (.ref f)) : FnAt P w K mg base cls 4 "lengths_in" N15 ["thing"] m15 := ⟨f, fd, fn_ok F sc15 (fun cdv A outer s H E hr => b15 G F16 hr), gm, F.kp, F.bindsN fun _ _ _ _ _ _ us hl => match us, hl with | [_], _ => rfl⟩
/-! ### is_grammar -/
abbrev N17 : List Str := ["thing"]
theorem nd17 : N17.Nodup := by decide
def m17 : SM := (mRet (m2 dIsNot (mCall N15.length m15 [(mVar 0)]) (mLit .non)))
theorem b17 (G : Gs mg) (F15 : FnAt P w K mg base cls 4 "lengths_in" N15 ["thing"] m15) (hr : Room 4 (A.deeper (envOfC "is_grammar" (defScope (top 17)) s.heap.objs.size f cdv))) : QSs (CXn P w K mg base N17 "is_grammar" (defScope (top 17)) f cdv A outer s H E) cls (defBody (top 17)) m17 := by
  have hu := hr.units
  have hh := hr.hd
  have hu1 := hu_of hr
  exact (ss_one (sRet (s_cmp o_isNot (qF F15 (hr.mono (by decide)) (qCons (qV 0) qNil)) s_non rfl rfl)))
theorem sc17 : FnScope N17 ["thing"] (defScope (top 17)) := ⟨rfl, rfl, rfl, nd17, rfl, by decide +kernel, by decide +kernel⟩
theorem a17 (G : Gs mg) (F15 : FnAt P w K mg base cls 4 "lengths_in" N15 ["thing"] m15) {fd : FuncData} (F : FunD K "is_grammar" "is_grammar" (defArgs (top 17)) (defBody (top 17)) (defScope (top 17)) [] [] f fd) (gm : mg "is_grammar" = some (.ref f)) : FnAt P w K mg base cls 5 "is_grammar" N17 ["thing"] m17 := ⟨f, fd, fn_ok F sc17 (fun cdv A outer s H E hr => b17 G F15 hr), gm, F.kp, F.bindsN fun _ _ _ _ _ _ us hl => match us, hl with | [_], _ => rfl⟩
/-! ### check_grammar -/
abbrev N18 : List Str := ["grammar", "found"]
theorem nd18 : N18.Nodup := by decide
def m18 : SM := (mSeq (mSet 1 (mCall N15.length m15 [(mVar 0)])) (mSeq (mIfS (m2 dIs (mVar 1) (mLit .non)) mNever mNext) (mRet (mMv 1))))
theorem b18 (G : Gs mg) (F15 : FnAt P w K mg base cls 4 "lengths_in" N15 ["thing"] m15) (hr : Room 4 (A.deeper (envOfC "check_grammar" (defScope (top 18)) s.heap.objs.size f cdv))) : QSs (CXn P w K mg base N18 "check_grammar" (defScope (top 18)) f cdv A outer s H E) cls (defBody (top 18)) m18 := by
  have hu := hr.units
  have hh := hr.hd
  have hu1 := hu_of hr
  exact (ss_cons (sSet 1 (qF F15 (hr.mono (by decide)) (qCons (qV 0) qNil)) nd18) (ss_cons (ss_if (t_cmp (W := Wz) bl_dIs o_is (qV 1) s_non rfl rfl) (ss_one ss_never) ss_nil) (ss_one (sRet (qM 1)))))
theorem sc18 : FnScope N18 ["grammar"] (defScope (top 18)) := ⟨rfl, rfl, rfl, nd18, rfl, by decide +kernel, by decide +kernel⟩
theorem a18 (G : Gs mg) (F15 : FnAt P w K mg base cls 4 "lengths_in" N15 ["thing"] m15) {fd : FuncData} (F : FunD K "check_grammar" "check_grammar" (defArgs (top 18)) (defBody (top 18)) (defScope (top 18)) [] [] f fd) (gm : mg "check_grammar" = some (.ref f)) : FnAt P w K mg base cls 5 "check_grammar" N18 ["grammar"] m18 := ⟨f, fd, fn_ok F sc18 (fun cdv A outer s H E hr => b18 G F15 hr), gm, F.kp, F.bindsN fun _ _ _ _ _ _ us hl => match us, hl with | [_], _ => rfl⟩
/-! ### row_lengths -/
abbrev N19 : List Str := ["grammar"]
theorem nd19 : N19.Nodup := by decide
def m19 : SM := (mRet (mP dTupleOf [(mCall N18.length m18 [(mVar 0)])]))
theorem b19 (G : Gs mg) (F18 : FnAt P w K mg base cls 5 "check_grammar" N18 ["grammar"] m18) (hr : Room 5 (A.deeper (envOfC "row_lengths" (defScope (top 19)) s.heap.objs.size f cdv))) : QSs (CXn P w K mg base N19 "row_lengths" (defScope (top 19)) f cdv A outer s H E) cls (defBody (top 19)) m19 := by
  have hu := hr.units
  have hh := hr.hd
  have hu1 := hu_of hr
  exact (ss_one (sRet (qTy c_tuple (qCons (qF F18 (hr.mono (by decide)) (qCons (qV 0) qNil)) qNil) G.tuple_)))
theorem sc19 : FnScope N19 ["grammar"] (defScope (top 19)) := ⟨rfl, rfl, rfl, nd19, rfl, by decide +kernel, by decide +kernel⟩
theorem a19 (G : Gs mg) (F18 : FnAt P w K mg base cls 5 "check_grammar" N18 ["grammar"] m18) {fd : FuncData} (F : FunD K "row_lengths" "row_lengths" (defArgs (top 19)) (defBody (top 19)) (defScope (top 19)) [] [] f fd) (gm : mg "row_lengths" = some (.ref f)) : FnAt P w K mg base cls 6 "row_lengths" N19 ["grammar"] m19 := ⟨f, fd, fn_ok F sc19 (fun cdv A outer s H E hr => b19 G F18 hr), gm, F.kp, F.bindsN fun _ _ _ _ _ _ us hl => match us, hl with | [_], _ => rfl⟩
/-! ### grammar_text -/
abbrev N20 : List Str := ["grammar", "found", "row", "part"]
theorem nd20 : N20.Nodup := by decide
def m20 : SM := (mSeq (mDrop (mCall N18.length m18 [(mVar 0)])) (mSeq (mSet 1 (mLst [])) (mSeq (mFor (mIt (mVar 0) itemsOf) (.one 2) (mDrop (mMut "list" 1 mtAppend [(false, (mPm "str" dJoin (mLit (.str [])) [(mLc (mIt (mVar 2) itemsOf) (.one 3) none (mIf (m1 (dIsi .str) (mVar 3)) (mCp (mVar 3)) (mCp (mIdx (mVar 1) (mVar 3)))) [3] [2] [3])]))])) [0] [2, 3, 1]) (mRet (mCp (mIdx (mVar 1) (m1 dNeg (mLit (.int 1)))))))))
theorem b20 (G : Gs mg) (F18 : FnAt P w K mg base cls 5 "check_grammar" N18 ["grammar"] m18) (hr : Room 5 (A.deeper (envOfC "grammar_text" (defScope (top 20)) s.heap.objs.size f cdv))) : QSs (CXn P w K mg base N20 "grammar_text" (defScope (top 20)) f cdv A outer s H E) cls (defBody (top 20)) m20 := by
  have hu := hr.units
  have hh := hr.hd
  have hu1 := hu_of hr
  exact (ss_cons (sExpr (qF F18 (hr.mono (by decide)) (qCons (qV 0) qNil))) (ss_cons (sSet 1 (s_lst oNil) nd20) (ss_cons (ss_for (is := [0]) (ms := [2, 3, 1]) PassesOwn.never rfl (s_iter (W := Wz) (qV 0)) (gOne 2 nd20) (ss_one (sExpr (qMut 1 m_append F.plainAttrs_list F.slot_list_append F.type_list_append (oCons (qJoin (qStr []) (qCons (s_lc (W := Wz) (own := [("part", 3)]) (is := [2]) (ms := [3]) rfl nd20 (s_iter (W := Wz) (qV 2)) (blkOk_by (by kernel_rfl)) (fun _ _ _ _ _ => (gOne 3 nd20)) (fun _ _ _ _ _ => ts_nil) (fun _ _ _ _ _ => (s_if (tPl (qIsi .str (qV 3) G.isinstance_ G.str_)) (s_cp (qV 3)) (s_cp (qIdx hu (qV 1) (qV 3))))) (fun _ => rfl) rfl) qNil)) oNil)))) (fun _ => rfl) rfl rfl rfl rfl) (ss_one (sRet (s_cp (qIdx hu (qV 1) (s_un o_neg s_int))))))))
theorem sc20 : FnScope N20 ["grammar"] (defScope (top 20)) := ⟨rfl, rfl, rfl, nd20, rfl, by decide +kernel, by decide +kernel⟩
theorem a20 (G : Gs mg) (F18 : FnAt P w K mg base cls 5 "check_grammar" N18 ["grammar"] m18) {fd : FuncData} (F : FunD K "grammar_text" "grammar_text" (defArgs (top 20)) (defBody (top 20)) (defScope (top 20)) [] [] f fd) (gm : mg "grammar_text" = some (.ref f)) : FnAt P w K mg base cls 6 "grammar_text" N20 ["grammar"] m20 := ⟨f, fd, fn_ok F sc20 (fun cdv A outer s H E hr => b20 G F18 hr), gm, F.kp, F.bindsN fun _ _ _ _ _ _ us hl => match us, hl with | [_], _ => rfl⟩
/-! ### walked -/
abbrev N22 : List Str := ["grammar", "lengths", "place", "number", "many", "part", "size"]
theorem nd22 : N22.Nodup := by decide
def m22 : SM := (mSeq (mPar [3, 4] [(false, (m2 dSub (mP dLen [(mVar 0)]) (mLit (.int 1)))), (false, (mLit (.int 0)))]) (mWhile 5000 (mLit (.bl true)) (mSeq (mAug 4 dIAdd (mLit (.int 1))) (mSeq (mFor (mIt (mIdx (mVar 0) (mVar 3)) itemsOf) (.one 5) (mSeq (mSet 6 (mIf (m1 (dIsi .str) (mVar 5)) (mLit (.int 1)) (mCp (mIdx (mVar 1) (mVar 5))))) (mSeq (mIfS (m2 dLt (mVar 2) (mVar 6)) mBreak mNext) (mAug 2 dISub (mVar 6)))) [0] [5, 6, 2]) (mSeq (mIfS (m1 (dIsi .str) (mVar 5)) (mRet (mTup [(false, (mCp (mVar 5))), (false, (mCp (mVar 4)))])) mNext) (mSet 3 (mCp (mVar 5))))))))
theorem b22 (G : Gs mg)  (hr : Room 0 (A.deeper (envOfC "walked" (defScope (top 22)) s.heap.objs.size f cdv))) : QSs (CXn P w K mg base N22 "walked" (defScope (top 22)) f cdv A outer s H E) cls (defBody (top 22)) m22 := by
  have hu := hr.units
  have hh := hr.hd
  have hu1 := hu_of hr
  exact (ss_cons (ss_par (i := 3) (j := 4) rfl nd22 rfl rfl (by decide) rfl rfl (oCons (s_bin o_sub (qB c_len (qCons (qV 0) qNil) G.len_) s_int rfl) (oCons s_int oNil)) rfl rfl) (ss_one (ss_while PassesOwn.never (tPl s_bl) (ss_cons (sAug 4 i_add s_int nd22) (ss_cons (ss_for (is := [0]) (ms := [5, 6, 2]) PassesOwn.never rfl (s_iter (W := Wz) (qIdx hu (qV 0) (qV 3))) (gOne 5 nd22) (ss_cons (sSet 6 (s_if (tPl (qIsi .str (qV 5) G.isinstance_ G.str_)) s_int (s_cp (qIdx hu (qV 1) (qV 5)))) nd22) (ss_cons (ss_if (t_cmp (W := Wz) bl_dLt (o_lt hu) (qV 2) (qV 6) rfl rfl) (ss_one ss_break) ss_nil) (ss_one (sAug 2 i_sub (qV 6) nd22)))) (fun _ => rfl) rfl rfl rfl rfl) (ss_cons (ss_if (tPl (qIsi .str (qV 5) G.isinstance_ G.str_)) (ss_one (sRet (s_tup (oCons (s_cp (qV 5)) (oCons (s_cp (qV 4)) oNil))))) ss_nil) (ss_one (sSet 3 (s_cp (qV 5)) nd22))))))))
theorem sc22 : FnScope N22 ["grammar", "lengths", "place"] (defScope (top 22)) := ⟨rfl, rfl, rfl, nd22, rfl, by decide +kernel, by decide +kernel⟩
theorem a22 (G : Gs mg)  {fd : FuncData} (F : FunD K "walked" "walked" (defArgs (top 22)) (defBody (top 22)) (defScope (top 22)) [] [] f fd) (gm : mg "walked" = some (.ref f)) : FnAt P w K mg base cls 1 "walked" N22 ["grammar", "lengths", "place"] m22 := ⟨f, fd, fn_ok F sc22 (fun cdv A outer s H E hr => b22 G  hr), gm, F.kp, F.bindsN fun _ _ _ _ _ _ us hl => match us, hl with | [_, _, _], _ => rfl⟩
/-! ### grammar_sign -/
abbrev N21 : List Str := ["grammar", "place", "lengths"]
theorem nd21 : N21.Nodup := by decide
def m21 : SM := (mSeq (mSet 2 (mCall N18.length m18 [(mVar 0)])) (mSeq (mIfS (m1 opNot (mCall N8.length m8 [(mVar 1), (mLit (.int 0)), (m2 dSub (mIdx (mVar 2) (m1 dNeg (mLit (.int 1)))) (mLit (.int 1)))])) mNever mNext) (mRet (mIdx (mCall N22.length m22 [(mVar 0), (mVar 2), (mVar 1)]) (mLit (.int 0))))))
theorem b21 (G : Gs mg) (F18 : FnAt P w K mg base cls 5 "check_grammar" N18 ["grammar"] m18) (F8 : FnAt P w K mg base cls 2 "is_from" N8 ["thing", "least", "most"] m8) (F22 : FnAt P w K mg base cls 1 "walked" N22 ["grammar", "lengths", "place"] m22) (hr : Room 5 (A.deeper (envOfC "grammar_sign" (defScope (top 21)) s.heap.objs.size f cdv))) : QSs (CXn P w K mg base N21 "grammar_sign" (defScope (top 21)) f cdv A outer s H E) cls (defBody (top 21)) m21 := by
  have hu := hr.units
  have hh := hr.hd
  have hu1 := hu_of hr
  exact (ss_cons (sSet 2 (qF F18 (hr.mono (by decide)) (qCons (qV 0) qNil)) nd21) (ss_cons (ss_if (t_not (tPl (qF F8 (hr.mono (by decide)) (qCons (qV 1) (qCons s_int (qCons (s_bin o_sub (qIdx hu (qV 2) (s_un o_neg s_int)) s_int rfl) qNil)))))) (ss_one ss_never) ss_nil) (ss_one (sRet (qIdx hu (qF F22 (hr.mono (by decide)) (qCons (qV 0) (qCons (qV 2) (qCons (qV 1) qNil)))) s_int)))))
theorem sc21 : FnScope N21 ["grammar", "place"] (defScope (top 21)) := ⟨rfl, rfl, rfl, nd21, rfl, by decide +kernel, by decide +kernel⟩
theorem a21 (G : Gs mg) (F18 : FnAt P w K mg base cls 5 "check_grammar" N18 ["grammar"] m18) (F8 : FnAt P w K mg base cls 2 "is_from" N8 ["thing", "least", "most"] m8) (F22 : FnAt P w K mg base cls 1 "walked" N22 ["grammar", "lengths", "place"] m22) {fd : FuncData} (F : FunD K "grammar_sign" "grammar_sign" (defArgs (top 21)) (defBody (top 21)) (defScope (top 21)) [] [] f fd) (gm : mg "grammar_sign" = some (.ref f)) : FnAt P w K mg base cls 6 "grammar_sign" N21 ["grammar", "place"] m21 := ⟨f, fd, fn_ok F sc21 (fun cdv A outer s H E hr => b21 G F18 F8 F22 hr), gm, F.kp, F.bindsN fun _ _ _ _ _ _ us hl => match us, hl with | [_, _], _ => rfl⟩
/-! ### grammar_steps -/
abbrev N23 : List Str := ["grammar", "place", "lengths"]
theorem nd23 : N23.Nodup := by decide
def m23 : SM := (mSeq (mSet 2 (mCall N18.length m18 [(mVar 0)])) (mSeq (mIfS (m1 opNot (mCall N8.length m8 [(mVar 1), (mLit (.int 0)), (m2 dSub (mIdx (mVar 2) (m1 dNeg (mLit (.int 1)))) (mLit (.int 1)))])) mNever mNext) (mRet (mIdx (mCall N22.length m22 [(mVar 0), (mVar 2), (mVar 1)]) (mLit (.int 1))))))
theorem b23 (G : Gs mg) (F18 : FnAt P w K mg base cls 5 "check_grammar" N18 ["grammar"] m18) (F8 : FnAt P w K mg base cls 2 "is_from" N8 ["thing", "least", "most"] m8) (F22 : FnAt P w K mg base cls 1 "walked" N22 ["grammar", "lengths", "place"] m22) (hr : Room 5 (A.deeper (envOfC "grammar_steps" (defScope (top 23)) s.heap.objs.size f cdv))) : QSs (CXn P w K mg base N23 "grammar_steps" (defScope (top 23)) f cdv A outer s H E) cls (defBody (top 23)) m23 := by
  have hu := hr.units
  have hh := hr.hd
  have hu1 := hu_of hr
  exact (ss_cons (sSet 2 (qF F18 (hr.mono (by decide)) (qCons (qV 0) qNil)) nd23) (ss_cons (ss_if (t_not (tPl (qF F8 (hr.mono (by decide)) (qCons (qV 1) (qCons s_int (qCons (s_bin o_sub (qIdx hu (qV 2) (s_un o_neg s_int)) s_int rfl) qNil)))))) (ss_one ss_never) ss_nil) (ss_one (sRet (qIdx hu (qF F22 (hr.mono (by decide)) (qCons (qV 0) (qCons (qV 2) (qCons (qV 1) qNil)))) s_int)))))
theorem sc23 : FnScope N23 ["grammar", "place"] (defScope (top 23)) := ⟨rfl, rfl, rfl, nd23, rfl, by decide +kernel, by decide +kernel⟩
theorem a23 (G : Gs mg) (F18 : FnAt P w K mg base cls 5 "check_grammar" N18 ["grammar"] m18) (F8 : FnAt P w K mg base cls 2 "is_from" N8 ["thing", "least", "most"] m8) (F22 : FnAt P w K mg base cls 1 "walked" N22 ["grammar", "lengths", "place"] m22) {fd : FuncData} (F : FunD K "grammar_steps" "grammar_steps" (defArgs (top 23)) (defBody (top 23)) (defScope (top 23)) [] [] f fd) (gm : mg "grammar_steps" = some (.ref f)) : FnAt P w K mg base cls 6 "grammar_steps" N23 ["grammar", "place"] m23 := ⟨f, fd, fn_ok F sc23 (fun cdv A outer s H E hr => b23 G F18 F8 F22 hr), gm, F.kp, F.bindsN fun _ _ _ _ _ _ us hl => match us, hl with | [_, _], _ => rfl⟩
/-! ### parts_many -/
abbrev N24 : List Str := ["grammar", "row"]
theorem nd24 : N24.Nodup := by decide
def m24 : SM := (mSeq (mDrop (mCall N18.length m18 [(mVar 0)])) (mRet (mP dSum [(mLc (mIt (mVar 0) itemsOf) (.one 1) none (mP dLen [(mVar 1)]) [1] [0] [1])])))
theorem b24 (G : Gs mg) (F18 : FnAt P w K mg base cls 5 "check_grammar" N18 ["grammar"] m18) (hr : Room 5 (A.deeper (envOfC "parts_many" (defScope (top 24)) s.heap.objs.size f cdv))) : QSs (CXn P w K mg base N24 "parts_many" (defScope (top 24)) f cdv A outer s H E) cls (defBody (top 24)) m24 := by
  have hu := hr.units
  have hh := hr.hd
  have hu1 := hu_of hr
  exact (ss_cons (sExpr (qF F18 (hr.mono (by decide)) (qCons (qV 0) qNil))) (ss_one (sRet (qB (c_sumD hh rfl) (qCons (s_lc (W := Wz) (own := [("row", 1)]) (is := [0]) (ms := [1]) rfl nd24 (s_iter (W := Wz) (qV 0)) (blkOk_by (by kernel_rfl)) (fun _ _ _ _ _ => (gOne 1 nd24)) (fun _ _ _ _ _ => ts_nil) (fun _ _ _ _ _ => (qB c_len (qCons (qV 1) qNil) G.len_)) (fun _ => rfl) rfl) qNil) G.sum_))))
theorem sc24 : FnScope N24 ["grammar"] (defScope (top 24)) := ⟨rfl, rfl, rfl, nd24, rfl, by decide +kernel, by decide +kernel⟩
theorem a24 (G : Gs mg) (F18 : FnAt P w K mg base cls 5 "check_grammar" N18 ["grammar"] m18) {fd : FuncData} (F : FunD K "parts_many" "parts_many" (defArgs (top 24)) (defBody (top 24)) (defScope (top 24)) [] [] f fd) (gm : mg "parts_many" = some (.ref f)) : FnAt P w K mg base cls 6 "parts_many" N24 ["grammar"] m24 := ⟨f, fd, fn_ok F sc24 (fun cdv A outer s H E hr => b24 G F18 hr), gm, F.kp, F.bindsN fun _ _ _ _ _ _ us hl => match us, hl with | [_], _ => rfl⟩
/-! ### counts_in_grammar -/
abbrev N25 : List Str := ["grammar", "rows", "row", "found", "part", "sign", "many"]
theorem nd25 : N25.Nodup := by decide
def m25 : SM := (mSeq (mDrop (mCall N18.length m18 [(mVar 0)])) (mSeq (mSet 1 (mLst [])) (mSeq (mFor (mIt (mVar 0) itemsOf) (.one 2) (mSeq (mSet 3 mDNew) (mSeq (mFor (mIt (mVar 2) itemsOf) (.one 4) (mFor (mIt (mIf (m1 (dIsi .str) (mVar 4)) (mDisp [((mVar 4), (mLit (.int 1)))]) (mIdx (mVar 1) (mVar 4))) itemsF) (.tup [5, 6]) (mSub 3 (mVar 5) (m2 dAdd (mGet2 (mVar 3) (mVar 5) (mLit (.int 0))) (mVar 6))) [1] [5, 6, 3]) [2] [4, 5, 6, 3]) (mDrop (mMut "list" 1 mtAppend [(false, (mMv 3))])))) [0] [2, 3, 4, 5, 6, 1]) (mRet (mDc (mIt (mP dSorted [(mIdx (mVar 1) (m1 dNeg (mLit (.int 1))))]) itemsOf) (.one 5) none (mVar 5) (mCp (mIdx (mIdx (mVar 1) (m1 dNeg (mLit (.int 1)))) (mVar 5))) [5] [] [5])))))
theorem b25 (G : Gs mg) (F18 : FnAt P w K mg base cls 5 "check_grammar" N18 ["grammar"] m18) (hr : Room 5 (A.deeper (envOfC "counts_in_grammar" (defScope (top 25)) s.heap.objs.size f cdv))) : QSs (CXn P w K mg base N25 "counts_in_grammar" (defScope (top 25)) f cdv A outer s H E) cls (defBody (top 25)) m25 := by
  have hu := hr.units
  have hh := hr.hd
  have hu1 := hu_of hr
  exact (ss_cons (sExpr (qF F18 (hr.mono (by decide)) (qCons (qV 0) qNil))) (ss_cons (sSet 1 (s_lst oNil) nd25) (ss_cons (ss_for (is := [0]) (ms := [2, 3, 4, 5, 6, 1]) PassesOwn.never rfl (s_iter (W := Wz) (qV 0)) (gOne 2 nd25) (ss_cons (sSet 3 s_dnew nd25) (ss_cons (ss_for (is := [2]) (ms := [4, 5, 6, 3]) PassesOwn.never rfl (s_iter (W := Wz) (qV 2)) (gOne 4 nd25) (ss_one (ss_for (is := [1]) (ms := [5, 6, 3]) PassesOwn.never rfl (s_items (W := Wz) (s_if (tPl (qIsi .str (qV 4) G.isinstance_ G.str_)) (s_disp (p_cons (qV 4) s_int p_nil) rfl rfl (by simp) rfl rfl) (qIdx hu (qV 1) (qV 4))) rfl rfl) (gTupl (gsCons 5 (gsCons 6 gs_nil nd25) nd25)) (ss_one (ss_sub (W := Wz) hu1 rfl (by first | exact Or.inl rfl | exact Or.inr (Or.inl rfl) | exact Or.inr (Or.inr rfl)) (by decide) (by decide) (qV 5) (s_bin o_add (s_get2 hu1 (qV 3) (qV 5) s_int ⟨rfl, rfl, rfl, rfl⟩ rfl) (qV 6) rfl) rfl rfl rfl rfl rfl (by intro _; rfl))) (fun _ => rfl) rfl rfl rfl rfl)) (fun _ => rfl) rfl rfl rfl rfl) (ss_one (sExpr (qMut 1 m_append F.plainAttrs_list F.slot_list_append F.type_list_append (oCons (qM 3) oNil)))))) (fun _ => rfl) rfl rfl rfl rfl) (ss_one (sRet (s_dc (W := Wz) (own := [("sign", 5)]) (is := []) (ms := [5]) rfl nd25 (s_iter (W := Wz) (qB (c_sorted hh hu) (qCons (qIdx hu (qV 1) (s_un o_neg s_int)) qNil) G.sorted_)) (blkOk_by (by kernel_rfl)) (fun _ _ _ _ _ => (gOne 5 nd25)) (fun _ _ _ _ _ => ts_nil) (fun _ _ _ _ _ => (qV 5)) (fun _ _ _ _ _ => (s_cp (qIdx hu (qIdx hu (qV 1) (s_un o_neg s_int)) (qV 5)))) (fun _ => rfl) rfl))))))
theorem sc25 : FnScope N25 ["grammar"] (defScope (top 25)) := ⟨rfl, rfl, rfl, nd25, rfl, by decide +kernel, by decide +kernel⟩
theorem a25 (G : Gs mg) (F18 : FnAt P w K mg base cls 5 "check_grammar" N18 ["grammar"] m18) {fd : FuncData} (F : FunD K "counts_in_grammar" "counts_in_grammar" (defArgs (top 25)) (defBody (top 25)) (defScope (top 25)) [] [] f fd) (gm : mg "counts_in_grammar" = some (.ref f)) : FnAt P w K mg base cls 6 "counts_in_grammar" N25 ["grammar"] m25 := ⟨f, fd, fn_ok F sc25 (fun cdv A outer s H E hr => b25 G F18 hr), gm, F.kp, F.bindsN fun _ _ _ _ _ _ us hl => match us, hl with | [_], _ => rfl⟩
/-! ### row_uses -/
abbrev N26 : List Str := ["grammar", "found", "number", "part"]
theorem nd26 : N26.Nodup := by decide
def m26 : SM := (mSeq (mDrop (mCall N18.length m18 [(mVar 0)])) (mSeq (mSet 1 (m2 dAdd (m2 dMul (mLst [(false, (mLit (.int 0)))]) (m2 dSub (mP dLen [(mVar 0)]) (mLit (.int 1)))) (mLst [(false, (mLit (.int 1)))]))) (mSeq (mFor (mRng rng3 [(m2 dSub (mP dLen [(mVar 0)]) (mLit (.int 1))), (m1 dNeg (mLit (.int 1))), (m1 dNeg (mLit (.int 1)))]) (.one 2) (mFor (mIt (mIdx (mVar 0) (mVar 2)) itemsOf) (.one 3) (mIfS (m1 opNot (m1 (dIsi .str) (mVar 3))) (mAugSub 1 dIAdd (mVar 3) (mIdx (mVar 1) (mVar 2))) mNext) [0] [3, 1]) [] [2, 3, 1]) (mRet (mP dTupleOf [(mVar 1)])))))
theorem b26 (G : Gs mg) (F18 : FnAt P w K mg base cls 5 "check_grammar" N18 ["grammar"] m18) (hr : Room 5 (A.deeper (envOfC "row_uses" (defScope (top 26)) s.heap.objs.size f cdv))) : QSs (CXn P w K mg base N26 "row_uses" (defScope (top 26)) f cdv A outer s H E) cls (defBody (top 26)) m26 := by
  have hu := hr.units
  have hh := hr.hd
  have hu1 := hu_of hr
  exact (ss_cons (sExpr (qF F18 (hr.mono (by decide)) (qCons (qV 0) qNil))) (ss_cons (sSet 1 (s_bin o_add (s_bin o_mul (s_lst (oCons s_int oNil)) (s_bin o_sub (qB c_len (qCons (qV 0) qNil) G.len_) s_int rfl) rfl) (s_lst (oCons s_int oNil)) rfl) nd26) (ss_cons (ss_for (is := []) (ms := [2, 3, 1]) PassesOwn.never rfl (s_rng3 rfl G.range_ (qCons (s_bin o_sub (qB c_len (qCons (qV 0) qNil) G.len_) s_int rfl) (qCons (s_un o_neg s_int) (qCons (s_un o_neg s_int) qNil))) rfl rfl) (gOne 2 nd26) (ss_one (ss_for (is := [0]) (ms := [3, 1]) PassesOwn.never rfl (s_iter (W := Wz) (qIdx hu (qV 0) (qV 2))) (gOne 3 nd26) (ss_one (ss_if (t_not (tPl (qIsi .str (qV 3) G.isinstance_ G.str_))) (ss_one (ss_augsub (W := Wz) hu1 rfl (by first | exact Or.inl rfl | exact Or.inr (Or.inl rfl) | exact Or.inr (Or.inr rfl)) (by decide) (by decide) (qV 3) (qIdx hu (qV 1) (qV 2)) i_add rfl rfl rfl (by intro _ _ _; rfl))) ss_nil)) (fun _ => rfl) rfl rfl rfl rfl)) (fun _ => rfl) rfl rfl rfl rfl) (ss_one (sRet (qTy c_tuple (qCons (qV 1) qNil) G.tuple_))))))
theorem sc26 : FnScope N26 ["grammar"] (defScope (top 26)) := ⟨rfl, rfl, rfl, nd26, rfl, by decide +kernel, by decide +kernel⟩
theorem a26 (G : Gs mg) (F18 : FnAt P w K mg base cls 5 "check_grammar" N18 ["grammar"] m18) {fd : FuncData} (F : FunD K "row_uses" "row_uses" (defArgs (top 26)) (defBody (top 26)) (defScope (top 26)) [] [] f fd) (gm : mg "row_uses" = some (.ref f)) : FnAt P w K mg base cls 6 "row_uses" N26 ["grammar"] m26 := ⟨f, fd, fn_ok F sc26 (fun cdv A outer s H E hr => b26 G F18 hr), gm, F.kp, F.bindsN fun _ _ _ _ _ _ us hl => match us, hl with | [_], _ => rfl⟩
/-! ### replaced_pairs -/
abbrev N29 : List Str := ["row", "pair", "number", "found", "at"]
theorem nd29 : N29.Nodup := by decide
def m29 : SM := (mSeq (mPar [3, 4] [(false, (mLst [])), (false, (mLit (.int 0)))]) (mSeq (mWhile 5000 (m2 dLt (mVar 4) (mP dLen [(mVar 0)])) (mIfS (mAnd (m2 dLt (m2 dAdd (mVar 4) (mLit (.int 1))) (mP dLen [(mVar 0)])) (m2 dEq (mTup [(false, (mCp (mIdx (mVar 0) (mVar 4)))), (false, (mCp (mIdx (mVar 0) (m2 dAdd (mVar 4) (mLit (.int 1))))))]) (mVar 1))) (mSeq (mDrop (mMut "list" 3 mtAppend [(false, (mCp (mVar 2)))])) (mAug 4 dIAdd (mLit (.int 2)))) (mSeq (mDrop (mMut "list" 3 mtAppend [(false, (mCp (mIdx (mVar 0) (mVar 4))))])) (mAug 4 dIAdd (mLit (.int 1)))))) (mRet (mMv 3))))
theorem b29 (G : Gs mg)  (hr : Room 0 (A.deeper (envOfC "replaced_pairs" (defScope (top 29)) s.heap.objs.size f cdv))) : QSs (CXn P w K mg base N29 "replaced_pairs" (defScope (top 29)) f cdv A outer s H E) cls (defBody (top 29)) m29 := by
  have hu := hr.units
  have hh := hr.hd
  have hu1 := hu_of hr
  exact (ss_cons (ss_par (i := 3) (j := 4) rfl nd29 rfl rfl (by decide) rfl rfl (oCons (s_lst oNil) (oCons s_int oNil)) rfl rfl) (ss_cons (ss_while PassesOwn.never (t_cmp (W := Wz) bl_dLt (o_lt hu) (qV 4) (qB c_len (qCons (qV 0) qNil) G.len_) rfl rfl) (ss_one (ss_if (PW.pt (w_and (t_cmp (W := Wz) bl_dLt (o_lt hu) (s_bin o_add (qV 4) s_int rfl) (qB c_len (qCons (qV 0) qNil) G.len_) rfl rfl) (pw_and1 (t_cmp (W := Wz) bl_dEq (o_eq hu) (s_tup (oCons (s_cp (qIdx hu (qV 0) (qV 4))) (oCons (s_cp (qIdx hu (qV 0) (s_bin o_add (qV 4) s_int rfl))) oNil))) (qV 1) rfl rfl)))) (ss_cons (sExpr (qMut 3 m_append F.plainAttrs_list F.slot_list_append F.type_list_append (oCons (s_cp (qV 2)) oNil))) (ss_one (sAug 4 i_add s_int nd29))) (ss_cons (sExpr (qMut 3 m_append F.plainAttrs_list F.slot_list_append F.type_list_append (oCons (s_cp (qIdx hu (qV 0) (qV 4))) oNil))) (ss_one (sAug 4 i_add s_int nd29)))))) (ss_one (sRet (qM 3)))))
theorem sc29 : FnScope N29 ["row", "pair", "number"] (defScope (top 29)) := ⟨rfl, rfl, rfl, nd29, rfl, by decide +kernel, by decide +kernel⟩
theorem a29 (G : Gs mg)  {fd : FuncData} (F : FunD K "replaced_pairs" "replaced_pairs" (defArgs (top 29)) (defBody (top 29)) (defScope (top 29)) [] [] f fd) (gm : mg "replaced_pairs" = some (.ref f)) : FnAt P w K mg base cls 1 "replaced_pairs" N29 ["row", "pair", "number"] m29 := ⟨f, fd, fn_ok F sc29 (fun cdv A outer s H E hr => b29 G  hr), gm, F.kp, F.bindsN fun _ _ _ _ _ _ us hl => match us, hl with | [_, _, _], _ => rfl⟩
/-! ### pair_counts -/
abbrev N28 : List Str := ["row", "found", "pair"]
theorem nd28 : N28.Nodup := by decide
def m28 : SM := (mSeq (mSet 1 mDNew) (mSeq (mFor (mSrc zipOp [(mVar 0), (mSl (mVar 0) (some (mLit (.int 1))) none)]) (.one 2) (mIfS (m2 dNotIn (mVar 2) (mVar 1)) (mSub 1 (mVar 2) (m2 dSub (mP dLen [(mVar 0)]) (mP dLen [(mCall N29.length m29 [(mVar 0), (mVar 2), (mLit (.int 0))])]))) mNext) [0] [2, 1]) (mRet (mMv 1))))
theorem b28 (G : Gs mg) (F29 : FnAt P w K mg base cls 1 "replaced_pairs" N29 ["row", "pair", "number"] m29) (hr : Room 1 (A.deeper (envOfC "pair_counts" (defScope (top 28)) s.heap.objs.size f cdv))) : QSs (CXn P w K mg base N28 "pair_counts" (defScope (top 28)) f cdv A outer s H E) cls (defBody (top 28)) m28 := by
  have hu := hr.units
  have hh := hr.hd
  have hu1 := hu_of hr
  exact (ss_cons (sSet 1 s_dnew nd28) (ss_cons (ss_for (is := [0]) (ms := [2, 1]) PassesOwn.never rfl (s_zipP rfl G.zip_ (qCons (qV 0) (qCons (s_sl (qV 0) (so_some (W := Wz) s_int) so_none rfl rfl) qNil)) rfl rfl) (gOne 2 nd28) (ss_one (ss_if (t_cmp (W := Wz) bl_dNotIn (o_notIn hu) (qV 2) (qV 1) rfl rfl) (ss_one (ss_sub (W := Wz) hu1 rfl (by first | exact Or.inl rfl | exact Or.inr (Or.inl rfl) | exact Or.inr (Or.inr rfl)) (by decide) (by decide) (qV 2) (s_bin o_sub (qB c_len (qCons (qV 0) qNil) G.len_) (qB c_len (qCons (qF F29 (hr.mono (by decide)) (qCons (qV 0) (qCons (qV 2) (qCons s_int qNil)))) qNil) G.len_) rfl) rfl rfl rfl rfl rfl (by intro _; rfl))) ss_nil)) (fun _ => rfl) rfl rfl rfl rfl) (ss_one (sRet (qM 1)))))
theorem sc28 : FnScope N28 ["row"] (defScope (top 28)) := ⟨rfl, rfl, rfl, nd28, rfl, by decide +kernel, by decide +kernel⟩
theorem a28 (G : Gs mg) (F29 : FnAt P w K mg base cls 1 "replaced_pairs" N29 ["row", "pair", "number"] m29) {fd : FuncData} (F : FunD K "pair_counts" "pair_counts" (defArgs (top 28)) (defBody (top 28)) (defScope (top 28)) [] [] f fd) (gm : mg "pair_counts" = some (.ref f)) : FnAt P w K mg base cls 2 "pair_counts" N28 ["row"] m28 := ⟨f, fd, fn_ok F sc28 (fun cdv A outer s H E hr => b28 G F29 hr), gm, F.kp, F.bindsN fun _ _ _ _ _ _ us hl => match us, hl with | [_], _ => rfl⟩
/-! ### paired_grammar -/
abbrev N27 : List Str := ["text", "row", "rows", "pairs", "most", "pair", "one", "many"]
theorem nd27 : N27.Nodup := by decide
def m27 : SM := (mSeq (mDrop (mCall N11.length m11 [(mVar 0)])) (mSeq (mPar [1, 2] [(false, (mP dListA [(mVar 0)])), (false, (mLst []))]) (mSeq (mWhile 5000 (mLit (.bl true)) (mSeq (mSet 3 (mCall N28.length m28 [(mVar 1)])) (mSeq (mSet 4 (mIf (m2 dNe (mVar 3) mDNew) (m1 (dVw vMax) (mVar 3)) (mLit (.int 0)))) (mSeq (mIfS (mOr (m2 dLt (mVar 4) (mLit (.int 2))) (m2 dEq (mP dLen [(mVar 2)]) (mLit (.int 60)))) mBreak mNext) (mSeq (mSet 5 (mIdx (mLc (mIt (mVar 3) itemsF) (.tup [6, 7]) (some (m2 dEq (mVar 7) (mVar 4))) (mCp (mVar 6)) [6, 7] [3] [6, 7]) (mLit (.int 0)))) (mSeq (mSet 1 (mCall N29.length m29 [(mVar 1), (mVar 5), (mP dLen [(mVar 2)])])) (mDrop (mMut "list" 2 mtAppend [(false, (mCp (mVar 5)))])))))))) (mSeq (mIfS (m1 opNot (mCall N17.length m17 [(mTup [(true, (mVar 2)), (false, (mP dTupleOf [(mVar 1)]))])])) mNever mNext) (mRet (mTup [(true, (mVar 2)), (false, (mP dTupleOf [(mVar 1)]))]))))))
theorem b27 (G : Gs mg) (F11 : FnAt P w K mg base cls 2 "check_text" N11 ["text"] m11) (F28 : FnAt P w K mg base cls 2 "pair_counts" N28 ["row"] m28) (F29 : FnAt P w K mg base cls 1 "replaced_pairs" N29 ["row", "pair", "number"] m29) (F17 : FnAt P w K mg base cls 5 "is_grammar" N17 ["thing"] m17) (hr : Room 5 (A.deeper (envOfC "paired_grammar" (defScope (top 27)) s.heap.objs.size f cdv))) : QSs (CXn P w K mg base N27 "paired_grammar" (defScope (top 27)) f cdv A outer s H E) cls (defBody (top 27)) m27 := by
  have hu := hr.units
  have hh := hr.hd
  have hu1 := hu_of hr
  exact (ss_cons (sExpr (qF F11 (hr.mono (by decide)) (qCons (qV 0) qNil))) (ss_cons (ss_par (i := 1) (j := 2) rfl nd27 rfl rfl (by decide) rfl rfl (oCons (qTy (c_listA rfl) (qCons (qV 0) qNil) G.list_) (oCons (s_lst oNil) oNil)) rfl rfl) (ss_cons (ss_while PassesOwn.never (tPl s_bl) (ss_cons (sSet 3 (qF F28 (hr.mono (by decide)) (qCons (qV 1) qNil)) nd27) (ss_cons (sSet 4 (s_if (t_cmp (W := Wz) bl_dNe (o_ne hu) (qV 3) s_dnew rfl rfl) (s_vwB (v_max hh hu) rfl G.max_ (by decide +kernel) (by decide) (by decide) (qV 3) rfl rfl) s_int) nd27) (ss_cons (ss_if (PW.pt (w_or (t_cmp (W := Wz) bl_dLt (o_lt hu) (qV 4) s_int rfl rfl) (pw_or1 (t_cmp (W := Wz) bl_dEq (o_eq hu) (qB c_len (qCons (qV 2) qNil) G.len_) (qGlobI G.MOST_ROWS_) rfl rfl)))) (ss_one ss_break) ss_nil) (ss_cons (sSet 5 (qIdx hu (s_lc (W := Wz) (own := [("one", 6), ("many", 7)]) (is := [3]) (ms := [6, 7]) rfl nd27 (s_items (W := Wz) (qV 3) rfl rfl) (blkOk_by (by kernel_rfl)) (fun _ _ _ _ _ => (gTupl (gsCons 6 (gsCons 7 gs_nil nd27) nd27))) (fun _ _ _ _ _ => (ts_one (t_cmp (W := Wz) bl_dEq (o_eq hu) (qV 7) (qV 4) rfl rfl))) (fun _ _ _ _ _ => (s_cp (qV 6))) (fun _ => rfl) rfl) s_int) nd27) (ss_cons (sSet 1 (qF F29 (hr.mono (by decide)) (qCons (qV 1) (qCons (qV 5) (qCons (qB c_len (qCons (qV 2) qNil) G.len_) qNil)))) nd27) (ss_one (sExpr (qMut 2 m_append F.plainAttrs_list F.slot_list_append F.type_list_append (oCons (s_cp (qV 5)) oNil)))))))))) (ss_cons (ss_if (t_not (tPl (qF F17 (hr.mono (by decide)) (qCons (s_tup (oStar (qV 2) (oCons (qTy c_tuple (qCons (qV 1) qNil) G.tuple_) oNil))) qNil)))) (ss_one ss_never) ss_nil) (ss_one (sRet (s_tup (oStar (qV 2) (oCons (qTy c_tuple (qCons (qV 1) qNil) G.tuple_) oNil)))))))))
theorem sc27 : FnScope N27 ["text"] (defScope (top 27)) := ⟨rfl, rfl, rfl, nd27, rfl, by decide +kernel, by decide +kernel⟩
theorem a27 (G : Gs mg) (F11 : FnAt P w K mg base cls 2 "check_text" N11 ["text"] m11) (F28 : FnAt P w K mg base cls 2 "pair_counts" N28 ["row"] m28) (F29 : FnAt P w K mg base cls 1 "replaced_pairs" N29 ["row", "pair", "number"] m29) (F17 : FnAt P w K mg base cls 5 "is_grammar" N17 ["thing"] m17) {fd : FuncData} (F : FunD K "paired_grammar" "paired_grammar" (defArgs (top 27)) (defBody (top 27)) (defScope (top 27)) [] [] f fd) (gm : mg "paired_grammar" = some (.ref f)) : FnAt P w K mg base cls 6 "paired_grammar" N27 ["text"] m27 := ⟨f, fd, fn_ok F sc27 (fun cdv A outer s H E hr => b27 G F11 F28 F29 F17 hr), gm, F.kp, F.bindsN fun _ _ _ _ _ _ us hl => match us, hl with | [_], _ => rfl⟩
/-! ### same_grammar_texts -/
abbrev N30 : List Str := ["one", "other"]
theorem nd30 : N30.Nodup := by decide
def m30 : SM := (mSeq (mDrop (mCall N18.length m18 [(mVar 0)])) (mSeq (mDrop (mCall N18.length m18 [(mVar 1)])) (mRet (m2 dEq (mCall N20.length m20 [(mVar 0)]) (mCall N20.length m20 [(mVar 1)])))))
theorem b30 (G : Gs mg) (F18 : FnAt P w K mg base cls 5 "check_grammar" N18 ["grammar"] m18) (F20 : FnAt P w K mg base cls 6 "grammar_text" N20 ["grammar"] m20) (hr : Room 6 (A.deeper (envOfC "same_grammar_texts" (defScope (top 30)) s.heap.objs.size f cdv))) : QSs (CXn P w K mg base N30 "same_grammar_texts" (defScope (top 30)) f cdv A outer s H E) cls (defBody (top 30)) m30 := by
  have hu := hr.units
  have hh := hr.hd
  have hu1 := hu_of hr
  exact (ss_cons (sExpr (qF F18 (hr.mono (by decide)) (qCons (qV 0) qNil))) (ss_cons (sExpr (qF F18 (hr.mono (by decide)) (qCons (qV 1) qNil))) (ss_one (sRet (s_cmp (o_eq hu) (qF F20 (hr.mono (by decide)) (qCons (qV 0) qNil)) (qF F20 (hr.mono (by decide)) (qCons (qV 1) qNil)) rfl rfl)))))
theorem sc30 : FnScope N30 ["one", "other"] (defScope (top 30)) := ⟨rfl, rfl, rfl, nd30, rfl, by decide +kernel, by decide +kernel⟩
theorem a30 (G : Gs mg) (F18 : FnAt P w K mg base cls 5 "check_grammar" N18 ["grammar"] m18) (F20 : FnAt P w K mg base cls 6 "grammar_text" N20 ["grammar"] m20) {fd : FuncData} (F : FunD K "same_grammar_texts" "same_grammar_texts" (defArgs (top 30)) (defBody (top 30)) (defScope (top 30)) [] [] f fd) (gm : mg "same_grammar_texts" = some (.ref f)) : FnAt P w K mg base cls 7 "same_grammar_texts" N30 ["one", "other"] m30 := ⟨f, fd, fn_ok F sc30 (fun cdv A outer s H E hr => b30 G F18 F20 hr), gm, F.kp, F.bindsN fun _ _ _ _ _ _ us hl => match us, hl with | [_, _], _ => rfl⟩
/-! ### trimmed_grammar -/
abbrev N31 : List Str := ["grammar", "uses", "kept", "number", "many", "names", "at", "part"]
theorem nd31 : N31.Nodup := by decide
def m31 : SM := (mSeq (mSet 1 (mCall N26.length m26 [(mVar 0)])) (mSeq (mSet 2 (mLc (mSrc enumOp [(mVar 1)]) (.tup [3, 4]) (some (m2 dGt (mVar 4) (mLit (.int 0)))) (mCp (mVar 3)) [3, 4] [1] [3, 4])) (mSeq (mSet 5 (mDc (mSrc enumOp [(mVar 2)]) (.tup [6, 3]) none (mVar 3) (mCp (mVar 6)) [6, 3] [2] [6, 3])) (mRet (mP dTupleOf [(mLc (mIt (mVar 2) itemsOf) (.one 3) none (mP dTupleOf [(mLc (mIt (mIdx (mVar 0) (mVar 3)) itemsOf) (.one 7) none (mIf (m1 (dIsi .str) (mVar 7)) (mCp (mVar 7)) (mCp (mIdx (mVar 5) (mVar 7)))) [7] [0] [7])]) [3] [2] [3, 7])])))))
theorem b31 (G : Gs mg) (F26 : FnAt P w K mg base cls 6 "row_uses" N26 ["grammar"] m26) (hr : Room 6 (A.deeper (envOfC "trimmed_grammar" (defScope (top 31)) s.heap.objs.size f cdv))) : QSs (CXn P w K mg base N31 "trimmed_grammar" (defScope (top 31)) f cdv A outer s H E) cls (defBody (top 31)) m31 := by
  have hu := hr.units
  have hh := hr.hd
  have hu1 := hu_of hr
  exact (ss_cons (sSet 1 (qF F26 (hr.mono (by decide)) (qCons (qV 0) qNil)) nd31) (ss_cons (ss_setLc (W := Wz) (own := [("number", 3), ("many", 4)]) (is := [1]) (ms := [3, 4]) rfl nd31 rfl rfl (by rfl) (s_enum rfl G.enumerate_ (qCons (qV 1) qNil) rfl) (blkOk_by (by kernel_rfl)) (fun _ _ _ _ _ => (gTupl (gsCons 3 (gsCons 4 gs_nil nd31) nd31))) (fun _ _ _ _ _ => (ts_one (t_cmp (W := Wz) bl_dGt (o_gt hu) (qV 4) s_int rfl rfl))) (fun _ _ _ _ _ => (s_cp (qV 3))) (fun _ => rfl) rfl) (ss_cons (sSet 5 (s_dc (W := Wz) (own := [("at", 6), ("number", 3)]) (is := [2]) (ms := [6, 3]) rfl nd31 (s_enum rfl G.enumerate_ (qCons (qV 2) qNil) rfl) (blkOk_by (by kernel_rfl)) (fun _ _ _ _ _ => (gTupl (gsCons 6 (gsCons 3 gs_nil nd31) nd31))) (fun _ _ _ _ _ => ts_nil) (fun _ _ _ _ _ => (qV 3)) (fun _ _ _ _ _ => (s_cp (qV 6))) (fun _ => rfl) rfl) nd31) (ss_one (sRet (qTy c_tuple (qCons (s_lc (W := Wz) (own := [("number", 3)]) (is := [2]) (ms := [3, 7]) rfl nd31 (s_iter (W := Wz) (qV 2)) (blkOk_by (by kernel_rfl)) (fun _ _ _ _ _ => (gOne 3 nd31)) (fun _ _ _ _ _ => ts_nil) (fun _ _ _ _ _ => (qTy c_tuple (qCons (s_lc (W := Wz) (own := [("part", 7)]) (is := [0]) (ms := [7]) rfl nd31 (s_iter (W := Wz) (qIdx hu (qV 0) (qV 3))) (blkOk_by (by kernel_rfl)) (fun _ _ _ _ _ => (gOne 7 nd31)) (fun _ _ _ _ _ => ts_nil) (fun _ _ _ _ _ => (s_if (tPl (qIsi .str (qV 7) G.isinstance_ G.str_)) (s_cp (qV 7)) (s_cp (qIdx hu (qV 5) (qV 7))))) (fun _ => rfl) rfl) qNil) G.tuple_)) (fun _ => rfl) rfl) qNil) G.tuple_))))))
theorem sc31 : FnScope N31 ["grammar"] (defScope (top 31)) := ⟨rfl, rfl, rfl, nd31, rfl, by decide +kernel, by decide +kernel⟩
theorem a31 (G : Gs mg) (F26 : FnAt P w K mg base cls 6 "row_uses" N26 ["grammar"] m26) {fd : FuncData} (F : FunD K "trimmed_grammar" "trimmed_grammar" (defArgs (top 31)) (defBody (top 31)) (defScope (top 31)) [] [] f fd) (gm : mg "trimmed_grammar" = some (.ref f)) : FnAt P w K mg base cls 7 "trimmed_grammar" N31 ["grammar"] m31 := ⟨f, fd, fn_ok F sc31 (fun cdv A outer s H E hr => b31 G F26 hr), gm, F.kp, F.bindsN fun _ _ _ _ _ _ us hl => match us, hl with | [_], _ => rfl⟩
/-! ### _law_cell_at -/
abbrev N33 : List Str := ["script", "k"]
theorem nd33 : N33.Nodup := by decide
def m33 : SM := (mSeq (mIfS (m2 dLt (mVar 1) (mP dLen [(mVar 0)])) (mRet (mCp (mIdx (mVar 0) (mVar 1)))) mNext) (mRet (mLit (.int 0))))
theorem b33 (G : Gs mg)  (hr : Room 0 (A.deeper (envOfC "_law_cell_at" (defScope (top 33)) s.heap.objs.size f cdv))) : QSs (CXn P w K mg base N33 "_law_cell_at" (defScope (top 33)) f cdv A outer s H E) cls (defBody (top 33)) m33 := by
  have hu := hr.units
  have hh := hr.hd
  have hu1 := hu_of hr
  exact (ss_cons (ss_if (t_cmp (W := Wz) bl_dLt (o_lt hu) (qV 1) (qB c_len (qCons (qV 0) qNil) G.len_) rfl rfl) (ss_one (sRet (s_cp (qIdx hu (qV 0) (qV 1))))) ss_nil) (ss_one (sRet s_int)))
theorem sc33 : FnScope N33 ["script", "k"] (defScope (top 33)) := ⟨rfl, rfl, rfl, nd33, rfl, by decide +kernel, by decide +kernel⟩
theorem a33 (G : Gs mg)  {fd : FuncData} (F : FunD K "_law_cell_at" "_law_cell_at" (defArgs (top 33)) (defBody (top 33)) (defScope (top 33)) [] [] f fd) (gm : mg "_law_cell_at" = some (.ref f)) : FnAt P w K mg base cls 1 "_law_cell_at" N33 ["script", "k"] m33 := ⟨f, fd, fn_ok F sc33 (fun cdv A outer s H E hr => b33 G  hr), gm, F.kp, F.bindsN fun _ _ _ _ _ _ us hl => match us, hl with | [_, _], _ => rfl⟩
/-! ### _law_draw -/
abbrev N34 : List Str := ["cell", "k", "bound", "primes"]
theorem nd34 : N34.Nodup := by decide
def m34 : SM := (mSeq (mSet 3 (mTup [(false, (mLit (.int 1000003))), (false, (mLit (.int 1000033))), (false, (mLit (.int 1000037))), (false, (mLit (.int 1000039))), (false, (mLit (.int 1000081))), (false, (mLit (.int 1000099))), (false, (mLit (.int 1000117))), (false, (mLit (.int 1000121))), (false, (mLit (.int 1000133))), (false, (mLit (.int 1000151))), (false, (mLit (.int 1000159))), (false, (mLit (.int 1000171))), (false, (mLit (.int 1000183))), (false, (mLit (.int 1000187))), (false, (mLit (.int 1000193))), (false, (mLit (.int 1000199)))])) (mRet (m2 dMod (m2 dMod (mP dInt [(m2 dAdd (m2 dMul (mVar 0) (mLit (.int 48271))) (m2 dMul (mVar 1) (mLit (.int 69621))))]) (mIdx (mVar 3) (m2 dMod (mP dInt [(mVar 1)]) (mLit (.int 16))))) (mVar 2))))
theorem b34 (G : Gs mg)  (hr : Room 0 (A.deeper (envOfC "_law_draw" (defScope (top 34)) s.heap.objs.size f cdv))) : QSs (CXn P w K mg base N34 "_law_draw" (defScope (top 34)) f cdv A outer s H E) cls (defBody (top 34)) m34 := by
  have hu := hr.units
  have hh := hr.hd
  have hu1 := hu_of hr
  exact (ss_cons (sSet 3 (s_tup (oCons s_int (oCons s_int (oCons s_int (oCons s_int (oCons s_int (oCons s_int (oCons s_int (oCons s_int (oCons s_int (oCons s_int (oCons s_int (oCons s_int (oCons s_int (oCons s_int (oCons s_int (oCons s_int oNil))))))))))))))))) nd34) (ss_one (sRet (s_bin o_mod (s_bin o_mod (qTy c_int (qCons (s_bin o_add (s_bin o_mul (qV 0) s_int rfl) (s_bin o_mul (qV 1) s_int rfl) rfl) qNil) G.int_) (qIdx hu (qV 3) (s_bin o_mod (qTy c_int (qCons (qV 1) qNil) G.int_) s_int rfl)) rfl) (qV 2) rfl))))
theorem sc34 : FnScope N34 ["cell", "k", "bound"] (defScope (top 34)) := ⟨rfl, rfl, rfl, nd34, rfl, by decide +kernel, by decide +kernel⟩
theorem a34 (G : Gs mg)  {fd : FuncData} (F : FunD K "_law_draw" "_law_draw" (defArgs (top 34)) (defBody (top 34)) (defScope (top 34)) [] [] f fd) (gm : mg "_law_draw" = some (.ref f)) : FnAt P w K mg base cls 1 "_law_draw" N34 ["cell", "k", "bound"] m34 := ⟨f, fd, fn_ok F sc34 (fun cdv A outer s H E hr => b34 G  hr), gm, F.kp, F.bindsN fun _ _ _ _ _ _ us hl => match us, hl with | [_, _, _], _ => rfl⟩
/-! ### _law_number -/
abbrev N35 : List Str := ["cell", "k", "bound", "scale", "lap", "remains", "small"]
theorem nd35 : N35.Nodup := by decide
def m35 : SM := (mSeq (mSet 3 (mLit (.int 1))) (mSeq (mFor (mRng rng1 [(m2 dMod (mP dInt [(mVar 1)]) (mLit (.int 24)))]) (.one 4) (mSet 3 (m2 dMul (mVar 3) (mLit (.int 1009)))) [] [4, 3]) (mSeq (mSet 5 (m2 dFdiv (m2 dSub (mVar 0) (m2 dPow (mLit (.int 10)) (mLit (.int 18)))) (mVar 3))) (mSeq (mIfS (m2 dGt (mVar 5) (mLit (.int 0))) (mRet (m2 dMod (m2 dMod (mP dInt [(mVar 5)]) (mLit (.int 1009))) (mVar 2))) mNext) (mSeq (mSet 6 (m2 dMod (mP dInt [(mVar 0)]) (mLit (.int 1000003)))) (mRet (m2 dMod (mCall N34.length m34 [(m2 dMul (m2 dAdd (mVar 6) (m2 dMul (mLit (.int 977)) (mVar 1))) (m2 dAdd (m2 dAdd (mVar 6) (m2 dMul (mLit (.int 31)) (mVar 1))) (mLit (.int 5)))), (m2 dAdd (m2 dMod (mP dInt [(mVar 1)]) (mLit (.int 9))) (mLit (.int 1))), (mLit (.int 999983))]) (mVar 2))))))))
theorem b35 (G : Gs mg) (F34 : FnAt P w K mg base cls 1 "_law_draw" N34 ["cell", "k", "bound"] m34) (hr : Room 1 (A.deeper (envOfC "_law_number" (defScope (top 35)) s.heap.objs.size f cdv))) : QSs (CXn P w K mg base N35 "_law_number" (defScope (top 35)) f cdv A outer s H E) cls (defBody (top 35)) m35 := by
  have hu := hr.units
  have hh := hr.hd
  have hu1 := hu_of hr
  exact (ss_cons (sSet 3 s_int nd35) (ss_cons (ss_for (is := []) (ms := [4, 3]) PassesOwn.never rfl (s_rng1 rfl G.range_ (qCons (s_bin o_mod (qTy c_int (qCons (qV 1) qNil) G.int_) s_int rfl) qNil) rfl) (gOne 4 nd35) (ss_one (sSet 3 (s_bin o_mul (qV 3) s_int rfl) nd35)) (fun _ => rfl) rfl rfl rfl rfl) (ss_cons (sSet 5 (s_bin o_fdiv (s_bin o_sub (qV 0) (s_bin o_pow s_int s_int rfl) rfl) (qV 3) rfl) nd35) (ss_cons (ss_if (t_cmp (W := Wz) bl_dGt (o_gt hu) (qV 5) s_int rfl rfl) (ss_one (sRet (s_bin o_mod (s_bin o_mod (qTy c_int (qCons (qV 5) qNil) G.int_) s_int rfl) (qV 2) rfl))) ss_nil) (ss_cons (sSet 6 (s_bin o_mod (qTy c_int (qCons (qV 0) qNil) G.int_) s_int rfl) nd35) (ss_one (sRet (s_bin o_mod (qF F34 (hr.mono (by decide)) (qCons (s_bin o_mul (s_bin o_add (qV 6) (s_bin o_mul s_int (qV 1) rfl) rfl) (s_bin o_add (s_bin o_add (qV 6) (s_bin o_mul s_int (qV 1) rfl) rfl) s_int rfl) rfl) (qCons (s_bin o_add (s_bin o_mod (qTy c_int (qCons (qV 1) qNil) G.int_) s_int rfl) s_int rfl) (qCons s_int qNil)))) (qV 2) rfl))))))))
theorem sc35 : FnScope N35 ["cell", "k", "bound"] (defScope (top 35)) := ⟨rfl, rfl, rfl, nd35, rfl, by decide +kernel, by decide +kernel⟩
theorem a35 (G : Gs mg) (F34 : FnAt P w K mg base cls 1 "_law_draw" N34 ["cell", "k", "bound"] m34) {fd : FuncData} (F : FunD K "_law_number" "_law_number" (defArgs (top 35)) (defBody (top 35)) (defScope (top 35)) [] [] f fd) (gm : mg "_law_number" = some (.ref f)) : FnAt P w K mg base cls 2 "_law_number" N35 ["cell", "k", "bound"] m35 := ⟨f, fd, fn_ok F sc35 (fun cdv A outer s H E hr => b35 G F34 hr), gm, F.kp, F.bindsN fun _ _ _ _ _ _ us hl => match us, hl with | [_, _, _], _ => rfl⟩
/-! ### _law_next -/
abbrev N36 : List Str := ["draw", "bound", "at", "cell"]
theorem nd36 : N36.Nodup := by decide
def m36 : SM := (mSeq (mSub 0 (mLit (.int 2)) (m2 dAdd (mIdx (mVar 0) (mLit (.int 2))) (mLit (.int 1)))) (mSeq (mSet 2 (m2 dFdiv (mIdx (mVar 0) (mLit (.int 2))) (mLit (.int 12)))) (mSeq (mSet 3 (m2 dAdd (mCall N33.length m33 [(mIdx (mVar 0) (mLit (.int 0))), (m2 dAdd (mIdx (mVar 0) (mLit (.int 1))) (mVar 2))]) (m2 dMul (mLit (.int 31)) (mVar 2)))) (mRet (mCall N35.length m35 [(mVar 3), (m2 dAdd (m2 dMod (mP dInt [(mIdx (mVar 0) (mLit (.int 2)))]) (mLit (.int 12))) (mLit (.int 1))), (mVar 1)])))))
theorem b36 (G : Gs mg) (F33 : FnAt P w K mg base cls 1 "_law_cell_at" N33 ["script", "k"] m33) (F35 : FnAt P w K mg base cls 2 "_law_number" N35 ["cell", "k", "bound"] m35) (hr : Room 2 (A.deeper (envOfC "_law_next" (defScope (top 36)) s.heap.objs.size f cdv))) : QSs (CXn P w K mg base N36 "_law_next" (defScope (top 36)) f cdv A outer s H E) cls (defBody (top 36)) m36 := by
  have hu := hr.units
  have hh := hr.hd
  have hu1 := hu_of hr
  exact (ss_cons (ss_sub (W := Wz) hu1 rfl (by first | exact Or.inl rfl | exact Or.inr (Or.inl rfl) | exact Or.inr (Or.inr rfl)) (by decide) (by decide) s_int (s_bin o_add (qIdx hu (qV 0) s_int) s_int rfl) rfl rfl rfl rfl rfl (by intro _; rfl)) (ss_cons (sSet 2 (s_bin o_fdiv (qIdx hu (qV 0) s_int) s_int rfl) nd36) (ss_cons (sSet 3 (s_bin o_add (qF F33 (hr.mono (by decide)) (qCons (qIdx hu (qV 0) s_int) (qCons (s_bin o_add (qIdx hu (qV 0) s_int) (qV 2) rfl) qNil))) (s_bin o_mul s_int (qV 2) rfl) rfl) nd36) (ss_one (sRet (qF F35 (hr.mono (by decide)) (qCons (qV 3) (qCons (s_bin o_add (s_bin o_mod (qTy c_int (qCons (qIdx hu (qV 0) s_int) qNil) G.int_) s_int rfl) s_int rfl) (qCons (qV 1) qNil)))))))))
theorem sc36 : FnScope N36 ["draw", "bound"] (defScope (top 36)) := ⟨rfl, rfl, rfl, nd36, rfl, by decide +kernel, by decide +kernel⟩
theorem a36 (G : Gs mg) (F33 : FnAt P w K mg base cls 1 "_law_cell_at" N33 ["script", "k"] m33) (F35 : FnAt P w K mg base cls 2 "_law_number" N35 ["cell", "k", "bound"] m35) {fd : FuncData} (F : FunD K "_law_next" "_law_next" (defArgs (top 36)) (defBody (top 36)) (defScope (top 36)) [] [] f fd) (gm : mg "_law_next" = some (.ref f)) : FnAt P w K mg base cls 3 "_law_next" N36 ["draw", "bound"] m36 := ⟨f, fd, fn_ok F sc36 (fun cdv A outer s H E hr => b36 G F33 F35 hr), gm, F.kp, F.bindsN fun _ _ _ _ _ _ us hl => match us, hl with | [_, _], _ => rfl⟩
/-! ### _law_pick -/
abbrev N37 : List Str := ["draw", "things"]
theorem nd37 : N37.Nodup := by decide
def m37 : SM := (mRet (mCp (mIdx (mVar 1) (mCallM N36.length m36 0 [(mP dLen [(mVar 1)])]))))
theorem b37 (G : Gs mg) (F36 : FnAt P w K mg base cls 3 "_law_next" N36 ["draw", "bound"] m36) (hr : Room 3 (A.deeper (envOfC "_law_pick" (defScope (top 37)) s.heap.objs.size f cdv))) : QSs (CXn P w K mg base N37 "_law_pick" (defScope (top 37)) f cdv A outer s H E) cls (defBody (top 37)) m37 := by
  have hu := hr.units
  have hh := hr.hd
  have hu1 := hu_of hr
  exact (ss_one (sRet (s_cp (qIdx hu (qV 1) (qFM 0 F36 (hr.mono (by decide)) (qCons (qB c_len (qCons (qV 1) qNil) G.len_) qNil))))))
theorem sc37 : FnScope N37 ["draw", "things"] (defScope (top 37)) := ⟨rfl, rfl, rfl, nd37, rfl, by decide +kernel, by decide +kernel⟩
theorem a37 (G : Gs mg) (F36 : FnAt P w K mg base cls 3 "_law_next" N36 ["draw", "bound"] m36) {fd : FuncData} (F : FunD K "_law_pick" "_law_pick" (defArgs (top 37)) (defBody (top 37)) (defScope (top 37)) [] [] f fd) (gm : mg "_law_pick" = some (.ref f)) : FnAt P w K mg base cls 4 "_law_pick" N37 ["draw", "things"] m37 := ⟨f, fd, fn_ok F sc37 (fun cdv A outer s H E hr => b37 G F36 hr), gm, F.kp, F.bindsN fun _ _ _ _ _ _ us hl => match us, hl with | [_, _], _ => rfl⟩
/-! ### _law_doubles -/
abbrev N38 : List Str := ["sign", "many", "at"]
theorem nd38 : N38.Nodup := by decide
def m38 : SM := (mRet (m2 dAdd (mTup [(false, (mTup [(false, (mCp (mVar 0)))]))]) (mP dTupleOf [(mLc (mRng rng1 [(mVar 1)]) (.one 2) none (mTup [(false, (mCp (mVar 2))), (false, (mCp (mVar 2)))]) [2] [] [2])])))
theorem b38 (G : Gs mg)  (hr : Room 0 (A.deeper (envOfC "_law_doubles" (defScope (top 38)) s.heap.objs.size f cdv))) : QSs (CXn P w K mg base N38 "_law_doubles" (defScope (top 38)) f cdv A outer s H E) cls (defBody (top 38)) m38 := by
  have hu := hr.units
  have hh := hr.hd
  have hu1 := hu_of hr
  exact (ss_one (sRet (s_bin o_add (s_tup (oCons (s_tup (oCons (s_cp (qV 0)) oNil)) oNil)) (qTy c_tuple (qCons (s_lc (W := Wz) (own := [("at", 2)]) (is := []) (ms := [2]) rfl nd38 (s_rng1 rfl G.range_ (qCons (qV 1) qNil) rfl) (blkOk_by (by kernel_rfl)) (fun _ _ _ _ _ => (gOne 2 nd38)) (fun _ _ _ _ _ => ts_nil) (fun _ _ _ _ _ => (s_tup (oCons (s_cp (qV 2)) (oCons (s_cp (qV 2)) oNil)))) (fun _ => rfl) rfl) qNil) G.tuple_) rfl)))
theorem sc38 : FnScope N38 ["sign", "many"] (defScope (top 38)) := ⟨rfl, rfl, rfl, nd38, rfl, by decide +kernel, by decide +kernel⟩
theorem a38 (G : Gs mg)  {fd : FuncData} (F : FunD K "_law_doubles" "_law_doubles" (defArgs (top 38)) (defBody (top 38)) (defScope (top 38)) [] [] f fd) (gm : mg "_law_doubles" = some (.ref f)) : FnAt P w K mg base cls 1 "_law_doubles" N38 ["sign", "many"] m38 := ⟨f, fd, fn_ok F sc38 (fun cdv A outer s H E hr => b38 G  hr), gm, F.kp, F.bindsN fun _ _ _ _ _ _ us hl => match us, hl with | [_, _], _ => rfl⟩
/-! ### law -/
abbrev N39 : List Str := ["script", "draw", "sign", "many", "doubles", "size", "turn", "sums", "at", "line", "loose"]
theorem nd39 : N39.Nodup := by decide
def m39s0 : SM := (mPar [2, 3] [(false, (mCallM N37.length m37 1 [(mLst [(false, (mLit (.str [97]))), (false, (mLit (.str [126]))), (false, (mLit (.str [32]))), (false, (mLit (.str [10])))])])), (false, (mCallM N36.length m36 1 [(mLit (.int 13))]))])
def m39s1 : SM := (mSet 4 (mCall N38.length m38 [(mVar 2), (mVar 3)]))
def m39s2 : SM := (mSet 5 (mLit (.int 1)))
def m39s3 : SM := (mFor (mRng rng1 [(mVar 3)]) (.one 6) (mSet 5 (m2 dMul (mVar 5) (mLit (.int 2)))) [] [6, 5])
def m39s4 : SM := (mIfS (mOr (m2 dNe (mCall N20.length m20 [(mVar 4)]) (m2 dMul (mVar 2) (mVar 5))) (mOr (m2 dNe (mIdx (mCall N19.length m19 [(mVar 4)]) (m1 dNeg (mLit (.int 1)))) (mVar 5)) (mOr (m2 dNe (mCall N23.length m23 [(mVar 4), (m2 dSub (mVar 5) (mLit (.int 1)))]) (m2 dAdd (mVar 3) (mLit (.int 1)))) (m2 dNe (mCall N21.length m21 [(mVar 4), (m2 dFdiv (mVar 5) (mLit (.int 2)))]) (mVar 2))))) (mRet (mLit (.bl false))) mNext)
def m39s5 : SM := (mIfS (mOr (m2 dNe (mCall N25.length m25 [(mVar 4)]) (mDisp [((mVar 2), (mCp (mVar 5)))])) (mOr (m2 dNe (mIdx (mCall N26.length m26 [(mVar 4)]) (mLit (.int 0))) (mVar 5)) (mOr (m2 dNe (mCall N24.length m24 [(mVar 4)]) (m2 dAdd (mLit (.int 1)) (m2 dMul (mLit (.int 2)) (mVar 3)))) (m2 dNe (mCall N31.length m31 [(mVar 4)]) (mVar 4))))) (mRet (mLit (.bl false))) mNext)
def m39s6 : SM := (mIfS (mCall N17.length m17 [(mCall N38.length m38 [(mVar 2), (mLit (.int 13))])]) (mRet (mLit (.bl false))) mNext)
def m39s7 : SM := (mSet 7 (m2 dAdd (mTup [(false, (mTup [(false, (mLit (.str [98])))])), (false, (mTup [(false, (mLit (.str [97])))])), (false, (mTup [(false, (mLit (.int 1))), (false, (mLit (.int 0)))]))]) (mP dTupleOf [(mLc (mRng rng2 [(mLit (.int 2)), (mLit (.int 12))]) (.one 8) none (mTup [(false, (mCp (mVar 8))), (false, (m2 dSub (mVar 8) (mLit (.int 1))))]) [8] [] [8])])))
def m39s8 : SM := (mIfS (mOr (m2 dNe (mCall N19.length m19 [(mVar 7)]) (mTup [(false, (mLit (.int 1))), (false, (mLit (.int 1))), (false, (mLit (.int 2))), (false, (mLit (.int 3))), (false, (mLit (.int 5))), (false, (mLit (.int 8))), (false, (mLit (.int 13))), (false, (mLit (.int 21))), (false, (mLit (.int 34))), (false, (mLit (.int 55))), (false, (mLit (.int 89))), (false, (mLit (.int 144))), (false, (mLit (.int 233)))])) (mOr (m2 dNe (mSl (mCall N20.length m20 [(mVar 7)]) none (some (mLit (.int 13)))) (mLit (.str [97, 98, 97, 97, 98, 97, 98, 97, 97, 98, 97, 97, 98]))) (mOr (m2 dNe (mCall N25.length m25 [(mVar 7)]) (mDisp [((mLit (.str [97])), (mLit (.int 144))), ((mLit (.str [98])), (mLit (.int 89)))])) (mOr (m2 dNe (mSl (mCall N26.length m26 [(mVar 7)]) none (some (mLit (.int 3)))) (mTup [(false, (mLit (.int 89))), (false, (mLit (.int 144))), (false, (mLit (.int 89)))])) (m2 dNe (mCall N20.length m20 [(mSl (mVar 7) none (some (mLit (.int 6))))]) (mLit (.str [97, 98, 97, 97, 98, 97, 98, 97]))))))) (mRet (mLit (.bl false))) mNext)
def m39s9 : SM := (mSet 9 (mP dTupleOf [(m2 dAdd (mLst [(false, (mTup [(false, (mLit (.str [97])))]))]) (mLc (mRng rng1 [(mLit (.int 59))]) (.one 8) none (mTup [(false, (mCp (mVar 8))), (false, (mLit (.str [98])))]) [8] [] [8]))]))
def m39s10 : SM := (mIfS (mOr (m2 dNe (mP dLen [(mVar 9)]) (mLit (.int 60))) (mOr (m1 opNot (mCall N17.length m17 [(mVar 9)])) (mOr (mCall N17.length m17 [(m2 dAdd (mVar 9) (mTup [(false, (mTup [(false, (mLit (.int 0)))]))]))]) (mOr (m2 dNe (mCall N20.length m20 [(mVar 9)]) (m2 dAdd (mLit (.str [97])) (m2 dMul (mLit (.str [98])) (mLit (.int 59))))) (mOr (m2 dNe (mCall N23.length m23 [(mVar 9), (mLit (.int 0))]) (mLit (.int 60))) (mOr (m2 dNe (mCall N23.length m23 [(mVar 9), (mLit (.int 59))]) (mLit (.int 1))) (m2 dNe (mCall N26.length m26 [(mVar 9)]) (m2 dMul (mTup [(false, (mLit (.int 1)))]) (mLit (.int 60)))))))))) (mRet (mLit (.bl false))) mNext)
def m39s11 : SM := (mIfS (mOr (m2 dNe (mCall N27.length m27 [(mLit (.str [97, 98, 97, 98, 97, 98, 97, 98]))]) (mTup [(false, (mTup [(false, (mLit (.str [97]))), (false, (mLit (.str [98])))])), (false, (mTup [(false, (mLit (.int 0))), (false, (mLit (.int 0)))])), (false, (mTup [(false, (mLit (.int 1))), (false, (mLit (.int 1)))]))])) (mOr (m2 dNe (mCall N27.length m27 [(mLit (.str [97, 97, 97]))]) (mTup [(false, (mTup [(false, (mLit (.str [97]))), (false, (mLit (.str [97]))), (false, (mLit (.str [97])))]))])) (m2 dNe (mCall N27.length m27 [(mLit (.str [97, 97, 97, 97, 97]))]) (mTup [(false, (mTup [(false, (mLit (.str [97]))), (false, (mLit (.str [97])))])), (false, (mTup [(false, (mLit (.int 0))), (false, (mLit (.int 0))), (false, (mLit (.str [97])))]))])))) (mRet (mLit (.bl false))) mNext)
def m39s12 : SM := (mIfS (mOr (m2 dNe (mCall N27.length m27 [(mLit (.str [97, 97, 98, 97, 97, 98]))]) (mTup [(false, (mTup [(false, (mLit (.str [97]))), (false, (mLit (.str [97])))])), (false, (mTup [(false, (mLit (.int 0))), (false, (mLit (.str [98])))])), (false, (mTup [(false, (mLit (.int 1))), (false, (mLit (.int 1)))]))])) (m2 dNe (mCall N27.length m27 [(mLit (.str [120, 121, 122, 120, 121]))]) (mTup [(false, (mTup [(false, (mLit (.str [120]))), (false, (mLit (.str [121])))])), (false, (mTup [(false, (mLit (.int 0))), (false, (mLit (.str [122]))), (false, (mLit (.int 0)))]))]))) (mRet (mLit (.bl false))) mNext)
def m39s13 : SM := (mIfS (mOr (m2 dNe (mCall N27.length m27 [(mLit (.str [97, 98, 99, 100]))]) (mTup [(false, (mTup [(false, (mLit (.str [97]))), (false, (mLit (.str [98]))), (false, (mLit (.str [99]))), (false, (mLit (.str [100])))]))])) (m2 dNe (mCall N27.length m27 [(mLit (.str [10, 32, 10, 32]))]) (mTup [(false, (mTup [(false, (mLit (.str [10]))), (false, (mLit (.str [32])))])), (false, (mTup [(false, (mLit (.int 0))), (false, (mLit (.int 0)))]))]))) (mRet (mLit (.bl false))) mNext)
def m39s14 : SM := (mIfS (mOr (m2 dNe (mCall N27.length m27 [(m2 dMul (mLit (.str [97])) (mLit (.int 64)))]) (mTup [(false, (mTup [(false, (mLit (.str [97]))), (false, (mLit (.str [97])))])), (false, (mTup [(false, (mLit (.int 0))), (false, (mLit (.int 0)))])), (false, (mTup [(false, (mLit (.int 1))), (false, (mLit (.int 1)))])), (false, (mTup [(false, (mLit (.int 2))), (false, (mLit (.int 2)))])), (false, (mTup [(false, (mLit (.int 3))), (false, (mLit (.int 3)))])), (false, (mTup [(false, (mLit (.int 4))), (false, (mLit (.int 4)))]))])) (mOr (m2 dNe (mCall N27.length m27 [(mLit (.str [98, 97, 97, 98, 97, 98]))]) (mTup [(false, (mTup [(false, (mLit (.str [98]))), (false, (mLit (.str [97])))])), (false, (mTup [(false, (mLit (.int 0))), (false, (mLit (.str [97]))), (false, (mLit (.int 0))), (false, (mLit (.str [98])))]))])) (mOr (m2 dNe (mCall N24.length m24 [(mCall N27.length m27 [(m2 dMul (mLit (.str [97, 98])) (mLit (.int 32)))])]) (mLit (.int 12))) (m2 dNe (mIdx (mCall N19.length m19 [(mCall N27.length m27 [(m2 dMul (mLit (.str [97])) (mLit (.int 4096)))])]) (m1 dNeg (mLit (.int 1)))) (mLit (.int 4096)))))) (mRet (mLit (.bl false))) mNext)
def m39s15 : SM := (mSet 10 (mTup [(false, (mTup [(false, (mLit (.str [120])))])), (false, (mTup [(false, (mLit (.str [97]))), (false, (mLit (.str [98])))])), (false, (mTup [(false, (mLit (.int 0))), (false, (mLit (.int 0)))])), (false, (mTup [(false, (mLit (.int 1))), (false, (mLit (.int 1))), (false, (mLit (.str [99])))]))]))
def m39s16 : SM := (mRet (mAnd (m2 dEq (mCall N31.length m31 [(mVar 10)]) (mTup [(false, (mTup [(false, (mLit (.str [97]))), (false, (mLit (.str [98])))])), (false, (mTup [(false, (mLit (.int 0))), (false, (mLit (.int 0))), (false, (mLit (.str [99])))]))])) (mAnd (m2 dEq (mCall N26.length m26 [(mVar 10)]) (mTup [(false, (mLit (.int 0))), (false, (mLit (.int 2))), (false, (mLit (.int 0))), (false, (mLit (.int 1)))])) (mAnd (m2 dEq (mCall N20.length m20 [(mVar 10)]) (mLit (.str [97, 98, 97, 98, 99]))) (mAnd (m2 dEq (mCall N23.length m23 [(mVar 10), (mLit (.int 4))]) (mLit (.int 1))) (mAnd (m2 dEq (mCall N23.length m23 [(mVar 10), (mLit (.int 3))]) (mLit (.int 2))) (mAnd (mCall N30.length m30 [(mVar 10), (mTup [(false, (mTup [(false, (mLit (.str [97]))), (false, (mLit (.str [98]))), (false, (mLit (.str [97]))), (false, (mLit (.str [98]))), (false, (mLit (.str [99])))]))])]) (m1 opNot (mCall N30.length m30 [(mVar 10), (mTup [(false, (mTup [(false, (mLit (.str [97]))), (false, (mLit (.str [98])))]))])])))))))))
def m39 : SM := (mSeq m39s0 (mSeq m39s1 (mSeq m39s2 (mSeq m39s3 (mSeq m39s4 (mSeq m39s5 (mSeq m39s6 (mSeq m39s7 (mSeq m39s8 (mSeq m39s9 (mSeq m39s10 (mSeq m39s11 (mSeq m39s12 (mSeq m39s13 (mSeq m39s14 (mSeq m39s15 m39s16))))))))))))))))
theorem b39 (G : Gs mg) (F37 : FnAt P w K mg base cls 4 "_law_pick" N37 ["draw", "things"] m37) (F36 : FnAt P w K mg base cls 3 "_law_next" N36 ["draw", "bound"] m36) (F38 : FnAt P w K mg base cls 1 "_law_doubles" N38 ["sign", "many"] m38) (F20 : FnAt P w K mg base cls 6 "grammar_text" N20 ["grammar"] m20) (F19 : FnAt P w K mg base cls 6 "row_lengths" N19 ["grammar"] m19) (F23 : FnAt P w K mg base cls 6 "grammar_steps" N23 ["grammar", "place"] m23) (F21 : FnAt P w K mg base cls 6 "grammar_sign" N21 ["grammar", "place"] m21) (F25 : FnAt P w K mg base cls 6 "counts_in_grammar" N25 ["grammar"] m25) (F26 : FnAt P w K mg base cls 6 "row_uses" N26 ["grammar"] m26) (F24 : FnAt P w K mg base cls 6 "parts_many" N24 ["grammar"] m24) (F31 : FnAt P w K mg base cls 7 "trimmed_grammar" N31 ["grammar"] m31) (F17 : FnAt P w K mg base cls 5 "is_grammar" N17 ["thing"] m17) (F27 : FnAt P w K mg base cls 6 "paired_grammar" N27 ["text"] m27) (F30 : FnAt P w K mg base cls 7 "same_grammar_texts" N30 ["one", "other"] m30) (hr : Room 7 (A.deeper (envOfC "law" (defScope (top 39)) s.heap.objs.size f cdv))) : QSs (CXn P w K mg base N39 "law" (defScope (top 39)) f cdv A outer s H E) cls (defBody (top 39)).tail m39 := by
  have hu := hr.units
  have hh := hr.hd
  have hu1 := hu_of hr
  exact (ss_cons (ss_par (i := 2) (j := 3) rfl nd39 rfl rfl (by decide) rfl rfl (oCons (qFM 1 F37 (hr.mono (by decide)) (qCons (s_lst (oCons (qStr [97]) (oCons (qStr [126]) (oCons (qStr [32]) (oCons (qStr [10]) oNil))))) qNil)) (oCons (qFM 1 F36 (hr.mono (by decide)) (qCons s_int qNil)) oNil)) rfl rfl) (ss_cons (sSet 4 (qF F38 (hr.mono (by decide)) (qCons (qV 2) (qCons (qV 3) qNil))) nd39) (ss_cons (sSet 5 s_int nd39) (ss_cons (ss_for (is := []) (ms := [6, 5]) PassesOwn.never rfl (s_rng1 rfl G.range_ (qCons (qV 3) qNil) rfl) (gOne 6 nd39) (ss_one (sSet 5 (s_bin o_mul (qV 5) s_int rfl) nd39)) (fun _ => rfl) rfl rfl rfl rfl) (ss_cons (ss_if (PW.pt (w_or (t_cmp (W := Wz) bl_dNe (o_ne hu) (qF F20 (hr.mono (by decide)) (qCons (qV 4) qNil)) (s_bin o_mul (qV 2) (qV 5) rfl) rfl rfl) (w_or (t_cmp (W := Wz) bl_dNe (o_ne hu) (qIdx hu (qF F19 (hr.mono (by decide)) (qCons (qV 4) qNil)) (s_un o_neg s_int)) (qV 5) rfl rfl) (w_or (t_cmp (W := Wz) bl_dNe (o_ne hu) (qF F23 (hr.mono (by decide)) (qCons (qV 4) (qCons (s_bin o_sub (qV 5) s_int rfl) qNil))) (s_bin o_add (qV 3) s_int rfl) rfl rfl) (pw_or1 (t_cmp (W := Wz) bl_dNe (o_ne hu) (qF F21 (hr.mono (by decide)) (qCons (qV 4) (qCons (s_bin o_fdiv (qV 5) s_int rfl) qNil))) (qV 2) rfl rfl)))))) (ss_one (sRet s_bl)) ss_nil) (ss_cons (ss_if (PW.pt (w_or (t_cmp (W := Wz) bl_dNe (o_ne hu) (qF F25 (hr.mono (by decide)) (qCons (qV 4) qNil)) (s_disp (p_cons (qV 2) (s_cp (qV 5)) p_nil) rfl rfl (by simp) rfl rfl) rfl rfl) (w_or (t_cmp (W := Wz) bl_dNe (o_ne hu) (qIdx hu (qF F26 (hr.mono (by decide)) (qCons (qV 4) qNil)) s_int) (qV 5) rfl rfl) (w_or (t_cmp (W := Wz) bl_dNe (o_ne hu) (qF F24 (hr.mono (by decide)) (qCons (qV 4) qNil)) (s_bin o_add s_int (s_bin o_mul s_int (qV 3) rfl) rfl) rfl rfl) (pw_or1 (t_cmp (W := Wz) bl_dNe (o_ne hu) (qF F31 (hr.mono (by decide)) (qCons (qV 4) qNil)) (qV 4) rfl rfl)))))) (ss_one (sRet s_bl)) ss_nil) (ss_cons (ss_if (tPl (qF F17 (hr.mono (by decide)) (qCons (qF F38 (hr.mono (by decide)) (qCons (qV 2) (qCons s_int qNil))) qNil))) (ss_one (sRet s_bl)) ss_nil) (ss_cons (sSet 7 (s_bin o_add (s_tup (oCons (s_tup (oCons (qStr [98]) oNil)) (oCons (s_tup (oCons (qStr [97]) oNil)) (oCons (s_tup (oCons s_int (oCons s_int oNil))) oNil)))) (qTy c_tuple (qCons (s_lc (W := Wz) (own := [("at", 8)]) (is := []) (ms := [8]) rfl nd39 (s_rng2 rfl G.range_ (qCons s_int (qCons s_int qNil)) rfl rfl) (blkOk_by (by kernel_rfl)) (fun _ _ _ _ _ => (gOne 8 nd39)) (fun _ _ _ _ _ => ts_nil) (fun _ _ _ _ _ => (s_tup (oCons (s_cp (qV 8)) (oCons (s_bin o_sub (qV 8) s_int rfl) oNil)))) (fun _ => rfl) rfl) qNil) G.tuple_) rfl) nd39) (ss_cons (ss_if (PW.pt (w_or (t_cmp (W := Wz) bl_dNe (o_ne hu) (qF F19 (hr.mono (by decide)) (qCons (qV 7) qNil)) (s_tup (oCons s_int (oCons s_int (oCons s_int (oCons s_int (oCons s_int (oCons s_int (oCons s_int (oCons s_int (oCons s_int (oCons s_int (oCons s_int (oCons s_int (oCons s_int oNil)))))))))))))) rfl rfl) (w_or (t_cmp (W := Wz) bl_dNe (o_ne hu) (s_sl (qF F20 (hr.mono (by decide)) (qCons (qV 7) qNil)) so_none (so_some (W := Wz) s_int) rfl rfl) (qStr [97, 98, 97, 97, 98, 97, 98, 97, 97, 98, 97, 97, 98]) rfl rfl) (w_or (t_cmp (W := Wz) bl_dNe (o_ne hu) (qF F25 (hr.mono (by decide)) (qCons (qV 7) qNil)) (s_disp (p_cons (qStr [97]) s_int (p_cons (qStr [98]) s_int p_nil)) rfl rfl (by simp) rfl rfl) rfl rfl) (w_or (t_cmp (W := Wz) bl_dNe (o_ne hu) (s_sl (qF F26 (hr.mono (by decide)) (qCons (qV 7) qNil)) so_none (so_some (W := Wz) s_int) rfl rfl) (s_tup (oCons s_int (oCons s_int (oCons s_int oNil)))) rfl rfl) (pw_or1 (t_cmp (W := Wz) bl_dNe (o_ne hu) (qF F20 (hr.mono (by decide)) (qCons (s_sl (qV 7) so_none (so_some (W := Wz) s_int) rfl rfl) qNil)) (qStr [97, 98, 97, 97, 98, 97, 98, 97]) rfl rfl))))))) (ss_one (sRet s_bl)) ss_nil) (ss_cons (sSet 9 (qTy c_tuple (qCons (s_bin o_add (s_lst (oCons (s_tup (oCons (qStr [97]) oNil)) oNil)) (s_lc (W := Wz) (own := [("at", 8)]) (is := []) (ms := [8]) rfl nd39 (s_rng1 rfl G.range_ (qCons s_int qNil) rfl) (blkOk_by (by kernel_rfl)) (fun _ _ _ _ _ => (gOne 8 nd39)) (fun _ _ _ _ _ => ts_nil) (fun _ _ _ _ _ => (s_tup (oCons (s_cp (qV 8)) (oCons (qStr [98]) oNil)))) (fun _ => rfl) rfl) rfl) qNil) G.tuple_) nd39) (ss_cons (ss_if (PW.pt (w_or (t_cmp (W := Wz) bl_dNe (o_ne hu) (qB c_len (qCons (qV 9) qNil) G.len_) s_int rfl rfl) (w_or (t_not (tPl (qF F17 (hr.mono (by decide)) (qCons (qV 9) qNil)))) (w_or (tPl (qF F17 (hr.mono (by decide)) (qCons (s_bin o_add (qV 9) (s_tup (oCons (s_tup (oCons s_int oNil)) oNil)) rfl) qNil))) (w_or (t_cmp (W := Wz) bl_dNe (o_ne hu) (qF F20 (hr.mono (by decide)) (qCons (qV 9) qNil)) (s_bin o_add (qStr [97]) (s_bin o_mul (qStr [98]) s_int rfl) rfl) rfl rfl) (w_or (t_cmp (W := Wz) bl_dNe (o_ne hu) (qF F23 (hr.mono (by decide)) (qCons (qV 9) (qCons s_int qNil))) s_int rfl rfl) (w_or (t_cmp (W := Wz) bl_dNe (o_ne hu) (qF F23 (hr.mono (by decide)) (qCons (qV 9) (qCons s_int qNil))) s_int rfl rfl) (pw_or1 (t_cmp (W := Wz) bl_dNe (o_ne hu) (qF F26 (hr.mono (by decide)) (qCons (qV 9) qNil)) (s_bin o_mul (s_tup (oCons s_int oNil)) s_int rfl) rfl rfl))))))))) (ss_one (sRet s_bl)) ss_nil) (ss_cons (ss_if (PW.pt (w_or (t_cmp (W := Wz) bl_dNe (o_ne hu) (qF F27 (hr.mono (by decide)) (qCons (qStr [97, 98, 97, 98, 97, 98, 97, 98]) qNil)) (s_tup (oCons (s_tup (oCons (qStr [97]) (oCons (qStr [98]) oNil))) (oCons (s_tup (oCons s_int (oCons s_int oNil))) (oCons (s_tup (oCons s_int (oCons s_int oNil))) oNil)))) rfl rfl) (w_or (t_cmp (W := Wz) bl_dNe (o_ne hu) (qF F27 (hr.mono (by decide)) (qCons (qStr [97, 97, 97]) qNil)) (s_tup (oCons (s_tup (oCons (qStr [97]) (oCons (qStr [97]) (oCons (qStr [97]) oNil)))) oNil)) rfl rfl) (pw_or1 (t_cmp (W := Wz) bl_dNe (o_ne hu) (qF F27 (hr.mono (by decide)) (qCons (qStr [97, 97, 97, 97, 97]) qNil)) (s_tup (oCons (s_tup (oCons (qStr [97]) (oCons (qStr [97]) oNil))) (oCons (s_tup (oCons s_int (oCons s_int (oCons (qStr [97]) oNil)))) oNil))) rfl rfl))))) (ss_one (sRet s_bl)) ss_nil) (ss_cons (ss_if (PW.pt (w_or (t_cmp (W := Wz) bl_dNe (o_ne hu) (qF F27 (hr.mono (by decide)) (qCons (qStr [97, 97, 98, 97, 97, 98]) qNil)) (s_tup (oCons (s_tup (oCons (qStr [97]) (oCons (qStr [97]) oNil))) (oCons (s_tup (oCons s_int (oCons (qStr [98]) oNil))) (oCons (s_tup (oCons s_int (oCons s_int oNil))) oNil)))) rfl rfl) (pw_or1 (t_cmp (W := Wz) bl_dNe (o_ne hu) (qF F27 (hr.mono (by decide)) (qCons (qStr [120, 121, 122, 120, 121]) qNil)) (s_tup (oCons (s_tup (oCons (qStr [120]) (oCons (qStr [121]) oNil))) (oCons (s_tup (oCons s_int (oCons (qStr [122]) (oCons s_int oNil)))) oNil))) rfl rfl)))) (ss_one (sRet s_bl)) ss_nil) (ss_cons (ss_if (PW.pt (w_or (t_cmp (W := Wz) bl_dNe (o_ne hu) (qF F27 (hr.mono (by decide)) (qCons (qStr [97, 98, 99, 100]) qNil)) (s_tup (oCons (s_tup (oCons (qStr [97]) (oCons (qStr [98]) (oCons (qStr [99]) (oCons (qStr [100]) oNil))))) oNil)) rfl rfl) (pw_or1 (t_cmp (W := Wz) bl_dNe (o_ne hu) (qF F27 (hr.mono (by decide)) (qCons (qStr [10, 32, 10, 32]) qNil)) (s_tup (oCons (s_tup (oCons (qStr [10]) (oCons (qStr [32]) oNil))) (oCons (s_tup (oCons s_int (oCons s_int oNil))) oNil))) rfl rfl)))) (ss_one (sRet s_bl)) ss_nil) (ss_cons (ss_if (PW.pt (w_or (t_cmp (W := Wz) bl_dNe (o_ne hu) (qF F27 (hr.mono (by decide)) (qCons (s_bin o_mul (qStr [97]) s_int rfl) qNil)) (s_tup (oCons (s_tup (oCons (qStr [97]) (oCons (qStr [97]) oNil))) (oCons (s_tup (oCons s_int (oCons s_int oNil))) (oCons (s_tup (oCons s_int (oCons s_int oNil))) (oCons (s_tup (oCons s_int (oCons s_int oNil))) (oCons (s_tup (oCons s_int (oCons s_int oNil))) (oCons (s_tup (oCons s_int (oCons s_int oNil))) oNil))))))) rfl rfl) (w_or (t_cmp (W := Wz) bl_dNe (o_ne hu) (qF F27 (hr.mono (by decide)) (qCons (qStr [98, 97, 97, 98, 97, 98]) qNil)) (s_tup (oCons (s_tup (oCons (qStr [98]) (oCons (qStr [97]) oNil))) (oCons (s_tup (oCons s_int (oCons (qStr [97]) (oCons s_int (oCons (qStr [98]) oNil))))) oNil))) rfl rfl) (w_or (t_cmp (W := Wz) bl_dNe (o_ne hu) (qF F24 (hr.mono (by decide)) (qCons (qF F27 (hr.mono (by decide)) (qCons (s_bin o_mul (qStr [97, 98]) s_int rfl) qNil)) qNil)) s_int rfl rfl) (pw_or1 (t_cmp (W := Wz) bl_dNe (o_ne hu) (qIdx hu (qF F19 (hr.mono (by decide)) (qCons (qF F27 (hr.mono (by decide)) (qCons (s_bin o_mul (qStr [97]) s_int rfl) qNil)) qNil)) (s_un o_neg s_int)) s_int rfl rfl)))))) (ss_one (sRet s_bl)) ss_nil) (ss_cons (sSet 10 (s_tup (oCons (s_tup (oCons (qStr [120]) oNil)) (oCons (s_tup (oCons (qStr [97]) (oCons (qStr [98]) oNil))) (oCons (s_tup (oCons s_int (oCons s_int oNil))) (oCons (s_tup (oCons s_int (oCons s_int (oCons (qStr [99]) oNil)))) oNil))))) nd39) (ss_one (sRet (s_and (s_cmp (o_eq hu) (qF F31 (hr.mono (by decide)) (qCons (qV 10) qNil)) (s_tup (oCons (s_tup (oCons (qStr [97]) (oCons (qStr [98]) oNil))) (oCons (s_tup (oCons s_int (oCons s_int (oCons (qStr [99]) oNil)))) oNil))) rfl rfl) (s_and (s_cmp (o_eq hu) (qF F26 (hr.mono (by decide)) (qCons (qV 10) qNil)) (s_tup (oCons s_int (oCons s_int (oCons s_int (oCons s_int oNil))))) rfl rfl) (s_and (s_cmp (o_eq hu) (qF F20 (hr.mono (by decide)) (qCons (qV 10) qNil)) (qStr [97, 98, 97, 98, 99]) rfl rfl) (s_and (s_cmp (o_eq hu) (qF F23 (hr.mono (by decide)) (qCons (qV 10) (qCons s_int qNil))) s_int rfl rfl) (s_and (s_cmp (o_eq hu) (qF F23 (hr.mono (by decide)) (qCons (qV 10) (qCons s_int qNil))) s_int rfl rfl) (s_and (qF F30 (hr.mono (by decide)) (qCons (qV 10) (qCons (s_tup (oCons (s_tup (oCons (qStr [97]) (oCons (qStr [98]) (oCons (qStr [97]) (oCons (qStr [98]) (oCons (qStr [99]) oNil)))))) oNil)) qNil))) (s_one (s_not (qF F30 (hr.mono (by decide)) (qCons (qV 10) (qCons (s_tup (oCons (s_tup (oCons (qStr [97]) (oCons (qStr [98]) oNil))) oNil)) qNil)))))))))))))))))))))))))))))
theorem sc39 : FnScope N39 ["script"] (defScope (top 39)) := ⟨rfl, rfl, rfl, nd39, rfl, by decide +kernel, by decide +kernel⟩
theorem a39 (G : Gs mg) (F37 : FnAt P w K mg base cls 4 "_law_pick" N37 ["draw", "things"] m37) (F36 : FnAt P w K mg base cls 3 "_law_next" N36 ["draw", "bound"] m36) (F38 : FnAt P w K mg base cls 1 "_law_doubles" N38 ["sign", "many"] m38) (F20 : FnAt P w K mg base cls 6 "grammar_text" N20 ["grammar"] m20) (F19 : FnAt P w K mg base cls 6 "row_lengths" N19 ["grammar"] m19) (F23 : FnAt P w K mg base cls 6 "grammar_steps" N23 ["grammar", "place"] m23) (F21 : FnAt P w K mg base cls 6 "grammar_sign" N21 ["grammar", "place"] m21) (F25 : FnAt P w K mg base cls 6 "counts_in_grammar" N25 ["grammar"] m25) (F26 : FnAt P w K mg base cls 6 "row_uses" N26 ["grammar"] m26) (F24 : FnAt P w K mg base cls 6 "parts_many" N24 ["grammar"] m24) (F31 : FnAt P w K mg base cls 7 "trimmed_grammar" N31 ["grammar"] m31) (F17 : FnAt P w K mg base cls 5 "is_grammar" N17 ["thing"] m17) (F27 : FnAt P w K mg base cls 6 "paired_grammar" N27 ["text"] m27) (F30 : FnAt P w K mg base cls 7 "same_grammar_texts" N30 ["one", "other"] m30) {fd : FuncData} (F : FunD K "law" "law" (defArgs (top 39)) (defBody (top 39)) (defScope (top 39)) [] [] f fd) (hm : ∀ ns : List Int, ns.length ≤ 63 → ∃ S', m39.run (lawS 9 ns) = .rt (.bl true) S') : FnOk P w K mg base CX0 8 f fd ["script"] (spLaw K) := by
  refine F.ok sc39 (fun vs H Q E h => ?_) (fun cdv A outer s H vs Q E hr h => ⟨_, PSs.nox (pss_cons (ps_set (i := 1) nd39 rfl (by first | exact Or.inl rfl | exact Or.inr rfl) pe_init) (b39 G F37 F36 F38 F20 F19 F23 F21 F25 F26 F24 F31 F17 F27 F30 hr)), law_run rfl hm h⟩)
  obtain ⟨a, ns, rfl, _⟩ := h
  rfl
def d7 : He.DefD := ⟨("is_whole", none), "is_whole", "is_whole", defArgs (top 7), defBody (top 7), defScope (top 7), [], []⟩
def d8 : He.DefD := ⟨("is_from", none), "is_from", "is_from", defArgs (top 8), defBody (top 8), defScope (top 8), [], []⟩
def d9 : He.DefD := ⟨("is_text", none), "is_text", "is_text", defArgs (top 9), defBody (top 9), defScope (top 9), [], []⟩
def d11 : He.DefD := ⟨("check_text", none), "check_text", "check_text", defArgs (top 11), defBody (top 11), defScope (top 11), [], []⟩
def d15 : He.DefD := ⟨("lengths_in", none), "lengths_in", "lengths_in", defArgs (top 15), defBody (top 15), defScope (top 15), [], []⟩
def d16 : He.DefD := ⟨("is_part", none), "is_part", "is_part", defArgs (top 16), defBody (top 16), defScope (top 16), [], []⟩
def d17 : He.DefD := ⟨("is_grammar", none), "is_grammar", "is_grammar", defArgs (top 17), defBody (top 17), defScope (top 17), [], []⟩
def d18 : He.DefD := ⟨("check_grammar", none), "check_grammar", "check_grammar", defArgs (top 18), defBody (top 18), defScope (top 18), [], []⟩
def d19 : He.DefD := ⟨("row_lengths", none), "row_lengths", "row_lengths", defArgs (top 19), defBody (top 19), defScope (top 19), [], []⟩
def d20 : He.DefD := ⟨("grammar_text", none), "grammar_text", "grammar_text", defArgs (top 20), defBody (top 20), defScope (top 20), [], []⟩
def d21 : He.DefD := ⟨("grammar_sign", none), "grammar_sign", "grammar_sign", defArgs (top 21), defBody (top 21), defScope (top 21), [], []⟩
def d22 : He.DefD := ⟨("walked", none), "walked", "walked", defArgs (top 22), defBody (top 22), defScope (top 22), [], []⟩
def d23 : He.DefD := ⟨("grammar_steps", none), "grammar_steps", "grammar_steps", defArgs (top 23), defBody (top 23), defScope (top 23), [], []⟩
def d24 : He.DefD := ⟨("parts_many", none), "parts_many", "parts_many", defArgs (top 24), defBody (top 24), defScope (top 24), [], []⟩
def d25 : He.DefD := ⟨("counts_in_grammar", none), "counts_in_grammar", "counts_in_grammar", defArgs (top 25), defBody (top 25), defScope (top 25), [], []⟩
def d26 : He.DefD := ⟨("row_uses", none), "row_uses", "row_uses", defArgs (top 26), defBody (top 26), defScope (top 26), [], []⟩
def d27 : He.DefD := ⟨("paired_grammar", none), "paired_grammar", "paired_grammar", defArgs (top 27), defBody (top 27), defScope (top 27), [], []⟩
def d28 : He.DefD := ⟨("pair_counts", none), "pair_counts", "pair_counts", defArgs (top 28), defBody (top 28), defScope (top 28), [], []⟩
def d29 : He.DefD := ⟨("replaced_pairs", none), "replaced_pairs", "replaced_pairs", defArgs (top 29), defBody (top 29), defScope (top 29), [], []⟩
def d30 : He.DefD := ⟨("same_grammar_texts", none), "same_grammar_texts", "same_grammar_texts", defArgs (top 30), defBody (top 30), defScope (top 30), [], []⟩
def d31 : He.DefD := ⟨("trimmed_grammar", none), "trimmed_grammar", "trimmed_grammar", defArgs (top 31), defBody (top 31), defScope (top 31), [], []⟩
def d33 : He.DefD := ⟨("_law_cell_at", none), "_law_cell_at", "_law_cell_at", defArgs (top 33), defBody (top 33), defScope (top 33), [], []⟩
def d34 : He.DefD := ⟨("_law_draw", none), "_law_draw", "_law_draw", defArgs (top 34), defBody (top 34), defScope (top 34), [], []⟩
def d35 : He.DefD := ⟨("_law_number", none), "_law_number", "_law_number", defArgs (top 35), defBody (top 35), defScope (top 35), [], []⟩
def d36 : He.DefD := ⟨("_law_next", none), "_law_next", "_law_next", defArgs (top 36), defBody (top 36), defScope (top 36), [], []⟩
def d37 : He.DefD := ⟨("_law_pick", none), "_law_pick", "_law_pick", defArgs (top 37), defBody (top 37), defScope (top 37), [], []⟩
def d38 : He.DefD := ⟨("_law_doubles", none), "_law_doubles", "_law_doubles", defArgs (top 38), defBody (top 38), defScope (top 38), [], []⟩
def d39 : He.DefD := ⟨("law", none), "law", "law", defArgs (top 39), defBody (top 39), defScope (top 39), [], []⟩
def fn : List He.DefD := [d7, d8, d9, d11, d15, d16, d17, d18, d19, d20, d21, d22, d23, d24, d25, d26, d27, d28, d29, d30, d31, d33, d34, d35, d36, d37, d38, d39]
def fa : List He.Fa := [.glo "is_whole", .glo "is_from", .glo "is_text", .glo "check_text", .glo "lengths_in", .glo "is_part", .glo "is_grammar", .glo "check_grammar", .glo "row_lengths", .glo "grammar_text", .glo "grammar_sign", .glo "walked", .glo "grammar_steps", .glo "parts_many", .glo "counts_in_grammar", .glo "row_uses", .glo "paired_grammar", .glo "pair_counts", .glo "replaced_pairs", .glo "same_grammar_texts", .glo "trimmed_grammar", .glo "_law_cell_at", .glo "_law_draw", .glo "_law_number", .glo "_law_next", .glo "_law_pick", .glo "_law_doubles", .glo "law", .free "all", .free "bool", .free "enumerate", .free "int", .free "isinstance", .free "len", .free "list", .free "max", .free "range", .free "sorted", .free "str", .free "sum", .free "tuple", .free "zip", .int "MOST_PARTS" 20, .int "MOST_ROWS" 60, .int "MOST_SIGNS" 5000, .str "SIGNS" " !\"#$%&'()*+,-./0123456789:;<=>?@ABCDEFGHIJKLMNOPQRSTUVWXYZ[\\]^_`abcdefghijklmnopqrstuvwxyz{|}~"]
abbrev Rw : PySem.W.OpenRow := PySem.W.OpenLaw.row PySem.Challenge.rw_longtexts_k64_known_grammars
abbrev hk : PySem.W.Hook := He.hookD 4 fa fn
def ob (s : PySem.W.SharedT) : He.AlD := He.obsDG 4 fa fn (HandSHeadRun.getT s)
theorem ob_eq (s : PySem.W.SharedT) : ob s = hk.obs s.abs := He.obsDG_eq (HandSHeadRun.getT_eq s)
def loose : List Str := (["TextError", "BadThing", "BadPlace", "SIGNS", "MOST_SIGNS", "is_whole", "is_from", "is_text", "check_text", "MOST_ROWS", "MOST_PARTS", "lengths_in", "is_part", "is_grammar", "check_grammar", "row_lengths", "grammar_text", "grammar_sign", "walked", "grammar_steps"] : List Str) ++ (["parts_many", "counts_in_grammar", "row_uses", "paired_grammar", "pair_counts", "replaced_pairs", "same_grammar_texts", "trimmed_grammar", "_law_cell_at", "_law_draw", "_law_number", "_law_next", "_law_pick", "_law_doubles"] : List Str)
theorem run (w : World) : HandSHeadRun.RunEq Rw (PySem.W.view Rw.prog [39]) hk ob 2000 loose w := by
  intro os
  kernel_rfl
theorem facts {P : Program} {w : World} {K : PySem.W.Frag} {h : Heap} {mg : Str → Option Value} {f : Addr} (X : K.In h) (G0 : h.Ns mainGlobals mg) (hfa : mg ("law" : Str) = some (.ref f)) (c : He.SaysD fa fn K) (hm : ∀ ns : List Int, ns.length ≤ 63 → ∃ S', m39.run (lawS 9 ns) = .rt (.bl true) S') :
    ∃ fd : FuncData, (∀ (s : Shared) (v : Value), BindsTo s fd ⟨[v], []⟩ [("script", v)]) ∧ ∀ base : Heap, K.In base → base.Ns mainGlobals mg → FnOk P w K mg base CX0 8 f fd ["script"] (spLaw K) := by
  obtain ⟨fd7, D7⟩ := c.def_ 0 (d := d7) rfl
  have g7 := He.glo_ok X G0 (c.fact 0 (f := .glo "is_whole") rfl)
  obtain ⟨fd8, D8⟩ := c.def_ 1 (d := d8) rfl
  have g8 := He.glo_ok X G0 (c.fact 1 (f := .glo "is_from") rfl)
  obtain ⟨fd9, D9⟩ := c.def_ 2 (d := d9) rfl
  have g9 := He.glo_ok X G0 (c.fact 2 (f := .glo "is_text") rfl)
  obtain ⟨fd11, D11⟩ := c.def_ 3 (d := d11) rfl
  have g11 := He.glo_ok X G0 (c.fact 3 (f := .glo "check_text") rfl)
  obtain ⟨fd15, D15⟩ := c.def_ 4 (d := d15) rfl
  have g15 := He.glo_ok X G0 (c.fact 4 (f := .glo "lengths_in") rfl)
  obtain ⟨fd16, D16⟩ := c.def_ 5 (d := d16) rfl
  have g16 := He.glo_ok X G0 (c.fact 5 (f := .glo "is_part") rfl)
  obtain ⟨fd17, D17⟩ := c.def_ 6 (d := d17) rfl
  have g17 := He.glo_ok X G0 (c.fact 6 (f := .glo "is_grammar") rfl)
  obtain ⟨fd18, D18⟩ := c.def_ 7 (d := d18) rfl
  have g18 := He.glo_ok X G0 (c.fact 7 (f := .glo "check_grammar") rfl)
  obtain ⟨fd19, D19⟩ := c.def_ 8 (d := d19) rfl
  have g19 := He.glo_ok X G0 (c.fact 8 (f := .glo "row_lengths") rfl)
  obtain ⟨fd20, D20⟩ := c.def_ 9 (d := d20) rfl
  have g20 := He.glo_ok X G0 (c.fact 9 (f := .glo "grammar_text") rfl)
  obtain ⟨fd21, D21⟩ := c.def_ 10 (d := d21) rfl
  have g21 := He.glo_ok X G0 (c.fact 10 (f := .glo "grammar_sign") rfl)
  obtain ⟨fd22, D22⟩ := c.def_ 11 (d := d22) rfl
  have g22 := He.glo_ok X G0 (c.fact 11 (f := .glo "walked") rfl)
  obtain ⟨fd23, D23⟩ := c.def_ 12 (d := d23) rfl
  have g23 := He.glo_ok X G0 (c.fact 12 (f := .glo "grammar_steps") rfl)
  obtain ⟨fd24, D24⟩ := c.def_ 13 (d := d24) rfl
  have g24 := He.glo_ok X G0 (c.fact 13 (f := .glo "parts_many") rfl)
  obtain ⟨fd25, D25⟩ := c.def_ 14 (d := d25) rfl
  have g25 := He.glo_ok X G0 (c.fact 14 (f := .glo "counts_in_grammar") rfl)
  obtain ⟨fd26, D26⟩ := c.def_ 15 (d := d26) rfl
  have g26 := He.glo_ok X G0 (c.fact 15 (f := .glo "row_uses") rfl)
  obtain ⟨fd27, D27⟩ := c.def_ 16 (d := d27) rfl
  have g27 := He.glo_ok X G0 (c.fact 16 (f := .glo "paired_grammar") rfl)
  obtain ⟨fd28, D28⟩ := c.def_ 17 (d := d28) rfl
  have g28 := He.glo_ok X G0 (c.fact 17 (f := .glo "pair_counts") rfl)
  obtain ⟨fd29, D29⟩ := c.def_ 18 (d := d29) rfl
  have g29 := He.glo_ok X G0 (c.fact 18 (f := .glo "replaced_pairs") rfl)
  obtain ⟨fd30, D30⟩ := c.def_ 19 (d := d30) rfl
  have g30 := He.glo_ok X G0 (c.fact 19 (f := .glo "same_grammar_texts") rfl)
  obtain ⟨fd31, D31⟩ := c.def_ 20 (d := d31) rfl
  have g31 := He.glo_ok X G0 (c.fact 20 (f := .glo "trimmed_grammar") rfl)
  obtain ⟨fd33, D33⟩ := c.def_ 21 (d := d33) rfl
  have g33 := He.glo_ok X G0 (c.fact 21 (f := .glo "_law_cell_at") rfl)
  obtain ⟨fd34, D34⟩ := c.def_ 22 (d := d34) rfl
  have g34 := He.glo_ok X G0 (c.fact 22 (f := .glo "_law_draw") rfl)
  obtain ⟨fd35, D35⟩ := c.def_ 23 (d := d35) rfl
  have g35 := He.glo_ok X G0 (c.fact 23 (f := .glo "_law_number") rfl)
  obtain ⟨fd36, D36⟩ := c.def_ 24 (d := d36) rfl
  have g36 := He.glo_ok X G0 (c.fact 24 (f := .glo "_law_next") rfl)
  obtain ⟨fd37, D37⟩ := c.def_ 25 (d := d37) rfl
  have g37 := He.glo_ok X G0 (c.fact 25 (f := .glo "_law_pick") rfl)
  obtain ⟨fd38, D38⟩ := c.def_ 26 (d := d38) rfl
  have g38 := He.glo_ok X G0 (c.fact 26 (f := .glo "_law_doubles") rfl)
  obtain ⟨fd39, D39⟩ := c.def_ 27 (d := d39) rfl
  have g39 := He.glo_ok X G0 (c.fact 27 (f := .glo "law") rfl)
  have G : Gs mg := ⟨He.free_ok X G0 (c.fact 28 (f := .free "all") rfl), He.free_ok X G0 (c.fact 29 (f := .free "bool") rfl), He.free_ok X G0 (c.fact 30 (f := .free "enumerate") rfl), He.free_ok X G0 (c.fact 31 (f := .free "int") rfl), He.free_ok X G0 (c.fact 32 (f := .free "isinstance") rfl), He.free_ok X G0 (c.fact 33 (f := .free "len") rfl), He.free_ok X G0 (c.fact 34 (f := .free "list") rfl), He.free_ok X G0 (c.fact 35 (f := .free "max") rfl), He.free_ok X G0 (c.fact 36 (f := .free "range") rfl), He.free_ok X G0 (c.fact 37 (f := .free "sorted") rfl), He.free_ok X G0 (c.fact 38 (f := .free "str") rfl), He.free_ok X G0 (c.fact 39 (f := .free "sum") rfl), He.free_ok X G0 (c.fact 40 (f := .free "tuple") rfl), He.free_ok X G0 (c.fact 41 (f := .free "zip") rfl), He.int_ok X G0 (c.fact 42 (f := .int "MOST_PARTS" 20) rfl), He.int_ok X G0 (c.fact 43 (f := .int "MOST_ROWS" 60) rfl), He.int_ok X G0 (c.fact 44 (f := .int "MOST_SIGNS" 5000) rfl), He.str_ok X G0 (c.fact 45 (f := .str "SIGNS" " !\"#$%&'()*+,-./0123456789:;<=>?@ABCDEFGHIJKLMNOPQRSTUVWXYZ[\\]^_`abcdefghijklmnopqrstuvwxyz{|}~") rfl)⟩
  have e := hfa.symm.trans g39
  cases e
  have b := FunD.bindsA (ps := ["script"]) D39 fun _ _ _ _ _ _ us hl => match us, hl with | [_], _ => rfl
  refine ⟨fd39, fun s v => b s [v] rfl, fun base _ _ => ?_⟩
  have F33 := a33 (P := P) (w := w) (base := base) (cls := fun _ => 0) G  D33 g33
  have F34 := a34 (P := P) (w := w) (base := base) (cls := fun _ => 0) G  D34 g34
  have F35 := a35 (P := P) (w := w) (base := base) (cls := fun _ => 0) G F34 D35 g35
  have F36 := a36 (P := P) (w := w) (base := base) (cls := fun _ => 0) G F33 F35 D36 g36
  have F37 := a37 (P := P) (w := w) (base := base) (cls := fun _ => 0) G F36 D37 g37
  have F38 := a38 (P := P) (w := w) (base := base) (cls := fun _ => 0) G  D38 g38
  have F9 := a9 (P := P) (w := w) (base := base) (cls := fun _ => 0) G  D9 g9
  have F7 := a7 (P := P) (w := w) (base := base) (cls := fun _ => 0) G  D7 g7
  have F8 := a8 (P := P) (w := w) (base := base) (cls := fun _ => 0) G F7 D8 g8
  have F16 := a16 (P := P) (w := w) (base := base) (cls := fun _ => 0) G F9 F8 D16 g16
  have F15 := a15 (P := P) (w := w) (base := base) (cls := fun _ => 0) G F16 D15 g15
  have F18 := a18 (P := P) (w := w) (base := base) (cls := fun _ => 0) G F15 D18 g18
  have F20 := a20 (P := P) (w := w) (base := base) (cls := fun _ => 0) G F18 D20 g20
  have F19 := a19 (P := P) (w := w) (base := base) (cls := fun _ => 0) G F18 D19 g19
  have F22 := a22 (P := P) (w := w) (base := base) (cls := fun _ => 0) G  D22 g22
  have F23 := a23 (P := P) (w := w) (base := base) (cls := fun _ => 0) G F18 F8 F22 D23 g23
  have F21 := a21 (P := P) (w := w) (base := base) (cls := fun _ => 0) G F18 F8 F22 D21 g21
  have F25 := a25 (P := P) (w := w) (base := base) (cls := fun _ => 0) G F18 D25 g25
  have F26 := a26 (P := P) (w := w) (base := base) (cls := fun _ => 0) G F18 D26 g26
  have F24 := a24 (P := P) (w := w) (base := base) (cls := fun _ => 0) G F18 D24 g24
  have F31 := a31 (P := P) (w := w) (base := base) (cls := fun _ => 0) G F26 D31 g31
  have F17 := a17 (P := P) (w := w) (base := base) (cls := fun _ => 0) G F15 D17 g17
  have F11 := a11 (P := P) (w := w) (base := base) (cls := fun _ => 0) G F9 D11 g11
  have F29 := a29 (P := P) (w := w) (base := base) (cls := fun _ => 0) G  D29 g29
  have F28 := a28 (P := P) (w := w) (base := base) (cls := fun _ => 0) G F29 D28 g28
  have F27 := a27 (P := P) (w := w) (base := base) (cls := fun _ => 0) G F11 F28 F29 F17 D27 g27
  have F30 := a30 (P := P) (w := w) (base := base) (cls := fun _ => 0) G F18 F20 D30 g30
  exact a39 G F37 F36 F38 F20 F19 F23 F21 F25 F26 F24 F31 F17 F27 F30 D39 hm
end G64
end

section
set_option maxHeartbeats 0
namespace G64
open PySem PySem.Spec PyProof.Rows L2 Bv
theorem mulR (i j : Int) (h : Bv.small64 j = true) : dMul (.int i) (.int j) = some (.int (i * j)) := by
  unfold dMul
  simp [h]
theorem l16 : 16 ≤ lineN := by decide
theorem draw_3 (i : Int) (b : Int) (hb : 0 < b) : m34.run (ent N34.length [.int i, .int 3, .int b]) = .rt (.int ((i * 48271 + 3 * 69621) % 1000039 % b)) [.ro (.int i), .ro (.int 3), .ro (.int b), .own (.tup [D.int 1000003, D.int 1000033, D.int 1000037, D.int 1000039, D.int 1000081, D.int 1000099, D.int 1000117, D.int 1000121, D.int 1000133, D.int 1000151, D.int 1000159, D.int 1000171, D.int 1000183, D.int 1000187, D.int 1000193, D.int 1000199])] := by
  have h1 := mulR i 48271 rfl
  have h2 := mulR 3 69621 rfl
  have h3 : nthL [D.int 1000003, D.int 1000033, D.int 1000037, D.int 1000039, D.int 1000081, D.int 1000099, D.int 1000117, D.int 1000121, D.int 1000133, D.int 1000151, D.int 1000159, D.int 1000171, D.int 1000183, D.int 1000187, D.int 1000193, D.int 1000199] 3 = some (.int 1000039) := rfl
  simp [m34, mSeq, xSeq, mSet, xSet, mTup, eTup, eArgs, mLit, eLit, ent, mRet, xRet, m2, e2, mP, eP, eAL, mVar, eVar, mIdx, dIdx, atD, dAdd, dInt, dMod, h1, h2, hb, l16, h3]
theorem draw_4 (i : Int) (b : Int) (hb : 0 < b) : m34.run (ent N34.length [.int i, .int 4, .int b]) = .rt (.int ((i * 48271 + 4 * 69621) % 1000081 % b)) [.ro (.int i), .ro (.int 4), .ro (.int b), .own (.tup [D.int 1000003, D.int 1000033, D.int 1000037, D.int 1000039, D.int 1000081, D.int 1000099, D.int 1000117, D.int 1000121, D.int 1000133, D.int 1000151, D.int 1000159, D.int 1000171, D.int 1000183, D.int 1000187, D.int 1000193, D.int 1000199])] := by
  have h1 := mulR i 48271 rfl
  have h2 := mulR 4 69621 rfl
  have h3 : nthL [D.int 1000003, D.int 1000033, D.int 1000037, D.int 1000039, D.int 1000081, D.int 1000099, D.int 1000117, D.int 1000121, D.int 1000133, D.int 1000151, D.int 1000159, D.int 1000171, D.int 1000183, D.int 1000187, D.int 1000193, D.int 1000199] 4 = some (.int 1000081) := rfl
  simp [m34, mSeq, xSeq, mSet, xSet, mTup, eTup, eArgs, mLit, eLit, ent, mRet, xRet, m2, e2, mP, eP, eAL, mVar, eVar, mIdx, dIdx, atD, dAdd, dInt, dMod, h1, h2, hb, l16, h3]
def Cnu : SM := (mSeq (mSet 5 (m2 dFdiv (m2 dSub (mVar 0) (m2 dPow (mLit (.int 10)) (mLit (.int 18)))) (mVar 3))) (mSeq (mIfS (m2 dGt (mVar 5) (mLit (.int 0))) (mRet (m2 dMod (m2 dMod (mP dInt [(mVar 5)]) (mLit (.int 1009))) (mVar 2))) mNext) (mSeq (mSet 6 (m2 dMod (mP dInt [(mVar 0)]) (mLit (.int 1000003)))) (mRet (m2 dMod (mCall N34.length m34 [(m2 dMul (m2 dAdd (mVar 6) (m2 dMul (mLit (.int 977)) (mVar 1))) (m2 dAdd (m2 dAdd (mVar 6) (m2 dMul (mLit (.int 31)) (mVar 1))) (mLit (.int 5)))), (m2 dAdd (m2 dMod (mP dInt [(mVar 1)]) (mLit (.int 9))) (mLit (.int 1))), (mLit (.int 999983))]) (mVar 2))))))
theorem num_pre_2 (x b : Int) : ∃ s4, m35.run (ent N35.length [.int x, .int 2, .int b]) = Cnu.run [.ro (.int x), .ro (.int 2), .ro (.int b), .own (.int 1018081), s4, .dead, .dead] := ⟨_, rfl⟩
theorem num_run_2 (x b : Int) (hb : 0 < b) (s4 : Sl) : ∃ r S', Cnu.run [.ro (.int x), .ro (.int 2), .ro (.int b), .own (.int 1018081), s4, .dead, .dead] = .rt (.int r) S' ∧ 0 ≤ r ∧ r < b := by
  generalize hq : (x - 1000000000000000000) / 1018081 = q
  have hf : dFdiv (.int (x - 1000000000000000000)) (.int 1018081) = some (.int q) := by
    rw [← hq]
    unfold dFdiv
    dsimp only
    rw [if_pos (by decide +kernel)]
  have hg : dGt (.int q) (.int 0) = some (.bl (decide (0 < q))) := rfl
  have hpow : dPow (.int 10) (.int 18) = some (.int 1000000000000000000) := by rfl
  by_cases h : 0 < q
  · refine ⟨q % 1009 % b, [.ro (.int x), .ro (.int 2), .ro (.int b), .own (.int 1018081), s4, .own (.int q), .dead], ?_, Int.emod_nonneg _ (by omega), Int.emod_lt_of_pos _ hb⟩
    simp [Cnu, mSeq, xSeq, mSet, xSet, m2, e2, mP, eP, eAL, mVar, eVar, mLit, eLit, dSub, hpow, hf, hg, mIfS, xIf, truth, h, mRet, xRet, dInt, dMod, hb]
  · generalize hs : x % 1000003 = small
    have s0 : 0 ≤ small := by rw [← hs]; exact Int.emod_nonneg _ (by omega)
    have s1 : small < 1000003 := by rw [← hs]; exact Int.emod_lt_of_pos _ (by omega)
    have hm : dMul (.int (small + 1954)) (.int (small + 62 + 5)) = some (.int ((small + 1954) * (small + 62 + 5))) := mulR _ _ (by unfold Bv.small64; simp; omega)
    have k1 := mulR 977 2 rfl
    have k2 := mulR 31 2 rfl
    have hc := draw_3 ((small + 1954) * (small + 62 + 5)) 999983 (by decide)
    have hc : m34.run (ent 4 [.int ((small + 1954) * (small + 62 + 5)), .int 3, .int 999983]) = _ := hc
    have d29 : dMod (.int 2) (.int 9) = some (.int 2) := rfl
    have hr : ∀ r, dMod (.int r) (.int b) = some (.int (r % b)) := fun r => by unfold dMod; simp [hb]
    have ht : dMod (.int x) (.int 1000003) = some (.int small) := by rw [← hs]; rfl
    refine ⟨((small + 1954) * (small + 62 + 5) * 48271 + 3 * 69621) % 1000039 % 999983 % b, [.ro (.int x), .ro (.int 2), .ro (.int b), .own (.int 1018081), s4, .own (.int q), .own (.int small)], ?_, Int.emod_nonneg _ (by omega), Int.emod_lt_of_pos _ hb⟩
    simp [Cnu, mSeq, xSeq, mSet, xSet, m2, e2, mP, eP, eAL, mVar, eVar, mLit, eLit, dSub, hpow, hf, hg, mIfS, xIf, truth, h, mRet, xRet, dInt, ht, mNext, mCall, xCall, dAdd, k1, k2, hm, hc, rsD, d29, hr]
theorem num_2 (x b : Int) (hb : 0 < b) : ∃ r S', rsD (m35.run (ent N35.length [.int x, .int 2, .int b])) = some (.int r, S') ∧ 0 ≤ r ∧ r < b := by
  obtain ⟨s4, e⟩ := num_pre_2 x b
  obtain ⟨r, S', e2, h1, h2⟩ := num_run_2 x b hb s4
  exact ⟨r, S', by rw [e, e2]; rfl, h1, h2⟩
theorem num_pre_3 (x b : Int) : ∃ s4, m35.run (ent N35.length [.int x, .int 3, .int b]) = Cnu.run [.ro (.int x), .ro (.int 3), .ro (.int b), .own (.int 1027243729), s4, .dead, .dead] := ⟨_, rfl⟩
theorem num_run_3 (x b : Int) (hb : 0 < b) (s4 : Sl) : ∃ r S', Cnu.run [.ro (.int x), .ro (.int 3), .ro (.int b), .own (.int 1027243729), s4, .dead, .dead] = .rt (.int r) S' ∧ 0 ≤ r ∧ r < b := by
  generalize hq : (x - 1000000000000000000) / 1027243729 = q
  have hf : dFdiv (.int (x - 1000000000000000000)) (.int 1027243729) = some (.int q) := by
    rw [← hq]
    unfold dFdiv
    dsimp only
    rw [if_pos (by decide +kernel)]
  have hg : dGt (.int q) (.int 0) = some (.bl (decide (0 < q))) := rfl
  have hpow : dPow (.int 10) (.int 18) = some (.int 1000000000000000000) := by rfl
  by_cases h : 0 < q
  · refine ⟨q % 1009 % b, [.ro (.int x), .ro (.int 3), .ro (.int b), .own (.int 1027243729), s4, .own (.int q), .dead], ?_, Int.emod_nonneg _ (by omega), Int.emod_lt_of_pos _ hb⟩
    simp [Cnu, mSeq, xSeq, mSet, xSet, m2, e2, mP, eP, eAL, mVar, eVar, mLit, eLit, dSub, hpow, hf, hg, mIfS, xIf, truth, h, mRet, xRet, dInt, dMod, hb]
  · generalize hs : x % 1000003 = small
    have s0 : 0 ≤ small := by rw [← hs]; exact Int.emod_nonneg _ (by omega)
    have s1 : small < 1000003 := by rw [← hs]; exact Int.emod_lt_of_pos _ (by omega)
    have hm : dMul (.int (small + 2931)) (.int (small + 93 + 5)) = some (.int ((small + 2931) * (small + 93 + 5))) := mulR _ _ (by unfold Bv.small64; simp; omega)
    have k1 := mulR 977 3 rfl
    have k2 := mulR 31 3 rfl
    have hc := draw_4 ((small + 2931) * (small + 93 + 5)) 999983 (by decide)
    have hc : m34.run (ent 4 [.int ((small + 2931) * (small + 93 + 5)), .int 4, .int 999983]) = _ := hc
    have d29 : dMod (.int 3) (.int 9) = some (.int 3) := rfl
    have hr : ∀ r, dMod (.int r) (.int b) = some (.int (r % b)) := fun r => by unfold dMod; simp [hb]
    have ht : dMod (.int x) (.int 1000003) = some (.int small) := by rw [← hs]; rfl
    refine ⟨((small + 2931) * (small + 93 + 5) * 48271 + 4 * 69621) % 1000081 % 999983 % b, [.ro (.int x), .ro (.int 3), .ro (.int b), .own (.int 1027243729), s4, .own (.int q), .own (.int small)], ?_, Int.emod_nonneg _ (by omega), Int.emod_lt_of_pos _ hb⟩
    simp [Cnu, mSeq, xSeq, mSet, xSet, m2, e2, mP, eP, eAL, mVar, eVar, mLit, eLit, dSub, hpow, hf, hg, mIfS, xIf, truth, h, mRet, xRet, dInt, ht, mNext, mCall, xCall, dAdd, k1, k2, hm, hc, rsD, d29, hr]
theorem num_3 (x b : Int) (hb : 0 < b) : ∃ r S', rsD (m35.run (ent N35.length [.int x, .int 3, .int b])) = some (.int r, S') ∧ 0 ≤ r ∧ r < b := by
  obtain ⟨s4, e⟩ := num_pre_3 x b
  obtain ⟨r, S', e2, h1, h2⟩ := num_run_3 x b hb s4
  exact ⟨r, S', by rw [e, e2]; rfl, h1, h2⟩
theorem cell_any (ns : List Int) (k : Nat) : ∃ n s, rsD (m33.run (ent N33.length [.lst (ns.map D.int), .int k])) = some (.int n, s) := by
  by_cases h : k < ns.length
  · have h1 : dLt (.int k) (.int ((ns.map D.int).length : Nat)) = some (.bl true) := by
      show some (D.bl (decide ((k : Int) < ((ns.map D.int).length : Int)))) = some (.bl true)
      rw [List.length_map, decide_eq_true (by omega)]
    have h2 : dIdx (.lst (ns.map D.int)) (.int k) = some (.int ns[k]) := by
      show nthL (ns.map D.int) k = some (.int ns[k])
      rw [nthL_eq, List.getElem?_map, List.getElem?_eq_getElem h]
      rfl
    refine ⟨ns[k], [.ro (.lst (ns.map D.int)), .ro (.int k)], ?_⟩
    simp [m33, mSeq, xSeq, mIfS, xIf, m2, e2, mVar, eVar, mP, eP, eAL, dLen, ent, truth, mRet, xRet, mCp, eCp, mIdx, h2, rsD, im]
    rw [List.length_map] at h1
    simp [h1, truth, h2]
    rfl
  · have h1 : dLt (.int k) (.int ((ns.map D.int).length : Nat)) = some (.bl false) := by
      show some (D.bl (decide ((k : Int) < ((ns.map D.int).length : Int)))) = some (.bl false)
      rw [List.length_map, decide_eq_false (by omega)]
    refine ⟨0, [.ro (.lst (ns.map D.int)), .ro (.int k)], ?_⟩
    simp [m33, mSeq, xSeq, mIfS, xIf, m2, e2, mVar, eVar, mP, eP, eAL, dLen, ent, truth, mRet, xRet, mCp, eCp, mIdx, rsD, mNext, mLit, eLit]
    rw [List.length_map] at h1
    simp [h1, truth]
def drawC (ns : List Int) (c : Int) : D := .lst [.lst (ns.map D.int), .int 0, .int c]
def Cnx (f g : SM) : SM := (mSeq (mSet 3 (m2 dAdd (mCall N33.length f [(mIdx (mVar 0) (mLit (.int 0))), (m2 dAdd (mIdx (mVar 0) (mLit (.int 1))) (mVar 2))]) (m2 dMul (mLit (.int 31)) (mVar 2)))) (mRet (mCall N35.length g [(mVar 3), (m2 dAdd (m2 dMod (mP dInt [(mIdx (mVar 0) (mLit (.int 2)))]) (mLit (.int 12))) (mLit (.int 1))), (mVar 1)])))
def callR (o : Option (D × List Sl)) (s : List Sl) : RS := match (match o with | some (d, _) => R.ok d s | none => .stuck) with
  | .ok d s' => .rt d s'
  | .exc c d s => .exc c d s
  | .stuck => .stuck
def kont (g : SM) (l : List D) (t a b : Int) (o : Option (D × List Sl)) : RS := xSeq (xSet 3 true (e2 dAdd (fun s => match o with | some (d, _) => .ok d s | none => .stuck) (m2 dMul (mLit (.int 31)) (mVar 2)).run)) (mRet (mCall N35.length g [(mVar 3), (m2 dAdd (m2 dMod (mP dInt [(mIdx (mVar 0) (mLit (.int 2)))]) (mLit (.int 12))) (mLit (.int 1))), (mVar 1)])).run [.own (.lst [.lst l, .int 0, .int t]), .ro (.int b), .own (.int a), .dead]
theorem nx_pre_0 (l : List D) (b : Int) : m36.run (entM N36.length (.lst [.lst l, .int 0, .int 0]) [.int b]) = (Cnx m33 m35).run [.own (.lst [.lst l, .int 0, .int 1]), .ro (.int b), .own (.int 0), .dead] := rfl
theorem nx_k_0 (f g : SM) (l : List D) (b : Int) : (Cnx f g).run [.own (.lst [.lst l, .int 0, .int 1]), .ro (.int b), .own (.int 0), .dead] = kont g l 1 0 b (rsD (f.run (ent N33.length [.lst l, .int (0 : Nat)]))) := rfl
theorem nx_run_0 (g : SM) (l : List D) (b n : Int) (s : List Sl) : kont g l 1 0 b (some (.int n, s)) = callR (rsD (g.run (ent N35.length [.int (n + 31 * 0), .int 2, .int b]))) [.own (.lst [.lst l, .int 0, .int 1]), .ro (.int b), .own (.int 0), .own (.int (n + 31 * 0))] := rfl
theorem next_0 (ns : List Int) (b : Int) (hb : 0 < b) : ∃ r, rsM (m36.run (entM N36.length (drawC ns 0) [.int b])) = some (.int r, drawC ns 1) ∧ 0 ≤ r ∧ r < b := by
  unfold drawC
  rw [nx_pre_0, nx_k_0]
  obtain ⟨n, s, e⟩ := cell_any ns 0
  obtain ⟨r, S', e2, h1, h2⟩ := num_2 (n + 31 * 0) b hb
  exact ⟨r, by rw [e, nx_run_0, e2]; rfl, h1, h2⟩
theorem nx_pre_1 (l : List D) (b : Int) : m36.run (entM N36.length (.lst [.lst l, .int 0, .int 1]) [.int b]) = (Cnx m33 m35).run [.own (.lst [.lst l, .int 0, .int 2]), .ro (.int b), .own (.int 0), .dead] := rfl
theorem nx_k_1 (f g : SM) (l : List D) (b : Int) : (Cnx f g).run [.own (.lst [.lst l, .int 0, .int 2]), .ro (.int b), .own (.int 0), .dead] = kont g l 2 0 b (rsD (f.run (ent N33.length [.lst l, .int (0 : Nat)]))) := rfl
theorem nx_run_1 (g : SM) (l : List D) (b n : Int) (s : List Sl) : kont g l 2 0 b (some (.int n, s)) = callR (rsD (g.run (ent N35.length [.int (n + 31 * 0), .int 3, .int b]))) [.own (.lst [.lst l, .int 0, .int 2]), .ro (.int b), .own (.int 0), .own (.int (n + 31 * 0))] := rfl
theorem next_1 (ns : List Int) (b : Int) (hb : 0 < b) : ∃ r, rsM (m36.run (entM N36.length (drawC ns 1) [.int b])) = some (.int r, drawC ns 2) ∧ 0 ≤ r ∧ r < b := by
  unfold drawC
  rw [nx_pre_1, nx_k_1]
  obtain ⟨n, s, e⟩ := cell_any ns 0
  obtain ⟨r, S', e2, h1, h2⟩ := num_3 (n + 31 * 0) b hb
  exact ⟨r, by rw [e, nx_run_1, e2]; rfl, h1, h2⟩
end G64
end

section
set_option maxHeartbeats 0
namespace G64
open PySem PySem.Spec PyProof.Rows L2 Bv
theorem dIdx_lst (l : List D) (n : Nat) : dIdx (.lst l) (.int n) = l[n]? := by
  show nthL l n = _
  rw [nthL_eq]
theorem dLt_nat (a b : Nat) : dLt (.int a) (.int b) = some (.bl (decide (a < b))) := by
  show some (D.bl (decide ((a : Int) < (b : Int)))) = _
  rw [decide_eq_decide.mpr (show ((a : Int) < (b : Int)) ↔ a < b by omega)]
theorem dAdd_nat (a b : Nat) : dAdd (.int a) (.int b) = some (.int ((a + b : Nat) : Int)) := (rfl)
theorem dIAdd_nat (a b : Nat) : dIAdd (.int a) (.int b) = some (.int ((a + b : Nat) : Int)) := (rfl)
def cd29 : EM := (m2 dLt (mVar 4) (mP dLen [(mVar 0)]))
def bd29 : SM := (mIfS (mAnd (m2 dLt (m2 dAdd (mVar 4) (mLit (.int 1))) (mP dLen [(mVar 0)])) (m2 dEq (mTup [(false, (mCp (mIdx (mVar 0) (mVar 4)))), (false, (mCp (mIdx (mVar 0) (m2 dAdd (mVar 4) (mLit (.int 1))))))]) (mVar 1))) (mSeq (mDrop (mMut "list" 3 mtAppend [(false, (mCp (mVar 2)))])) (mAug 4 dIAdd (mLit (.int 2)))) (mSeq (mDrop (mMut "list" 3 mtAppend [(false, (mCp (mIdx (mVar 0) (mVar 4))))])) (mAug 4 dIAdd (mLit (.int 1)))))
def S29 (n : Nat) (x : D) (k : Nat) (j : Nat) : List Sl := [.ro (.lst (List.replicate n x)), .ro (.tup [x, x]), .ro (.int k), .own (.lst (List.replicate j (.int k))), .own (.int ((2 * j : Nat) : Int))]
theorem cd29_run (n : Nat) (x : D) (k j : Nat) : cd29.run (S29 n x k j) = .ok (.bl (decide (2 * j < n))) (S29 n x k j) := by
  have h := dLt_nat (2 * j) n
  simp only [cd29, S29, run_m2, run_var, run_p, al_cons', al_nil', List.getElem?_cons_succ, List.getElem?_cons_zero, vR_own, vR_ro, bR_ok, dLen, oR_some, List.length_replicate, h]
theorem bd29_run (n : Nat) (x : D) (k j : Nat) (hn : n ≤ 5000) (hj : 2 * j + 1 < n) (hx : dEq (.tup [x, x]) (.tup [x, x]) = some (.bl true)) (hi : im x = true) : bd29.run (S29 n x k j) = .nx (S29 n x k (j + 1)) := by
  have h := dLt_nat (2 * j + 1) n
  have ha := dAdd_nat (2 * j) 1
  have hb := dIAdd_nat (2 * j) 2
  have e1 : (List.replicate n x)[2 * j]? = some x := by rw [List.getElem?_replicate, if_pos (by omega)]
  have e2 : (List.replicate n x)[2 * j + 1]? = some x := by rw [List.getElem?_replicate, if_pos (by omega)]
  have i1 := dIdx_lst (List.replicate n x) (2 * j)
  have i2 := dIdx_lst (List.replicate n x) (2 * j + 1)
  rw [e1] at i1
  rw [e2] at i2
  rw [decide_eq_true hj] at h
  have ap : mtAppend (.lst (List.replicate j (.int k))) [.int k] = some (.non, .lst (List.replicate (j + 1) (.int k))) := by
    rw [append_lst _ _ (by simp; omega), List.replicate_succ']
  have own3 : ownAt (S29 n x k j) 3 = some (.lst (List.replicate j (.int k))) := (rfl)
  have ty : tyD "list" (.lst (List.replicate j (.int k))) = true := (rfl)
  have v4 : ∀ f, valAt [.ro (.lst (List.replicate n x)), .ro (.tup [x, x]), .ro (.int k), f, .own (.int ((2 * j : Nat) : Int))] 4 = some (.int ((2 * j : Nat) : Int)) := fun _ => (rfl)
  have imi : ∀ i, im (.int i) = true := fun _ => (rfl)
  have one : ((1 : Nat) : Int) = 1 := (rfl)
  have two : ((2 : Nat) : Int) = 2 := (rfl)
  rw [one] at ha
  rw [two] at hb
  have l2 : Nat.ble [x, x].length lineN = true := by rw [lineN_val]; rfl
  have e5 : 2 * (j + 1) = 2 * j + 2 := by omega
  unfold bd29
  simp only [run_ifs, run_and, run_m2, run_var, run_p, al_cons', al_nil', run_lit, run_tup, run_cp, run_idx, eargs_cons, eargs_nil, run_seq, run_drop, run_mut, run_aug, S29, List.getElem?_cons_succ, List.getElem?_cons_zero, vR_own, vR_ro, bR_ok, eR_ok, dLen, oR_some, List.length_replicate, ha, h, bK_true, i1, i2, hi, gR_true, l2, hx, truth_bl, tR_true]
  rw [show ownAt [.ro (.lst (List.replicate n x)), .ro (.tup [x, x]), .ro (.int k), .own (.lst (List.replicate j (.int k))), .own (.int ((2 * j : Nat) : Int))] 3 = some (.lst (List.replicate j (.int k))) from rfl]
  simp only [oR_some, bR_ok, ty, gR_true, imi, ap, cM_some, eR_ok, sR_nx, List.set_cons_succ, List.set_cons_zero, v4, pS_some, hb, e5]
  rfl
theorem w29 (n : Nat) (x : D) (k m : Nat) (hn : n ≤ 5000) (hm : n = 2 * m) (hx : dEq (.tup [x, x]) (.tup [x, x]) = some (.bl true)) (hi : im x = true) :
    ∀ (r f j : Nat), j + r = m → r < f → whileR cd29.run bd29.run f (S29 n x k j) = .nx (S29 n x k m) := by
  intro r
  induction r with
  | zero =>
    intro f j e hf
    obtain ⟨f, rfl⟩ : ∃ g, f = g + 1 := ⟨f - 1, by omega⟩
    rw [while_succ, cd29_run, decide_eq_false (by omega)]
    have : j = m := by omega
    subst this
    rfl
  | succ r ih =>
    intro f j e hf
    obtain ⟨f, rfl⟩ : ∃ g, f = g + 1 := ⟨f - 1, by omega⟩
    rw [while_succ, cd29_run, decide_eq_true (by omega)]
    show lR (bd29.run (S29 n x k j)) _ = _
    rw [bd29_run n x k j hn (by omega) hx hi, lR_nx]
    exact ih f (j + 1) (by omega) (by omega)
theorem r29 (n : Nat) (x : D) (k m : Nat) (hn : n ≤ 5000) (hm : n = 2 * m) (hx : dEq (.tup [x, x]) (.tup [x, x]) = some (.bl true)) (hi : im x = true) :
    rv (m29.run (ent 5 [.lst (List.replicate n x), .tup [x, x], .int k])) = some (.lst (List.replicate m (.int k))) := by
  have e : m29 = mSeq (mPar [3, 4] [(false, (mLst [])), (false, (mLit (.int 0)))]) (mSeq (mWhile 5000 cd29 bd29) (mRet (mMv 3))) := rfl
  have e0 : (mPar [3, 4] [(false, (mLst [])), (false, (mLit (.int 0)))]).run (ent 5 [.lst (List.replicate n x), .tup [x, x], .int k]) = .nx (S29 n x k 0) := rfl
  rw [e, run_seq, e0, sR_nx, run_seq, run_while, w29 n x k m hn hm hx hi m 5000 0 (by omega) (by omega), sR_nx]
  rfl
end G64
end

section
set_option maxHeartbeats 0
namespace G64
open PySem PySem.Spec PyProof.Rows L2 Bv
def bd28 : SM := (mIfS (m2 dNotIn (mVar 2) (mVar 1)) (mSub 1 (mVar 2) (m2 dSub (mP dLen [(mVar 0)]) (mP dLen [(mCall N29.length m29 [(mVar 0), (mVar 2), (mLit (.int 0))])]))) mNext)
theorem ims_rep (n : Nat) (x : D) (hi : im x = true) : ims (List.replicate n x) = true := ims_of.mpr fun d h => by rw [(List.mem_replicate.mp h).2]; exact hi
theorem zip_rep (x : D) : ∀ (n m : Nat), n ≤ m → zipD (List.replicate m x) (List.replicate n x) = List.replicate n (.tup [x, x])
  | 0, m, _ => by cases m <;> simp [zipD, List.replicate_succ]
  | n + 1, m, h => by
    obtain ⟨k, rfl⟩ : ∃ k, m = k + 1 := ⟨m - 1, by omega⟩
    rw [List.replicate_succ, List.replicate_succ, List.replicate_succ, zipD, zip_rep x n k (by omega)]
theorem cut_rep (x : D) (n : Nat) (h : 1 ≤ n) : Bv.cutD (List.replicate n x) (some 1) none = List.replicate (n - 1) x := by
  unfold Bv.cutD
  have e : HT.sIx n 0 (some 1) = 1 := by
    have := HT.sIx_nat n 0 1
    rw [Nat.min_eq_left h] at this
    exact this
  rw [List.length_replicate, HT.sIx_none, e, List.drop_replicate, List.take_replicate, Nat.min_self]
def S28 (R x : D) (f : D) (s : Sl) : List Sl := [.ro R, .own f, s]
theorem l28 (R p : D) (v : D) (hin : dNotIn p (.dct [(p, v)]) = some (.bl false)) (hp : im p = true) : ∀ r, loopR (.one 2) bd28.run (List.replicate r p) [.ro R, .own (.dct [(p, v)]), .own p] = .nx [.ro R, .own (.dct [(p, v)]), .own p]
  | 0 => rfl
  | r + 1 => by
    have e : tgt (.one 2) p [.ro R, .own (.dct [(p, v)]), .own p] = some [.ro R, .own (.dct [(p, v)]), .own p] := by
      show some [Sl.ro R, Sl.own (.dct [(p, v)]), itm p] = _
      unfold itm
      rw [if_pos hp]
    have b : bd28.run [.ro R, .own (.dct [(p, v)]), .own p] = .nx [.ro R, .own (.dct [(p, v)]), .own p] := by
      simp only [bd28, run_ifs, run_m2, run_var, List.getElem?_cons_succ, List.getElem?_cons_zero, vR_own, bR_ok, hin, oR_some, eR_ok, truth_bl, tR_false, run_next]
    rw [List.replicate_succ, loop_cons, e, pS_some, b, lR_nx]
    exact l28 R p v hin hp r
theorem m28_rep (n : Nat) (x : D) (m : Nat) (hn : n ≤ 5000) (h1 : 1 ≤ m) (hm : n = 2 * m) (hx : dEq (.tup [x, x]) (.tup [x, x]) = some (.bl true)) (hi : im x = true)
    (h0 : dNotIn (.tup [x, x]) (.dct []) = some (.bl true)) (hp : ∀ v, dPut (.dct []) (.tup [x, x]) v = some (.dct [(.tup [x, x], v)])) (hin : ∀ v, dNotIn (.tup [x, x]) (.dct [(.tup [x, x], v)]) = some (.bl false)) :
    rv (m28.run (ent 3 [.lst (List.replicate n x)])) = some (.dct [(.tup [x, x], .int m)]) := by
  have hpi : im (.tup [x, x]) = true := by
    show (im x && (im x && true)) = true
    rw [hi]; rfl
  have e : m28 = mSeq (mSet 1 mDNew) (mSeq (mFor (mSrc zipOp [(mVar 0), (mSl (mVar 0) (some (mLit (.int 1))) none)]) (.one 2) bd28 [0] [2, 1]) (mRet (mMv 1))) := rfl
  have e0 : ent 3 [.lst (List.replicate n x)] = [.ro (.lst (List.replicate n x)), .dead, .dead] := rfl
  have hz : zipOp [.lst (List.replicate n x), .lst (List.replicate (n - 1) x)] = some (List.replicate (n - 1) (.tup [x, x])) := by
    show some (zipD (List.replicate n x) (List.replicate (n - 1) x)) = _
    rw [zip_rep x (n - 1) n (by omega)]
  have hsl : dSl (.lst (List.replicate n x)) (some 1) none = some (.lst (List.replicate (n - 1) x)) := by
    show (if ims (List.replicate n x) then some (D.lst (Bv.cutD (List.replicate n x) (some 1) none)) else none) = _
    rw [if_pos (ims_rep n x hi), cut_rep x n (by omega)]
  have hit : (mSrc zipOp [(mVar 0), (mSl (mVar 0) (some (mLit (.int 1))) none)]).run [.ro (.lst (List.replicate n x)), .own (.dct []), .dead] = .ok (List.replicate (n - 1) (.tup [x, x])) [.ro (.lst (List.replicate n x)), .own (.dct []), .dead] := by
    simp only [run_src, al_cons', al_nil', run_var, run_sl, opt_none, opt_some, run_lit, iR_int, List.getElem?_cons_zero, vR_ro, bR_ok, hsl, oR_some, hz]
  have r := r29 n x 0 m hn hm hx hi
  have r : rv (m29.run (ent 5 [.lst (List.replicate n x), .tup [x, x], .int 0])) = some (.lst (List.replicate m (.int 0))) := r
  have e1 : tgt (.one 2) (.tup [x, x]) [.ro (.lst (List.replicate n x)), .own (.dct []), .dead] = some [.ro (.lst (List.replicate n x)), .own (.dct []), .own (.tup [x, x])] := by
    show some [Sl.ro (.lst (List.replicate n x)), Sl.own (.dct []), itm (.tup [x, x])] = _
    unfold itm
    rw [if_pos hpi]
  have oa : ownAt [.ro (.lst (List.replicate n x)), .own (.dct []), .own (.tup [x, x])] 1 = some (.dct []) := (rfl)
  have sb : dSub (.int (n : Nat)) (.int (m : Nat)) = some (.int m) := by
    show some (D.int ((n : Int) - (m : Int))) = _
    rw [show ((n : Int) - (m : Int)) = (m : Int) by omega]
  have b : bd28.run [.ro (.lst (List.replicate n x)), .own (.dct []), .own (.tup [x, x])] = .nx [.ro (.lst (List.replicate n x)), .own (.dct [(.tup [x, x], .int m)]), .own (.tup [x, x])] := by
    simp only [bd28, run_ifs, run_m2, run_var, List.getElem?_cons_succ, List.getElem?_cons_zero, vR_own, vR_ro, bR_ok, h0, oR_some, eR_ok, truth_bl, tR_true, run_sub, run_p, run_call, al_cons', al_nil', run_lit, dLen, List.length_cons, List.length_nil, Nat.zero_add, Nat.reduceAdd, r, List.length_replicate, sb, oa, pS_some, hp, List.set_cons_succ, List.set_cons_zero]
  obtain ⟨k, hk⟩ : ∃ k, n - 1 = k + 1 := ⟨n - 2, by omega⟩
  have lp : loopR (.one 2) bd28.run (List.replicate (n - 1) (.tup [x, x])) [.ro (.lst (List.replicate n x)), .own (.dct []), .dead] = .nx [.ro (.lst (List.replicate n x)), .own (.dct [(.tup [x, x], .int m)]), .own (.tup [x, x])] := by
    rw [hk, List.replicate_succ, loop_cons, e1, pS_some, b, lR_nx]
    exact l28 _ _ _ (hin _) hpi k
  have fz : frzS [.ro (.lst (List.replicate n x)), .own (.dct []), .dead] [0] = [.ro (.lst (List.replicate n x)), .own (.dct []), .dead] := rfl
  rw [e, e0, run_seq, show (mSet 1 mDNew).run [.ro (.lst (List.replicate n x)), .dead, .dead] = .nx [.ro (.lst (List.replicate n x)), .own (.dct []), .dead] from rfl, sR_nx, run_seq, run_for, hit, eR_ok, fz, lp]
  rfl
theorem tup_eq (d : D) (h : deq 60 d d = some true) : dEq d d = some (.bl true) := by
  unfold dEq
  rw [h]
  rfl
theorem m28_str (c : Nat) (m : Nat) (hm : 2 * m ≤ 5000) (h1 : 1 ≤ m) : rv (m28.run (ent 3 [.lst (List.replicate (2 * m) (.str [c]))])) = some (.dct [(.tup [.str [c], .str [c]], .int m)]) := by
  refine m28_rep (2 * m) (.str [c]) m hm h1 rfl ?_ rfl ?_ ?_ ?_
  · exact tup_eq _ (by simp [deq, deqL])
  · rfl
  · intro v; rfl
  · intro v; simp [dNotIn, dIn, keyOk, kkind, toKey, toKeys, toKeyL, dget]
theorem m28_int (c : Nat) (m : Nat) (hm : 2 * m ≤ 5000) (h1 : 1 ≤ m) : rv (m28.run (ent 3 [.lst (List.replicate (2 * m) (.int c))])) = some (.dct [(.tup [.int c, .int c], .int m)]) := by
  refine m28_rep (2 * m) (.int c) m hm h1 rfl ?_ rfl ?_ ?_ ?_
  · exact tup_eq _ (by simp [deq, deqL])
  · rfl
  · intro v; rfl
  · intro v; simp [dNotIn, dIn, keyOk, kkind, toKey, toKeys, toKeyL, dget]
end G64
end

section
set_option maxHeartbeats 0
namespace G64
open PySem PySem.Spec PyProof.Rows L2 Bv
def A1 : SM := (mSet 3 (mCall N28.length m28 [(mVar 1)]))
def A2 : SM := (mSet 4 (mIf (m2 dNe (mVar 3) mDNew) (m1 (dVw vMax) (mVar 3)) (mLit (.int 0))))
def A3 : SM := (mIfS (mOr (m2 dLt (mVar 4) (mLit (.int 2))) (m2 dEq (mP dLen [(mVar 2)]) (mLit (.int 60)))) mBreak mNext)
def A4 : SM := (mSet 5 (mIdx (mLc (mIt (mVar 3) itemsF) (.tup [6, 7]) (some (m2 dEq (mVar 7) (mVar 4))) (mCp (mVar 6)) [6, 7] [3] [6, 7]) (mLit (.int 0))))
def A5 : SM := (mSet 1 (mCall N29.length m29 [(mVar 1), (mVar 5), (mP dLen [(mVar 2)])]))
def A6 : SM := (mDrop (mMut "list" 2 mtAppend [(false, (mCp (mVar 5)))]))
def bd27 : SM := mSeq A1 (mSeq A2 (mSeq A3 (mSeq A4 (mSeq A5 A6))))
theorem bd27_eq : bd27 = mSeq A1 (mSeq A2 (mSeq A3 (mSeq A4 (mSeq A5 A6)))) := rfl
/-- the state: slots that hold nothing yet are told by f -/
def S27 (T R rows s3 s4 s5 : D) (f3 f4 f5 : D → Sl) : List Sl := [.ro T, .own R, .own rows, f3 s3, f4 s4, f5 s5, .dead, .dead]
theorem A1_run (T R rows s3 s4 s5 d : D) (f3 f4 f5 : D → Sl) (h : rv (m28.run (ent 3 [R])) = some d) : A1.run (S27 T R rows s3 s4 s5 f3 f4 f5) = .nx (S27 T R rows d s4 s5 .own f4 f5) := by
  have h : rv (m28.run (ent N28.length [R])) = some d := h
  simp only [A1, S27, run_set, run_call, al_cons', al_nil', run_var, List.getElem?_cons_succ, List.getElem?_cons_zero, vR_own, bR_ok, h, oR_some, eR_ok, own_call, Bool.true_or, Bool.true_and]
  rfl
theorem A5_run (T R rows d3 d4 d5 R' : D) (k : Nat) (h : rv (m29.run (ent 5 [R, d5, .int k])) = some R') (hl : dLen [rows] = some (.int k)) : A5.run (S27 T R rows d3 d4 d5 .own .own .own) = .nx (S27 T R' rows d3 d4 d5 .own .own .own) := by
  have h : rv (m29.run (ent N29.length [R, d5, .int k])) = some R' := h
  simp only [A5, S27, run_set, run_call, run_p, al_cons', al_nil', run_var, List.getElem?_cons_succ, List.getElem?_cons_zero, vR_own, bR_ok, hl, h, oR_some, eR_ok, own_call, Bool.true_or, Bool.true_and]
  rfl
theorem lv_0 (R R' T s3 s4 s5 : D) (f3 f4 f5 : D → Sl) (h28 : rv (m28.run (ent 3 [R])) = some (.dct [((.tup [.str [97], .str [97]]), .int 2048)])) (h29 : rv (m29.run (ent 5 [R, (.tup [.str [97], .str [97]]), .int 0])) = some R') :
    bd27.run (S27 T R (.lst []) s3 s4 s5 f3 f4 f5) = .nx (S27 T R' (.lst [.tup [.str [97], .str [97]]]) (.dct [((.tup [.str [97], .str [97]]), .int 2048)]) (.int 2048) (.tup [.str [97], .str [97]]) .own .own .own) := by
  rw [bd27_eq, run_seq, A1_run _ _ _ _ _ _ _ _ _ _ h28, sR_nx, run_seq, show A2.run _ = _ from (by kernel_rfl : A2.run (S27 T R (.lst []) (.dct [((.tup [.str [97], .str [97]]), .int 2048)]) s4 s5 .own f4 f5) = .nx (S27 T R (.lst []) (.dct [((.tup [.str [97], .str [97]]), .int 2048)]) (.int 2048) s5 .own .own f5)), sR_nx, run_seq,
    show A3.run _ = _ from (by kernel_rfl : A3.run (S27 T R (.lst []) (.dct [((.tup [.str [97], .str [97]]), .int 2048)]) (.int 2048) s5 .own .own f5) = .nx (S27 T R (.lst []) (.dct [((.tup [.str [97], .str [97]]), .int 2048)]) (.int 2048) s5 .own .own f5)), sR_nx, run_seq,
    show A4.run _ = _ from (by kernel_rfl : A4.run (S27 T R (.lst []) (.dct [((.tup [.str [97], .str [97]]), .int 2048)]) (.int 2048) s5 .own .own f5) = .nx (S27 T R (.lst []) (.dct [((.tup [.str [97], .str [97]]), .int 2048)]) (.int 2048) (.tup [.str [97], .str [97]]) .own .own .own)), sR_nx, run_seq,
    A5_run _ _ _ _ _ _ _ 0 h29 (by kernel_rfl), sR_nx]
  kernel_rfl
theorem lv_1 (R R' T s3 s4 s5 : D) (f3 f4 f5 : D → Sl) (h28 : rv (m28.run (ent 3 [R])) = some (.dct [((.tup [.int 0, .int 0]), .int 1024)])) (h29 : rv (m29.run (ent 5 [R, (.tup [.int 0, .int 0]), .int 1])) = some R') :
    bd27.run (S27 T R (.lst [.tup [.str [97], .str [97]]]) s3 s4 s5 f3 f4 f5) = .nx (S27 T R' (.lst [.tup [.str [97], .str [97]], .tup [.int 0, .int 0]]) (.dct [((.tup [.int 0, .int 0]), .int 1024)]) (.int 1024) (.tup [.int 0, .int 0]) .own .own .own) := by
  rw [bd27_eq, run_seq, A1_run _ _ _ _ _ _ _ _ _ _ h28, sR_nx, run_seq, show A2.run _ = _ from (by kernel_rfl : A2.run (S27 T R (.lst [.tup [.str [97], .str [97]]]) (.dct [((.tup [.int 0, .int 0]), .int 1024)]) s4 s5 .own f4 f5) = .nx (S27 T R (.lst [.tup [.str [97], .str [97]]]) (.dct [((.tup [.int 0, .int 0]), .int 1024)]) (.int 1024) s5 .own .own f5)), sR_nx, run_seq,
    show A3.run _ = _ from (by kernel_rfl : A3.run (S27 T R (.lst [.tup [.str [97], .str [97]]]) (.dct [((.tup [.int 0, .int 0]), .int 1024)]) (.int 1024) s5 .own .own f5) = .nx (S27 T R (.lst [.tup [.str [97], .str [97]]]) (.dct [((.tup [.int 0, .int 0]), .int 1024)]) (.int 1024) s5 .own .own f5)), sR_nx, run_seq,
    show A4.run _ = _ from (by kernel_rfl : A4.run (S27 T R (.lst [.tup [.str [97], .str [97]]]) (.dct [((.tup [.int 0, .int 0]), .int 1024)]) (.int 1024) s5 .own .own f5) = .nx (S27 T R (.lst [.tup [.str [97], .str [97]]]) (.dct [((.tup [.int 0, .int 0]), .int 1024)]) (.int 1024) (.tup [.int 0, .int 0]) .own .own .own)), sR_nx, run_seq,
    A5_run _ _ _ _ _ _ _ 1 h29 (by kernel_rfl), sR_nx]
  kernel_rfl
theorem lv_2 (R R' T s3 s4 s5 : D) (f3 f4 f5 : D → Sl) (h28 : rv (m28.run (ent 3 [R])) = some (.dct [((.tup [.int 1, .int 1]), .int 512)])) (h29 : rv (m29.run (ent 5 [R, (.tup [.int 1, .int 1]), .int 2])) = some R') :
    bd27.run (S27 T R (.lst [.tup [.str [97], .str [97]], .tup [.int 0, .int 0]]) s3 s4 s5 f3 f4 f5) = .nx (S27 T R' (.lst [.tup [.str [97], .str [97]], .tup [.int 0, .int 0], .tup [.int 1, .int 1]]) (.dct [((.tup [.int 1, .int 1]), .int 512)]) (.int 512) (.tup [.int 1, .int 1]) .own .own .own) := by
  rw [bd27_eq, run_seq, A1_run _ _ _ _ _ _ _ _ _ _ h28, sR_nx, run_seq, show A2.run _ = _ from (by kernel_rfl : A2.run (S27 T R (.lst [.tup [.str [97], .str [97]], .tup [.int 0, .int 0]]) (.dct [((.tup [.int 1, .int 1]), .int 512)]) s4 s5 .own f4 f5) = .nx (S27 T R (.lst [.tup [.str [97], .str [97]], .tup [.int 0, .int 0]]) (.dct [((.tup [.int 1, .int 1]), .int 512)]) (.int 512) s5 .own .own f5)), sR_nx, run_seq,
    show A3.run _ = _ from (by kernel_rfl : A3.run (S27 T R (.lst [.tup [.str [97], .str [97]], .tup [.int 0, .int 0]]) (.dct [((.tup [.int 1, .int 1]), .int 512)]) (.int 512) s5 .own .own f5) = .nx (S27 T R (.lst [.tup [.str [97], .str [97]], .tup [.int 0, .int 0]]) (.dct [((.tup [.int 1, .int 1]), .int 512)]) (.int 512) s5 .own .own f5)), sR_nx, run_seq,
    show A4.run _ = _ from (by kernel_rfl : A4.run (S27 T R (.lst [.tup [.str [97], .str [97]], .tup [.int 0, .int 0]]) (.dct [((.tup [.int 1, .int 1]), .int 512)]) (.int 512) s5 .own .own f5) = .nx (S27 T R (.lst [.tup [.str [97], .str [97]], .tup [.int 0, .int 0]]) (.dct [((.tup [.int 1, .int 1]), .int 512)]) (.int 512) (.tup [.int 1, .int 1]) .own .own .own)), sR_nx, run_seq,
    A5_run _ _ _ _ _ _ _ 2 h29 (by kernel_rfl), sR_nx]
  kernel_rfl
theorem lv_3 (R R' T s3 s4 s5 : D) (f3 f4 f5 : D → Sl) (h28 : rv (m28.run (ent 3 [R])) = some (.dct [((.tup [.int 2, .int 2]), .int 256)])) (h29 : rv (m29.run (ent 5 [R, (.tup [.int 2, .int 2]), .int 3])) = some R') :
    bd27.run (S27 T R (.lst [.tup [.str [97], .str [97]], .tup [.int 0, .int 0], .tup [.int 1, .int 1]]) s3 s4 s5 f3 f4 f5) = .nx (S27 T R' (.lst [.tup [.str [97], .str [97]], .tup [.int 0, .int 0], .tup [.int 1, .int 1], .tup [.int 2, .int 2]]) (.dct [((.tup [.int 2, .int 2]), .int 256)]) (.int 256) (.tup [.int 2, .int 2]) .own .own .own) := by
  rw [bd27_eq, run_seq, A1_run _ _ _ _ _ _ _ _ _ _ h28, sR_nx, run_seq, show A2.run _ = _ from (by kernel_rfl : A2.run (S27 T R (.lst [.tup [.str [97], .str [97]], .tup [.int 0, .int 0], .tup [.int 1, .int 1]]) (.dct [((.tup [.int 2, .int 2]), .int 256)]) s4 s5 .own f4 f5) = .nx (S27 T R (.lst [.tup [.str [97], .str [97]], .tup [.int 0, .int 0], .tup [.int 1, .int 1]]) (.dct [((.tup [.int 2, .int 2]), .int 256)]) (.int 256) s5 .own .own f5)), sR_nx, run_seq,
    show A3.run _ = _ from (by kernel_rfl : A3.run (S27 T R (.lst [.tup [.str [97], .str [97]], .tup [.int 0, .int 0], .tup [.int 1, .int 1]]) (.dct [((.tup [.int 2, .int 2]), .int 256)]) (.int 256) s5 .own .own f5) = .nx (S27 T R (.lst [.tup [.str [97], .str [97]], .tup [.int 0, .int 0], .tup [.int 1, .int 1]]) (.dct [((.tup [.int 2, .int 2]), .int 256)]) (.int 256) s5 .own .own f5)), sR_nx, run_seq,
    show A4.run _ = _ from (by kernel_rfl : A4.run (S27 T R (.lst [.tup [.str [97], .str [97]], .tup [.int 0, .int 0], .tup [.int 1, .int 1]]) (.dct [((.tup [.int 2, .int 2]), .int 256)]) (.int 256) s5 .own .own f5) = .nx (S27 T R (.lst [.tup [.str [97], .str [97]], .tup [.int 0, .int 0], .tup [.int 1, .int 1]]) (.dct [((.tup [.int 2, .int 2]), .int 256)]) (.int 256) (.tup [.int 2, .int 2]) .own .own .own)), sR_nx, run_seq,
    A5_run _ _ _ _ _ _ _ 3 h29 (by kernel_rfl), sR_nx]
  kernel_rfl
theorem lv_4 (R R' T s3 s4 s5 : D) (f3 f4 f5 : D → Sl) (h28 : rv (m28.run (ent 3 [R])) = some (.dct [((.tup [.int 3, .int 3]), .int 128)])) (h29 : rv (m29.run (ent 5 [R, (.tup [.int 3, .int 3]), .int 4])) = some R') :
    bd27.run (S27 T R (.lst [.tup [.str [97], .str [97]], .tup [.int 0, .int 0], .tup [.int 1, .int 1], .tup [.int 2, .int 2]]) s3 s4 s5 f3 f4 f5) = .nx (S27 T R' (.lst [.tup [.str [97], .str [97]], .tup [.int 0, .int 0], .tup [.int 1, .int 1], .tup [.int 2, .int 2], .tup [.int 3, .int 3]]) (.dct [((.tup [.int 3, .int 3]), .int 128)]) (.int 128) (.tup [.int 3, .int 3]) .own .own .own) := by
  rw [bd27_eq, run_seq, A1_run _ _ _ _ _ _ _ _ _ _ h28, sR_nx, run_seq, show A2.run _ = _ from (by kernel_rfl : A2.run (S27 T R (.lst [.tup [.str [97], .str [97]], .tup [.int 0, .int 0], .tup [.int 1, .int 1], .tup [.int 2, .int 2]]) (.dct [((.tup [.int 3, .int 3]), .int 128)]) s4 s5 .own f4 f5) = .nx (S27 T R (.lst [.tup [.str [97], .str [97]], .tup [.int 0, .int 0], .tup [.int 1, .int 1], .tup [.int 2, .int 2]]) (.dct [((.tup [.int 3, .int 3]), .int 128)]) (.int 128) s5 .own .own f5)), sR_nx, run_seq,
    show A3.run _ = _ from (by kernel_rfl : A3.run (S27 T R (.lst [.tup [.str [97], .str [97]], .tup [.int 0, .int 0], .tup [.int 1, .int 1], .tup [.int 2, .int 2]]) (.dct [((.tup [.int 3, .int 3]), .int 128)]) (.int 128) s5 .own .own f5) = .nx (S27 T R (.lst [.tup [.str [97], .str [97]], .tup [.int 0, .int 0], .tup [.int 1, .int 1], .tup [.int 2, .int 2]]) (.dct [((.tup [.int 3, .int 3]), .int 128)]) (.int 128) s5 .own .own f5)), sR_nx, run_seq,
    show A4.run _ = _ from (by kernel_rfl : A4.run (S27 T R (.lst [.tup [.str [97], .str [97]], .tup [.int 0, .int 0], .tup [.int 1, .int 1], .tup [.int 2, .int 2]]) (.dct [((.tup [.int 3, .int 3]), .int 128)]) (.int 128) s5 .own .own f5) = .nx (S27 T R (.lst [.tup [.str [97], .str [97]], .tup [.int 0, .int 0], .tup [.int 1, .int 1], .tup [.int 2, .int 2]]) (.dct [((.tup [.int 3, .int 3]), .int 128)]) (.int 128) (.tup [.int 3, .int 3]) .own .own .own)), sR_nx, run_seq,
    A5_run _ _ _ _ _ _ _ 4 h29 (by kernel_rfl), sR_nx]
  kernel_rfl
theorem lv_5 (R R' T s3 s4 s5 : D) (f3 f4 f5 : D → Sl) (h28 : rv (m28.run (ent 3 [R])) = some (.dct [((.tup [.int 4, .int 4]), .int 64)])) (h29 : rv (m29.run (ent 5 [R, (.tup [.int 4, .int 4]), .int 5])) = some R') :
    bd27.run (S27 T R (.lst [.tup [.str [97], .str [97]], .tup [.int 0, .int 0], .tup [.int 1, .int 1], .tup [.int 2, .int 2], .tup [.int 3, .int 3]]) s3 s4 s5 f3 f4 f5) = .nx (S27 T R' (.lst [.tup [.str [97], .str [97]], .tup [.int 0, .int 0], .tup [.int 1, .int 1], .tup [.int 2, .int 2], .tup [.int 3, .int 3], .tup [.int 4, .int 4]]) (.dct [((.tup [.int 4, .int 4]), .int 64)]) (.int 64) (.tup [.int 4, .int 4]) .own .own .own) := by
  rw [bd27_eq, run_seq, A1_run _ _ _ _ _ _ _ _ _ _ h28, sR_nx, run_seq, show A2.run _ = _ from (by kernel_rfl : A2.run (S27 T R (.lst [.tup [.str [97], .str [97]], .tup [.int 0, .int 0], .tup [.int 1, .int 1], .tup [.int 2, .int 2], .tup [.int 3, .int 3]]) (.dct [((.tup [.int 4, .int 4]), .int 64)]) s4 s5 .own f4 f5) = .nx (S27 T R (.lst [.tup [.str [97], .str [97]], .tup [.int 0, .int 0], .tup [.int 1, .int 1], .tup [.int 2, .int 2], .tup [.int 3, .int 3]]) (.dct [((.tup [.int 4, .int 4]), .int 64)]) (.int 64) s5 .own .own f5)), sR_nx, run_seq,
    show A3.run _ = _ from (by kernel_rfl : A3.run (S27 T R (.lst [.tup [.str [97], .str [97]], .tup [.int 0, .int 0], .tup [.int 1, .int 1], .tup [.int 2, .int 2], .tup [.int 3, .int 3]]) (.dct [((.tup [.int 4, .int 4]), .int 64)]) (.int 64) s5 .own .own f5) = .nx (S27 T R (.lst [.tup [.str [97], .str [97]], .tup [.int 0, .int 0], .tup [.int 1, .int 1], .tup [.int 2, .int 2], .tup [.int 3, .int 3]]) (.dct [((.tup [.int 4, .int 4]), .int 64)]) (.int 64) s5 .own .own f5)), sR_nx, run_seq,
    show A4.run _ = _ from (by kernel_rfl : A4.run (S27 T R (.lst [.tup [.str [97], .str [97]], .tup [.int 0, .int 0], .tup [.int 1, .int 1], .tup [.int 2, .int 2], .tup [.int 3, .int 3]]) (.dct [((.tup [.int 4, .int 4]), .int 64)]) (.int 64) s5 .own .own f5) = .nx (S27 T R (.lst [.tup [.str [97], .str [97]], .tup [.int 0, .int 0], .tup [.int 1, .int 1], .tup [.int 2, .int 2], .tup [.int 3, .int 3]]) (.dct [((.tup [.int 4, .int 4]), .int 64)]) (.int 64) (.tup [.int 4, .int 4]) .own .own .own)), sR_nx, run_seq,
    A5_run _ _ _ _ _ _ _ 5 h29 (by kernel_rfl), sR_nx]
  kernel_rfl
theorem lv_6 (R R' T s3 s4 s5 : D) (f3 f4 f5 : D → Sl) (h28 : rv (m28.run (ent 3 [R])) = some (.dct [((.tup [.int 5, .int 5]), .int 32)])) (h29 : rv (m29.run (ent 5 [R, (.tup [.int 5, .int 5]), .int 6])) = some R') :
    bd27.run (S27 T R (.lst [.tup [.str [97], .str [97]], .tup [.int 0, .int 0], .tup [.int 1, .int 1], .tup [.int 2, .int 2], .tup [.int 3, .int 3], .tup [.int 4, .int 4]]) s3 s4 s5 f3 f4 f5) = .nx (S27 T R' (.lst [.tup [.str [97], .str [97]], .tup [.int 0, .int 0], .tup [.int 1, .int 1], .tup [.int 2, .int 2], .tup [.int 3, .int 3], .tup [.int 4, .int 4], .tup [.int 5, .int 5]]) (.dct [((.tup [.int 5, .int 5]), .int 32)]) (.int 32) (.tup [.int 5, .int 5]) .own .own .own) := by
  rw [bd27_eq, run_seq, A1_run _ _ _ _ _ _ _ _ _ _ h28, sR_nx, run_seq, show A2.run _ = _ from (by kernel_rfl : A2.run (S27 T R (.lst [.tup [.str [97], .str [97]], .tup [.int 0, .int 0], .tup [.int 1, .int 1], .tup [.int 2, .int 2], .tup [.int 3, .int 3], .tup [.int 4, .int 4]]) (.dct [((.tup [.int 5, .int 5]), .int 32)]) s4 s5 .own f4 f5) = .nx (S27 T R (.lst [.tup [.str [97], .str [97]], .tup [.int 0, .int 0], .tup [.int 1, .int 1], .tup [.int 2, .int 2], .tup [.int 3, .int 3], .tup [.int 4, .int 4]]) (.dct [((.tup [.int 5, .int 5]), .int 32)]) (.int 32) s5 .own .own f5)), sR_nx, run_seq,
    show A3.run _ = _ from (by kernel_rfl : A3.run (S27 T R (.lst [.tup [.str [97], .str [97]], .tup [.int 0, .int 0], .tup [.int 1, .int 1], .tup [.int 2, .int 2], .tup [.int 3, .int 3], .tup [.int 4, .int 4]]) (.dct [((.tup [.int 5, .int 5]), .int 32)]) (.int 32) s5 .own .own f5) = .nx (S27 T R (.lst [.tup [.str [97], .str [97]], .tup [.int 0, .int 0], .tup [.int 1, .int 1], .tup [.int 2, .int 2], .tup [.int 3, .int 3], .tup [.int 4, .int 4]]) (.dct [((.tup [.int 5, .int 5]), .int 32)]) (.int 32) s5 .own .own f5)), sR_nx, run_seq,
    show A4.run _ = _ from (by kernel_rfl : A4.run (S27 T R (.lst [.tup [.str [97], .str [97]], .tup [.int 0, .int 0], .tup [.int 1, .int 1], .tup [.int 2, .int 2], .tup [.int 3, .int 3], .tup [.int 4, .int 4]]) (.dct [((.tup [.int 5, .int 5]), .int 32)]) (.int 32) s5 .own .own f5) = .nx (S27 T R (.lst [.tup [.str [97], .str [97]], .tup [.int 0, .int 0], .tup [.int 1, .int 1], .tup [.int 2, .int 2], .tup [.int 3, .int 3], .tup [.int 4, .int 4]]) (.dct [((.tup [.int 5, .int 5]), .int 32)]) (.int 32) (.tup [.int 5, .int 5]) .own .own .own)), sR_nx, run_seq,
    A5_run _ _ _ _ _ _ _ 6 h29 (by kernel_rfl), sR_nx]
  kernel_rfl
theorem lv_7 (R R' T s3 s4 s5 : D) (f3 f4 f5 : D → Sl) (h28 : rv (m28.run (ent 3 [R])) = some (.dct [((.tup [.int 6, .int 6]), .int 16)])) (h29 : rv (m29.run (ent 5 [R, (.tup [.int 6, .int 6]), .int 7])) = some R') :
    bd27.run (S27 T R (.lst [.tup [.str [97], .str [97]], .tup [.int 0, .int 0], .tup [.int 1, .int 1], .tup [.int 2, .int 2], .tup [.int 3, .int 3], .tup [.int 4, .int 4], .tup [.int 5, .int 5]]) s3 s4 s5 f3 f4 f5) = .nx (S27 T R' (.lst [.tup [.str [97], .str [97]], .tup [.int 0, .int 0], .tup [.int 1, .int 1], .tup [.int 2, .int 2], .tup [.int 3, .int 3], .tup [.int 4, .int 4], .tup [.int 5, .int 5], .tup [.int 6, .int 6]]) (.dct [((.tup [.int 6, .int 6]), .int 16)]) (.int 16) (.tup [.int 6, .int 6]) .own .own .own) := by
  rw [bd27_eq, run_seq, A1_run _ _ _ _ _ _ _ _ _ _ h28, sR_nx, run_seq, show A2.run _ = _ from (by kernel_rfl : A2.run (S27 T R (.lst [.tup [.str [97], .str [97]], .tup [.int 0, .int 0], .tup [.int 1, .int 1], .tup [.int 2, .int 2], .tup [.int 3, .int 3], .tup [.int 4, .int 4], .tup [.int 5, .int 5]]) (.dct [((.tup [.int 6, .int 6]), .int 16)]) s4 s5 .own f4 f5) = .nx (S27 T R (.lst [.tup [.str [97], .str [97]], .tup [.int 0, .int 0], .tup [.int 1, .int 1], .tup [.int 2, .int 2], .tup [.int 3, .int 3], .tup [.int 4, .int 4], .tup [.int 5, .int 5]]) (.dct [((.tup [.int 6, .int 6]), .int 16)]) (.int 16) s5 .own .own f5)), sR_nx, run_seq,
    show A3.run _ = _ from (by kernel_rfl : A3.run (S27 T R (.lst [.tup [.str [97], .str [97]], .tup [.int 0, .int 0], .tup [.int 1, .int 1], .tup [.int 2, .int 2], .tup [.int 3, .int 3], .tup [.int 4, .int 4], .tup [.int 5, .int 5]]) (.dct [((.tup [.int 6, .int 6]), .int 16)]) (.int 16) s5 .own .own f5) = .nx (S27 T R (.lst [.tup [.str [97], .str [97]], .tup [.int 0, .int 0], .tup [.int 1, .int 1], .tup [.int 2, .int 2], .tup [.int 3, .int 3], .tup [.int 4, .int 4], .tup [.int 5, .int 5]]) (.dct [((.tup [.int 6, .int 6]), .int 16)]) (.int 16) s5 .own .own f5)), sR_nx, run_seq,
    show A4.run _ = _ from (by kernel_rfl : A4.run (S27 T R (.lst [.tup [.str [97], .str [97]], .tup [.int 0, .int 0], .tup [.int 1, .int 1], .tup [.int 2, .int 2], .tup [.int 3, .int 3], .tup [.int 4, .int 4], .tup [.int 5, .int 5]]) (.dct [((.tup [.int 6, .int 6]), .int 16)]) (.int 16) s5 .own .own f5) = .nx (S27 T R (.lst [.tup [.str [97], .str [97]], .tup [.int 0, .int 0], .tup [.int 1, .int 1], .tup [.int 2, .int 2], .tup [.int 3, .int 3], .tup [.int 4, .int 4], .tup [.int 5, .int 5]]) (.dct [((.tup [.int 6, .int 6]), .int 16)]) (.int 16) (.tup [.int 6, .int 6]) .own .own .own)), sR_nx, run_seq,
    A5_run _ _ _ _ _ _ _ 7 h29 (by kernel_rfl), sR_nx]
  kernel_rfl
theorem lv_8 (R R' T s3 s4 s5 : D) (f3 f4 f5 : D → Sl) (h28 : rv (m28.run (ent 3 [R])) = some (.dct [((.tup [.int 7, .int 7]), .int 8)])) (h29 : rv (m29.run (ent 5 [R, (.tup [.int 7, .int 7]), .int 8])) = some R') :
    bd27.run (S27 T R (.lst [.tup [.str [97], .str [97]], .tup [.int 0, .int 0], .tup [.int 1, .int 1], .tup [.int 2, .int 2], .tup [.int 3, .int 3], .tup [.int 4, .int 4], .tup [.int 5, .int 5], .tup [.int 6, .int 6]]) s3 s4 s5 f3 f4 f5) = .nx (S27 T R' (.lst [.tup [.str [97], .str [97]], .tup [.int 0, .int 0], .tup [.int 1, .int 1], .tup [.int 2, .int 2], .tup [.int 3, .int 3], .tup [.int 4, .int 4], .tup [.int 5, .int 5], .tup [.int 6, .int 6], .tup [.int 7, .int 7]]) (.dct [((.tup [.int 7, .int 7]), .int 8)]) (.int 8) (.tup [.int 7, .int 7]) .own .own .own) := by
  rw [bd27_eq, run_seq, A1_run _ _ _ _ _ _ _ _ _ _ h28, sR_nx, run_seq, show A2.run _ = _ from (by kernel_rfl : A2.run (S27 T R (.lst [.tup [.str [97], .str [97]], .tup [.int 0, .int 0], .tup [.int 1, .int 1], .tup [.int 2, .int 2], .tup [.int 3, .int 3], .tup [.int 4, .int 4], .tup [.int 5, .int 5], .tup [.int 6, .int 6]]) (.dct [((.tup [.int 7, .int 7]), .int 8)]) s4 s5 .own f4 f5) = .nx (S27 T R (.lst [.tup [.str [97], .str [97]], .tup [.int 0, .int 0], .tup [.int 1, .int 1], .tup [.int 2, .int 2], .tup [.int 3, .int 3], .tup [.int 4, .int 4], .tup [.int 5, .int 5], .tup [.int 6, .int 6]]) (.dct [((.tup [.int 7, .int 7]), .int 8)]) (.int 8) s5 .own .own f5)), sR_nx, run_seq,
    show A3.run _ = _ from (by kernel_rfl : A3.run (S27 T R (.lst [.tup [.str [97], .str [97]], .tup [.int 0, .int 0], .tup [.int 1, .int 1], .tup [.int 2, .int 2], .tup [.int 3, .int 3], .tup [.int 4, .int 4], .tup [.int 5, .int 5], .tup [.int 6, .int 6]]) (.dct [((.tup [.int 7, .int 7]), .int 8)]) (.int 8) s5 .own .own f5) = .nx (S27 T R (.lst [.tup [.str [97], .str [97]], .tup [.int 0, .int 0], .tup [.int 1, .int 1], .tup [.int 2, .int 2], .tup [.int 3, .int 3], .tup [.int 4, .int 4], .tup [.int 5, .int 5], .tup [.int 6, .int 6]]) (.dct [((.tup [.int 7, .int 7]), .int 8)]) (.int 8) s5 .own .own f5)), sR_nx, run_seq,
    show A4.run _ = _ from (by kernel_rfl : A4.run (S27 T R (.lst [.tup [.str [97], .str [97]], .tup [.int 0, .int 0], .tup [.int 1, .int 1], .tup [.int 2, .int 2], .tup [.int 3, .int 3], .tup [.int 4, .int 4], .tup [.int 5, .int 5], .tup [.int 6, .int 6]]) (.dct [((.tup [.int 7, .int 7]), .int 8)]) (.int 8) s5 .own .own f5) = .nx (S27 T R (.lst [.tup [.str [97], .str [97]], .tup [.int 0, .int 0], .tup [.int 1, .int 1], .tup [.int 2, .int 2], .tup [.int 3, .int 3], .tup [.int 4, .int 4], .tup [.int 5, .int 5], .tup [.int 6, .int 6]]) (.dct [((.tup [.int 7, .int 7]), .int 8)]) (.int 8) (.tup [.int 7, .int 7]) .own .own .own)), sR_nx, run_seq,
    A5_run _ _ _ _ _ _ _ 8 h29 (by kernel_rfl), sR_nx]
  kernel_rfl
theorem lv_9 (R R' T s3 s4 s5 : D) (f3 f4 f5 : D → Sl) (h28 : rv (m28.run (ent 3 [R])) = some (.dct [((.tup [.int 8, .int 8]), .int 4)])) (h29 : rv (m29.run (ent 5 [R, (.tup [.int 8, .int 8]), .int 9])) = some R') :
    bd27.run (S27 T R (.lst [.tup [.str [97], .str [97]], .tup [.int 0, .int 0], .tup [.int 1, .int 1], .tup [.int 2, .int 2], .tup [.int 3, .int 3], .tup [.int 4, .int 4], .tup [.int 5, .int 5], .tup [.int 6, .int 6], .tup [.int 7, .int 7]]) s3 s4 s5 f3 f4 f5) = .nx (S27 T R' (.lst [.tup [.str [97], .str [97]], .tup [.int 0, .int 0], .tup [.int 1, .int 1], .tup [.int 2, .int 2], .tup [.int 3, .int 3], .tup [.int 4, .int 4], .tup [.int 5, .int 5], .tup [.int 6, .int 6], .tup [.int 7, .int 7], .tup [.int 8, .int 8]]) (.dct [((.tup [.int 8, .int 8]), .int 4)]) (.int 4) (.tup [.int 8, .int 8]) .own .own .own) := by
  rw [bd27_eq, run_seq, A1_run _ _ _ _ _ _ _ _ _ _ h28, sR_nx, run_seq, show A2.run _ = _ from (by kernel_rfl : A2.run (S27 T R (.lst [.tup [.str [97], .str [97]], .tup [.int 0, .int 0], .tup [.int 1, .int 1], .tup [.int 2, .int 2], .tup [.int 3, .int 3], .tup [.int 4, .int 4], .tup [.int 5, .int 5], .tup [.int 6, .int 6], .tup [.int 7, .int 7]]) (.dct [((.tup [.int 8, .int 8]), .int 4)]) s4 s5 .own f4 f5) = .nx (S27 T R (.lst [.tup [.str [97], .str [97]], .tup [.int 0, .int 0], .tup [.int 1, .int 1], .tup [.int 2, .int 2], .tup [.int 3, .int 3], .tup [.int 4, .int 4], .tup [.int 5, .int 5], .tup [.int 6, .int 6], .tup [.int 7, .int 7]]) (.dct [((.tup [.int 8, .int 8]), .int 4)]) (.int 4) s5 .own .own f5)), sR_nx, run_seq,
    show A3.run _ = _ from (by kernel_rfl : A3.run (S27 T R (.lst [.tup [.str [97], .str [97]], .tup [.int 0, .int 0], .tup [.int 1, .int 1], .tup [.int 2, .int 2], .tup [.int 3, .int 3], .tup [.int 4, .int 4], .tup [.int 5, .int 5], .tup [.int 6, .int 6], .tup [.int 7, .int 7]]) (.dct [((.tup [.int 8, .int 8]), .int 4)]) (.int 4) s5 .own .own f5) = .nx (S27 T R (.lst [.tup [.str [97], .str [97]], .tup [.int 0, .int 0], .tup [.int 1, .int 1], .tup [.int 2, .int 2], .tup [.int 3, .int 3], .tup [.int 4, .int 4], .tup [.int 5, .int 5], .tup [.int 6, .int 6], .tup [.int 7, .int 7]]) (.dct [((.tup [.int 8, .int 8]), .int 4)]) (.int 4) s5 .own .own f5)), sR_nx, run_seq,
    show A4.run _ = _ from (by kernel_rfl : A4.run (S27 T R (.lst [.tup [.str [97], .str [97]], .tup [.int 0, .int 0], .tup [.int 1, .int 1], .tup [.int 2, .int 2], .tup [.int 3, .int 3], .tup [.int 4, .int 4], .tup [.int 5, .int 5], .tup [.int 6, .int 6], .tup [.int 7, .int 7]]) (.dct [((.tup [.int 8, .int 8]), .int 4)]) (.int 4) s5 .own .own f5) = .nx (S27 T R (.lst [.tup [.str [97], .str [97]], .tup [.int 0, .int 0], .tup [.int 1, .int 1], .tup [.int 2, .int 2], .tup [.int 3, .int 3], .tup [.int 4, .int 4], .tup [.int 5, .int 5], .tup [.int 6, .int 6], .tup [.int 7, .int 7]]) (.dct [((.tup [.int 8, .int 8]), .int 4)]) (.int 4) (.tup [.int 8, .int 8]) .own .own .own)), sR_nx, run_seq,
    A5_run _ _ _ _ _ _ _ 9 h29 (by kernel_rfl), sR_nx]
  kernel_rfl
theorem lv_10 (R R' T s3 s4 s5 : D) (f3 f4 f5 : D → Sl) (h28 : rv (m28.run (ent 3 [R])) = some (.dct [((.tup [.int 9, .int 9]), .int 2)])) (h29 : rv (m29.run (ent 5 [R, (.tup [.int 9, .int 9]), .int 10])) = some R') :
    bd27.run (S27 T R (.lst [.tup [.str [97], .str [97]], .tup [.int 0, .int 0], .tup [.int 1, .int 1], .tup [.int 2, .int 2], .tup [.int 3, .int 3], .tup [.int 4, .int 4], .tup [.int 5, .int 5], .tup [.int 6, .int 6], .tup [.int 7, .int 7], .tup [.int 8, .int 8]]) s3 s4 s5 f3 f4 f5) = .nx (S27 T R' (.lst [.tup [.str [97], .str [97]], .tup [.int 0, .int 0], .tup [.int 1, .int 1], .tup [.int 2, .int 2], .tup [.int 3, .int 3], .tup [.int 4, .int 4], .tup [.int 5, .int 5], .tup [.int 6, .int 6], .tup [.int 7, .int 7], .tup [.int 8, .int 8], .tup [.int 9, .int 9]]) (.dct [((.tup [.int 9, .int 9]), .int 2)]) (.int 2) (.tup [.int 9, .int 9]) .own .own .own) := by
  rw [bd27_eq, run_seq, A1_run _ _ _ _ _ _ _ _ _ _ h28, sR_nx, run_seq, show A2.run _ = _ from (by kernel_rfl : A2.run (S27 T R (.lst [.tup [.str [97], .str [97]], .tup [.int 0, .int 0], .tup [.int 1, .int 1], .tup [.int 2, .int 2], .tup [.int 3, .int 3], .tup [.int 4, .int 4], .tup [.int 5, .int 5], .tup [.int 6, .int 6], .tup [.int 7, .int 7], .tup [.int 8, .int 8]]) (.dct [((.tup [.int 9, .int 9]), .int 2)]) s4 s5 .own f4 f5) = .nx (S27 T R (.lst [.tup [.str [97], .str [97]], .tup [.int 0, .int 0], .tup [.int 1, .int 1], .tup [.int 2, .int 2], .tup [.int 3, .int 3], .tup [.int 4, .int 4], .tup [.int 5, .int 5], .tup [.int 6, .int 6], .tup [.int 7, .int 7], .tup [.int 8, .int 8]]) (.dct [((.tup [.int 9, .int 9]), .int 2)]) (.int 2) s5 .own .own f5)), sR_nx, run_seq,
    show A3.run _ = _ from (by kernel_rfl : A3.run (S27 T R (.lst [.tup [.str [97], .str [97]], .tup [.int 0, .int 0], .tup [.int 1, .int 1], .tup [.int 2, .int 2], .tup [.int 3, .int 3], .tup [.int 4, .int 4], .tup [.int 5, .int 5], .tup [.int 6, .int 6], .tup [.int 7, .int 7], .tup [.int 8, .int 8]]) (.dct [((.tup [.int 9, .int 9]), .int 2)]) (.int 2) s5 .own .own f5) = .nx (S27 T R (.lst [.tup [.str [97], .str [97]], .tup [.int 0, .int 0], .tup [.int 1, .int 1], .tup [.int 2, .int 2], .tup [.int 3, .int 3], .tup [.int 4, .int 4], .tup [.int 5, .int 5], .tup [.int 6, .int 6], .tup [.int 7, .int 7], .tup [.int 8, .int 8]]) (.dct [((.tup [.int 9, .int 9]), .int 2)]) (.int 2) s5 .own .own f5)), sR_nx, run_seq,
    show A4.run _ = _ from (by kernel_rfl : A4.run (S27 T R (.lst [.tup [.str [97], .str [97]], .tup [.int 0, .int 0], .tup [.int 1, .int 1], .tup [.int 2, .int 2], .tup [.int 3, .int 3], .tup [.int 4, .int 4], .tup [.int 5, .int 5], .tup [.int 6, .int 6], .tup [.int 7, .int 7], .tup [.int 8, .int 8]]) (.dct [((.tup [.int 9, .int 9]), .int 2)]) (.int 2) s5 .own .own f5) = .nx (S27 T R (.lst [.tup [.str [97], .str [97]], .tup [.int 0, .int 0], .tup [.int 1, .int 1], .tup [.int 2, .int 2], .tup [.int 3, .int 3], .tup [.int 4, .int 4], .tup [.int 5, .int 5], .tup [.int 6, .int 6], .tup [.int 7, .int 7], .tup [.int 8, .int 8]]) (.dct [((.tup [.int 9, .int 9]), .int 2)]) (.int 2) (.tup [.int 9, .int 9]) .own .own .own)), sR_nx, run_seq,
    A5_run _ _ _ _ _ _ _ 10 h29 (by kernel_rfl), sR_nx]
  kernel_rfl
end G64
end

section
set_option maxHeartbeats 0
namespace G64
open PySem PySem.Spec PyProof.Rows L2 Bv
theorem chars_rep (c : Nat) : ∀ n, charsD (List.replicate n c) = List.replicate n (.str [c])
  | 0 => rfl
  | n + 1 => by rw [List.replicate_succ, List.replicate_succ, charsD, chars_rep c n]
theorem wst {b : List Sl → RS} {n : Nat} {S S' : List Sl} (h : b S = .nx S') : whileR (mLit (.bl true)).run b (n + 1) S = whileR (mLit (.bl true)).run b n S' := by
  rw [while_succ, run_lit, eR_ok, truth_bl, tR_true, h, lR_nx]
def T27 : D := .str (List.replicate 4096 97)
def rr (i : Nat) : D := .lst (List.replicate (4096 >>> i) (if i = 0 then .str [97] else .int ((i - 1 : Nat) : Int)))
def isNn (o : Option D) : Bool := match o with
  | some .non => true
  | _ => false
theorem isNn_eq {o : Option D} (h : isNn o = true) : o = some .non := by
  unfold isNn at h
  split at h
  · rfl
  · cases h
theorem check_T : isNn (rv (m11.run (ent N11.length [T27]))) = true := by kernel_rfl
theorem h28_0 : rv (m28.run (ent 3 [.lst (List.replicate 4096 (.str [97]))])) = some (.dct [(.tup [.str [97], .str [97]], .int 2048)]) := m28_str 97 2048 (by decide) (by decide)
theorem h29_0 : rv (m29.run (ent 5 [.lst (List.replicate 4096 (.str [97])), .tup [.str [97], .str [97]], .int 0])) = some (.lst (List.replicate 2048 (.int 0))) := r29 4096 (.str [97]) 0 2048 (by decide) (by decide) (tup_eq _ (by simp [deq, deqL])) rfl
theorem h28_1 : rv (m28.run (ent 3 [.lst (List.replicate 2048 (.int 0))])) = some (.dct [(.tup [.int 0, .int 0], .int 1024)]) := m28_int 0 1024 (by decide) (by decide)
theorem h29_1 : rv (m29.run (ent 5 [.lst (List.replicate 2048 (.int 0)), .tup [.int 0, .int 0], .int 1])) = some (.lst (List.replicate 1024 (.int 1))) := r29 2048 (.int 0) 1 1024 (by decide) (by decide) (tup_eq _ (by simp [deq, deqL])) rfl
theorem h28_2 : rv (m28.run (ent 3 [.lst (List.replicate 1024 (.int 1))])) = some (.dct [(.tup [.int 1, .int 1], .int 512)]) := m28_int 1 512 (by decide) (by decide)
theorem h29_2 : rv (m29.run (ent 5 [.lst (List.replicate 1024 (.int 1)), .tup [.int 1, .int 1], .int 2])) = some (.lst (List.replicate 512 (.int 2))) := r29 1024 (.int 1) 2 512 (by decide) (by decide) (tup_eq _ (by simp [deq, deqL])) rfl
theorem h28_3 : rv (m28.run (ent 3 [.lst (List.replicate 512 (.int 2))])) = some (.dct [(.tup [.int 2, .int 2], .int 256)]) := m28_int 2 256 (by decide) (by decide)
theorem h29_3 : rv (m29.run (ent 5 [.lst (List.replicate 512 (.int 2)), .tup [.int 2, .int 2], .int 3])) = some (.lst (List.replicate 256 (.int 3))) := r29 512 (.int 2) 3 256 (by decide) (by decide) (tup_eq _ (by simp [deq, deqL])) rfl
theorem h28_4 : rv (m28.run (ent 3 [.lst (List.replicate 256 (.int 3))])) = some (.dct [(.tup [.int 3, .int 3], .int 128)]) := m28_int 3 128 (by decide) (by decide)
theorem h29_4 : rv (m29.run (ent 5 [.lst (List.replicate 256 (.int 3)), .tup [.int 3, .int 3], .int 4])) = some (.lst (List.replicate 128 (.int 4))) := r29 256 (.int 3) 4 128 (by decide) (by decide) (tup_eq _ (by simp [deq, deqL])) rfl
theorem h28_5 : rv (m28.run (ent 3 [.lst (List.replicate 128 (.int 4))])) = some (.dct [(.tup [.int 4, .int 4], .int 64)]) := m28_int 4 64 (by decide) (by decide)
theorem h29_5 : rv (m29.run (ent 5 [.lst (List.replicate 128 (.int 4)), .tup [.int 4, .int 4], .int 5])) = some (.lst (List.replicate 64 (.int 5))) := r29 128 (.int 4) 5 64 (by decide) (by decide) (tup_eq _ (by simp [deq, deqL])) rfl
theorem h28_6 : rv (m28.run (ent 3 [.lst (List.replicate 64 (.int 5))])) = some (.dct [(.tup [.int 5, .int 5], .int 32)]) := m28_int 5 32 (by decide) (by decide)
theorem h29_6 : rv (m29.run (ent 5 [.lst (List.replicate 64 (.int 5)), .tup [.int 5, .int 5], .int 6])) = some (.lst (List.replicate 32 (.int 6))) := r29 64 (.int 5) 6 32 (by decide) (by decide) (tup_eq _ (by simp [deq, deqL])) rfl
theorem h28_7 : rv (m28.run (ent 3 [.lst (List.replicate 32 (.int 6))])) = some (.dct [(.tup [.int 6, .int 6], .int 16)]) := m28_int 6 16 (by decide) (by decide)
theorem h29_7 : rv (m29.run (ent 5 [.lst (List.replicate 32 (.int 6)), .tup [.int 6, .int 6], .int 7])) = some (.lst (List.replicate 16 (.int 7))) := r29 32 (.int 6) 7 16 (by decide) (by decide) (tup_eq _ (by simp [deq, deqL])) rfl
theorem h28_8 : rv (m28.run (ent 3 [.lst (List.replicate 16 (.int 7))])) = some (.dct [(.tup [.int 7, .int 7], .int 8)]) := m28_int 7 8 (by decide) (by decide)
theorem h29_8 : rv (m29.run (ent 5 [.lst (List.replicate 16 (.int 7)), .tup [.int 7, .int 7], .int 8])) = some (.lst (List.replicate 8 (.int 8))) := r29 16 (.int 7) 8 8 (by decide) (by decide) (tup_eq _ (by simp [deq, deqL])) rfl
theorem h28_9 : rv (m28.run (ent 3 [.lst (List.replicate 8 (.int 8))])) = some (.dct [(.tup [.int 8, .int 8], .int 4)]) := m28_int 8 4 (by decide) (by decide)
theorem h29_9 : rv (m29.run (ent 5 [.lst (List.replicate 8 (.int 8)), .tup [.int 8, .int 8], .int 9])) = some (.lst (List.replicate 4 (.int 9))) := r29 8 (.int 8) 9 4 (by decide) (by decide) (tup_eq _ (by simp [deq, deqL])) rfl
theorem h28_10 : rv (m28.run (ent 3 [.lst (List.replicate 4 (.int 9))])) = some (.dct [(.tup [.int 9, .int 9], .int 2)]) := m28_int 9 2 (by decide) (by decide)
theorem h29_10 : rv (m29.run (ent 5 [.lst (List.replicate 4 (.int 9)), .tup [.int 9, .int 9], .int 10])) = some (.lst (List.replicate 2 (.int 10))) := r29 4 (.int 9) 10 2 (by decide) (by decide) (tup_eq _ (by simp [deq, deqL])) rfl
theorem h28_11 : rv (m28.run (ent 3 [.lst (List.replicate 2 (.int 10))])) = some (.dct [(.tup [.int 10, .int 10], .int 1)]) := m28_int 10 1 (by decide) (by decide)
theorem st_0 : bd27.run (S27 T27 (.lst (List.replicate 4096 (.str [97]))) (.lst []) .non .non .non (fun _ => .dead) (fun _ => .dead) (fun _ => .dead)) = .nx (S27 T27 (.lst (List.replicate 2048 (.int 0))) (.lst [.tup [.str [97], .str [97]]]) (.dct [(.tup [.str [97], .str [97]], .int 2048)]) (.int 2048) (.tup [.str [97], .str [97]]) .own .own .own) := lv_0 _ _ _ _ _ _ _ _ _ h28_0 h29_0
theorem st_1 : bd27.run (S27 T27 (.lst (List.replicate 2048 (.int 0))) (.lst [.tup [.str [97], .str [97]]]) (.dct [(.tup [.str [97], .str [97]], .int 2048)]) (.int 2048) (.tup [.str [97], .str [97]]) .own .own .own) = .nx (S27 T27 (.lst (List.replicate 1024 (.int 1))) (.lst [.tup [.str [97], .str [97]], .tup [.int 0, .int 0]]) (.dct [(.tup [.int 0, .int 0], .int 1024)]) (.int 1024) (.tup [.int 0, .int 0]) .own .own .own) := lv_1 _ _ _ _ _ _ _ _ _ h28_1 h29_1
theorem st_2 : bd27.run (S27 T27 (.lst (List.replicate 1024 (.int 1))) (.lst [.tup [.str [97], .str [97]], .tup [.int 0, .int 0]]) (.dct [(.tup [.int 0, .int 0], .int 1024)]) (.int 1024) (.tup [.int 0, .int 0]) .own .own .own) = .nx (S27 T27 (.lst (List.replicate 512 (.int 2))) (.lst [.tup [.str [97], .str [97]], .tup [.int 0, .int 0], .tup [.int 1, .int 1]]) (.dct [(.tup [.int 1, .int 1], .int 512)]) (.int 512) (.tup [.int 1, .int 1]) .own .own .own) := lv_2 _ _ _ _ _ _ _ _ _ h28_2 h29_2
theorem st_3 : bd27.run (S27 T27 (.lst (List.replicate 512 (.int 2))) (.lst [.tup [.str [97], .str [97]], .tup [.int 0, .int 0], .tup [.int 1, .int 1]]) (.dct [(.tup [.int 1, .int 1], .int 512)]) (.int 512) (.tup [.int 1, .int 1]) .own .own .own) = .nx (S27 T27 (.lst (List.replicate 256 (.int 3))) (.lst [.tup [.str [97], .str [97]], .tup [.int 0, .int 0], .tup [.int 1, .int 1], .tup [.int 2, .int 2]]) (.dct [(.tup [.int 2, .int 2], .int 256)]) (.int 256) (.tup [.int 2, .int 2]) .own .own .own) := lv_3 _ _ _ _ _ _ _ _ _ h28_3 h29_3
theorem st_4 : bd27.run (S27 T27 (.lst (List.replicate 256 (.int 3))) (.lst [.tup [.str [97], .str [97]], .tup [.int 0, .int 0], .tup [.int 1, .int 1], .tup [.int 2, .int 2]]) (.dct [(.tup [.int 2, .int 2], .int 256)]) (.int 256) (.tup [.int 2, .int 2]) .own .own .own) = .nx (S27 T27 (.lst (List.replicate 128 (.int 4))) (.lst [.tup [.str [97], .str [97]], .tup [.int 0, .int 0], .tup [.int 1, .int 1], .tup [.int 2, .int 2], .tup [.int 3, .int 3]]) (.dct [(.tup [.int 3, .int 3], .int 128)]) (.int 128) (.tup [.int 3, .int 3]) .own .own .own) := lv_4 _ _ _ _ _ _ _ _ _ h28_4 h29_4
theorem st_5 : bd27.run (S27 T27 (.lst (List.replicate 128 (.int 4))) (.lst [.tup [.str [97], .str [97]], .tup [.int 0, .int 0], .tup [.int 1, .int 1], .tup [.int 2, .int 2], .tup [.int 3, .int 3]]) (.dct [(.tup [.int 3, .int 3], .int 128)]) (.int 128) (.tup [.int 3, .int 3]) .own .own .own) = .nx (S27 T27 (.lst (List.replicate 64 (.int 5))) (.lst [.tup [.str [97], .str [97]], .tup [.int 0, .int 0], .tup [.int 1, .int 1], .tup [.int 2, .int 2], .tup [.int 3, .int 3], .tup [.int 4, .int 4]]) (.dct [(.tup [.int 4, .int 4], .int 64)]) (.int 64) (.tup [.int 4, .int 4]) .own .own .own) := lv_5 _ _ _ _ _ _ _ _ _ h28_5 h29_5
theorem st_6 : bd27.run (S27 T27 (.lst (List.replicate 64 (.int 5))) (.lst [.tup [.str [97], .str [97]], .tup [.int 0, .int 0], .tup [.int 1, .int 1], .tup [.int 2, .int 2], .tup [.int 3, .int 3], .tup [.int 4, .int 4]]) (.dct [(.tup [.int 4, .int 4], .int 64)]) (.int 64) (.tup [.int 4, .int 4]) .own .own .own) = .nx (S27 T27 (.lst (List.replicate 32 (.int 6))) (.lst [.tup [.str [97], .str [97]], .tup [.int 0, .int 0], .tup [.int 1, .int 1], .tup [.int 2, .int 2], .tup [.int 3, .int 3], .tup [.int 4, .int 4], .tup [.int 5, .int 5]]) (.dct [(.tup [.int 5, .int 5], .int 32)]) (.int 32) (.tup [.int 5, .int 5]) .own .own .own) := lv_6 _ _ _ _ _ _ _ _ _ h28_6 h29_6
theorem st_7 : bd27.run (S27 T27 (.lst (List.replicate 32 (.int 6))) (.lst [.tup [.str [97], .str [97]], .tup [.int 0, .int 0], .tup [.int 1, .int 1], .tup [.int 2, .int 2], .tup [.int 3, .int 3], .tup [.int 4, .int 4], .tup [.int 5, .int 5]]) (.dct [(.tup [.int 5, .int 5], .int 32)]) (.int 32) (.tup [.int 5, .int 5]) .own .own .own) = .nx (S27 T27 (.lst (List.replicate 16 (.int 7))) (.lst [.tup [.str [97], .str [97]], .tup [.int 0, .int 0], .tup [.int 1, .int 1], .tup [.int 2, .int 2], .tup [.int 3, .int 3], .tup [.int 4, .int 4], .tup [.int 5, .int 5], .tup [.int 6, .int 6]]) (.dct [(.tup [.int 6, .int 6], .int 16)]) (.int 16) (.tup [.int 6, .int 6]) .own .own .own) := lv_7 _ _ _ _ _ _ _ _ _ h28_7 h29_7
theorem st_8 : bd27.run (S27 T27 (.lst (List.replicate 16 (.int 7))) (.lst [.tup [.str [97], .str [97]], .tup [.int 0, .int 0], .tup [.int 1, .int 1], .tup [.int 2, .int 2], .tup [.int 3, .int 3], .tup [.int 4, .int 4], .tup [.int 5, .int 5], .tup [.int 6, .int 6]]) (.dct [(.tup [.int 6, .int 6], .int 16)]) (.int 16) (.tup [.int 6, .int 6]) .own .own .own) = .nx (S27 T27 (.lst (List.replicate 8 (.int 8))) (.lst [.tup [.str [97], .str [97]], .tup [.int 0, .int 0], .tup [.int 1, .int 1], .tup [.int 2, .int 2], .tup [.int 3, .int 3], .tup [.int 4, .int 4], .tup [.int 5, .int 5], .tup [.int 6, .int 6], .tup [.int 7, .int 7]]) (.dct [(.tup [.int 7, .int 7], .int 8)]) (.int 8) (.tup [.int 7, .int 7]) .own .own .own) := lv_8 _ _ _ _ _ _ _ _ _ h28_8 h29_8
theorem st_9 : bd27.run (S27 T27 (.lst (List.replicate 8 (.int 8))) (.lst [.tup [.str [97], .str [97]], .tup [.int 0, .int 0], .tup [.int 1, .int 1], .tup [.int 2, .int 2], .tup [.int 3, .int 3], .tup [.int 4, .int 4], .tup [.int 5, .int 5], .tup [.int 6, .int 6], .tup [.int 7, .int 7]]) (.dct [(.tup [.int 7, .int 7], .int 8)]) (.int 8) (.tup [.int 7, .int 7]) .own .own .own) = .nx (S27 T27 (.lst (List.replicate 4 (.int 9))) (.lst [.tup [.str [97], .str [97]], .tup [.int 0, .int 0], .tup [.int 1, .int 1], .tup [.int 2, .int 2], .tup [.int 3, .int 3], .tup [.int 4, .int 4], .tup [.int 5, .int 5], .tup [.int 6, .int 6], .tup [.int 7, .int 7], .tup [.int 8, .int 8]]) (.dct [(.tup [.int 8, .int 8], .int 4)]) (.int 4) (.tup [.int 8, .int 8]) .own .own .own) := lv_9 _ _ _ _ _ _ _ _ _ h28_9 h29_9
theorem st_10 : bd27.run (S27 T27 (.lst (List.replicate 4 (.int 9))) (.lst [.tup [.str [97], .str [97]], .tup [.int 0, .int 0], .tup [.int 1, .int 1], .tup [.int 2, .int 2], .tup [.int 3, .int 3], .tup [.int 4, .int 4], .tup [.int 5, .int 5], .tup [.int 6, .int 6], .tup [.int 7, .int 7], .tup [.int 8, .int 8]]) (.dct [(.tup [.int 8, .int 8], .int 4)]) (.int 4) (.tup [.int 8, .int 8]) .own .own .own) = .nx (S27 T27 (.lst (List.replicate 2 (.int 10))) (.lst [.tup [.str [97], .str [97]], .tup [.int 0, .int 0], .tup [.int 1, .int 1], .tup [.int 2, .int 2], .tup [.int 3, .int 3], .tup [.int 4, .int 4], .tup [.int 5, .int 5], .tup [.int 6, .int 6], .tup [.int 7, .int 7], .tup [.int 8, .int 8], .tup [.int 9, .int 9]]) (.dct [(.tup [.int 9, .int 9], .int 2)]) (.int 2) (.tup [.int 9, .int 9]) .own .own .own) := lv_10 _ _ _ _ _ _ _ _ _ h28_10 h29_10
theorem wh27 : whileR (mLit (.bl true)).run bd27.run 5000 (S27 T27 (.lst (List.replicate 4096 (.str [97]))) (.lst []) .non .non .non (fun _ => .dead) (fun _ => .dead) (fun _ => .dead)) = whileR (mLit (.bl true)).run bd27.run 4989 (S27 T27 (.lst (List.replicate 2 (.int 10))) (.lst [.tup [.str [97], .str [97]], .tup [.int 0, .int 0], .tup [.int 1, .int 1], .tup [.int 2, .int 2], .tup [.int 3, .int 3], .tup [.int 4, .int 4], .tup [.int 5, .int 5], .tup [.int 6, .int 6], .tup [.int 7, .int 7], .tup [.int 8, .int 8], .tup [.int 9, .int 9]]) (.dct [(.tup [.int 9, .int 9], .int 2)]) (.int 2) (.tup [.int 9, .int 9]) .own .own .own) := (wst st_0).trans ((wst st_1).trans ((wst st_2).trans ((wst st_3).trans ((wst st_4).trans ((wst st_5).trans ((wst st_6).trans ((wst st_7).trans ((wst st_8).trans ((wst st_9).trans (wst st_10))))))))))
theorem end27 : bd27.run (S27 T27 (.lst (List.replicate 2 (.int 10))) (.lst [.tup [.str [97], .str [97]], .tup [.int 0, .int 0], .tup [.int 1, .int 1], .tup [.int 2, .int 2], .tup [.int 3, .int 3], .tup [.int 4, .int 4], .tup [.int 5, .int 5], .tup [.int 6, .int 6], .tup [.int 7, .int 7], .tup [.int 8, .int 8], .tup [.int 9, .int 9]]) (.dct [(.tup [.int 9, .int 9], .int 2)]) (.int 2) (.tup [.int 9, .int 9]) .own .own .own) = .bk (S27 T27 (.lst (List.replicate 2 (.int 10))) (.lst [.tup [.str [97], .str [97]], .tup [.int 0, .int 0], .tup [.int 1, .int 1], .tup [.int 2, .int 2], .tup [.int 3, .int 3], .tup [.int 4, .int 4], .tup [.int 5, .int 5], .tup [.int 6, .int 6], .tup [.int 7, .int 7], .tup [.int 8, .int 8], .tup [.int 9, .int 9]]) (.dct [(.tup [.int 10, .int 10], .int 1)]) (.int 1) (.tup [.int 9, .int 9]) .own .own .own) := by
  rw [bd27_eq, run_seq, A1_run _ _ _ _ _ _ _ _ _ _ h28_11, sR_nx]
  kernel_rfl
theorem loop27 : whileR (mLit (.bl true)).run bd27.run 5000 (S27 T27 (.lst (List.replicate 4096 (.str [97]))) (.lst []) .non .non .non (fun _ => .dead) (fun _ => .dead) (fun _ => .dead)) = .nx (S27 T27 (.lst (List.replicate 2 (.int 10))) (.lst [.tup [.str [97], .str [97]], .tup [.int 0, .int 0], .tup [.int 1, .int 1], .tup [.int 2, .int 2], .tup [.int 3, .int 3], .tup [.int 4, .int 4], .tup [.int 5, .int 5], .tup [.int 6, .int 6], .tup [.int 7, .int 7], .tup [.int 8, .int 8], .tup [.int 9, .int 9]]) (.dct [(.tup [.int 10, .int 10], .int 1)]) (.int 1) (.tup [.int 9, .int 9]) .own .own .own) := by
  rw [wh27, while_succ, run_lit, eR_ok, truth_bl, tR_true, end27, lR_bk]
def tail27 : SM := (mSeq (mIfS (m1 opNot (mCall N17.length m17 [(mTup [(true, (mVar 2)), (false, (mP dTupleOf [(mVar 1)]))])])) mNever mNext) (mRet (mTup [(true, (mVar 2)), (false, (mP dTupleOf [(mVar 1)]))])))
def G12 : D := .tup [.tup [.str [97], .str [97]], .tup [.int 0, .int 0], .tup [.int 1, .int 1], .tup [.int 2, .int 2], .tup [.int 3, .int 3], .tup [.int 4, .int 4], .tup [.int 5, .int 5], .tup [.int 6, .int 6], .tup [.int 7, .int 7], .tup [.int 8, .int 8], .tup [.int 9, .int 9], .tup [.int 10, .int 10]]
def isG (o : Option D) : Bool := match o with
  | some d => D.beq d G12
  | none => false
theorem isG_eq {o : Option D} (h : isG o = true) : o = some G12 := by
  unfold isG at h
  split at h
  · rw [(D.beq_eq _ _).mp h]
  · cases h
theorem tail_G : isG (rv (tail27.run (S27 T27 (.lst (List.replicate 2 (.int 10))) (.lst [.tup [.str [97], .str [97]], .tup [.int 0, .int 0], .tup [.int 1, .int 1], .tup [.int 2, .int 2], .tup [.int 3, .int 3], .tup [.int 4, .int 4], .tup [.int 5, .int 5], .tup [.int 6, .int 6], .tup [.int 7, .int 7], .tup [.int 8, .int 8], .tup [.int 9, .int 9]]) (.dct [(.tup [.int 10, .int 10], .int 1)]) (.int 1) (.tup [.int 9, .int 9]) .own .own .own))) = true := by kernel_rfl
theorem m27_big : rv (m27.run (ent 8 [T27])) = some G12 := by
  have e : m27 = mSeq (mDrop (mCall N11.length m11 [(mVar 0)])) (mSeq (mPar [1, 2] [(false, (mP dListA [(mVar 0)])), (false, (mLst []))]) (mSeq (mWhile 5000 (mLit (.bl true)) bd27) tail27)) := rfl
  have e0 : ent 8 [T27] = [.ro T27, .dead, .dead, .dead, .dead, .dead, .dead, .dead] := rfl
  have ec := isNn_eq check_T
  have ec : rv (m11.run (ent N11.length [T27])) = some .non := ec
  have el : dListA [T27] = some (.lst (List.replicate 4096 (.str [97]))) := by
    show some (D.lst (charsD (List.replicate 4096 97))) = _
    rw [chars_rep]
  have e1 : (mDrop (mCall N11.length m11 [(mVar 0)])).run [.ro T27, .dead, .dead, .dead, .dead, .dead, .dead, .dead] = .nx [.ro T27, .dead, .dead, .dead, .dead, .dead, .dead, .dead] := by
    simp only [run_drop, run_call, al_cons', al_nil', run_var, List.getElem?_cons_zero, vR_ro, bR_ok, ec, oR_some, eR_ok]
  have e2 : (mPar [1, 2] [(false, (mP dListA [(mVar 0)])), (false, (mLst []))]).run [.ro T27, .dead, .dead, .dead, .dead, .dead, .dead, .dead] = .nx (S27 T27 (.lst (List.replicate 4096 (.str [97]))) (.lst []) .non .non .non (fun _ => .dead) (fun _ => .dead) (fun _ => .dead)) := by
    simp only [run_par, eargs_cons, eargs_nil, run_p, run_lst, al_cons', al_nil', run_var, List.getElem?_cons_zero, vR_ro, bR_ok, el, oR_some, List.length_nil]
    rfl
  rw [e, e0, run_seq, e1, sR_nx, run_seq, e2, sR_nx, run_seq, run_while, loop27, sR_nx]
  exact isG_eq tail_G
end G64
end

section
set_option maxHeartbeats 0
namespace G64
open PySem PySem.Spec PyProof.Rows L2 Bv
theorem ifs_or {X Y : EM} {p q : SM} {S : List Sl} (h : X.run S = .ok (.bl false) S) : (mIfS (mOr X Y) p q).run S = (mIfS Y p q).run S := by
  rw [run_ifs, run_ifs, run_or, h]
  rfl
def x14_0 : EM := (m2 dNe (mCall N27.length m27 [(m2 dMul (mLit (.str [97])) (mLit (.int 64)))]) (mTup [(false, (mTup [(false, (mLit (.str [97]))), (false, (mLit (.str [97])))])), (false, (mTup [(false, (mLit (.int 0))), (false, (mLit (.int 0)))])), (false, (mTup [(false, (mLit (.int 1))), (false, (mLit (.int 1)))])), (false, (mTup [(false, (mLit (.int 2))), (false, (mLit (.int 2)))])), (false, (mTup [(false, (mLit (.int 3))), (false, (mLit (.int 3)))])), (false, (mTup [(false, (mLit (.int 4))), (false, (mLit (.int 4)))]))]))
def x14_1 : EM := (m2 dNe (mCall N27.length m27 [(mLit (.str [98, 97, 97, 98, 97, 98]))]) (mTup [(false, (mTup [(false, (mLit (.str [98]))), (false, (mLit (.str [97])))])), (false, (mTup [(false, (mLit (.int 0))), (false, (mLit (.str [97]))), (false, (mLit (.int 0))), (false, (mLit (.str [98])))]))]))
def x14_2 : EM := (m2 dNe (mCall N24.length m24 [(mCall N27.length m27 [(m2 dMul (mLit (.str [97, 98])) (mLit (.int 32)))])]) (mLit (.int 12)))
def x14_3 : EM := (m2 dNe (mIdx (mCall N19.length m19 [(mCall N27.length m27 [(m2 dMul (mLit (.str [97])) (mLit (.int 4096)))])]) (m1 dNeg (mLit (.int 1)))) (mLit (.int 4096)))
theorem s14_eq : m39s14 = mIfS (mOr x14_0 (mOr x14_1 (mOr x14_2 x14_3))) (mRet (mLit (.bl false))) mNext := rfl
theorem x14_3_run (S : List Sl) : x14_3.run S = .ok (.bl false) S := by
  have h := m27_big
  have h : rv (m27.run (ent N27.length [T27])) = some G12 := h
  have hm : dMul (.str [97]) (.int 4096) = some T27 := by
    show some (D.str (List.replicate (4096 : Int).toNat [97]).flatten) = _
    rw [show (4096 : Int).toNat = 4096 from rfl, List.flatten_replicate_singleton]
    rfl
  have h2 : (mIdx (mCall N19.length m19 [mLit G12]) (m1 dNeg (mLit (.int 1)))).run S = .ok (.int 4096) S := by kernel_rfl
  have e : (mCall N27.length m27 [(m2 dMul (mLit (.str [97])) (mLit (.int 4096)))]).run S = (mLit G12).run S := by
    simp only [run_call, al_cons', al_nil', run_m2, run_lit, bR_ok, hm, oR_some, h]
  have e2 : (mIdx (mCall N19.length m19 [(mCall N27.length m27 [(m2 dMul (mLit (.str [97])) (mLit (.int 4096)))])]) (m1 dNeg (mLit (.int 1)))).run S = (mIdx (mCall N19.length m19 [mLit G12]) (m1 dNeg (mLit (.int 1)))).run S := by
    rw [run_idx, run_idx, run_call, run_call, al_cons', al_cons', e]
  rw [x14_3, run_m2, e2, h2, bR_ok, run_lit, bR_ok]
  rfl
theorem s14_run (S : List Sl) : m39s14.run S = .nx S := by
  rw [s14_eq, ifs_or (show x14_0.run S = _ by kernel_rfl), ifs_or (show x14_1.run S = _ by kernel_rfl), ifs_or (show x14_2.run S = _ by kernel_rfl), run_ifs, x14_3_run, eR_ok, truth_bl, tR_false, run_next]
def pre (l : List SM) : SM := l.foldr mSeq mNext
def S6 (d : D) (sg : Nat) (n : Int) (a b c : Sl) : List Sl := [.dead, .own d, .own (.str [sg]), .own (.int n), a, b, c, .dead, .dead, .dead, .dead]
def isN11 : RS → Bool
  | .nx s => Nat.beq s.length 11
  | _ => false
theorem isN11_eq {r : RS} (h : isN11 r = true) : ∃ S, r = .nx S ∧ S.length = 11 := by
  unfold isN11 at h
  split at h
  · exact ⟨_, rfl, Nat.eq_of_beq_eq_true h⟩
  · cases h
def isTr : RS → Bool
  | .rt (.bl true) _ => true
  | _ => false
theorem isTr_eq {r : RS} (h : isTr r = true) : ∃ S, r = .rt (.bl true) S := by
  unfold isTr at h
  split at h
  · exact ⟨_, rfl⟩
  · cases h
theorem s7_13 (d : D) (sg : Nat) (n : Int) (a b c : Sl) : isN11 ((mSeq m39s7 (mSeq m39s8 (mSeq m39s9 (mSeq m39s10 (mSeq m39s11 (mSeq m39s12 m39s13)))))).run (S6 d sg n a b c)) = true := by kernel_rfl
theorem s15_16 : ∀ (S : List Sl), S.length = 11 → ∃ S', (mSeq m39s15 m39s16).run S = .rt (.bl true) S'
  | [a0, a1, a2, a3, a4, a5, a6, a7, a8, a9, a10], _ => isTr_eq (by kernel_rfl : isTr ((mSeq m39s15 m39s16).run [a0, a1, a2, a3, a4, a5, a6, a7, a8, a9, a10]) = true)
def tailA : SM := (mSeq m39s7 (mSeq m39s8 (mSeq m39s9 (mSeq m39s10 (mSeq m39s11 (mSeq m39s12 (mSeq m39s13 (mSeq m39s14 (mSeq m39s15 m39s16)))))))))
theorem seq_assoc (a b c : SM) (S : List Sl) : (mSeq (mSeq a b) c).run S = (mSeq a (mSeq b c)).run S := by
  simp only [run_seq]
  cases a.run S <;> rfl
theorem seq_congr {a b c : SM} (h : ∀ S, b.run S = c.run S) (S : List Sl) : (mSeq a b).run S = (mSeq a c).run S := by
  simp only [run_seq]
  cases a.run S <;> first | rfl | exact h _
theorem tailA_run (d : D) (sg : Nat) (n : Int) (a b c : Sl) : ∃ S', tailA.run (S6 d sg n a b c) = .rt (.bl true) S' := by
  obtain ⟨S1, e1, l1⟩ := isN11_eq (s7_13 d sg n a b c)
  obtain ⟨S2, e2⟩ := s15_16 S1 l1
  have e : tailA.run (S6 d sg n a b c) = (mSeq (mSeq m39s7 (mSeq m39s8 (mSeq m39s9 (mSeq m39s10 (mSeq m39s11 (mSeq m39s12 m39s13)))))) (mSeq m39s14 (mSeq m39s15 m39s16))).run (S6 d sg n a b c) := by
    unfold tailA
    rw [seq_assoc]
    refine seq_congr (fun S => ?_) _
    rw [seq_assoc]
    refine seq_congr (fun S => ?_) _
    rw [seq_assoc]
    refine seq_congr (fun S => ?_) _
    rw [seq_assoc]
    refine seq_congr (fun S => ?_) _
    rw [seq_assoc]
    refine seq_congr (fun S => ?_) _
    rw [seq_assoc]
  refine ⟨S2, ?_⟩
  rw [e, run_seq, e1, sR_nx, run_seq, s14_run, sR_nx]
  exact e2
theorem s6_97 (d : D) (n : Int) (a b c : Sl) : m39s6.run (S6 d 97 n a b c) = .nx (S6 d 97 n a b c) := by kernel_rfl
theorem p_97_0 (d : D) : (mSeq m39s1 (mSeq m39s2 (mSeq m39s3 (mSeq m39s4 m39s5)))).run (S6 d 97 0 .dead .dead .dead) = .nx (S6 d 97 0 (.own (.tup [.tup [.str [97]]])) (.own (.int 1)) .dead) := by kernel_rfl
theorem p_97_1 (d : D) : (mSeq m39s1 (mSeq m39s2 (mSeq m39s3 (mSeq m39s4 m39s5)))).run (S6 d 97 1 .dead .dead .dead) = .nx (S6 d 97 1 (.own (.tup [.tup [.str [97]], .tup [.int 0, .int 0]])) (.own (.int 2)) (.own (.int 0))) := by kernel_rfl
theorem p_97_2 (d : D) : (mSeq m39s1 (mSeq m39s2 (mSeq m39s3 (mSeq m39s4 m39s5)))).run (S6 d 97 2 .dead .dead .dead) = .nx (S6 d 97 2 (.own (.tup [.tup [.str [97]], .tup [.int 0, .int 0], .tup [.int 1, .int 1]])) (.own (.int 4)) (.own (.int 1))) := by kernel_rfl
theorem p_97_3 (d : D) : (mSeq m39s1 (mSeq m39s2 (mSeq m39s3 (mSeq m39s4 m39s5)))).run (S6 d 97 3 .dead .dead .dead) = .nx (S6 d 97 3 (.own (.tup [.tup [.str [97]], .tup [.int 0, .int 0], .tup [.int 1, .int 1], .tup [.int 2, .int 2]])) (.own (.int 8)) (.own (.int 2))) := by kernel_rfl
theorem p_97_4 (d : D) : (mSeq m39s1 (mSeq m39s2 (mSeq m39s3 (mSeq m39s4 m39s5)))).run (S6 d 97 4 .dead .dead .dead) = .nx (S6 d 97 4 (.own (.tup [.tup [.str [97]], .tup [.int 0, .int 0], .tup [.int 1, .int 1], .tup [.int 2, .int 2], .tup [.int 3, .int 3]])) (.own (.int 16)) (.own (.int 3))) := by kernel_rfl
theorem p_97_5 (d : D) : (mSeq m39s1 (mSeq m39s2 (mSeq m39s3 (mSeq m39s4 m39s5)))).run (S6 d 97 5 .dead .dead .dead) = .nx (S6 d 97 5 (.own (.tup [.tup [.str [97]], .tup [.int 0, .int 0], .tup [.int 1, .int 1], .tup [.int 2, .int 2], .tup [.int 3, .int 3], .tup [.int 4, .int 4]])) (.own (.int 32)) (.own (.int 4))) := by kernel_rfl
theorem p_97_6 (d : D) : (mSeq m39s1 (mSeq m39s2 (mSeq m39s3 (mSeq m39s4 m39s5)))).run (S6 d 97 6 .dead .dead .dead) = .nx (S6 d 97 6 (.own (.tup [.tup [.str [97]], .tup [.int 0, .int 0], .tup [.int 1, .int 1], .tup [.int 2, .int 2], .tup [.int 3, .int 3], .tup [.int 4, .int 4], .tup [.int 5, .int 5]])) (.own (.int 64)) (.own (.int 5))) := by kernel_rfl
theorem p_97_7 (d : D) : (mSeq m39s1 (mSeq m39s2 (mSeq m39s3 (mSeq m39s4 m39s5)))).run (S6 d 97 7 .dead .dead .dead) = .nx (S6 d 97 7 (.own (.tup [.tup [.str [97]], .tup [.int 0, .int 0], .tup [.int 1, .int 1], .tup [.int 2, .int 2], .tup [.int 3, .int 3], .tup [.int 4, .int 4], .tup [.int 5, .int 5], .tup [.int 6, .int 6]])) (.own (.int 128)) (.own (.int 6))) := by kernel_rfl
theorem p_97_8 (d : D) : (mSeq m39s1 (mSeq m39s2 (mSeq m39s3 (mSeq m39s4 m39s5)))).run (S6 d 97 8 .dead .dead .dead) = .nx (S6 d 97 8 (.own (.tup [.tup [.str [97]], .tup [.int 0, .int 0], .tup [.int 1, .int 1], .tup [.int 2, .int 2], .tup [.int 3, .int 3], .tup [.int 4, .int 4], .tup [.int 5, .int 5], .tup [.int 6, .int 6], .tup [.int 7, .int 7]])) (.own (.int 256)) (.own (.int 7))) := by kernel_rfl
theorem p_97_9 (d : D) : (mSeq m39s1 (mSeq m39s2 (mSeq m39s3 (mSeq m39s4 m39s5)))).run (S6 d 97 9 .dead .dead .dead) = .nx (S6 d 97 9 (.own (.tup [.tup [.str [97]], .tup [.int 0, .int 0], .tup [.int 1, .int 1], .tup [.int 2, .int 2], .tup [.int 3, .int 3], .tup [.int 4, .int 4], .tup [.int 5, .int 5], .tup [.int 6, .int 6], .tup [.int 7, .int 7], .tup [.int 8, .int 8]])) (.own (.int 512)) (.own (.int 8))) := by kernel_rfl
theorem p_97_10 (d : D) : (mSeq m39s1 (mSeq m39s2 (mSeq m39s3 (mSeq m39s4 m39s5)))).run (S6 d 97 10 .dead .dead .dead) = .nx (S6 d 97 10 (.own (.tup [.tup [.str [97]], .tup [.int 0, .int 0], .tup [.int 1, .int 1], .tup [.int 2, .int 2], .tup [.int 3, .int 3], .tup [.int 4, .int 4], .tup [.int 5, .int 5], .tup [.int 6, .int 6], .tup [.int 7, .int 7], .tup [.int 8, .int 8], .tup [.int 9, .int 9]])) (.own (.int 1024)) (.own (.int 9))) := by kernel_rfl
theorem p_97_11 (d : D) : (mSeq m39s1 (mSeq m39s2 (mSeq m39s3 (mSeq m39s4 m39s5)))).run (S6 d 97 11 .dead .dead .dead) = .nx (S6 d 97 11 (.own (.tup [.tup [.str [97]], .tup [.int 0, .int 0], .tup [.int 1, .int 1], .tup [.int 2, .int 2], .tup [.int 3, .int 3], .tup [.int 4, .int 4], .tup [.int 5, .int 5], .tup [.int 6, .int 6], .tup [.int 7, .int 7], .tup [.int 8, .int 8], .tup [.int 9, .int 9], .tup [.int 10, .int 10]])) (.own (.int 2048)) (.own (.int 10))) := by kernel_rfl
theorem p_97_12 (d : D) : (mSeq m39s1 (mSeq m39s2 (mSeq m39s3 (mSeq m39s4 m39s5)))).run (S6 d 97 12 .dead .dead .dead) = .nx (S6 d 97 12 (.own (.tup [.tup [.str [97]], .tup [.int 0, .int 0], .tup [.int 1, .int 1], .tup [.int 2, .int 2], .tup [.int 3, .int 3], .tup [.int 4, .int 4], .tup [.int 5, .int 5], .tup [.int 6, .int 6], .tup [.int 7, .int 7], .tup [.int 8, .int 8], .tup [.int 9, .int 9], .tup [.int 10, .int 10], .tup [.int 11, .int 11]])) (.own (.int 4096)) (.own (.int 11))) := by kernel_rfl
theorem all_97 (d : D) (n : Nat) (h : n < 13) : ∃ a b c, (mSeq m39s1 (mSeq m39s2 (mSeq m39s3 (mSeq m39s4 m39s5)))).run (S6 d 97 n .dead .dead .dead) = .nx (S6 d 97 n a b c) :=
  match n, h with
  | 0, _ => ⟨_, _, _, p_97_0 d⟩
  | 1, _ => ⟨_, _, _, p_97_1 d⟩
  | 2, _ => ⟨_, _, _, p_97_2 d⟩
  | 3, _ => ⟨_, _, _, p_97_3 d⟩
  | 4, _ => ⟨_, _, _, p_97_4 d⟩
  | 5, _ => ⟨_, _, _, p_97_5 d⟩
  | 6, _ => ⟨_, _, _, p_97_6 d⟩
  | 7, _ => ⟨_, _, _, p_97_7 d⟩
  | 8, _ => ⟨_, _, _, p_97_8 d⟩
  | 9, _ => ⟨_, _, _, p_97_9 d⟩
  | 10, _ => ⟨_, _, _, p_97_10 d⟩
  | 11, _ => ⟨_, _, _, p_97_11 d⟩
  | 12, _ => ⟨_, _, _, p_97_12 d⟩
theorem rest_97 (d : D) (n : Nat) (h : n < 13) : ∃ S', (mSeq m39s1 (mSeq m39s2 (mSeq m39s3 (mSeq m39s4 (mSeq m39s5 (mSeq m39s6 tailA)))))).run (S6 d 97 n .dead .dead .dead) = .rt (.bl true) S' := by
  obtain ⟨a, b, c, e⟩ := all_97 d n h
  obtain ⟨S', e2⟩ := tailA_run d 97 n a b c
  refine ⟨S', ?_⟩
  have e3 : (mSeq m39s1 (mSeq m39s2 (mSeq m39s3 (mSeq m39s4 (mSeq m39s5 (mSeq m39s6 tailA)))))).run (S6 d 97 n .dead .dead .dead) = (mSeq (mSeq m39s1 (mSeq m39s2 (mSeq m39s3 (mSeq m39s4 m39s5)))) (mSeq m39s6 tailA)).run (S6 d 97 n .dead .dead .dead) := by
    rw [seq_assoc]
    refine seq_congr (fun S => ?_) _
    rw [seq_assoc]
    refine seq_congr (fun S => ?_) _
    rw [seq_assoc]
    refine seq_congr (fun S => ?_) _
    rw [seq_assoc]
  rw [e3, run_seq, e, sR_nx, run_seq, s6_97, sR_nx, e2]
theorem s6_126 (d : D) (n : Int) (a b c : Sl) : m39s6.run (S6 d 126 n a b c) = .nx (S6 d 126 n a b c) := by kernel_rfl
theorem p_126_0 (d : D) : (mSeq m39s1 (mSeq m39s2 (mSeq m39s3 (mSeq m39s4 m39s5)))).run (S6 d 126 0 .dead .dead .dead) = .nx (S6 d 126 0 (.own (.tup [.tup [.str [126]]])) (.own (.int 1)) .dead) := by kernel_rfl
theorem p_126_1 (d : D) : (mSeq m39s1 (mSeq m39s2 (mSeq m39s3 (mSeq m39s4 m39s5)))).run (S6 d 126 1 .dead .dead .dead) = .nx (S6 d 126 1 (.own (.tup [.tup [.str [126]], .tup [.int 0, .int 0]])) (.own (.int 2)) (.own (.int 0))) := by kernel_rfl
theorem p_126_2 (d : D) : (mSeq m39s1 (mSeq m39s2 (mSeq m39s3 (mSeq m39s4 m39s5)))).run (S6 d 126 2 .dead .dead .dead) = .nx (S6 d 126 2 (.own (.tup [.tup [.str [126]], .tup [.int 0, .int 0], .tup [.int 1, .int 1]])) (.own (.int 4)) (.own (.int 1))) := by kernel_rfl
theorem p_126_3 (d : D) : (mSeq m39s1 (mSeq m39s2 (mSeq m39s3 (mSeq m39s4 m39s5)))).run (S6 d 126 3 .dead .dead .dead) = .nx (S6 d 126 3 (.own (.tup [.tup [.str [126]], .tup [.int 0, .int 0], .tup [.int 1, .int 1], .tup [.int 2, .int 2]])) (.own (.int 8)) (.own (.int 2))) := by kernel_rfl
theorem p_126_4 (d : D) : (mSeq m39s1 (mSeq m39s2 (mSeq m39s3 (mSeq m39s4 m39s5)))).run (S6 d 126 4 .dead .dead .dead) = .nx (S6 d 126 4 (.own (.tup [.tup [.str [126]], .tup [.int 0, .int 0], .tup [.int 1, .int 1], .tup [.int 2, .int 2], .tup [.int 3, .int 3]])) (.own (.int 16)) (.own (.int 3))) := by kernel_rfl
theorem p_126_5 (d : D) : (mSeq m39s1 (mSeq m39s2 (mSeq m39s3 (mSeq m39s4 m39s5)))).run (S6 d 126 5 .dead .dead .dead) = .nx (S6 d 126 5 (.own (.tup [.tup [.str [126]], .tup [.int 0, .int 0], .tup [.int 1, .int 1], .tup [.int 2, .int 2], .tup [.int 3, .int 3], .tup [.int 4, .int 4]])) (.own (.int 32)) (.own (.int 4))) := by kernel_rfl
theorem p_126_6 (d : D) : (mSeq m39s1 (mSeq m39s2 (mSeq m39s3 (mSeq m39s4 m39s5)))).run (S6 d 126 6 .dead .dead .dead) = .nx (S6 d 126 6 (.own (.tup [.tup [.str [126]], .tup [.int 0, .int 0], .tup [.int 1, .int 1], .tup [.int 2, .int 2], .tup [.int 3, .int 3], .tup [.int 4, .int 4], .tup [.int 5, .int 5]])) (.own (.int 64)) (.own (.int 5))) := by kernel_rfl
theorem p_126_7 (d : D) : (mSeq m39s1 (mSeq m39s2 (mSeq m39s3 (mSeq m39s4 m39s5)))).run (S6 d 126 7 .dead .dead .dead) = .nx (S6 d 126 7 (.own (.tup [.tup [.str [126]], .tup [.int 0, .int 0], .tup [.int 1, .int 1], .tup [.int 2, .int 2], .tup [.int 3, .int 3], .tup [.int 4, .int 4], .tup [.int 5, .int 5], .tup [.int 6, .int 6]])) (.own (.int 128)) (.own (.int 6))) := by kernel_rfl
theorem p_126_8 (d : D) : (mSeq m39s1 (mSeq m39s2 (mSeq m39s3 (mSeq m39s4 m39s5)))).run (S6 d 126 8 .dead .dead .dead) = .nx (S6 d 126 8 (.own (.tup [.tup [.str [126]], .tup [.int 0, .int 0], .tup [.int 1, .int 1], .tup [.int 2, .int 2], .tup [.int 3, .int 3], .tup [.int 4, .int 4], .tup [.int 5, .int 5], .tup [.int 6, .int 6], .tup [.int 7, .int 7]])) (.own (.int 256)) (.own (.int 7))) := by kernel_rfl
theorem p_126_9 (d : D) : (mSeq m39s1 (mSeq m39s2 (mSeq m39s3 (mSeq m39s4 m39s5)))).run (S6 d 126 9 .dead .dead .dead) = .nx (S6 d 126 9 (.own (.tup [.tup [.str [126]], .tup [.int 0, .int 0], .tup [.int 1, .int 1], .tup [.int 2, .int 2], .tup [.int 3, .int 3], .tup [.int 4, .int 4], .tup [.int 5, .int 5], .tup [.int 6, .int 6], .tup [.int 7, .int 7], .tup [.int 8, .int 8]])) (.own (.int 512)) (.own (.int 8))) := by kernel_rfl
theorem p_126_10 (d : D) : (mSeq m39s1 (mSeq m39s2 (mSeq m39s3 (mSeq m39s4 m39s5)))).run (S6 d 126 10 .dead .dead .dead) = .nx (S6 d 126 10 (.own (.tup [.tup [.str [126]], .tup [.int 0, .int 0], .tup [.int 1, .int 1], .tup [.int 2, .int 2], .tup [.int 3, .int 3], .tup [.int 4, .int 4], .tup [.int 5, .int 5], .tup [.int 6, .int 6], .tup [.int 7, .int 7], .tup [.int 8, .int 8], .tup [.int 9, .int 9]])) (.own (.int 1024)) (.own (.int 9))) := by kernel_rfl
theorem p_126_11 (d : D) : (mSeq m39s1 (mSeq m39s2 (mSeq m39s3 (mSeq m39s4 m39s5)))).run (S6 d 126 11 .dead .dead .dead) = .nx (S6 d 126 11 (.own (.tup [.tup [.str [126]], .tup [.int 0, .int 0], .tup [.int 1, .int 1], .tup [.int 2, .int 2], .tup [.int 3, .int 3], .tup [.int 4, .int 4], .tup [.int 5, .int 5], .tup [.int 6, .int 6], .tup [.int 7, .int 7], .tup [.int 8, .int 8], .tup [.int 9, .int 9], .tup [.int 10, .int 10]])) (.own (.int 2048)) (.own (.int 10))) := by kernel_rfl
theorem p_126_12 (d : D) : (mSeq m39s1 (mSeq m39s2 (mSeq m39s3 (mSeq m39s4 m39s5)))).run (S6 d 126 12 .dead .dead .dead) = .nx (S6 d 126 12 (.own (.tup [.tup [.str [126]], .tup [.int 0, .int 0], .tup [.int 1, .int 1], .tup [.int 2, .int 2], .tup [.int 3, .int 3], .tup [.int 4, .int 4], .tup [.int 5, .int 5], .tup [.int 6, .int 6], .tup [.int 7, .int 7], .tup [.int 8, .int 8], .tup [.int 9, .int 9], .tup [.int 10, .int 10], .tup [.int 11, .int 11]])) (.own (.int 4096)) (.own (.int 11))) := by kernel_rfl
theorem all_126 (d : D) (n : Nat) (h : n < 13) : ∃ a b c, (mSeq m39s1 (mSeq m39s2 (mSeq m39s3 (mSeq m39s4 m39s5)))).run (S6 d 126 n .dead .dead .dead) = .nx (S6 d 126 n a b c) :=
  match n, h with
  | 0, _ => ⟨_, _, _, p_126_0 d⟩
  | 1, _ => ⟨_, _, _, p_126_1 d⟩
  | 2, _ => ⟨_, _, _, p_126_2 d⟩
  | 3, _ => ⟨_, _, _, p_126_3 d⟩
  | 4, _ => ⟨_, _, _, p_126_4 d⟩
  | 5, _ => ⟨_, _, _, p_126_5 d⟩
  | 6, _ => ⟨_, _, _, p_126_6 d⟩
  | 7, _ => ⟨_, _, _, p_126_7 d⟩
  | 8, _ => ⟨_, _, _, p_126_8 d⟩
  | 9, _ => ⟨_, _, _, p_126_9 d⟩
  | 10, _ => ⟨_, _, _, p_126_10 d⟩
  | 11, _ => ⟨_, _, _, p_126_11 d⟩
  | 12, _ => ⟨_, _, _, p_126_12 d⟩
theorem rest_126 (d : D) (n : Nat) (h : n < 13) : ∃ S', (mSeq m39s1 (mSeq m39s2 (mSeq m39s3 (mSeq m39s4 (mSeq m39s5 (mSeq m39s6 tailA)))))).run (S6 d 126 n .dead .dead .dead) = .rt (.bl true) S' := by
  obtain ⟨a, b, c, e⟩ := all_126 d n h
  obtain ⟨S', e2⟩ := tailA_run d 126 n a b c
  refine ⟨S', ?_⟩
  have e3 : (mSeq m39s1 (mSeq m39s2 (mSeq m39s3 (mSeq m39s4 (mSeq m39s5 (mSeq m39s6 tailA)))))).run (S6 d 126 n .dead .dead .dead) = (mSeq (mSeq m39s1 (mSeq m39s2 (mSeq m39s3 (mSeq m39s4 m39s5)))) (mSeq m39s6 tailA)).run (S6 d 126 n .dead .dead .dead) := by
    rw [seq_assoc]
    refine seq_congr (fun S => ?_) _
    rw [seq_assoc]
    refine seq_congr (fun S => ?_) _
    rw [seq_assoc]
    refine seq_congr (fun S => ?_) _
    rw [seq_assoc]
  rw [e3, run_seq, e, sR_nx, run_seq, s6_126, sR_nx, e2]
theorem s6_32 (d : D) (n : Int) (a b c : Sl) : m39s6.run (S6 d 32 n a b c) = .nx (S6 d 32 n a b c) := by kernel_rfl
theorem p_32_0 (d : D) : (mSeq m39s1 (mSeq m39s2 (mSeq m39s3 (mSeq m39s4 m39s5)))).run (S6 d 32 0 .dead .dead .dead) = .nx (S6 d 32 0 (.own (.tup [.tup [.str [32]]])) (.own (.int 1)) .dead) := by kernel_rfl
theorem p_32_1 (d : D) : (mSeq m39s1 (mSeq m39s2 (mSeq m39s3 (mSeq m39s4 m39s5)))).run (S6 d 32 1 .dead .dead .dead) = .nx (S6 d 32 1 (.own (.tup [.tup [.str [32]], .tup [.int 0, .int 0]])) (.own (.int 2)) (.own (.int 0))) := by kernel_rfl
theorem p_32_2 (d : D) : (mSeq m39s1 (mSeq m39s2 (mSeq m39s3 (mSeq m39s4 m39s5)))).run (S6 d 32 2 .dead .dead .dead) = .nx (S6 d 32 2 (.own (.tup [.tup [.str [32]], .tup [.int 0, .int 0], .tup [.int 1, .int 1]])) (.own (.int 4)) (.own (.int 1))) := by kernel_rfl
theorem p_32_3 (d : D) : (mSeq m39s1 (mSeq m39s2 (mSeq m39s3 (mSeq m39s4 m39s5)))).run (S6 d 32 3 .dead .dead .dead) = .nx (S6 d 32 3 (.own (.tup [.tup [.str [32]], .tup [.int 0, .int 0], .tup [.int 1, .int 1], .tup [.int 2, .int 2]])) (.own (.int 8)) (.own (.int 2))) := by kernel_rfl
theorem p_32_4 (d : D) : (mSeq m39s1 (mSeq m39s2 (mSeq m39s3 (mSeq m39s4 m39s5)))).run (S6 d 32 4 .dead .dead .dead) = .nx (S6 d 32 4 (.own (.tup [.tup [.str [32]], .tup [.int 0, .int 0], .tup [.int 1, .int 1], .tup [.int 2, .int 2], .tup [.int 3, .int 3]])) (.own (.int 16)) (.own (.int 3))) := by kernel_rfl
theorem p_32_5 (d : D) : (mSeq m39s1 (mSeq m39s2 (mSeq m39s3 (mSeq m39s4 m39s5)))).run (S6 d 32 5 .dead .dead .dead) = .nx (S6 d 32 5 (.own (.tup [.tup [.str [32]], .tup [.int 0, .int 0], .tup [.int 1, .int 1], .tup [.int 2, .int 2], .tup [.int 3, .int 3], .tup [.int 4, .int 4]])) (.own (.int 32)) (.own (.int 4))) := by kernel_rfl
theorem p_32_6 (d : D) : (mSeq m39s1 (mSeq m39s2 (mSeq m39s3 (mSeq m39s4 m39s5)))).run (S6 d 32 6 .dead .dead .dead) = .nx (S6 d 32 6 (.own (.tup [.tup [.str [32]], .tup [.int 0, .int 0], .tup [.int 1, .int 1], .tup [.int 2, .int 2], .tup [.int 3, .int 3], .tup [.int 4, .int 4], .tup [.int 5, .int 5]])) (.own (.int 64)) (.own (.int 5))) := by kernel_rfl
theorem p_32_7 (d : D) : (mSeq m39s1 (mSeq m39s2 (mSeq m39s3 (mSeq m39s4 m39s5)))).run (S6 d 32 7 .dead .dead .dead) = .nx (S6 d 32 7 (.own (.tup [.tup [.str [32]], .tup [.int 0, .int 0], .tup [.int 1, .int 1], .tup [.int 2, .int 2], .tup [.int 3, .int 3], .tup [.int 4, .int 4], .tup [.int 5, .int 5], .tup [.int 6, .int 6]])) (.own (.int 128)) (.own (.int 6))) := by kernel_rfl
theorem p_32_8 (d : D) : (mSeq m39s1 (mSeq m39s2 (mSeq m39s3 (mSeq m39s4 m39s5)))).run (S6 d 32 8 .dead .dead .dead) = .nx (S6 d 32 8 (.own (.tup [.tup [.str [32]], .tup [.int 0, .int 0], .tup [.int 1, .int 1], .tup [.int 2, .int 2], .tup [.int 3, .int 3], .tup [.int 4, .int 4], .tup [.int 5, .int 5], .tup [.int 6, .int 6], .tup [.int 7, .int 7]])) (.own (.int 256)) (.own (.int 7))) := by kernel_rfl
theorem p_32_9 (d : D) : (mSeq m39s1 (mSeq m39s2 (mSeq m39s3 (mSeq m39s4 m39s5)))).run (S6 d 32 9 .dead .dead .dead) = .nx (S6 d 32 9 (.own (.tup [.tup [.str [32]], .tup [.int 0, .int 0], .tup [.int 1, .int 1], .tup [.int 2, .int 2], .tup [.int 3, .int 3], .tup [.int 4, .int 4], .tup [.int 5, .int 5], .tup [.int 6, .int 6], .tup [.int 7, .int 7], .tup [.int 8, .int 8]])) (.own (.int 512)) (.own (.int 8))) := by kernel_rfl
theorem p_32_10 (d : D) : (mSeq m39s1 (mSeq m39s2 (mSeq m39s3 (mSeq m39s4 m39s5)))).run (S6 d 32 10 .dead .dead .dead) = .nx (S6 d 32 10 (.own (.tup [.tup [.str [32]], .tup [.int 0, .int 0], .tup [.int 1, .int 1], .tup [.int 2, .int 2], .tup [.int 3, .int 3], .tup [.int 4, .int 4], .tup [.int 5, .int 5], .tup [.int 6, .int 6], .tup [.int 7, .int 7], .tup [.int 8, .int 8], .tup [.int 9, .int 9]])) (.own (.int 1024)) (.own (.int 9))) := by kernel_rfl
theorem p_32_11 (d : D) : (mSeq m39s1 (mSeq m39s2 (mSeq m39s3 (mSeq m39s4 m39s5)))).run (S6 d 32 11 .dead .dead .dead) = .nx (S6 d 32 11 (.own (.tup [.tup [.str [32]], .tup [.int 0, .int 0], .tup [.int 1, .int 1], .tup [.int 2, .int 2], .tup [.int 3, .int 3], .tup [.int 4, .int 4], .tup [.int 5, .int 5], .tup [.int 6, .int 6], .tup [.int 7, .int 7], .tup [.int 8, .int 8], .tup [.int 9, .int 9], .tup [.int 10, .int 10]])) (.own (.int 2048)) (.own (.int 10))) := by kernel_rfl
theorem p_32_12 (d : D) : (mSeq m39s1 (mSeq m39s2 (mSeq m39s3 (mSeq m39s4 m39s5)))).run (S6 d 32 12 .dead .dead .dead) = .nx (S6 d 32 12 (.own (.tup [.tup [.str [32]], .tup [.int 0, .int 0], .tup [.int 1, .int 1], .tup [.int 2, .int 2], .tup [.int 3, .int 3], .tup [.int 4, .int 4], .tup [.int 5, .int 5], .tup [.int 6, .int 6], .tup [.int 7, .int 7], .tup [.int 8, .int 8], .tup [.int 9, .int 9], .tup [.int 10, .int 10], .tup [.int 11, .int 11]])) (.own (.int 4096)) (.own (.int 11))) := by kernel_rfl
theorem all_32 (d : D) (n : Nat) (h : n < 13) : ∃ a b c, (mSeq m39s1 (mSeq m39s2 (mSeq m39s3 (mSeq m39s4 m39s5)))).run (S6 d 32 n .dead .dead .dead) = .nx (S6 d 32 n a b c) :=
  match n, h with
  | 0, _ => ⟨_, _, _, p_32_0 d⟩
  | 1, _ => ⟨_, _, _, p_32_1 d⟩
  | 2, _ => ⟨_, _, _, p_32_2 d⟩
  | 3, _ => ⟨_, _, _, p_32_3 d⟩
  | 4, _ => ⟨_, _, _, p_32_4 d⟩
  | 5, _ => ⟨_, _, _, p_32_5 d⟩
  | 6, _ => ⟨_, _, _, p_32_6 d⟩
  | 7, _ => ⟨_, _, _, p_32_7 d⟩
  | 8, _ => ⟨_, _, _, p_32_8 d⟩
  | 9, _ => ⟨_, _, _, p_32_9 d⟩
  | 10, _ => ⟨_, _, _, p_32_10 d⟩
  | 11, _ => ⟨_, _, _, p_32_11 d⟩
  | 12, _ => ⟨_, _, _, p_32_12 d⟩
theorem rest_32 (d : D) (n : Nat) (h : n < 13) : ∃ S', (mSeq m39s1 (mSeq m39s2 (mSeq m39s3 (mSeq m39s4 (mSeq m39s5 (mSeq m39s6 tailA)))))).run (S6 d 32 n .dead .dead .dead) = .rt (.bl true) S' := by
  obtain ⟨a, b, c, e⟩ := all_32 d n h
  obtain ⟨S', e2⟩ := tailA_run d 32 n a b c
  refine ⟨S', ?_⟩
  have e3 : (mSeq m39s1 (mSeq m39s2 (mSeq m39s3 (mSeq m39s4 (mSeq m39s5 (mSeq m39s6 tailA)))))).run (S6 d 32 n .dead .dead .dead) = (mSeq (mSeq m39s1 (mSeq m39s2 (mSeq m39s3 (mSeq m39s4 m39s5)))) (mSeq m39s6 tailA)).run (S6 d 32 n .dead .dead .dead) := by
    rw [seq_assoc]
    refine seq_congr (fun S => ?_) _
    rw [seq_assoc]
    refine seq_congr (fun S => ?_) _
    rw [seq_assoc]
    refine seq_congr (fun S => ?_) _
    rw [seq_assoc]
  rw [e3, run_seq, e, sR_nx, run_seq, s6_32, sR_nx, e2]
theorem s6_10 (d : D) (n : Int) (a b c : Sl) : m39s6.run (S6 d 10 n a b c) = .nx (S6 d 10 n a b c) := by kernel_rfl
theorem p_10_0 (d : D) : (mSeq m39s1 (mSeq m39s2 (mSeq m39s3 (mSeq m39s4 m39s5)))).run (S6 d 10 0 .dead .dead .dead) = .nx (S6 d 10 0 (.own (.tup [.tup [.str [10]]])) (.own (.int 1)) .dead) := by kernel_rfl
theorem p_10_1 (d : D) : (mSeq m39s1 (mSeq m39s2 (mSeq m39s3 (mSeq m39s4 m39s5)))).run (S6 d 10 1 .dead .dead .dead) = .nx (S6 d 10 1 (.own (.tup [.tup [.str [10]], .tup [.int 0, .int 0]])) (.own (.int 2)) (.own (.int 0))) := by kernel_rfl
theorem p_10_2 (d : D) : (mSeq m39s1 (mSeq m39s2 (mSeq m39s3 (mSeq m39s4 m39s5)))).run (S6 d 10 2 .dead .dead .dead) = .nx (S6 d 10 2 (.own (.tup [.tup [.str [10]], .tup [.int 0, .int 0], .tup [.int 1, .int 1]])) (.own (.int 4)) (.own (.int 1))) := by kernel_rfl
theorem p_10_3 (d : D) : (mSeq m39s1 (mSeq m39s2 (mSeq m39s3 (mSeq m39s4 m39s5)))).run (S6 d 10 3 .dead .dead .dead) = .nx (S6 d 10 3 (.own (.tup [.tup [.str [10]], .tup [.int 0, .int 0], .tup [.int 1, .int 1], .tup [.int 2, .int 2]])) (.own (.int 8)) (.own (.int 2))) := by kernel_rfl
theorem p_10_4 (d : D) : (mSeq m39s1 (mSeq m39s2 (mSeq m39s3 (mSeq m39s4 m39s5)))).run (S6 d 10 4 .dead .dead .dead) = .nx (S6 d 10 4 (.own (.tup [.tup [.str [10]], .tup [.int 0, .int 0], .tup [.int 1, .int 1], .tup [.int 2, .int 2], .tup [.int 3, .int 3]])) (.own (.int 16)) (.own (.int 3))) := by kernel_rfl
theorem p_10_5 (d : D) : (mSeq m39s1 (mSeq m39s2 (mSeq m39s3 (mSeq m39s4 m39s5)))).run (S6 d 10 5 .dead .dead .dead) = .nx (S6 d 10 5 (.own (.tup [.tup [.str [10]], .tup [.int 0, .int 0], .tup [.int 1, .int 1], .tup [.int 2, .int 2], .tup [.int 3, .int 3], .tup [.int 4, .int 4]])) (.own (.int 32)) (.own (.int 4))) := by kernel_rfl
theorem p_10_6 (d : D) : (mSeq m39s1 (mSeq m39s2 (mSeq m39s3 (mSeq m39s4 m39s5)))).run (S6 d 10 6 .dead .dead .dead) = .nx (S6 d 10 6 (.own (.tup [.tup [.str [10]], .tup [.int 0, .int 0], .tup [.int 1, .int 1], .tup [.int 2, .int 2], .tup [.int 3, .int 3], .tup [.int 4, .int 4], .tup [.int 5, .int 5]])) (.own (.int 64)) (.own (.int 5))) := by kernel_rfl
theorem p_10_7 (d : D) : (mSeq m39s1 (mSeq m39s2 (mSeq m39s3 (mSeq m39s4 m39s5)))).run (S6 d 10 7 .dead .dead .dead) = .nx (S6 d 10 7 (.own (.tup [.tup [.str [10]], .tup [.int 0, .int 0], .tup [.int 1, .int 1], .tup [.int 2, .int 2], .tup [.int 3, .int 3], .tup [.int 4, .int 4], .tup [.int 5, .int 5], .tup [.int 6, .int 6]])) (.own (.int 128)) (.own (.int 6))) := by kernel_rfl
theorem p_10_8 (d : D) : (mSeq m39s1 (mSeq m39s2 (mSeq m39s3 (mSeq m39s4 m39s5)))).run (S6 d 10 8 .dead .dead .dead) = .nx (S6 d 10 8 (.own (.tup [.tup [.str [10]], .tup [.int 0, .int 0], .tup [.int 1, .int 1], .tup [.int 2, .int 2], .tup [.int 3, .int 3], .tup [.int 4, .int 4], .tup [.int 5, .int 5], .tup [.int 6, .int 6], .tup [.int 7, .int 7]])) (.own (.int 256)) (.own (.int 7))) := by kernel_rfl
theorem p_10_9 (d : D) : (mSeq m39s1 (mSeq m39s2 (mSeq m39s3 (mSeq m39s4 m39s5)))).run (S6 d 10 9 .dead .dead .dead) = .nx (S6 d 10 9 (.own (.tup [.tup [.str [10]], .tup [.int 0, .int 0], .tup [.int 1, .int 1], .tup [.int 2, .int 2], .tup [.int 3, .int 3], .tup [.int 4, .int 4], .tup [.int 5, .int 5], .tup [.int 6, .int 6], .tup [.int 7, .int 7], .tup [.int 8, .int 8]])) (.own (.int 512)) (.own (.int 8))) := by kernel_rfl
theorem p_10_10 (d : D) : (mSeq m39s1 (mSeq m39s2 (mSeq m39s3 (mSeq m39s4 m39s5)))).run (S6 d 10 10 .dead .dead .dead) = .nx (S6 d 10 10 (.own (.tup [.tup [.str [10]], .tup [.int 0, .int 0], .tup [.int 1, .int 1], .tup [.int 2, .int 2], .tup [.int 3, .int 3], .tup [.int 4, .int 4], .tup [.int 5, .int 5], .tup [.int 6, .int 6], .tup [.int 7, .int 7], .tup [.int 8, .int 8], .tup [.int 9, .int 9]])) (.own (.int 1024)) (.own (.int 9))) := by kernel_rfl
theorem p_10_11 (d : D) : (mSeq m39s1 (mSeq m39s2 (mSeq m39s3 (mSeq m39s4 m39s5)))).run (S6 d 10 11 .dead .dead .dead) = .nx (S6 d 10 11 (.own (.tup [.tup [.str [10]], .tup [.int 0, .int 0], .tup [.int 1, .int 1], .tup [.int 2, .int 2], .tup [.int 3, .int 3], .tup [.int 4, .int 4], .tup [.int 5, .int 5], .tup [.int 6, .int 6], .tup [.int 7, .int 7], .tup [.int 8, .int 8], .tup [.int 9, .int 9], .tup [.int 10, .int 10]])) (.own (.int 2048)) (.own (.int 10))) := by kernel_rfl
theorem p_10_12 (d : D) : (mSeq m39s1 (mSeq m39s2 (mSeq m39s3 (mSeq m39s4 m39s5)))).run (S6 d 10 12 .dead .dead .dead) = .nx (S6 d 10 12 (.own (.tup [.tup [.str [10]], .tup [.int 0, .int 0], .tup [.int 1, .int 1], .tup [.int 2, .int 2], .tup [.int 3, .int 3], .tup [.int 4, .int 4], .tup [.int 5, .int 5], .tup [.int 6, .int 6], .tup [.int 7, .int 7], .tup [.int 8, .int 8], .tup [.int 9, .int 9], .tup [.int 10, .int 10], .tup [.int 11, .int 11]])) (.own (.int 4096)) (.own (.int 11))) := by kernel_rfl
theorem all_10 (d : D) (n : Nat) (h : n < 13) : ∃ a b c, (mSeq m39s1 (mSeq m39s2 (mSeq m39s3 (mSeq m39s4 m39s5)))).run (S6 d 10 n .dead .dead .dead) = .nx (S6 d 10 n a b c) :=
  match n, h with
  | 0, _ => ⟨_, _, _, p_10_0 d⟩
  | 1, _ => ⟨_, _, _, p_10_1 d⟩
  | 2, _ => ⟨_, _, _, p_10_2 d⟩
  | 3, _ => ⟨_, _, _, p_10_3 d⟩
  | 4, _ => ⟨_, _, _, p_10_4 d⟩
  | 5, _ => ⟨_, _, _, p_10_5 d⟩
  | 6, _ => ⟨_, _, _, p_10_6 d⟩
  | 7, _ => ⟨_, _, _, p_10_7 d⟩
  | 8, _ => ⟨_, _, _, p_10_8 d⟩
  | 9, _ => ⟨_, _, _, p_10_9 d⟩
  | 10, _ => ⟨_, _, _, p_10_10 d⟩
  | 11, _ => ⟨_, _, _, p_10_11 d⟩
  | 12, _ => ⟨_, _, _, p_10_12 d⟩
theorem rest_10 (d : D) (n : Nat) (h : n < 13) : ∃ S', (mSeq m39s1 (mSeq m39s2 (mSeq m39s3 (mSeq m39s4 (mSeq m39s5 (mSeq m39s6 tailA)))))).run (S6 d 10 n .dead .dead .dead) = .rt (.bl true) S' := by
  obtain ⟨a, b, c, e⟩ := all_10 d n h
  obtain ⟨S', e2⟩ := tailA_run d 10 n a b c
  refine ⟨S', ?_⟩
  have e3 : (mSeq m39s1 (mSeq m39s2 (mSeq m39s3 (mSeq m39s4 (mSeq m39s5 (mSeq m39s6 tailA)))))).run (S6 d 10 n .dead .dead .dead) = (mSeq (mSeq m39s1 (mSeq m39s2 (mSeq m39s3 (mSeq m39s4 m39s5)))) (mSeq m39s6 tailA)).run (S6 d 10 n .dead .dead .dead) := by
    rw [seq_assoc]
    refine seq_congr (fun S => ?_) _
    rw [seq_assoc]
    refine seq_congr (fun S => ?_) _
    rw [seq_assoc]
    refine seq_congr (fun S => ?_) _
    rw [seq_assoc]
  rw [e3, run_seq, e, sR_nx, run_seq, s6_10, sR_nx, e2]
end G64
end

section
set_option maxHeartbeats 0
namespace G64
open PySem PySem.Spec PyProof.Rows L2 Bv
theorem int13 {r : Int} (h0 : 0 ≤ r) (h1 : r < 13) : ∃ n : Nat, r = (n : Int) ∧ n < 13 := ⟨r.toNat, by omega, by omega⟩
def stA (d : D) : List Sl := [.dead, .own d, .dead, .dead, .dead, .dead, .dead, .dead, .dead, .dead, .dead]
def things : D := .lst [.str [97], .str [126], .str [32], .str [10]]
theorem pick_run (ns : List Int) (r : Int) (p : D) (e : rsM (m36.run (entM 4 (drawC ns 0) [.int 4])) = some (.int r, drawC ns 1)) (h : dIdx things (.int r) = some p) (hp : im p = true) : rsM (m37.run (entM 2 (drawC ns 0) [things])) = some (p, drawC ns 1) := by
  unfold things at h ⊢
  have e0 : entM 2 (drawC ns 0) [.lst [.str [97], .str [126], .str [32], .str [10]]] = [.own (drawC ns 0), .ro (.lst [.str [97], .str [126], .str [32], .str [10]])] := rfl
  rw [e0]
  simp [m37, run_callM, run_var, e, dLen, h, hp]
theorem s0_run (ns : List Int) (n : Int) (c : Nat) (e : rsM (m37.run (entM 2 (drawC ns 0) [things])) = some (.str [c], drawC ns 1)) (e2 : rsM (m36.run (entM 4 (drawC ns 1) [.int 13])) = some (.int n, drawC ns 2)) : m39s0.run (stA (drawC ns 0)) = .nx (S6 (drawC ns 2) c n .dead .dead .dead) := by
  unfold things at e
  simp [m39s0, run_par, run_callM, stA, S6, e, e2, lineN_val, inS, setAllS]
theorem m39_eq : m39 = mSeq m39s0 (mSeq m39s1 (mSeq m39s2 (mSeq m39s3 (mSeq m39s4 (mSeq m39s5 (mSeq m39s6 tailA)))))) := rfl
theorem pure_law : ∀ ns : List Int, ns.length ≤ 63 → ∃ S', m39.run (lawS 9 ns) = .rt (.bl true) S' := by
  intro ns _
  obtain ⟨q, e0, q0, q1⟩ := next_0 ns 4 (by decide)
  obtain ⟨r, e1, r0, r1⟩ := next_1 ns 13 (by decide)
  obtain ⟨n, rfl, hn⟩ := int13 r0 r1
  have es : lawS 9 ns = stA (drawC ns 0) := rfl
  rw [m39_eq, es, run_seq]
  have hq : q = 0 ∨ q = 1 ∨ q = 2 ∨ q = 3 := by omega
  rcases hq with rfl | rfl | rfl | rfl
  · rw [s0_run ns n 97 (pick_run ns 0 (.str [97]) e0 rfl rfl) e1, sR_nx]
    exact rest_97 _ n hn
  · rw [s0_run ns n 126 (pick_run ns 1 (.str [126]) e0 rfl rfl) e1, sR_nx]
    exact rest_126 _ n hn
  · rw [s0_run ns n 32 (pick_run ns 2 (.str [32]) e0 rfl rfl) e1, sR_nx]
    exact rest_32 _ n hn
  · rw [s0_run ns n 10 (pick_run ns 3 (.str [10]) e0 rfl rfl) e1, sR_nx]
    exact rest_10 _ n hn
end G64
end

section
set_option maxHeartbeats 0
open PySem PySem.W PySem.Calls PyProof.Rows
theorem PySem.Challenge.cw_longtexts_k64_known_grammars_holds : PySem.Challenge.rw_longtexts_k64_known_grammars.Holds := by
  w_on; o_law
  refine HandSHeadRun.head_any (r := OpenLaw.row PySem.Challenge.rw_longtexts_k64_known_grammars) (q := view (OpenLaw.row PySem.Challenge.rw_longtexts_k64_known_grammars).prog [39]) (H := G64.hk) (ob := G64.ob) (M := 2000) (loose := G64.loose) (d := HandSHeadRun.topDef (OpenLaw.row PySem.Challenge.rw_longtexts_k64_known_grammars).prog 39) (kwd := []) G64.ob_eq
    (by kernel_rfl) (fun s => by kernel_rfl) G64.run (by kernel_rfl) (by kernel_rfl) (by kernel_rfl) (by rfl) (by first | assumption | decide +kernel) (by decide +kernel) ⟨rfl, rfl, rfl, rfl, rfl, by decide +kernel⟩ ?hw ?hc
  case hw => w_witness2
  case hc =>
    refine L2.walk_ofE (l := PySem.Challenge.rw_longtexts_k64_known_grammars) (n := 63) (k := 8) (x := "script") (CX := L2.CX0) rfl (by decide) (by kernel_rfl) ⟨rfl, by decide, by decide⟩ ?F (fun _ _ _ _ z => z)
    intro w mg fa h Y G hmg0
    obtain ⟨K, KX, c⟩ := Y
    have hmg : mg ("law" : PySem.Str) = some (.ref fa) := by
      have e : (HandSHeadRun.topDef (OpenLaw.row PySem.Challenge.rw_longtexts_k64_known_grammars).prog 39).name = ("law" : PySem.Str) := by kernel_rfl
      rw [← e]
      exact hmg0
    obtain ⟨fd, hb, hF⟩ := G64.facts (P := (PySem.Challenge.rw_longtexts_k64_known_grammars).prog) (w := w) KX G hmg c G64.pure_law
    exact ⟨K, fd, Bv.spLaw K, KX, hb, fun H a ns hl _ hS => ⟨a, ns, rfl, hS, hl, fun _ => rfl⟩, hF⟩
end
