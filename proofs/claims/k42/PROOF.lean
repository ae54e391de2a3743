import PyProof.Rows.All
import HandS.ForMost
import HandS.ForExc
import HandS.Conv
import HandS.Wide
import HandS.DeepEq
import HandS.TupAny
import HandS.Style
import HandS.More
import PyProof.ListStr
import KE.DatumOrd
import HandS.Deep
import HandS.IsInst
import HandS.Replace
import HandS.Flow
import KE.GoesEnum
import HandS.Ends
import PySem.Challenge.RW_calmword_k42_sayings_written
set_option linter.all false
namespace Pm
open PySem L2

/-! ### data -/
inductive D where
  | non | bl (b : Bool) | int (i : Int) | str (s : List Nat)
  | tup (xs : List D) | lst (xs : List D)
  | dic (ks vs : List D) | set (xs : List D) | ins (c : Nat) (vs : List D) | fn (n : List Nat)

mutual
def D.dep : Nat → D → Bool
  | _, .non => true
  | _, .bl _ => true
  | _, .int _ => true
  | _, .str _ => true
  | _, .fn _ => true
  | k, .tup xs => D.deps k xs
  | 0, .lst _ => false
  | k + 1, .lst xs => D.deps k xs
  | 0, .dic _ _ => false
  | k + 1, .dic ks vs => D.deps 0 ks && D.deps k vs
  | 0, .set _ => false
  | _ + 1, .set xs => D.deps 0 xs
  | 0, .ins _ _ => false
  | k + 1, .ins _ vs => D.deps k vs
def D.deps : Nat → List D → Bool
  | _, [] => true
  | k, x :: xs => D.dep k x && D.deps k xs
end

theorem deps_iff {k : Nat} {xs : List D} : D.deps k xs = true ↔ ∀ x ∈ xs, D.dep k x = true := by
  induction xs with
  | nil => simp [D.deps]
  | cons x xs ih => simp [D.deps, ih]

mutual
theorem D.dep_mono {j k : Nat} (h : j ≤ k) : ∀ (d : D), d.dep j = true → d.dep k = true
  | .non, _ => by simp [D.dep]
  | .bl _, _ => by simp [D.dep]
  | .int _, _ => by simp [D.dep]
  | .str _, _ => by simp [D.dep]
  | .fn _, _ => by simp [D.dep]
  | .tup xs, e => by
    simp only [D.dep] at e ⊢
    exact D.deps_mono h xs e
  | .lst xs, e => by
    cases j with
    | zero => simp [D.dep] at e
    | succ j => cases k with
      | zero => omega
      | succ k => simp only [D.dep] at e ⊢; exact D.deps_mono (by omega) xs e
  | .dic ks vs, e => by
    cases j with
    | zero => simp [D.dep] at e
    | succ j => cases k with
      | zero => omega
      | succ k =>
        simp only [D.dep, Bool.and_eq_true] at e ⊢
        exact ⟨e.1, D.deps_mono (by omega) vs e.2⟩
  | .set xs, e => by
    cases j with
    | zero => simp [D.dep] at e
    | succ j => cases k with
      | zero => omega
      | succ k => simp only [D.dep] at e ⊢; exact e
  | .ins _ xs, e => by
    cases j with
    | zero => simp [D.dep] at e
    | succ j => cases k with
      | zero => omega
      | succ k => simp only [D.dep] at e ⊢; exact D.deps_mono (by omega) xs e
theorem D.deps_mono {j k : Nat} (h : j ≤ k) : ∀ (xs : List D), D.deps j xs = true → D.deps k xs = true
  | [], _ => by simp [D.deps]
  | x :: xs, e => by
    simp only [D.deps, Bool.and_eq_true] at e ⊢
    exact ⟨D.dep_mono h x e.1, D.deps_mono h xs e.2⟩
end

/-! ### a value in the heap is a datum; F: the tracked lists in it -/
abbrev Fp := List Addr
def toStr (l : List Nat) : Str := ⟨l.toArray⟩
mutual
inductive Rep (w : Bool) (K : PySem.W.Frag) (H : Hp) : D → V → Fp → Prop
  | non : Rep w K H .non .non []
  | bl (b : Bool) : Rep w K H (.bl b) (.bl b) []
  | int (i : Int) : Rep w K H (.int i) (.int i) []
  | str (s : List Nat) : (∀ c ∈ s, c < 0x110000) → Rep w K H (.str s) (.str (toStr s)) []
  | tup {a : Addr} {vs : List V} {ds : List D} {F : Fp} : SqT K H a vs → Reps w K H ds vs F → Rep w K H (.tup ds) (.ref a) F
  | lst {a : Addr} {vs : List V} {ds : List D} {F : Fp} : H a = some (.lst vs) → Reps w K H ds vs F → Rep w K H (.lst ds) (.ref a) (a :: F)
  | lstF {a : Addr} {o : Obj} {vs : List V} {ds : List D} {F : Fp} : w = false → H a = some (.frz o (.lst vs)) → Reps w K H ds vs F → Rep w K H (.lst ds) (.ref a) F
  | lstW {a : Addr} {vs : List V} {ds : List D} {F : Fp} : w = false → (∀ H, SqL K H a vs) → Reps w K H ds vs F → Rep w K H (.lst ds) (.ref a) F
inductive Reps (w : Bool) (K : PySem.W.Frag) (H : Hp) : List D → List V → Fp → Prop
  | nil : Reps w K H [] [] []
  | cons {d : D} {v : V} {ds : List D} {vs : List V} {F G : Fp} : Rep w K H d v F → Reps w K H ds vs G → Reps w K H (d :: ds) (v :: vs) (F ++ G)
end

/-- all but M stays as it was -/
structure Ext (M : Addr → Prop) (H H' : Hp) : Prop where
  keep : ∀ a, H a ≠ none → ¬ M a → H' a = H a
  there : ∀ a, H a ≠ none → H' a ≠ none
theorem Ext.refl {M : Addr → Prop} {H : Hp} : Ext M H H := ⟨fun _ _ _ => rfl, fun _ h => h⟩
theorem Ext.trans {M : Addr → Prop} {H H1 H2 : Hp} (a : Ext M H H1) (b : Ext M H1 H2) : Ext M H H2 :=
  ⟨fun x h m => (b.keep x (a.there x h) m).trans (a.keep x h m), fun x h => b.there x (a.there x h)⟩
theorem Ext.mono {M M' : Addr → Prop} {H H' : Hp} (a : Ext M H H') (h : ∀ x, M x → M' x) : Ext M' H H' :=
  ⟨fun x q m => a.keep x q fun z => m (h x z), a.there⟩
theorem Ext.upd {M : Addr → Prop} {H : Hp} {p : Addr} {o : HO} (h : H p = none ∨ M p) : Ext M H (upd H p o) := by
  refine ⟨fun a q m => ?_, fun a q => ?_⟩
  · have ne : a ≠ p := fun e => by
      subst e
      rcases h with h | h
      · exact q h
      · exact m h
    exact upd_ne ne
  · by_cases e : a = p
    · subst e; rw [upd_same]; simp
    · rw [upd_ne e]; exact q

theorem mut_ne {H : Hp} {a : Addr} (h : Mut (H a)) : H a ≠ none := fun e => by rw [e] at h; exact h
theorem sqT_nm {K : PySem.W.Frag} {H H' : Hp} {M : Addr → Prop} {a : Addr} {vs : List V} (h : SqT K H a vs) (x : Ext M H H') (hm : ∀ a, M a → Mut (H a)) : SqT K H' a vs := by
  rcases h with (h | ⟨o, h⟩) | h
  · refine .inl (.inl ?_)
    rw [x.keep a (by rw [h]; simp) fun z => by have := hm a z; rw [h] at this; exact this]; exact h
  · refine .inl (.inr ⟨o, ?_⟩)
    rw [x.keep a (by rw [h]; simp) fun z => by have := hm a z; rw [h] at this; exact this]; exact h
  · exact .inr h

mutual
theorem Rep.ext {w : Bool} {K : PySem.W.Frag} {H H' : Hp} {M : Addr → Prop} (x : Ext M H H') (hm : ∀ a, M a → Mut (H a)) :
    ∀ {d : D} {v : V} {F : Fp}, Rep w K H d v F → (∀ a ∈ F, ¬ M a) → Rep w K H' d v F
  | _, _, _, .non, _ => .non
  | _, _, _, .bl b, _ => .bl b
  | _, _, _, .int i, _ => .int i
  | _, _, _, .str s h, _ => .str s h
  | _, _, _, .tup h r, hf => .tup (sqT_nm h x hm) (Reps.ext x hm r hf)
  | _, _, _, .lst h r, hf => .lst (by rw [x.keep _ (by rw [h]; simp) (hf _ List.mem_cons_self)]; exact h) (Reps.ext x hm r fun a ha => hf a (List.mem_cons_of_mem _ ha))
  | _, _, _, .lstF hw h r, hf => .lstF hw (by rw [x.keep _ (by rw [h]; simp) fun z => by have := hm _ z; rw [h] at this; exact this]; exact h) (Reps.ext x hm r hf)
  | _, _, _, .lstW hw h r, hf => .lstW hw h (Reps.ext x hm r hf)
theorem Reps.ext {w : Bool} {K : PySem.W.Frag} {H H' : Hp} {M : Addr → Prop} (x : Ext M H H') (hm : ∀ a, M a → Mut (H a)) :
    ∀ {ds : List D} {vs : List V} {F : Fp}, Reps w K H ds vs F → (∀ a ∈ F, ¬ M a) → Reps w K H' ds vs F
  | _, _, _, .nil, _ => .nil
  | _, _, _, .cons h r, hf => .cons (Rep.ext x hm h fun a ha => hf a (List.mem_append_left _ ha)) (Reps.ext x hm r fun a ha => hf a (List.mem_append_right _ ha))
end
mutual
theorem Rep.mut {w : Bool} {K : PySem.W.Frag} {H : Hp} : ∀ {d : D} {v : V} {F : Fp}, Rep w K H d v F → ∀ a ∈ F, Mut (H a)
  | _, _, _, .non, _, h => by simp at h
  | _, _, _, .bl _, _, h => by simp at h
  | _, _, _, .int _, _, h => by simp at h
  | _, _, _, .str _ _, _, h => by simp at h
  | _, _, _, .tup _ r, a, h => Reps.mut r a h
  | _, _, _, .lst h r, a, hm => by
    rcases List.mem_cons.mp hm with rfl | hm
    · rw [h]; trivial
    · exact Reps.mut r a hm
  | _, _, _, .lstF _ _ r, a, h => Reps.mut r a h
  | _, _, _, .lstW _ _ r, a, h => Reps.mut r a h
theorem Reps.mut {w : Bool} {K : PySem.W.Frag} {H : Hp} : ∀ {ds : List D} {vs : List V} {F : Fp}, Reps w K H ds vs F → ∀ a ∈ F, Mut (H a)
  | _, _, _, .nil, _, h => by simp at h
  | _, _, _, .cons h r, a, hm => (List.mem_append.mp hm).elim (Rep.mut h a) (Reps.mut r a)
end
mutual
theorem Rep.weak {w : Bool} {K : PySem.W.Frag} {H : Hp} : ∀ {d : D} {v : V} {F : Fp}, Rep w K H d v F → Rep false K H d v F
  | _, _, _, .non => .non
  | _, _, _, .bl b => .bl b
  | _, _, _, .int i => .int i
  | _, _, _, .str s h => .str s h
  | _, _, _, .tup h r => .tup h (Reps.weak r)
  | _, _, _, .lst h r => .lst h (Reps.weak r)
  | _, _, _, .lstF _ h r => .lstF rfl h (Reps.weak r)
  | _, _, _, .lstW _ h r => .lstW rfl h (Reps.weak r)
theorem Reps.weak {w : Bool} {K : PySem.W.Frag} {H : Hp} : ∀ {ds : List D} {vs : List V} {F : Fp}, Reps w K H ds vs F → Reps false K H ds vs F
  | _, _, _, .nil => .nil
  | _, _, _, .cons h r => .cons (Rep.weak h) (Reps.weak r)
end
mutual
theorem Rep.imm {w : Bool} {K : PySem.W.Frag} {H : Hp} : ∀ {d : D} {v : V} {F : Fp}, Rep w K H d v F → d.dep 0 = true → F = [] ∧ Rep true K H d v []
  | _, _, _, .non, _ => ⟨rfl, .non⟩
  | _, _, _, .bl b, _ => ⟨rfl, .bl b⟩
  | _, _, _, .int i, _ => ⟨rfl, .int i⟩
  | _, _, _, .str s h, _ => ⟨rfl, .str s h⟩
  | _, _, _, .tup h r, e => by
    simp only [D.dep] at e
    obtain ⟨rfl, q⟩ := Reps.imm r e
    exact ⟨rfl, .tup h q⟩
  | _, _, _, .lst _ _, e => by simp [D.dep] at e
  | _, _, _, .lstF _ _ _, e => by simp [D.dep] at e
  | _, _, _, .lstW _ _ _, e => by simp [D.dep] at e
theorem Reps.imm {w : Bool} {K : PySem.W.Frag} {H : Hp} : ∀ {ds : List D} {vs : List V} {F : Fp}, Reps w K H ds vs F → D.deps 0 ds = true → F = [] ∧ Reps true K H ds vs []
  | _, _, _, .nil, _ => ⟨rfl, .nil⟩
  | _, _, _, .cons h r, e => by
    simp only [D.deps, Bool.and_eq_true] at e
    obtain ⟨rfl, q1⟩ := Rep.imm h e.1
    obtain ⟨rfl, q2⟩ := Reps.imm r e.2
    exact ⟨rfl, .cons (F := []) (G := []) q1 q2⟩
end
theorem Reps.len {w : Bool} {K : PySem.W.Frag} {H : Hp} : ∀ {ds : List D} {vs : List V} {F : Fp}, Reps w K H ds vs F → ds.length = vs.length
  | _, _, _, .nil => rfl
  | _, _, _, .cons _ r => by simp [Reps.len r]
theorem Reps.app {w : Bool} {K : PySem.W.Frag} {H : Hp} : ∀ {ds es : List D} {vs us : List V} {F G : Fp}, Reps w K H ds vs F → Reps w K H es us G → Reps w K H (ds ++ es) (vs ++ us) (F ++ G)
  | _, _, _, _, _, _, .nil, s => s
  | _, _, _, _, _, _, .cons h r, s => by
    have := Reps.app r s
    simp only [List.cons_append, List.append_assoc]
    exact .cons h this
theorem Reps.get {w : Bool} {K : PySem.W.Frag} {H : Hp} : ∀ {ds : List D} {vs : List V} {F : Fp} {i : Nat} {d : D}, Reps w K H ds vs F → ds[i]? = some d → ∃ v G, vs[i]? = some v ∧ Rep w K H d v G ∧ ∀ a ∈ G, a ∈ F
  | _, _, _, _, _, .nil, e => by simp at e
  | _, _, _, 0, _, .cons h _, e => by
    simp at e; subst e
    exact ⟨_, _, rfl, h, fun a ha => List.mem_append_left _ ha⟩
  | _, _, _, i + 1, d, .cons _ r, e => by
    obtain ⟨v, G, e1, h, m⟩ := Reps.get (i := i) (d := d) r (by simpa using e)
    exact ⟨v, G, by simpa using e1, h, fun a ha => List.mem_append_right _ (m a ha)⟩
end Pm

namespace Pm
open PySem PySem.Spec PyProof.Rows L2
variable {X : Cx}
def rLeS : R2 := fun x y H Q => ∃ i j, x = .str i ∧ y = .str j ∧ Q (.bl (!decide (j.cps.toList < i.cps.toList))) H
theorem op_le_str : OpR X (compareOp .LtE) rLeS := by
  intro pins s σ H x y v u Q I rx ry h
  obtain ⟨i, j, rfl, rfl, q⟩ := h
  obtain ⟨t, rfl⟩ := rx
  obtain ⟨t', rfl⟩ := ry
  exact P.le_str (fin_bl I q rfl)
def rMulS : R2 := fun x y H Q => ∃ i n, x = .str i ∧ y = .int n ∧ (2 ≤ n ∧ 1 ≤ i.length ∧ i.length * n.toNat ≤ 1000000) ∧ Q (.str ⟨(List.replicate n.toNat i.cps).foldl (· ++ ·) #[]⟩) H
theorem op_mul_str : OpR X (binaryOp .Mult) rMulS := by
  intro pins s σ H x y v u Q I rx ry h
  obtain ⟨i, n, rfl, rfl, ⟨h1, h2, h3⟩, q⟩ := h
  obtain ⟨t, rfl⟩ := rx
  obtain ⟨t', rfl⟩ := ry
  have hn : n.toNat ≤ 1000000 := Nat.le_trans (Nat.le_mul_of_pos_left _ h2) h3
  have hi : i.length ≤ 1000000 := Nat.le_trans (Nat.le_mul_of_pos_right _ (by omega)) h3
  have hc : (n == 1 || i.length == 0) = false := by
    have a : (n == 1) = false := by simp; omega
    have b : (i.length == 0) = false := by simp; omega
    rw [a, b]; rfl
  refine P.mul_str ?_ (fun _ _ => ?_) (fun _ _ => ?_) ?_
  · have a : decide (n < -(2 ^ 63 : Int)) = false := decide_eq_false (by omega)
    have b : decide (n ≥ 2 ^ 63) = false := decide_eq_false (by omega)
    rw [a, b]; rfl
  · have hm : (i.length : Int) * n ≤ 1000000 := by
      have e : n = (n.toNat : Int) := by omega
      rw [e, ← Int.natCast_mul]
      omega
    intro hgt
    have := Int.lt_mul_of_ediv_lt (a := 2 ^ 63 - 1) (c := n) (b := (i.length : Int)) (by omega) hgt
    have c := Int.mul_comm n (i.length : Int)
    omega
  · unfold Builtin.Str.tooLong
    simp
    have := sizeLine_eq
    omega
  · rw [if_neg (by omega), hc, if_neg Bool.false_ne_true]
    refine ⟨?_, .str _, H, I.tok _, ⟨_, rfl⟩, q⟩
    have gen : ∀ (m : Nat) (acc : Array Nat), ((List.replicate m i.cps).foldl (· ++ ·) acc).size = acc.size + m * i.cps.size := by
      intro m
      induction m with
      | zero => intro acc; simp
      | succ m ih => intro acc; rw [List.replicate_succ, List.foldl_cons, ih, Array.size_append, Nat.add_mul]; omega
    show ((List.replicate n.toNat i.cps).foldl (· ++ ·) #[]).size ≤ sizeLine
    rw [gen]
    have h3' : i.cps.size * n.toNat ≤ 1000000 := h3
    have := sizeLine_eq
    rw [Nat.mul_comm] at h3'
    simp
    omega
def listLtI (is js : List Int) : Bool := PySem.W.listLt is js
def rLtL (K : PySem.W.Frag) : R2 := fun x y H Q => ∃ p q, ∃ is js : List Int, x = .ref p ∧ y = .ref q ∧ SqL K H p (is.map .int) ∧ SqL K H q (js.map .int) ∧ Q (.bl (listLtI is js)) H
theorem hold_ints {h : Heap} : ∀ {is : List Int} {us : List Value}, Vals (is.map V.int) us → PySem.W.HoldAll h us is
  | [], _, .nil => PySem.W.HoldAll.nil
  | i :: is, _, .cons r rs => by
    obtain ⟨t, rfl⟩ := r
    exact PySem.W.HoldAll.cons ⟨_, .int _ _⟩ (hold_ints rs)
theorem op_lt_ints (hu : X.A.units + 65 < cLine) : OpR X (compareOp .Lt) (rLtL X.K) := by
  intro pins s σ H x y v u Q I rx ry h
  obtain ⟨p, q', is, js, rfl, rfl, h1, h2, q⟩ := h
  cases rx
  cases ry
  obtain ⟨its, rv, pl, hz⟩ := I.list h1
  obtain ⟨its2, rv2, pl2, hz2⟩ := I.list h2
  refine PySem.W.lt_datum (x := is) (y := js) ?_ ?_ ?_ (fin_bl I q rfl)
  · exact PySem.W.holds_list pl.isList (by simpa using hold_ints (h := s.heap) rv)
  · exact PySem.W.holds_list pl2.isList (by simpa using hold_ints (h := s.heap) rv2)
  · show X.A.units + PySem.W.Datum.depth (List Int) < cLine
    have : PySem.W.Datum.depth (List Int) ≤ 10 := by decide
    omega
end Pm

namespace Pm
open PySem L2

inductive Id where | frz | slot (i : Nat) | tmp (j : Nat)
  deriving DecidableEq
inductive Perm where | own | frz | bor (xs : List Nat)
  deriving DecidableEq
structure Ty where
  p : Perm
  k : Nat
  deriving DecidableEq
abbrev STy := Option Ty
abbrev Penv := List (Option D)
def Perm.isOwn : Perm → Bool | .own => true | _ => false
def Perm.w : Perm → Bool | .frz => false | _ => true

def LabOk (ow : Addr → Id) (id : Id) (F : Fp) : Perm → Prop
  | Perm.own => F.Nodup ∧ ∀ a ∈ F, ow a = id
  | .frz => ∀ a ∈ F, ow a = .frz
  | .bor xs => ∀ a ∈ F, ow a = .frz ∨ ∃ i ∈ xs, ow a = .slot i
def EntOk (K : PySem.W.Frag) (H : Hp) (ow : Addr → Id) (id : Id) (ty : Ty) (d : D) (v : V) : Prop :=
  ∃ F, Rep ty.p.w K H d v F ∧ d.dep ty.k = true ∧ LabOk ow id F ty.p

theorem LabOk.nil {ow : Addr → Id} {id : Id} {p : Perm} : LabOk ow id [] p := by cases p <;> simp [LabOk]
theorem EntOk.imm {K : PySem.W.Frag} {H : Hp} {ow : Addr → Id} {id : Id} {ty ty' : Ty} {d : D} {v : V} {id' : Id} {ow' : Addr → Id} (h : EntOk K H ow id ty d v) (e : ty.k = 0) : EntOk K H ow' id' ty' d v := by
  obtain ⟨F, r, hd, _⟩ := h
  rw [e] at hd
  obtain ⟨_, q⟩ := r.imm hd
  refine ⟨[], ?_, D.dep_mono (Nat.zero_le _) d hd, LabOk.nil⟩
  cases ty'.p with
  | own => exact q
  | frz => exact q.weak
  | bor _ => exact q

/-- one entry's permission leans on the labels in T not at all -/
def Perm.off (T : Id → Prop) (id : Id) : Perm → Prop
  | Perm.own => ¬ T id
  | .frz => ¬ T .frz
  | .bor xs => ¬ T .frz ∧ ∀ i ∈ xs, ¬ T (.slot i)

/-- a step that touches what is labelled in T alone -/
structure Step (T : Id → Prop) (ow ow' : Addr → Id) (H H' : Hp) : Prop where
  ext : Ext (fun a => T (ow a)) H H'
  lab : ∀ a, H a ≠ none → ¬ T (ow a) → ow' a = ow a
  mt : ∀ a, T (ow a) → Mut (H a)

theorem EntOk.step {K : PySem.W.Frag} {H H' : Hp} {ow ow' : Addr → Id} {id : Id} {ty : Ty} {d : D} {v : V} {T : Id → Prop} (h : EntOk K H ow id ty d v) (s : Step T ow ow' H H') (o : ty.p.off T id) : EntOk K H' ow' id ty d v := by
  obtain ⟨F, r, hd, hl⟩ := h
  have hF : ∀ a ∈ F, ¬ T (ow a) := fun a ha => by
    cases hp : ty.p with
    | own => rw [hp] at hl o; rw [hl.2 a ha]; exact o
    | frz => rw [hp] at hl o; rw [hl a ha]; exact o
    | bor xs =>
      rw [hp] at hl o
      rcases hl a ha with e | ⟨i, hi, e⟩
      · rw [e]; exact o.1
      · rw [e]; exact o.2 i hi
  have hL : ∀ a ∈ F, ow' a = ow a := fun a ha => s.lab a (mut_ne (r.mut a ha)) (hF a ha)
  refine ⟨F, r.ext s.ext s.mt hF, hd, ?_⟩
  cases hp : ty.p with
  | own => rw [hp] at hl; exact ⟨hl.1, fun a ha => (hL a ha).trans (hl.2 a ha)⟩
  | frz => rw [hp] at hl; exact fun a ha => (hL a ha).trans (hl a ha)
  | bor xs => rw [hp] at hl; exact fun a ha => by rw [hL a ha]; exact hl a ha

def TempOk (K : PySem.W.Frag) (H : Hp) (ow : Addr → Id) : List Ty → List (D × V) → Prop
  | [], [] => True
  | ty :: Θ, (d, v) :: θ => EntOk K H ow (.tmp Θ.length) ty d v ∧ TempOk K H ow Θ θ
  | _, _ => False

/-- the state of the pure layer is held by the slots and the heap -/
structure Rw (K : PySem.W.Frag) (H0 : Hp) (M : Addr → Prop) (ow : Addr → Id) (Γ : List STy) (ρ : Penv) (σ : St) (Θ : List Ty) (θ : List (D × V)) (H : Hp) : Prop where
  lρ : ρ.length = Γ.length
  lσ : σ.length = Γ.length
  nb : ∀ (i : Nat) (ty : Ty), Γ[i]? = some (some ty) → ty.p = .own ∨ ty.p = .frz
  slot : ∀ (i : Nat) (ty : Ty) (d : D), Γ[i]? = some (some ty) → ρ[i]? = some (some d) → ∃ v, σ[i]? = some (some v) ∧ EntOk K H ow (.slot i) ty d v
  temp : TempOk K H ow Θ θ
  ext : Ext M H0 H
  lab : ∀ a, ow a ≠ .frz → Mut (H a) ∧ (M a ∨ H0 a = none)
  hiT : ∀ a j, ow a = .tmp j → j < Θ.length
def Rel (K : PySem.W.Frag) (H0 : Hp) (M : Addr → Prop) (Γ : List STy) (ρ : Penv) (σ : St) (Θ : List Ty) (θ : List (D × V)) (H : Hp) : Prop := ∃ ow, Rw K H0 M ow Γ ρ σ Θ θ H

/-- which labels are free of live entries -/
def slotsOff (T : Id → Prop) (Γ : List STy) : Prop := ∀ (i : Nat) (ty : Ty), Γ[i]? = some (some ty) → ty.p.off T (.slot i)
def tempsOff (T : Id → Prop) : List Ty → Prop
  | [] => True
  | ty :: Θ => ty.p.off T (.tmp Θ.length) ∧ tempsOff T Θ
theorem TempOk.step {K : PySem.W.Frag} {H H' : Hp} {ow ow' : Addr → Id} {T : Id → Prop} (s : Step T ow ow' H H') : ∀ {Θ : List Ty} {θ : List (D × V)}, TempOk K H ow Θ θ → tempsOff T Θ → TempOk K H' ow' Θ θ
  | [], [], _, _ => trivial
  | ty :: Θ, (d, v) :: θ, h, o => ⟨h.1.step s o.1, TempOk.step s h.2 o.2⟩
  | [], _ :: _, h, _ => h.elim
  | _ :: _, [], h, _ => h.elim
theorem TempOk.len {K : PySem.W.Frag} {H : Hp} {ow : Addr → Id} : ∀ {Θ : List Ty} {θ : List (D × V)}, TempOk K H ow Θ θ → θ.length = Θ.length
  | [], [], _ => rfl
  | ty :: Θ, (d, v) :: θ, h => by simp [TempOk.len h.2]
  | [], _ :: _, h => h.elim
  | _ :: _, [], h => h.elim

section
variable {K : PySem.W.Frag} {H0 H H' : Hp} {M : Addr → Prop} {ow ow' : Addr → Id} {Γ Γ' : List STy} {ρ : Penv} {σ : St} {Θ : List Ty} {θ : List (D × V)} {T : Id → Prop}
theorem Rw.step (R : Rw K H0 M ow Γ ρ σ Θ θ H) (s : Step T ow ow' H H') (hs : slotsOff T Γ) (ht : tempsOff T Θ) (nf : ¬ T .frz)
    (lab : ∀ a, ow' a ≠ .frz → Mut (H' a) ∧ (M a ∨ H0 a = none)) (hi : ∀ a j, ow' a = .tmp j → j < Θ.length) : Rw K H0 M ow' Γ ρ σ Θ θ H' where
  lρ := R.lρ
  lσ := R.lσ
  nb := R.nb
  slot := fun i ty d h1 h2 => by
    obtain ⟨v, e, q⟩ := R.slot i ty d h1 h2
    exact ⟨v, e, q.step s (hs i ty h1)⟩
  temp := R.temp.step s ht
  ext := by
    refine ⟨fun a h m => ?_, fun a h => s.ext.there a (R.ext.there a h)⟩
    rw [s.ext.keep a (R.ext.there a h) fun z => ?_]
    · exact R.ext.keep a h m
    · have hne : ow a ≠ .frz := fun e => nf (by rw [e] at z; exact z)
      rcases (R.lab a hne).2 with q | q
      · exact m q
      · exact h q
  lab := lab
  hiT := hi

/-- a slot's claim is given up -/
theorem Rw.kill (R : Rw K H0 M ow Γ ρ σ Θ θ H) (i : Nat) : Rw K H0 M ow (Γ.set i none) ρ σ Θ θ H where
  lρ := by rw [List.length_set]; exact R.lρ
  lσ := by rw [List.length_set]; exact R.lσ
  nb := fun j ty h => R.nb j ty (by
    by_cases e : i = j
    · subst e
      rw [List.getElem?_set, if_pos rfl] at h
      split at h <;> cases h
    · rwa [List.getElem?_set_ne e] at h)
  slot := fun j ty d h1 h2 => R.slot j ty d (by
    by_cases e : i = j
    · subst e
      rw [List.getElem?_set, if_pos rfl] at h1
      split at h1 <;> cases h1
    · rwa [List.getElem?_set_ne e] at h1) h2
  temp := R.temp
  ext := R.ext
  lab := R.lab
  hiT := R.hiT
/-- a slot gets a claim -/
theorem Rw.put (R : Rw K H0 M ow Γ ρ σ Θ θ H) {i : Nat} {ty : Ty} {d : D} {v : V} (hi : i < Γ.length) (hp : ty.p = .own ∨ ty.p = .frz) (h : EntOk K H ow (.slot i) ty d v) :
    Rw K H0 M ow (Γ.set i (some ty)) (ρ.set i (some d)) (σ.set i (some v)) Θ θ H where
  lρ := by rw [List.length_set, List.length_set]; exact R.lρ
  lσ := by rw [List.length_set, List.length_set]; exact R.lσ
  nb := fun j ty' h => by
    by_cases e : i = j
    · subst e
      rw [List.getElem?_set_self hi] at h; cases h; exact hp
    · rw [List.getElem?_set_ne e] at h; exact R.nb j ty' h
  slot := fun j ty' d' h1 h2 => by
    by_cases e : i = j
    · subst e
      rw [List.getElem?_set_self hi] at h1
      rw [List.getElem?_set_self (by rw [R.lρ]; exact hi)] at h2
      cases h1; cases h2
      exact ⟨v, List.getElem?_set_self (by rw [R.lσ]; exact hi), h⟩
    · rw [List.getElem?_set_ne e] at h1 h2
      obtain ⟨v', e1, q⟩ := R.slot j ty' d' h1 h2
      exact ⟨v', by rw [List.getElem?_set_ne e]; exact e1, q⟩
  temp := R.temp
  ext := R.ext
  lab := R.lab
  hiT := R.hiT
theorem Rw.push (R : Rw K H0 M ow Γ ρ σ Θ θ H) {ty : Ty} {d : D} {v : V} (h : EntOk K H ow (.tmp Θ.length) ty d v) : Rw K H0 M ow Γ ρ σ (ty :: Θ) ((d, v) :: θ) H where
  lρ := R.lρ
  lσ := R.lσ
  nb := R.nb
  slot := R.slot
  temp := ⟨h, R.temp⟩
  ext := R.ext
  lab := R.lab
  hiT := fun a j e => Nat.lt_succ_of_lt (R.hiT a j e)
/-- labels of what no entry bears are changed to frz -/
def relab (T : Id → Bool) (to : Id) (ow : Addr → Id) : Addr → Id := fun a => if T (ow a) then to else ow a
theorem step_relab {Tb : Id → Bool} {to : Id} (hm : ∀ a, Tb (ow a) = true → Mut (H a)) : Step (fun i => Tb i = true) ow (relab Tb to ow) H H :=
  ⟨Ext.refl, fun a _ h => by unfold relab; rw [if_neg h], hm⟩
end
end Pm

namespace Pm
open PySem L2

/-! ### the language -/
inductive UM where | bor | frz | mov deriving DecidableEq
inductive Tgt where | nm (i : Nat) | tp (ts : List Nat) deriving DecidableEq
/-- built-in functions -/
inductive Bi where | len | int | str | list (l : Bool) | tuple (l : Bool) | max | min | sum | all | any | isbool | isint | isstr | islist deriving DecidableEq
/-- methods that change nothing -/
inductive Bm where | join | index | rev deriving DecidableEq
/-- methods that change their list -/
inductive Mu where | append | extend | pop | popAt | clear deriving DecidableEq
mutual
inductive E where
  | var (i : Nat) (m : UM) | non | bl (b : Bool) | int (i : Int) | str (s : List Nat) | glb (g : Nat)
  | tup (es : Es) | lst (es : Es)
  | bin (l : Bool) (op : Operator) (a b : E) | cmp (op : CmpOp) (a b : E) | chn (o1 o2 : CmpOp) (a b c : E)
  | neg (a : E) | not_ (a : E) | bop (isOr : Bool) (a b : E)
  | idx (h : Bool) (a i : E) | slc (l : Bool) (a : E) (lo hi : OE) | revl (a : E)
  | call (f : Nat) (as : As) | bi (b : Bi) (es : Es) | bm (m : Bm) (o : E) (es : Es) | mu (m : Mu) (i : Nat) (es : Es)
  | comp (t : Tgt) (it : It) (c : OE) (e : E)
inductive Es where | nil | cons (e : E) (es : Es)
inductive OE where | none | some (e : E)
inductive As where | nil | val (e : E) (as : As) | ino (i : Nat) (as : As) | own (e : E) (as : As)
inductive It where | val (l : Bool) (e : E) | rng (es : Es) | enum (l : Bool) (e : E) | zip (l1 l2 : Bool) (a b : E)
end
mutual
inductive S where
  | asg (t : Tgt) (e : E) | setI (i : Nat) (k e : E) | expr (e : E) | ret (e : E) | retN
  | if_ (c : E) (a b : Ss) | for_ (Γ : List STy) (t : Tgt) (it : It) (b : Ss) | while_ (Γ : List STy) (c : E) (b : Ss) | brk | cnt | pass | dead
inductive Ss where | nil | cons (s : S) (ss : Ss)
end

/-! ### what an operation of data gives -/
structure Exc where
  c : Nat
  as : List D
inductive FOut where | ret (d : D) (outs : List D) | exc (x : Exc)

def D.truth : D → Option Bool
  | .non => some false
  | .bl b => some b
  | .int i => some (i != 0)
  | .tup xs => some (!xs.isEmpty)
  | .lst xs => some (!xs.isEmpty)
  | _ => none
/-- the items of what a for walks -/
def D.items : Bool → D → Option (List D)
  | false, .tup xs => some xs
  | true, .lst xs => some xs
  | false, .str s => some (s.map fun c => .str [c])
  | _, _ => none
/-- the items of what enumerate and zip walk -/
def D.items2 : Bool → D → Option (List D)
  | true, .lst xs => some xs
  | false, .str s => some (s.map fun c => .str [c])
  | _, _ => none
/-! equality of data: bools and ints as in Python; D.ht: plain data of at most this height -/
mutual
def D.eq : D → D → Bool
  | .non, .non => true
  | .bl a, .bl b => a == b
  | .bl a, .int j => (if a then 1 else 0) == j
  | .int i, .bl b => i == (if b then 1 else 0)
  | .int i, .int j => i == j
  | .str x, .str y => x == y
  | .lst xs, .lst ys => D.eqs xs ys
  | .tup xs, .tup ys => D.eqs xs ys
  | _, _ => false
def D.eqs : List D → List D → Bool
  | [], [] => true
  | x :: xs, y :: ys => D.eq x y && D.eqs xs ys
  | _, _ => false
end
mutual
def D.ht : Nat → D → Bool
  | _, .non => true
  | _, .bl _ => true
  | _, .int _ => true
  | _, .str _ => true
  | n + 1, .tup xs => D.hts n xs
  | n + 1, .lst xs => D.hts n xs
  | _, _ => false
def D.hts : Nat → List D → Bool
  | _, [] => true
  | n, x :: xs => D.ht n x && D.hts n xs
end
def D.sc : D → Bool
  | .non => true
  | .int _ => true
  | .str _ => true
  | _ => false

/-- a binary operation (a continuation takes the value) -/
def binK (l : Bool) (op : Operator) (a b : D) (k : D → Prop) : Prop :=
  match l, op, a, b with
  | false, .Add, .int x, .int y => k (.int (x + y))
  | false, .Add, .str x, .str y => x.length + y.length ≤ sizeLine ∧ k (.str (x ++ y))
  | true, .Add, .lst x, .lst y => x.length + y.length ≤ sizeLine ∧ k (.lst (x ++ y))
  | false, .Add, .tup x, .tup y => x ≠ [] ∧ x.length + y.length ≤ sizeLine ∧ k (.tup (x ++ y))
  | false, .Sub, .int x, .int y => k (.int (x - y))
  | false, .Mult, .int x, .int y => CMul x y ∧ k (.int (x * y))
  | false, .Mult, .str x, .int n => (2 ≤ n ∧ 1 ≤ x.length ∧ x.length * n.toNat ≤ 1000000) ∧ k (.str (List.replicate n.toNat x).flatten)
  | false, .FloorDiv, .int x, .int y => CDiv x y ∧ k (.int (x / y))
  | false, .Mod, .int x, .int y => 0 < y ∧ k (.int (x % y))
  | false, .Pow, .int x, .int y => CPow x y ∧ k (.int (x ^ y.toNat))
  | _, _, _, _ => False
def cmpK (op : CmpOp) (a b : D) (k : D → Prop) : Prop :=
  match op, a, b with
  | .Lt, .int x, .int y => k (.bl (decide (x < y)))
  | .Lt, .lst xs, .lst ys => ∃ is js : List Int, xs = is.map .int ∧ ys = js.map .int ∧ k (.bl (listLtI is js))
  | .LtE, .int x, .int y => k (.bl (decide (x ≤ y)))
  | .LtE, .str x, .str y => k (.bl (!decide (y < x)))
  | .Gt, .int x, .int y => k (.bl (decide (y < x)))
  | .GtE, .int x, .int y => k (.bl (decide (y ≤ x)))
  | .Eq, x, y => x.ht 60 = true ∧ y.ht 60 = true ∧ k (.bl (x.eq y))
  | .NotEq, x, y => x.ht 60 = true ∧ y.ht 60 = true ∧ k (.bl (!x.eq y))
  | .In, .str x, .str y => ∃ c, x = [c] ∧ k (.bl (decide (c ∈ y)))
  | .NotIn, .str x, .str y => ∃ c, x = [c] ∧ k (.bl (!decide (c ∈ y)))
  | .In, x, .tup ys => x.sc = true ∧ ys.all D.sc = true ∧ k (.bl (ys.any fun y => y.eq x))
  | .NotIn, x, .tup ys => x.sc = true ∧ ys.all D.sc = true ∧ k (.bl (!ys.any fun y => y.eq x))
  | .In, x, .lst ys => x.ht 60 = true ∧ D.hts 59 ys = true ∧ k (.bl (ys.any fun y => y.eq x))
  | .NotIn, x, .lst ys => x.ht 60 = true ∧ D.hts 59 ys = true ∧ k (.bl (!ys.any fun y => y.eq x))
  | .Is, x, .non => k (.bl (match x with | .non => true | _ => false))
  | .IsNot, x, .non => k (.bl (match x with | .non => false | _ => true))
  | _, _, _ => False
def idxK (h : Bool) (a i : D) (k : D → Prop) : Prop :=
  match h, a, i with
  | true, .lst xs, .int i => match atI xs i with
    | some x => k x
    | none => False
  | false, .tup xs, .int i => match atI xs i with
    | some x => k x
    | none => False
  | false, .str xs, .int i => match atI xs i with
    | some x => xs.length ≤ sizeLine ∧ k (.str [x])
    | none => False
  | _, _, _ => False
def cutL {α : Type} (xs : List α) (lo hi : Option Int) : List α := (xs.drop (HT.sIx xs.length 0 lo)).take (HT.sIx xs.length xs.length hi - HT.sIx xs.length 0 lo)
def slcK (l : Bool) (a : D) (lo hi : Option Int) (k : D → Prop) : Prop :=
  match l, a with
  | true, .lst xs => k (.lst (cutL xs lo hi))
  | false, .tup xs => k (.tup (cutL xs lo hi))
  | false, .str xs => xs.length ≤ sizeLine ∧ k (.str (cutL xs lo hi))
  | _, _ => False
/-- text of a whole number -/
def intTxt (i : Int) : List Nat := (Str.ofString (toString i)).cps.toList
def strsOf : List D → Option (List (List Nat))
  | [] => some []
  | .str x :: r => (strsOf r).map (x :: ·)
  | _ => none
def joinL (sep : List Nat) : List (List Nat) → List Nat
  | [] => []
  | [x] => x
  | x :: y :: r => x ++ sep ++ joinL sep (y :: r)
def biK (b : Bi) (ds : List D) (k : D → Prop) : Prop :=
  match b, ds with
  | .len, [.str s] => s.length ≤ sizeLine ∧ k (.int s.length)
  | .len, [.lst s] => k (.int s.length)
  | .len, [.tup s] => k (.int s.length)
  | .int, [.bl c] => k (.int (if c then 1 else 0))
  | .int, [.int i] => k (.int i)
  | .list true, [.lst xs] => k (.lst xs)
  | .list false, [.tup xs] => k (.lst xs)
  | .list false, [.str s] => s.length ≤ sizeLine ∧ k (.lst (s.map fun c => .str [c]))
  | .tuple true, [.lst xs] => k (.tup xs)
  | .tuple false, [.tup xs] => k (.tup xs)
  | .str, [.int i] => i.natAbs.log2 < 1920 ∧ k (.str (intTxt i))
  | .max, [.int x, .int y] => k (.int (if y > x then y else x))
  | .min, [.int x, .int y] => k (.int (if y < x then y else x))
  | .all, [.lst xs] => ∃ bs : List Bool, xs = bs.map .bl ∧ k (.bl (bs.all id))
  | .any, [.lst xs] => ∃ bs : List Bool, xs = bs.map .bl ∧ k (.bl (bs.any id))
  | .sum, [.lst xs] => ∃ is : List Int, xs = is.map .int ∧ k (.int is.sum)
  | .isbool, [d] => k (.bl (match d with | .bl _ => true | _ => false))
  | .isint, [d] => k (.bl (match d with | .int _ => true | .bl _ => true | _ => false))
  | .isstr, [d] => k (.bl (match d with | .str _ => true | _ => false))
  | .islist, [d] => k (.bl (match d with | .lst _ => true | _ => false))
  | _, _ => False
def idxOf (c : Nat) : List Nat → Option Nat
  | [] => none
  | x :: xs => if x = c then some 0 else (idxOf c xs).map (· + 1)
def bmO : Bm → D → Bool
  | .join, .str _ => true
  | .index, .str _ => true
  | .rev, .str _ => true
  | _, _ => false
def bmK (m : Bm) (o : D) (ds : List D) (k : D → Prop) : Prop :=
  match m, o, ds with
  | .join, .str sep, [.lst xs] => match strsOf xs with
    | some ys => (ys.map List.length).sum + ys.length * sep.length ≤ 16777216 ∧ k (.str (joinL sep ys))
    | none => False
  | .index, .str s, [.str [c]] => match idxOf c s with
    | some i => k (.int i)
    | none => False
  | .rev, .str s, [] => s.length ≤ sizeLine ∧ k (.str s.reverse)
  | _, _, _ => False
/-- a method that changes the list: its answer, the list behind it -/
def muK (m : Mu) (o : D) (ds : List D) (k : D → D → Prop) : Prop :=
  match m, o, ds with
  | .append, .lst xs, [d] => xs.length < sizeLine ∧ k .non (.lst (xs ++ [d]))
  | .extend, .lst xs, [.lst ys] => xs.length + ys.length ≤ sizeLine ∧ k .non (.lst (xs ++ ys))
  | .pop, .lst xs, [] => match xs[xs.length - 1]? with
    | some y => k y (.lst xs.dropLast)
    | none => False
  | .popAt, .lst xs, [.int i] => match ixN xs.length i with
    | some j => match xs[j]? with
      | some y => (-(2 ^ 63) ≤ i ∧ i < 2 ^ 63) ∧ k y (.lst (xs.eraseIdx j))
      | none => False
    | none => False
  | .clear, .lst xs, [] => k .non (.lst [])
  | _, _, _ => False
def setK (o i v : D) (k : D → Prop) : Prop :=
  match o, i with
  | .lst xs, .int i => match ixN xs.length i with
    | some j => k (.lst (xs.set j v))
    | none => False
  | _, _ => False
def rngK (ds : List D) (k : List D → Prop) : Prop :=
  match ds with
  | [.int j] => -(2 ^ 62) ≤ j ∧ j < 2 ^ 62 ∧ k ((List.range j.toNat).map fun (i : Nat) => .int (i : Int))
  | [.int i, .int j] => (-(2 ^ 62) ≤ i ∧ i < 2 ^ 62 ∧ -(2 ^ 62) ≤ j ∧ j < 2 ^ 62) ∧ k ((List.range (j - i).toNat).map fun (t : Nat) => .int (i + (t : Int)))
  | _ => False
def asgK (t : Tgt) (d : D) (ρ : Penv) (k : Penv → Prop) : Prop :=
  match t, d with
  | .nm i, d => k (ρ.set i (some d))
  | .tp is, .tup xs => xs.length = is.length ∧ k ((is.zip xs).foldl (fun ρ p => ρ.set p.1 (some p.2)) ρ)
  | _, _ => False

/-! ### what is wanted -/
structure Kt where
  nx : Penv → Prop
  rt : D → Penv → Prop
  bk : Penv → Prop
  ct : Penv → Prop
  ex : Exc → Penv → Prop
structure Ctx where
  spec : Nat → List D → (FOut → Prop) → Prop
  glob : Nat → Option D

def forLoop (step : D → Penv → (Penv → Prop) → Prop) (K : Penv → Prop) : List D → Penv → Prop
  | [], ρ => K ρ
  | x :: xs, ρ => step x ρ (forLoop step K xs)
def compLoop (step : D → Penv → (Option D → Penv → Prop) → Prop) (K : List D → Penv → Prop) : List D → List D → Penv → Prop
  | [], acc, ρ => K acc ρ
  | x :: xs, acc, ρ => step x ρ fun o ρ' => compLoop step K xs (match o with | some d => acc ++ [d] | none => acc) ρ'
def whileN (c : Penv → (D → Penv → Prop) → Prop) (body : Penv → (Penv → Prop) → Prop) (nx : Penv → Prop) : Nat → Penv → Prop
  | 0, _ => False
  | n + 1, ρ => c ρ fun d ρ' => match d.truth with
    | some true => body ρ' (whileN c body nx n)
    | some false => nx ρ'
    | none => False
def Tgt.slots : Tgt → List Nat
  | .nm i => [i]
  | .tp is => is
/-- the slots vs as they were -/
def restore (vs : List Nat) (ρ ρ' : Penv) : Penv := vs.foldl (fun r v => (ρ[v]?).elim r fun x => r.set v x) ρ'
def wipeP (vs : List Nat) (ρ : Penv) : Penv := vs.foldl (fun r v => r.set v none) ρ
def As.inos : As → List Nat
  | .nil => []
  | .val _ as => as.inos
  | .own _ as => as.inos
  | .ino i as => i :: as.inos
def As.outs : As → List (Option Nat)
  | .nil => []
  | .val _ as => as.outs
  | .own _ as => none :: as.outs
  | .ino i as => some i :: as.outs
def setOuts : List (Option Nat) → List D → Penv → Penv
  | some i :: is, d :: ds, ρ => setOuts is ds (ρ.set i (some d))
  | none :: is, _ :: ds, ρ => setOuts is ds ρ
  | _, _, ρ => ρ

mutual
def evalE (C : Ctx) : E → Penv → (D → Penv → Prop) → (Exc → Penv → Prop) → Prop
  | .var i _, ρ, K, _ => match ρ[i]? with
    | some (some d) => K d ρ
    | _ => False
  | .non, ρ, K, _ => K .non ρ
  | .bl b, ρ, K, _ => K (.bl b) ρ
  | .int i, ρ, K, _ => K (.int i) ρ
  | .str s, ρ, K, _ => K (.str s) ρ
  | .glb g, ρ, K, _ => match C.glob g with
    | some d => K d ρ
    | none => False
  | .tup es, ρ, K, X => evalEs C es ρ (fun ds ρ' => ds.length ≤ sizeLine ∧ K (.tup ds) ρ') X
  | .lst es, ρ, K, X => evalEs C es ρ (fun ds ρ' => ds.length ≤ sizeLine ∧ K (.lst ds) ρ') X
  | .bin l op a b, ρ, K, X => evalE C a ρ (fun x ρ1 => evalE C b ρ1 (fun y ρ2 => binK l op x y fun z => K z ρ2) X) X
  | .cmp op a b, ρ, K, X => evalE C a ρ (fun x ρ1 => evalE C b ρ1 (fun y ρ2 => cmpK op x y fun z => K z ρ2) X) X
  | .chn o1 o2 a b c, ρ, K, X => evalE C a ρ (fun x ρ1 => evalE C b ρ1 (fun y ρ2 => cmpK o1 x y fun z =>
      match z with
      | .bl true => evalE C c ρ2 (fun w ρ3 => cmpK o2 y w fun z => K z ρ3) X
      | .bl false => K (.bl false) ρ2
      | _ => False) X) X
  | .revl a, ρ, K, X => evalE C a ρ (fun x ρ1 => match x with
      | .lst xs => K (.lst xs.reverse) ρ1
      | _ => False) X
  | .neg a, ρ, K, X => evalE C a ρ (fun x ρ1 => match x with
      | .int i => K (.int (-i)) ρ1
      | _ => False) X
  | .not_ a, ρ, K, X => evalE C a ρ (fun x ρ1 => match x.truth with
      | some c => K (.bl (!c)) ρ1
      | none => False) X
  | .bop o a b, ρ, K, X => evalE C a ρ (fun x ρ1 => match x.truth with
      | some c => if c = o then K x ρ1 else evalE C b ρ1 K X
      | none => False) X
  | .idx h a i, ρ, K, X => evalE C a ρ (fun x ρ1 => evalE C i ρ1 (fun y ρ2 => idxK h x y fun z => K z ρ2) X) X
  | .slc l a lo hi, ρ, K, X => evalE C a ρ (fun x ρ1 => evalOE C lo ρ1 (fun lo' ρ2 => evalOE C hi ρ2 (fun hi' ρ3 => slcK l x lo' hi' fun z => K z ρ3) X) X) X
  | .call f as, ρ, K, X => evalAs C as ρ (fun ds ρ1 => C.spec f ds fun r => match r with
      | .ret d outs => K d (setOuts as.outs outs ρ1)
      | .exc x => X x ρ1) X
  | .bi b es, ρ, K, X => evalEs C es ρ (fun ds ρ1 => biK b ds fun z => K z ρ1) X
  | .bm m o es, ρ, K, X => evalE C o ρ (fun x ρ1 => bmO m x = true ∧ evalEs C es ρ1 (fun ds ρ2 => bmK m x ds fun z => K z ρ2) X) X
  | .mu m i es, ρ, K, X => match ρ[i]? with
    | some (some (.lst _)) => evalEs C es ρ (fun ds ρ1 => match ρ1[i]? with
      | some (some x) => muK m x ds fun z y => K z (ρ1.set i (some y))
      | _ => False) X
    | _ => False
  | .comp t it c e, ρ, K, X => evalIt C it ρ (fun xs ρ1 => xs.length ≤ sizeLine ∧ compLoop (fun x ρ' k => asgK t x (wipeP t.slots ρ') fun ρ2 => evalC C c ρ2 (fun b ρ3 => if b = true then evalE C e ρ3 (fun y ρ4 => k (some y) ρ4) (fun _ _ => False) else k none ρ3) (fun _ _ => False))
      (fun acc ρ' => K (.lst acc) (restore t.slots ρ1 ρ')) xs [] ρ1) X
def evalEs (C : Ctx) : Es → Penv → (List D → Penv → Prop) → (Exc → Penv → Prop) → Prop
  | .nil, ρ, K, _ => K [] ρ
  | .cons e es, ρ, K, X => evalE C e ρ (fun d ρ1 => evalEs C es ρ1 (fun ds ρ2 => K (d :: ds) ρ2) X) X
/-- a slice's part -/
def evalOE (C : Ctx) : OE → Penv → (Option Int → Penv → Prop) → (Exc → Penv → Prop) → Prop
  | .none, ρ, K, _ => K none ρ
  | .some e, ρ, K, X => evalE C e ρ (fun d ρ1 => match d with
      | .int i => K (some i) ρ1
      | _ => False) X
/-- a comprehension's test -/
def evalC (C : Ctx) : OE → Penv → (Bool → Penv → Prop) → (Exc → Penv → Prop) → Prop
  | .none, ρ, K, _ => K true ρ
  | .some e, ρ, K, X => evalE C e ρ (fun d ρ1 => match d.truth with
      | some b => K b ρ1
      | none => False) X
def evalAs (C : Ctx) : As → Penv → (List D → Penv → Prop) → (Exc → Penv → Prop) → Prop
  | .nil, ρ, K, _ => K [] ρ
  | .val e as, ρ, K, X => evalE C e ρ (fun d ρ1 => evalAs C as ρ1 (fun ds ρ2 => K (d :: ds) ρ2) X) X
  | .own e as, ρ, K, X => evalE C e ρ (fun d ρ1 => evalAs C as ρ1 (fun ds ρ2 => K (d :: ds) ρ2) X) X
  | .ino i as, ρ, K, X => match ρ[i]? with
    | some (some _) => evalAs C as ρ (fun ds ρ1 => match ρ1[i]? with
      | some (some d) => K (d :: ds) ρ1
      | _ => False) X
    | _ => False
def evalIt (C : Ctx) : It → Penv → (List D → Penv → Prop) → (Exc → Penv → Prop) → Prop
  | .val l e, ρ, K, X => evalE C e ρ (fun d ρ1 => match d.items l with
      | some xs => K xs ρ1
      | none => False) X
  | .rng es, ρ, K, X => evalEs C es ρ (fun ds ρ1 => rngK ds fun xs => K xs ρ1) X
  | .enum l e, ρ, K, X => evalE C e ρ (fun d ρ1 => match d.items2 l with
      | some xs => K (xs.zipIdx.map fun p => .tup [.int p.2, p.1]) ρ1
      | none => False) X
  | .zip l1 l2 a b, ρ, K, X => evalE C a ρ (fun x ρ1 => evalE C b ρ1 (fun y ρ2 => match x.items2 l1, y.items2 l2 with
      | some xs, some ys => K ((xs.zip ys).map fun p => .tup [p.1, p.2]) ρ2
      | _, _ => False) X) X
end
mutual
def evalS (C : Ctx) : S → Penv → Kt → Prop
  | .asg t e, ρ, K => evalE C e ρ (fun d ρ1 => asgK t d ρ1 K.nx) K.ex
  | .setI i k e, ρ, K => evalE C e ρ (fun d ρ1 => match ρ1[i]? with
      | some (some _) => evalE C k ρ1 (fun j ρ2 => match ρ2[i]? with
        | some (some o) => setK o j d fun o' => K.nx (ρ2.set i (some o'))
        | _ => False) K.ex
      | _ => False) K.ex
  | .expr e, ρ, K => evalE C e ρ (fun _ ρ1 => K.nx ρ1) K.ex
  | .ret e, ρ, K => evalE C e ρ K.rt K.ex
  | .retN, ρ, K => K.rt .non ρ
  | .if_ c a b, ρ, K => evalE C c ρ (fun d ρ1 => match d.truth with
      | some true => evalSs C a ρ1 K
      | some false => evalSs C b ρ1 K
      | none => False) K.ex
  | .for_ _ t it b, ρ, K => evalIt C it ρ (fun xs ρ1 => forLoop (fun x ρ' k => asgK t x ρ' fun ρ2 => evalSs C b ρ2 ⟨k, K.rt, K.nx, k, K.ex⟩) K.nx xs ρ1) K.ex
  | .while_ _ c b, ρ, K => ∃ n, whileN (fun ρ' k => evalE C c ρ' k K.ex) (fun ρ' k => evalSs C b ρ' ⟨k, K.rt, K.nx, k, K.ex⟩) K.nx n ρ
  | .brk, ρ, K => K.bk ρ
  | .cnt, ρ, K => K.ct ρ
  | .pass, ρ, K => K.nx ρ
  | .dead, _, _ => False
def evalSs (C : Ctx) : Ss → Penv → Kt → Prop
  | .nil, ρ, K => K.nx ρ
  | .cons s ss, ρ, K => evalS C s ρ { K with nx := fun ρ' => evalSs C ss ρ' K }
end
end Pm

namespace Pm
open PySem L2

/-! ### the ownership checker -/
inductive PM where | inn (k : Nat) | ino (k : Nat) deriving DecidableEq
structure Sig where
  ps : List PM
  k : Nat
structure TC where
  sig : Nat → Option Sig
  gk : Nat → Nat
def imm : Ty := ⟨.frz, 0⟩
/-- a fresh value of depth k -/
def fresh (k : Nat) : Ty := if k = 0 then imm else ⟨.own, k⟩
def Ty.free (t : Ty) : Bool := t.k == 0 || t.p.isOwn
def noBor (i : Nat) (Θ : List Ty) : Bool := Θ.all fun t => match t.p with | .bor xs => !xs.contains i | _ => true
def subTy : STy → STy → Bool
  | _, none => true
  | none, some _ => false
  | some t, some u => (u.p == .own || u.p == .frz) && (t.k == 0 || (decide (t.k ≤ u.k) && (t.p == .own || (t.p == .frz && u.p == .frz))))
def subΓ : List STy → List STy → Bool
  | [], [] => true
  | a :: Γ, b :: Δ => subTy a b && subΓ Γ Δ
  | _, _ => false
def joinTy : STy → STy → STy
  | some t, some u => if t.k == 0 then some u else if u.k == 0 then some t else if t.p == .own && u.p == .own then some ⟨.own, max t.k u.k⟩ else some ⟨.frz, max t.k u.k⟩
  | _, _ => none
def joinΓ : List STy → List STy → List STy
  | a :: Γ, b :: Δ => joinTy a b :: joinΓ Γ Δ
  | _, _ => []
def setTs (is : List Nat) (t : Ty) (Γ : List STy) : List STy := is.foldl (fun Γ i => Γ.set i (some t)) Γ

def elemOk (t : Tgt) (u : Ty) : Bool := match t with | .nm _ => true | .tp _ => u.k == 0
mutual
def tyE (G : TC) (Γ : List STy) (Θ : List Ty) : E → Option (Ty × List STy)
  | .var i m => match Γ[i]? with
    | some (some t) => if t.k = 0 then some (imm, Γ) else match m, t.p with
      | .bor, .own => some (⟨.bor [i], t.k⟩, Γ)
      | .bor, .frz => some (⟨.frz, t.k⟩, Γ)
      | .frz, _ => some (⟨.frz, t.k⟩, Γ.set i (some ⟨.frz, t.k⟩))
      | .mov, .own => if noBor i Θ then some (⟨.own, t.k⟩, Γ.set i none) else none
      | _, _ => none
    | _ => none
  | .non => some (imm, Γ)
  | .bl _ => some (imm, Γ)
  | .int _ => some (imm, Γ)
  | .str _ => some (imm, Γ)
  | .glb g => some (⟨.frz, G.gk g⟩, Γ)
  | .tup es => match tyEs G Γ Θ es with
    | some (ts, Γ') => if ts.all Ty.free then some (fresh (ts.foldl (fun k t => max k t.k) 0), Γ') else none
    | none => none
  | .lst es => match tyEs G Γ Θ es with
    | some (ts, Γ') => if ts.all Ty.free then some (⟨.own, ts.foldl (fun k t => max k t.k) 0 + 1⟩, Γ') else none
    | none => none
  | .bin l _ a b => match tyE G Γ Θ a with
    | some (t, Γ1) => match tyE G Γ1 (t :: Θ) b with
      | some (u, Γ2) => if l then (if t.k ≤ 1 ∧ u.k ≤ 1 ∧ t.p.w = true ∧ u.p.w = true then some (⟨.own, 1⟩, Γ2) else none) else (if t.k = 0 ∧ u.k = 0 then some (imm, Γ2) else none)
      | none => none
    | none => none
  | .cmp _ a b => match tyE G Γ Θ a with
    | some (t, Γ1) => match tyE G Γ1 (t :: Θ) b with
      | some (u, Γ2) => some (imm, Γ2)
      | none => none
    | none => none
  | .chn _ _ a b c => match tyE G Γ Θ a with
    | some (t, Γ1) => match tyE G Γ1 (t :: Θ) b with
      | some (u, Γ2) => match tyE G Γ2 (u :: t :: Θ) c with
        | some (w, Γ3) => if Γ3 = Γ2 then some (imm, Γ2) else none
        | none => none
      | none => none
    | none => none
  | .revl a => match tyE G Γ Θ a with
    | some (t, Γ1) => if t.k ≤ 1 then some (⟨.own, 1⟩, Γ1) else none
    | none => none
  | .neg a => match tyE G Γ Θ a with
    | some (t, Γ1) => some (imm, Γ1)
    | none => none
  | .not_ a => match tyE G Γ Θ a with
    | some (t, Γ1) => some (imm, Γ1)
    | none => none
  | .bop _ a b => match tyE G Γ Θ a with
    | some (t, Γ1) => match tyE G Γ1 Θ b with
      | some (u, Γ2) => if t.k = 0 ∧ u.k = 0 ∧ Γ2 = Γ1 then some (imm, Γ1) else none
      | none => none
    | none => none
  | .idx h a i => match tyE G Γ Θ a with
    | some (t, Γ1) => match tyE G Γ1 (t :: Θ) i with
      | some (u, Γ2) => if u.k = 0 then (if h then (if t.k = 1 then some (imm, Γ2) else if t.p.isOwn then none else some (⟨t.p, t.k - 1⟩, Γ2)) else (if t.k = 0 then some (imm, Γ2) else none)) else none
      | none => none
    | none => none
  | .slc l a lo hi => match tyE G Γ Θ a with
    | some (t, Γ1) => match tyOE G Γ1 (t :: Θ) lo with
      | some Γ2 => match tyOE G Γ2 (t :: Θ) hi with
        | some Γ3 => if l then (if t.k ≤ 1 then some (⟨.own, 1⟩, Γ3) else none) else (if t.k = 0 then some (imm, Γ3) else none)
        | none => none
      | none => none
    | none => none
  | .call f as => match G.sig f with
    | some s => match tyAs G Γ Θ s.ps as with
      | some (_, Γ') => some (fresh s.k, Γ')
      | none => none
    | none => none
  | .bi b es => match tyEs G Γ Θ es with
    | some (ts, Γ') => match b with
      | .list l => if ts.all fun t => decide (t.k ≤ 1) && (l || t.k == 0) then some (⟨.own, 1⟩, Γ') else none
      | .tuple l => if ts.all fun t => decide (t.k ≤ 1) && (l || t.k == 0) then some (imm, Γ') else none
      | _ => some (imm, Γ')
    | none => none
  | .bm _ o es => match tyE G Γ Θ o with
    | some (t, Γ1) => match tyEs G Γ1 (t :: Θ) es with
      | some (ts, Γ2) => some (imm, Γ2)
      | none => none
    | none => none
  | .mu m i es => if (Γ[i]?.join).isNone then none else match tyEs G Γ Θ es with
    | some (ts, Γ') => match Γ'[i]? with
      | some (some t) => if t.p = .own ∧ 1 ≤ t.k ∧ noBor i Θ ∧ noBor i ts then (match m with
        | .append => if ts.all fun u => Ty.free u && decide (u.k + 1 ≤ t.k) then some (imm, Γ') else none
        | .extend => if ts.all fun u => decide (u.k ≤ 1) && u.p.w then some (imm, Γ') else none
        | .clear => some (imm, Γ')
        | _ => if t.k = 1 then some (imm, Γ') else none) else none
      | _ => none
    | none => none
  | .comp t it c e => match tyIt G Γ Θ it with
    | some (us, u, Γ1) => match tyE G (setTs t.slots u Γ1) (⟨.own, 1⟩ :: us ++ Θ) e with
      | some (w0, _) => match tyOE G (setTs t.slots u Γ1) (⟨.own, w0.k + 1⟩ :: us ++ Θ) c with
        | some Γ2 => match tyE G Γ2 (⟨.own, w0.k + 1⟩ :: us ++ Θ) e with
          | some (w, Γ3) => if w.free ∧ w.k ≤ w0.k ∧ elemOk t u = true ∧ Γ2 = setTs t.slots u Γ1 ∧ Γ3 = Γ2 ∧ t.slots.all (fun i => match Γ1[i]? with | some (some t) => t.k == 0 | some none => true | none => false) ∧ t.slots.all (fun i => noBor i (us ++ Θ)) then some (⟨.own, w0.k + 1⟩, Γ1) else none
          | none => none
        | none => none
      | none => none
    | none => none
def tyEs (G : TC) (Γ : List STy) (Θ : List Ty) : Es → Option (List Ty × List STy)
  | .nil => some ([], Γ)
  | .cons e es => match tyE G Γ Θ e with
    | some (t, Γ1) => match tyEs G Γ1 (t :: Θ) es with
      | some (ts, Γ2) => some (t :: ts, Γ2)
      | none => none
    | none => none
def tyOE (G : TC) (Γ : List STy) (Θ : List Ty) : OE → Option (List STy)
  | .none => some Γ
  | .some e => match tyE G Γ Θ e with
    | some (_, Γ1) => some Γ1
    | none => none
/-- the arguments by the parameters' modes; the places that are handed on come last -/
def tyAs (G : TC) (Γ : List STy) (Θ : List Ty) : List PM → As → Option (List Ty × List STy)
  | [], .nil => some ([], Γ)
  | .inn k :: ps, .val e as => match tyE G Γ Θ e with
    | some (t, Γ1) => if t.k ≤ k then (match tyAs G Γ1 (t :: Θ) ps as with
      | some (ts, Γ2) => some (t :: ts, Γ2)
      | none => none) else none
    | none => none
  | .ino k :: ps, .own e as => match tyE G Γ Θ e with
    | some (t, Γ1) => if t.p = .own ∧ t.k ≤ k then (match tyAs G Γ1 (t :: Θ) ps as with
      | some (ts, Γ2) => some (t :: ts, Γ2)
      | none => none) else none
    | none => none
  | .ino k :: ps, .ino i as => match Γ[i]? with
    | some (some _) => match tyAs G Γ (imm :: Θ) ps as with
      | some (ts, Γ2) => match Γ2[i]? with
        | some (some u) => if u.p = .own ∧ u.k ≤ k ∧ noBor i Θ ∧ noBor i ts ∧ as.inos.contains i = false then some (imm :: ts, Γ2.set i (some ⟨.own, k⟩)) else none
        | _ => none
      | none => none
    | _ => none
  | _, _ => none
def tyIt (G : TC) (Γ : List STy) (Θ : List Ty) : It → Option (List Ty × Ty × List STy)
  | .val l e => match tyE G Γ Θ e with
    | some (t, Γ1) => if t.p.isOwn = true ∧ 2 ≤ t.k then none else if l then (if t.k = 0 then none else if t.k = 1 then some ([t], imm, Γ1) else if t.p = .frz then some ([t], ⟨.frz, t.k - 1⟩, Γ1) else none) else (if t.k = 0 then some ([t], imm, Γ1) else none)
    | none => none
  | .rng es => match tyEs G Γ Θ es with
    | some (ts, Γ1) => if ts.all (fun t => t.k == 0) then some ([], imm, Γ1) else none
    | none => none
  | .enum l e => match tyE G Γ Θ e with
    | some (t, Γ1) => if t.k ≤ 1 ∧ (l = true ∨ t.k = 0) then some ([t], imm, Γ1) else none
    | none => none
  | .zip l1 l2 a b => match tyE G Γ Θ a with
    | some (t, Γ1) => match tyE G Γ1 (t :: Θ) b with
      | some (u, Γ2) => if t.k ≤ 1 ∧ (l1 = true ∨ t.k = 0) ∧ u.k ≤ 1 ∧ (l2 = true ∨ u.k = 0) then some ([u, t], imm, Γ2) else none
      | none => none
    | none => none
end
/-- what a statement is checked by: the promise of the def; B: what holds where a loop is left or goes on -/
structure RC where
  ino : List (Nat × Nat)
  k : Nat
/-- not a place that is handed on -/
def RC.free (R : RC) (i : Nat) : Bool := R.ino.all fun p => p.1 != i
def retOk (R : RC) (t : Ty) (Γ : List STy) : Bool := t.free && decide (t.k ≤ R.k) && R.ino.all fun p => subTy (Γ[p.1]?.join) (some ⟨.own, p.2⟩)
abbrev SRes := Option (Option (List STy))
def joinR : Option (List STy) → Option (List STy) → Option (List STy)
  | none, b => b
  | a, none => a
  | some a, some b => some (joinΓ a b)
mutual
def tyS (G : TC) (R : RC) (B : List STy) (Γ : List STy) (Θ : List Ty) : S → SRes
  | .asg t e => match tyE G Γ Θ e with
    | some (u, Γ1) => match t with
      | .nm i => if i < Γ1.length ∧ (u.k = 0 ∨ u.p = .frz ∨ u.p = .own) ∧ noBor i Θ ∧ R.free i then some (some (Γ1.set i (some (if u.k = 0 then imm else u)))) else none
      | .tp is => if u.k = 0 ∧ is.all (fun i => decide (i < Γ1.length) && noBor i Θ && R.free i) then some (some (setTs is imm Γ1)) else none
    | none => none
  | .setI i k e => match tyE G Γ Θ e with
    | some (u, Γ1) => if (Γ1[i]?.join).isNone then none else match tyE G Γ1 (u :: Θ) k with
      | some (w, Γ2) => match Γ2[i]? with
        | some (some t) => if t.p = .own ∧ noBor i Θ ∧ noBor i [u] ∧ u.free ∧ u.k + 1 ≤ t.k ∧ w.k = 0 then some (some Γ2) else none
        | _ => none
      | none => none
    | none => none
  | .expr e => match tyE G Γ Θ e with
    | some (_, Γ1) => some (some Γ1)
    | none => none
  | .ret e => match tyE G Γ Θ e with
    | some (t, Γ1) => if retOk R t Γ1 then some none else none
    | none => none
  | .retN => if retOk R imm Γ then some none else none
  | .if_ c a b => match tyE G Γ Θ c with
    | some (_, Γ1) => match tySs G R B Γ1 Θ a, tySs G R B Γ1 Θ b with
      | some x, some y => match joinR x y with
        | some Δ => if (match x with | some Γ => subΓ Γ Δ | none => true) && (match y with | some Γ => subΓ Γ Δ | none => true) then some (some Δ) else none
        | none => some none
      | _, _ => none
    | none => none
  | .for_ Δ t it b => match tyIt G Γ Θ it with
    | some (us, u, Γ1) => if subΓ Γ1 Δ && elemOk t u && t.slots.all (fun i => decide (i < Δ.length) && noBor i (us ++ Θ) && R.free i) then
        (match tySs G R Δ (setTs t.slots u Δ) (us ++ Θ) b with
          | some (some Γ2) => if subΓ Γ2 Δ then some (some Δ) else none
          | some none => some (some Δ)
          | none => none) else none
    | none => none
  | .while_ Δ c b => if subΓ Γ Δ then
      (match tyE G Δ Θ c with
        | some (_, Γ1) => if subΓ Γ1 Δ then (match tySs G R Δ Γ1 Θ b with
          | some (some Γ2) => if subΓ Γ2 Δ then some (some Δ) else none
          | some none => some (some Δ)
          | none => none) else none
        | none => none) else none
  | .brk => if subΓ Γ B then some none else none
  | .cnt => if subΓ Γ B then some none else none
  | .pass => some (some Γ)
  | .dead => some none
def tySs (G : TC) (R : RC) (B : List STy) (Γ : List STy) (Θ : List Ty) : Ss → SRes
  | .nil => some (some Γ)
  | .cons s ss => match tyS G R B Γ Θ s with
    | some (some Γ1) => tySs G R B Γ1 Θ ss
    | some none => some none
    | none => none
end
end Pm

namespace Pm
open PySem L2

def hiTmp (n : Nat) : Id → Prop | .tmp j => n ≤ j | _ => False
theorem tempsOff_hi {n : Nat} : ∀ {Θ : List Ty}, Θ.length ≤ n → tempsOff (hiTmp n) Θ
  | [], _ => trivial
  | ty :: Θ, h => by
    have h' : Θ.length < n := by simp at h; omega
    refine ⟨?_, tempsOff_hi (Nat.le_of_lt h')⟩
    cases hp : ty.p with
    | own => exact fun z => absurd (show n ≤ Θ.length from z) (by omega)
    | frz => exact fun z => z
    | bor xs => exact ⟨fun z => z, fun i _ z => z⟩
theorem slotsOff_hi {n : Nat} {Γ : List STy} : slotsOff (hiTmp n) Γ := fun i ty _ => by
  cases hp : ty.p with
  | own => exact fun z => z
  | frz => exact fun z => z
  | bor xs => exact ⟨fun z => z, fun i _ z => z⟩
theorem TempOk.drop {K : PySem.W.Frag} {H : Hp} {ow : Addr → Id} {Θ : List Ty} {θ : List (D × V)} : ∀ {Θs : List Ty} {θs : List (D × V)}, TempOk K H ow (Θs ++ Θ) (θs ++ θ) → Θs.length = θs.length → TempOk K H ow Θ θ
  | [], [], h, _ => h
  | _ :: Θs, (_, _) :: θs, h, e => TempOk.drop (Θs := Θs) (θs := θs) h.2 (by simpa using e)
  | [], _ :: _, _, e => by simp at e
  | _ :: _, [], _, e => by simp at e

section
variable {K : PySem.W.Frag} {H0 H H' : Hp} {M : Addr → Prop} {ow ow' : Addr → Id} {Γ Γ' : List STy} {ρ : Penv} {σ : St} {Θ Θs : List Ty} {θ θs : List (D × V)}
open Classical in
/-- the temporaries above are taken; what is told is new, or made of them -/
theorem Rw.res (R : Rw K H0 M ow Γ ρ σ (Θs ++ Θ) (θs ++ θ) H) (hl : Θs.length = θs.length) {d : D} {v : V} {F : Fp} {k : Nat} (r : Rep true K H' d v F) (hd : d.dep k = true) (nd : F.Nodup)
    (hF : ∀ a ∈ F, H a = none ∨ hiTmp Θ.length (ow a)) (x : Ext (fun a => hiTmp Θ.length (ow a)) H H') : Rel K H0 M Γ ρ σ (⟨.own, k⟩ :: Θ) ((d, v) :: θ) H' := by
  have nz : ∀ i, hiTmp Θ.length i → i ≠ .frz := fun i z e => by subst e; exact z
  refine ⟨fun a => if a ∈ F then .tmp Θ.length else if hiTmp Θ.length (ow a) then .frz else ow a, ?_⟩
  have s : Step (hiTmp Θ.length) ow (fun a => if a ∈ F then .tmp Θ.length else if hiTmp Θ.length (ow a) then .frz else ow a) H H' := by
    refine ⟨x, fun a h1 h2 => ?_, fun a h => (R.lab a (nz _ h)).1⟩
    have : a ∉ F := fun hm => (hF a hm).elim h1 h2
    simp [this, h2]
  have mt := r.mut
  refine ⟨R.lρ, R.lσ, R.nb, fun i ty d' h1 h2 => ?_, ⟨⟨F, r, hd, nd, fun a ha => by simp [ha]⟩, (R.temp.drop hl).step s (tempsOff_hi (Nat.le_refl _))⟩, ?_, fun a h => ?_, fun a j h => ?_⟩
  · obtain ⟨v', e, q⟩ := R.slot i ty d' h1 h2
    exact ⟨v', e, q.step s (slotsOff_hi i ty h1)⟩
  · refine ⟨fun a h m => ?_, fun a h => x.there a (R.ext.there a h)⟩
    rw [x.keep a (R.ext.there a h) fun z => ?_]
    · exact R.ext.keep a h m
    · rcases (R.lab a (nz _ z)).2 with q | q
      · exact m q
      · exact h q
  · by_cases ha : a ∈ F
    · refine ⟨mt a ha, ?_⟩
      rcases hF a ha with q | q
      · exact .inr (Classical.byContradiction fun z => (R.ext.there a z) q)
      · exact (R.lab a (nz _ q)).2
    · simp only [ha, if_false] at h
      by_cases hh : hiTmp Θ.length (ow a)
      · simp [hh] at h
      · simp only [hh, if_false] at h
        obtain ⟨m1, m2⟩ := R.lab a h
        refine ⟨?_, m2⟩
        rw [x.keep a (mut_ne m1) hh]; exact m1
  · by_cases ha : a ∈ F
    · simp only [ha, if_true, Id.tmp.injEq] at h
      subst h; simp
    · simp only [ha, if_false] at h
      by_cases hh : hiTmp Θ.length (ow a)
      · simp [hh] at h
      · simp only [hh, if_false] at h
        simp only [List.length_cons]
        rw [h] at hh
        exact Nat.lt_succ_of_lt (Nat.lt_of_not_le hh)
/-- .. a value without lists -/
theorem Rw.resI (R : Rw K H0 M ow Γ ρ σ (Θs ++ Θ) (θs ++ θ) H) (hl : Θs.length = θs.length) {d : D} {v : V} (r : Rep true K H' d v []) (hd : d.dep 0 = true)
    (x : Ext (fun a => hiTmp Θ.length (ow a)) H H') : Rel K H0 M Γ ρ σ (imm :: Θ) ((d, v) :: θ) H' := by
  obtain ⟨ow', R'⟩ := R.res hl r hd List.nodup_nil (fun a h => by simp at h) x
  refine ⟨ow', R'.lρ, R'.lσ, R'.nb, R'.slot, ⟨R'.temp.1.imm rfl, R'.temp.2⟩, R'.ext, R'.lab, R'.hiT⟩
theorem Rel.imm (R : Rel K H0 M Γ ρ σ Θ θ H) {d : D} {v : V} (r : Rep true K H d v []) (hd : d.dep 0 = true) : Rel K H0 M Γ ρ σ (imm :: Θ) ((d, v) :: θ) H := by
  obtain ⟨ow, R⟩ := R
  exact R.resI (Θs := []) (θs := []) rfl r hd Ext.refl
/-- only the types of the temporaries are changed -/
theorem Rel.ext' (x : Ext (fun _ => False) H H') (R : Rel K H0 M Γ ρ σ Θ θ H) : Rel K H0 M Γ ρ σ Θ θ H' := by
  obtain ⟨ow, R⟩ := R
  refine ⟨ow, R.step (T := fun _ => False) ⟨x, fun _ _ _ => rfl, fun _ h => h.elim⟩ ?_ ?_ id (fun a h => ⟨?_, (R.lab a h).2⟩) R.hiT⟩
  · intro i ty _
    cases ty.p with
    | own => exact id
    | frz => exact id
    | bor xs => exact ⟨id, fun _ _ => id⟩
  · have : ∀ {Θ : List Ty}, tempsOff (fun _ => False) Θ := by
      intro Θ
      induction Θ with
      | nil => trivial
      | cons ty Θ ih =>
        refine ⟨?_, ih⟩
        cases ty.p with
        | own => exact id
        | frz => exact id
        | bor xs => exact ⟨id, fun _ _ => id⟩
    exact this
  · rw [x.keep a (mut_ne (R.lab a h).1) id]; exact (R.lab a h).1

/-! ### a slot is read -/
theorem Rw.borrow (R : Rw K H0 M ow Γ ρ σ Θ θ H) {i : Nat} {ty : Ty} {d : D} (h1 : Γ[i]? = some (some ty)) (h2 : ρ[i]? = some (some d)) {ty' : Ty} (hk : ty'.k = ty.k)
    (hp : ty'.k = 0 ∨ (ty.p = .own ∧ ty'.p = .bor [i]) ∨ (ty.p = .frz ∧ ty'.p = .frz)) : ∃ v, σ[i]? = some (some v) ∧ Rw K H0 M ow Γ ρ σ (ty' :: Θ) ((d, v) :: θ) H := by
  obtain ⟨v, e, q⟩ := R.slot i ty d h1 h2
  refine ⟨v, e, R.push ?_⟩
  rcases hp with z | ⟨z1, z2⟩ | ⟨z1, z2⟩
  · exact q.imm (by rw [← hk]; exact z)
  · obtain ⟨F, r, hd, hl⟩ := q
    rw [z1] at hl
    rw [z1] at r
    exact ⟨F, by rw [z2]; exact r, by rw [hk]; exact hd, by rw [z2]; exact fun a ha => .inr ⟨i, by simp, hl.2 a ha⟩⟩
  · obtain ⟨F, r, hd, hl⟩ := q
    rw [z1] at hl
    exact ⟨F, by rw [z2]; exact r.weak, by rw [hk]; exact hd, by rw [z2]; exact hl⟩
/-- labels of a slot are given up to frz: what is borrowed of it may stay -/
def frzSlot (i : Nat) (ow : Addr → Id) : Addr → Id := fun a => if ow a = .slot i then .frz else ow a
theorem EntOk.frzSlot {id : Id} {ty : Ty} {d : D} {v : V} {i : Nat} (h : EntOk K H ow id ty d v) (hn : ty.p = .own → id ≠ .slot i) : EntOk K H (frzSlot i ow) id ty d v := by
  obtain ⟨F, r, hd, hl⟩ := h
  refine ⟨F, r, hd, ?_⟩
  cases hp : ty.p with
  | own =>
    rw [hp] at hl
    refine ⟨hl.1, fun a ha => ?_⟩
    unfold Pm.frzSlot
    rw [hl.2 a ha, if_neg (hn hp)]
  | frz =>
    rw [hp] at hl
    intro a ha
    unfold Pm.frzSlot
    rw [hl a ha]; simp
  | bor xs =>
    rw [hp] at hl
    intro a ha
    unfold Pm.frzSlot
    rcases hl a ha with e | ⟨j, hj, e⟩
    · rw [e]; left; simp
    · rw [e]
      by_cases ej : j = i
      · left; simp [ej]
      · right; exact ⟨j, hj, by simp [ej]⟩
theorem TempOk.frzSlot {i : Nat} : ∀ {Θ : List Ty} {θ : List (D × V)}, TempOk K H ow Θ θ → TempOk K H (frzSlot i ow) Θ θ
  | [], [], _ => trivial
  | _ :: Θ, (_, _) :: θ, h => ⟨h.1.frzSlot (fun _ e => by cases e), TempOk.frzSlot h.2⟩
  | [], _ :: _, h => h.elim
  | _ :: _, [], h => h.elim
theorem Rw.freeze (R : Rw K H0 M ow Γ ρ σ Θ θ H) {i : Nat} {ty : Ty} (h1 : Γ[i]? = some (some ty)) {k : Nat} (hk : ty.k ≤ k) : Rw K H0 M (frzSlot i ow) (Γ.set i (some ⟨.frz, k⟩)) ρ σ Θ θ H where
  lρ := by rw [List.length_set]; exact R.lρ
  lσ := by rw [List.length_set]; exact R.lσ
  nb := fun j ty' h => by
    by_cases e : i = j
    · subst e
      rw [List.getElem?_set_self (List.getElem?_eq_some_iff.mp h1).1] at h; cases h; exact .inr rfl
    · rw [List.getElem?_set_ne e] at h; exact R.nb j ty' h
  slot := fun j ty' d h h2 => by
    by_cases e : i = j
    · subst e
      rw [List.getElem?_set_self (List.getElem?_eq_some_iff.mp h1).1] at h; cases h
      obtain ⟨v, e, F, r, hd, hl⟩ := R.slot i ty d h1 h2
      refine ⟨v, e, F, r.weak, D.dep_mono hk d hd, fun a ha => ?_⟩
      unfold Pm.frzSlot
      rcases R.nb i ty h1 with z | z
      · rw [z] at hl; rw [hl.2 a ha]; simp
      · rw [z] at hl; rw [hl a ha]; simp
    · rw [List.getElem?_set_ne e] at h
      obtain ⟨v, e', q⟩ := R.slot j ty' d h h2
      exact ⟨v, e', q.frzSlot fun _ z => e (Id.slot.inj z).symm⟩
  temp := R.temp.frzSlot
  ext := R.ext
  lab := fun a h => R.lab a fun e => by
    unfold Pm.frzSlot at h
    rw [e] at h; simp at h
  hiT := fun a j h => by
    unfold Pm.frzSlot at h
    by_cases e : ow a = .slot i
    · simp [e] at h
    · rw [if_neg e] at h; exact R.hiT a j h
/-- a slot's labels go over to a new temporary -/
theorem TempOk.noBor {i : Nat} {T : Id → Prop} (hT : ∀ j, T j ↔ j = .slot i) : ∀ {Θ : List Ty}, Pm.noBor i Θ = true → tempsOff T Θ
  | [], _ => trivial
  | ty :: Θ, h => by
    unfold Pm.noBor at h
    rw [List.all_cons, Bool.and_eq_true] at h
    have h' := h
    refine ⟨?_, TempOk.noBor hT h'.2⟩
    cases hp : ty.p with
    | own => exact fun z => by have := (hT _).mp z; cases this
    | frz => exact fun z => by have := (hT _).mp z; cases this
    | bor xs =>
      rw [hp] at h'
      refine ⟨fun z => (by have := (hT _).mp z; cases this), fun j hj z => ?_⟩
      have e := Id.slot.inj ((hT _).mp z)
      subst e
      simp [hj] at h'
theorem slotsOff_one {i : Nat} {T : Id → Prop} (hT : ∀ j, T j ↔ j = .slot i) (hb : ∀ (j : Nat) (ty : Ty), Γ[j]? = some (some ty) → ty.p = .own ∨ ty.p = .frz) (hn : ∀ ty, Γ[i]? ≠ some (some ty)) : slotsOff T Γ := fun j ty h => by
  rcases hb j ty h with z | z
  · rw [z]
    intro q
    have e := Id.slot.inj ((hT _).mp q)
    subst e
    exact hn ty h
  · rw [z]
    exact fun q => by have := (hT _).mp q; cases this
theorem get_set_none {i : Nat} (ty : Ty) : (Γ.set i none)[i]? ≠ some (some ty) := by
  rw [List.getElem?_set, if_pos rfl]
  split <;> simp
theorem Rw.move (R : Rw K H0 M ow Γ ρ σ Θ θ H) {i : Nat} {ty : Ty} {d : D} (h1 : Γ[i]? = some (some ty)) (h2 : ρ[i]? = some (some d)) (hp : ty.p = .own) (hn : Pm.noBor i Θ = true) :
    ∃ v ow', σ[i]? = some (some v) ∧ Rw K H0 M ow' (Γ.set i none) ρ σ (ty :: Θ) ((d, v) :: θ) H := by
  obtain ⟨v, e, F, r, hd, hl⟩ := R.slot i ty d h1 h2
  rw [hp] at hl
  have s : Step (fun j => j = .slot i) ow (fun a => if ow a = .slot i then .tmp Θ.length else ow a) H H :=
    ⟨Ext.refl, fun a _ h => if_neg h, fun a h => (R.lab a (by rw [h]; simp)).1⟩
  have hT : ∀ j : Id, j = .slot i ↔ j = .slot i := fun _ => Iff.rfl
  have R1 := R.kill i
  refine ⟨v, fun a => if ow a = .slot i then .tmp Θ.length else ow a, e, R1.lρ, R1.lσ, R1.nb, fun j ty' d' h h' => ?_, ⟨⟨F, r, hd, ?_⟩, R.temp.step s (TempOk.noBor hT hn)⟩, R.ext, fun a h => ?_, fun a j h => ?_⟩
  · obtain ⟨v', e', q⟩ := R1.slot j ty' d' h h'
    exact ⟨v', e', q.step s (slotsOff_one hT R1.nb (get_set_none) j ty' h)⟩
  · rw [hp]
    exact ⟨hl.1, fun a ha => by simp [hl.2 a ha]⟩
  · by_cases z : ow a = .slot i
    · exact R.lab a (by rw [z]; simp)
    · simp only [z, if_false] at h; exact R.lab a h
  · by_cases z : ow a = .slot i
    · simp only [z, if_true, Id.tmp.injEq] at h; subst h; simp
    · simp only [z, if_false] at h
      exact Nat.lt_succ_of_lt (R.hiT a j h)
end
end Pm

namespace Pm
open PySem L2

section
variable {K : PySem.W.Frag} {H0 H H' : Hp} {M : Addr → Prop} {ow ow' : Addr → Id} {Γ Γ' : List STy} {ρ : Penv} {σ : St} {Θ Θs : List Ty} {θ θs : List (D × V)}
/-- the topmost temporary goes into a slot -/
theorem Rw.store (R : Rw K H0 M ow Γ ρ σ (ty :: Θ) ((d, v) :: θ) H) {i : Nat} (hi : i < Γ.length) (hp : ty.k = 0 ∨ ty.p = .frz ∨ ty.p = .own) :
    Rel K H0 M (Γ.set i (some (if ty.k = 0 then imm else ty))) (ρ.set i (some d)) (σ.set i (some v)) Θ θ H := by
  obtain ⟨⟨F, r, hd, hl⟩, ht⟩ := R.temp
  have s : Step (fun j => j = .tmp Θ.length) ow (fun a => if ow a = .tmp Θ.length then .slot i else ow a) H H :=
    ⟨Ext.refl, fun a _ h => if_neg h, fun a h => (R.lab a (by rw [h]; simp)).1⟩
  have hT : ∀ {ty : Ty} {j : Nat}, ty.p.off (fun j => j = .tmp Θ.length) (.slot j) := fun {ty j} => by
    cases ty.p with
    | own => exact fun z => by cases z
    | frz => exact fun z => by cases z
    | bor xs => exact ⟨fun z => (by cases z), fun _ _ z => (by cases z)⟩
  have tOff : ∀ {Ξ : List Ty}, Ξ.length ≤ Θ.length → tempsOff (fun j => j = .tmp Θ.length) Ξ := by
    intro Ξ
    induction Ξ with
    | nil => intro _; trivial
    | cons ty Ξ ih =>
      intro h
      simp at h
      refine ⟨?_, ih (by omega)⟩
      cases ty.p with
      | own => exact fun z => by have := Id.tmp.inj z; omega
      | frz => exact fun z => by cases z
      | bor xs => exact ⟨fun z => (by cases z), fun _ _ z => (by cases z)⟩
  refine ⟨fun a => if ow a = .tmp Θ.length then .slot i else ow a, ?_⟩
  have Q : Rw K H0 M (fun a => if ow a = .tmp Θ.length then .slot i else ow a) Γ ρ σ Θ θ H := by
    refine ⟨R.lρ, R.lσ, R.nb, fun j ty' d' h h' => ?_, ht.step s (tOff (Nat.le_refl _)), R.ext, fun a h => R.lab a fun e => by rw [e] at h; simp at h, fun a j h => ?_⟩
    · obtain ⟨v', e', q⟩ := R.slot j ty' d' h h'
      exact ⟨v', e', q.step s hT⟩
    · by_cases z : ow a = .tmp Θ.length
      · simp [z] at h
      · simp only [z, if_false] at h
        have := R.hiT a j h
        simp at this
        have : j ≠ Θ.length := fun e => z (by rw [h, e])
        omega
  refine Q.put hi ?_ ?_
  · by_cases h0 : ty.k = 0
    · rw [if_pos h0]; exact .inr rfl
    · rw [if_neg h0]
      rcases hp with z | z | z
      · exact absurd z h0
      · exact .inr z
      · exact .inl z
  · by_cases h0 : ty.k = 0
    · rw [if_pos h0]
      have e : EntOk K H ow (.tmp Θ.length) ty d v := ⟨F, r, hd, hl⟩
      exact e.imm h0
    · rw [if_neg h0]
      refine ⟨F, r, hd, ?_⟩
      rcases hp with z | z | z
      · exact absurd z h0
      · rw [z] at hl ⊢
        exact fun a ha => by simp [hl a ha]
      · rw [z] at hl ⊢
        exact ⟨hl.1, fun a ha => by simp [hl.2 a ha]⟩

/-- the labels that a change of the slots is and of the temporaries above takes -/
def touch (is : List Nat) (n : Nat) : Id → Prop
  | .slot i => i ∈ is
  | .tmp j => n ≤ j
  | .frz => False
theorem touch_nf {is : List Nat} {n : Nat} {i : Id} (h : touch is n i) : i ≠ .frz := fun e => by subst e; exact h
theorem tempsOff_touch {is : List Nat} {n : Nat} : ∀ {Θ : List Ty}, Θ.length ≤ n → (∀ i ∈ is, Pm.noBor i Θ = true) → tempsOff (touch is n) Θ
  | [], _, _ => trivial
  | ty :: Θ, h, hb => by
    have h' : Θ.length < n := by simp at h; omega
    have hb' : ∀ i ∈ is, (match ty.p with | .bor xs => !xs.contains i | _ => true) = true ∧ Pm.noBor i Θ = true := fun i hi => by
      have := hb i hi
      unfold Pm.noBor at this
      rw [List.all_cons, Bool.and_eq_true] at this
      exact this
    refine ⟨?_, tempsOff_touch (Nat.le_of_lt h') fun i hi => (hb' i hi).2⟩
    cases hp : ty.p with
    | own => exact fun z => absurd (show n ≤ Θ.length from z) (by omega)
    | frz => exact fun z => z
    | bor xs =>
      refine ⟨fun z => z, fun j hj z => ?_⟩
      have := (hb' j z).1
      rw [hp] at this
      simp [hj] at this
def labL : List (Nat × Fp) → Addr → Option Nat
  | [], _ => none
  | p :: L, a => if a ∈ p.2 then some p.1 else labL L a
theorem labL_mem : ∀ {L : List (Nat × Fp)} {a : Addr} {i : Nat}, labL L a = some i → ∃ p ∈ L, p.1 = i ∧ a ∈ p.2
  | [], _, _, h => by cases h
  | p :: L, a, i, h => by
    unfold labL at h
    by_cases e : a ∈ p.2
    · rw [if_pos e] at h; cases h; exact ⟨p, List.mem_cons_self, rfl, e⟩
    · rw [if_neg e] at h
      obtain ⟨q, hq, z⟩ := labL_mem h
      exact ⟨q, List.mem_cons_of_mem _ hq, z⟩
theorem labL_of : ∀ {L : List (Nat × Fp)} {a : Addr} {p : Nat × Fp}, (L.map (·.2)).flatten.Nodup → p ∈ L → a ∈ p.2 → labL L a = some p.1
  | q :: L, a, p, nd, hp, ha => by
    simp only [List.map_cons, List.flatten_cons] at nd
    obtain ⟨_, nd2, dj⟩ := List.nodup_append.mp nd
    unfold labL
    rcases List.mem_cons.mp hp with rfl | hp
    · rw [if_pos ha]
    · rw [if_neg fun e => ?_]
      · exact labL_of nd2 hp ha
      · exact dj a e a (List.mem_flatten.mpr ⟨p.2, List.mem_map.mpr ⟨p, hp, rfl⟩, ha⟩) rfl
open Classical in
/-- the slots in L are changed; a new temporary is told; those above are taken -/
theorem Rw.swap (R : Rw K H0 M ow Γ ρ σ (Θs ++ Θ) (θs ++ θ) H) (hl : Θs.length = θs.length) {L : List (Nat × Fp)} {d : D} {v : V} {Fr : Fp} {k : Nat} {ρ' : Penv}
    (hn : ∀ i ∈ L.map (·.1), Pm.noBor i Θ = true) (x : Ext (fun a => touch (L.map (·.1)) Θ.length (ow a)) H H')
    (nd : (Fr ++ (L.map (·.2)).flatten).Nodup) (hFr : ∀ a ∈ Fr, H a = none ∨ touch (L.map (·.1)) Θ.length (ow a)) (hFs : ∀ p ∈ L, ∀ a ∈ p.2, H a = none ∨ touch (L.map (·.1)) Θ.length (ow a))
    (r : Rep true K H' d v Fr) (hd : d.dep k = true) (lρ : ρ'.length = ρ.length)
    (hL : ∀ p ∈ L, ∃ kk d' v', Γ[p.1]? = some (some ⟨.own, kk⟩) ∧ σ[p.1]? = some (some v') ∧ ρ'[p.1]? = some (some d') ∧ Rep true K H' d' v' p.2 ∧ d'.dep kk = true)
    (hO : ∀ i, i ∉ L.map (·.1) → ρ'[i]? = ρ[i]?) : Rel K H0 M Γ ρ' σ (⟨.own, k⟩ :: Θ) ((d, v) :: θ) H' := by
  obtain ⟨T, hTd⟩ : ∃ T : Id → Prop, T = touch (L.map (·.1)) Θ.length := ⟨_, rfl⟩
  rw [← hTd] at x hFr hFs
  have nz : ∀ i, T i → i ≠ .frz := fun i z => by rw [hTd] at z; exact touch_nf z
  obtain ⟨nd1, nd2, dj⟩ := List.nodup_append.mp nd
  obtain ⟨w, hw⟩ : ∃ w : Addr → Id, w = fun a => if a ∈ Fr then .tmp Θ.length else match labL L a with | some i => .slot i | none => if T (ow a) then .frz else ow a := ⟨_, rfl⟩
  have w1 : ∀ a ∈ Fr, w a = .tmp Θ.length := fun a ha => by rw [hw]; simp [ha]
  have w2 : ∀ p ∈ L, ∀ a ∈ p.2, w a = .slot p.1 := fun p hp a ha => by
    have n : a ∉ Fr := fun z => dj a z a (List.mem_flatten.mpr ⟨p.2, List.mem_map.mpr ⟨p, hp, rfl⟩, ha⟩) rfl
    rw [hw]; simp [n, labL_of nd2 hp ha]
  have w3 : ∀ a, w a = .tmp Θ.length ∧ a ∈ Fr ∨ (∃ p ∈ L, w a = .slot p.1 ∧ a ∈ p.2) ∨ (w a = .frz ∧ T (ow a)) ∨ (w a = ow a ∧ ¬ T (ow a)) := fun a => by
    by_cases h1 : a ∈ Fr
    · exact .inl ⟨w1 a h1, h1⟩
    · cases h2 : labL L a with
      | some i =>
        obtain ⟨p, hp, e, ha⟩ := labL_mem h2
        exact .inr (.inl ⟨p, hp, w2 p hp a ha, ha⟩)
      | none =>
        by_cases h3 : T (ow a)
        · exact .inr (.inr (.inl ⟨by rw [hw]; simp [h1, h2, h3], h3⟩))
        · exact .inr (.inr (.inr ⟨by rw [hw]; simp [h1, h2, h3], h3⟩))
  have s : Step T ow w H H' := by
    refine ⟨x, fun a h1 h2 => ?_, fun a h => (R.lab a (nz _ h)).1⟩
    rcases w3 a with ⟨_, z⟩ | ⟨p, hp, _, z⟩ | ⟨_, z⟩ | ⟨z, _⟩
    · exact ((hFr a z).elim h1 h2).elim
    · exact ((hFs p hp a z).elim h1 h2).elim
    · exact absurd z h2
    · exact z
  refine ⟨w, by rw [lρ]; exact R.lρ, R.lσ, R.nb, fun i ty d' h1 h2 => ?_, ⟨⟨Fr, r, hd, nd1, w1⟩, (R.temp.drop hl).step s ?_⟩, ?_, fun a h => ?_, fun a j h => ?_⟩
  · by_cases hi : i ∈ L.map (·.1)
    · obtain ⟨p, hp, rfl⟩ := List.mem_map.mp hi
      obtain ⟨kk, d2, v', g1, g2, g3, g4, g5⟩ := hL p hp
      rw [g1] at h1; rw [g3] at h2
      cases h1; cases h2
      refine ⟨v', g2, p.2, g4, g5, ?_, w2 p hp⟩
      exact nd2.sublist (List.sublist_flatten_of_mem (List.mem_map.mpr ⟨p, hp, rfl⟩))
    · rw [hO i hi] at h2
      obtain ⟨v', e, q⟩ := R.slot i ty d' h1 h2
      refine ⟨v', e, q.step s ?_⟩
      rcases R.nb i ty h1 with z | z
      · rw [z, hTd]; exact hi
      · rw [z]; exact fun q => nz _ q rfl
  · rw [hTd]; exact tempsOff_touch (Nat.le_refl _) hn
  · refine ⟨fun a h m => ?_, fun a h => x.there a (R.ext.there a h)⟩
    rw [x.keep a (R.ext.there a h) fun z => ?_]
    · exact R.ext.keep a h m
    · rcases (R.lab a (nz _ z)).2 with q | q
      · exact m q
      · exact h q
  · have old : ∀ b, (H b = none ∨ T (ow b)) → M b ∨ H0 b = none := fun b q => by
      rcases q with q | q
      · exact .inr (Classical.byContradiction fun z => (R.ext.there b z) q)
      · exact (R.lab b (nz _ q)).2
    rcases w3 a with ⟨_, z⟩ | ⟨p, hp, _, z⟩ | ⟨e, _⟩ | ⟨e, z⟩
    · exact ⟨r.mut a z, old a (hFr a z)⟩
    · obtain ⟨kk, d2, v', _, _, _, g4, _⟩ := hL p hp
      exact ⟨g4.mut a z, old a (hFs p hp a z)⟩
    · exact absurd e h
    · rw [e] at h
      obtain ⟨m1, m2⟩ := R.lab a h
      exact ⟨by rw [x.keep a (mut_ne m1) z]; exact m1, m2⟩
  · rcases w3 a with ⟨e, _⟩ | ⟨p, hp, e, _⟩ | ⟨e, _⟩ | ⟨e, z⟩
    · rw [e] at h; cases h; simp
    · rw [e] at h; cases h
    · rw [e] at h; cases h
    · rw [e] at h
      rw [hTd, h] at z
      simp only [List.length_cons]
      exact Nat.lt_succ_of_lt (Nat.lt_of_not_le z)
/-- .. and the told one is let go -/
theorem Rel.pop {ty : Ty} {p : D × V} (R : Rel K H0 M Γ ρ σ (ty :: Θ) (p :: θ) H) : Rel K H0 M Γ ρ σ Θ θ H := by
  obtain ⟨ow, R⟩ := R
  have R' : Rw K H0 M ow Γ ρ σ ([ty] ++ Θ) ([p] ++ θ) H := R
  obtain ⟨w, q⟩ := R'.swap (L := []) (d := .non) (v := .non) (Fr := []) (k := 0) (ρ' := ρ) rfl (fun _ h => by simp at h) Ext.refl (by simp) (fun _ h => by simp at h) (fun _ h => by simp at h) .non rfl rfl (fun _ h => by simp at h) fun _ _ => rfl
  obtain ⟨_, ht⟩ := q.temp
  have e := q.temp.1
  refine ⟨fun a => if w a = .tmp Θ.length then .frz else w a, q.lρ, q.lσ, q.nb, fun i ty d h1 h2 => ?_, ?_, q.ext, fun a h => ?_, fun a j h => ?_⟩
  · obtain ⟨v', e, q'⟩ := q.slot i ty d h1 h2
    refine ⟨v', e, q'.step (T := fun j => j = .tmp Θ.length) ⟨Ext.refl, fun a _ h => if_neg h, fun a h => (q.lab a (by rw [h]; simp)).1⟩ ?_⟩
    rcases q.nb i ty h1 with z | z
    · rw [z]; exact fun z => by cases z
    · rw [z]; exact fun z => by cases z
  · refine ht.step (T := fun j => j = .tmp Θ.length) ⟨Ext.refl, fun a _ h => if_neg h, fun a h => (q.lab a (by rw [h]; simp)).1⟩ ?_
    have : ∀ {Ξ : List Ty}, Ξ.length ≤ Θ.length → tempsOff (fun j => j = .tmp Θ.length) Ξ := by
      intro Ξ
      induction Ξ with
      | nil => intro _; trivial
      | cons ty Ξ ih =>
        intro h
        simp at h
        refine ⟨?_, ih (by omega)⟩
        cases ty.p with
        | own => exact fun z => by have := Id.tmp.inj z; omega
        | frz => exact fun z => by cases z
        | bor xs => exact ⟨fun z => (by cases z), fun _ _ z => (by cases z)⟩
    exact this (Nat.le_refl _)
  · by_cases z : w a = .tmp Θ.length
    · simp [z] at h
    · simp only [z, if_false] at h; exact q.lab a h
  · by_cases z : w a = .tmp Θ.length
    · simp [z] at h
    · simp only [z, if_false] at h
      have := q.hiT a j h
      simp at this
      have : j ≠ Θ.length := fun e => z (by rw [h, e])
      omega
theorem Rel.drop : ∀ {Θs : List Ty} {θs : List (D × V)}, Θs.length = θs.length → Rel K H0 M Γ ρ σ (Θs ++ Θ) (θs ++ θ) H → Rel K H0 M Γ ρ σ Θ θ H
  | [], [], _, R => R
  | _ :: Θs, _ :: θs, e, R => Rel.drop (Θs := Θs) (θs := θs) (by simpa using e) (Rel.pop R)
  | [], _ :: _, e, _ => by simp at e
  | _ :: _, [], e, _ => by simp at e
end
end Pm

namespace Pm
open PySem L2

/-- a new value: its lists are new, all else stays -/
def New (K : PySem.W.Frag) (H H' : Hp) (d : D) (v : V) (k : Nat) : Prop :=
  ∃ F, Rep true K H' d v F ∧ d.dep k = true ∧ F.Nodup ∧ (∀ a ∈ F, H a = none) ∧ Ext (fun _ => False) H H'
theorem New.same {K : PySem.W.Frag} {H : Hp} {d : D} {v : V} (r : Rep true K H d v []) (h : d.dep 0 = true) : New K H H d v 0 :=
  ⟨[], r, h, List.nodup_nil, fun _ h => by simp at h, Ext.refl⟩
theorem Rep.immw {w : Bool} {K : PySem.W.Frag} {H : Hp} {d : D} {v : V} {F : Fp} (r : Rep w K H d v F) (h : d.dep 0 = true) : New K H H d v 0 := New.same (r.imm h).2 h
theorem ext_new {H : Hp} {p : Addr} {o : HO} (h : H p = none) : Ext (fun _ => False) H (upd H p o) := Ext.upd (.inl h)
theorem Reps.up {w : Bool} {K : PySem.W.Frag} {H : Hp} {p : Addr} {o : HO} {ds : List D} {vs : List V} {F : Fp} (r : Reps w K H ds vs F) (h : H p = none) : Reps w K (upd H p o) ds vs F :=
  r.ext (ext_new h) (fun _ h => h.elim) fun _ _ h => h
theorem Rep.up {w : Bool} {K : PySem.W.Frag} {H : Hp} {p : Addr} {o : HO} {d : D} {v : V} {F : Fp} (r : Rep w K H d v F) (h : H p = none) : Rep w K (upd H p o) d v F :=
  r.ext (ext_new h) (fun _ h => h.elim) fun _ _ h => h
/-- a new list of values without lists -/
theorem New.list {w : Bool} {K : PySem.W.Frag} {H : Hp} {p : Addr} {ds : List D} {vs : List V} {F : Fp} (r : Reps w K H ds vs F) (hd : D.deps 0 ds = true) (h : H p = none) : New K H (upd H p (.lst vs)) (.lst ds) (.ref p) 1 := by
  obtain ⟨_, q⟩ := r.imm hd
  refine ⟨[p], .lst upd_same (q.up h), by simpa [D.dep] using hd, by simp, fun a ha => ?_, ext_new h⟩
  simp at ha; subst ha; exact h
theorem New.tup {w : Bool} {K : PySem.W.Frag} {H : Hp} {p : Addr} {ds : List D} {vs : List V} {F : Fp} (r : Reps w K H ds vs F) (hd : D.deps 0 ds = true) (h : H p = none) : New K H (upd H p (.tup vs)) (.tup ds) (.ref p) 0 := by
  obtain ⟨_, q⟩ := r.imm hd
  exact ⟨[], .tup (.inl (.inl upd_same)) (q.up h), by simpa [D.dep] using hd, List.nodup_nil, fun _ h => by simp at h, ext_new h⟩
theorem New.str {K : PySem.W.Frag} {H : Hp} {s : List Nat} (h : ∀ c ∈ s, c < 0x110000) : New K H H (.str s) (.str (toStr s)) 0 := New.same (.str s h) (by simp [D.dep])
theorem New.int {K : PySem.W.Frag} {H : Hp} {i : Int} : New K H H (.int i) (.int i) 0 := New.same (.int i) (by simp [D.dep])
theorem New.bl {K : PySem.W.Frag} {H : Hp} {i : Bool} : New K H H (.bl i) (.bl i) 0 := New.same (.bl i) (by simp [D.dep])
theorem New.non {K : PySem.W.Frag} {H : Hp} : New K H H .non .non 0 := New.same .non (by simp [D.dep])

theorem toStr_app (a b : List Nat) : toStr a ++ toStr b = toStr (a ++ b) := by
  show (⟨(toStr a).cps ++ (toStr b).cps⟩ : Str) = _
  simp [toStr]
theorem toStr_len (a : List Nat) : (toStr a).length = a.length := by
  show (toStr a).cps.size = _
  simp [toStr]
theorem toStr_list (a : List Nat) : (toStr a).cps.toList = a := by simp [toStr]

/-! ### what the values are, by the datum -/
theorem Rep.int_inv {w : Bool} {K : PySem.W.Frag} {H : Hp} {i : Int} {v : V} {F : Fp} (r : Rep w K H (.int i) v F) : v = .int i := by cases r; rfl
theorem Rep.bl_inv {w : Bool} {K : PySem.W.Frag} {H : Hp} {i : Bool} {v : V} {F : Fp} (r : Rep w K H (.bl i) v F) : v = .bl i := by cases r; rfl
theorem Rep.str_inv {w : Bool} {K : PySem.W.Frag} {H : Hp} {s : List Nat} {v : V} {F : Fp} (r : Rep w K H (.str s) v F) : v = .str (toStr s) ∧ ∀ c ∈ s, c < 0x110000 := by cases r; exact ⟨rfl, by assumption⟩
theorem Rep.non_inv {w : Bool} {K : PySem.W.Frag} {H : Hp} {v : V} {F : Fp} (r : Rep w K H .non v F) : v = .non := by cases r; rfl
theorem Rep.tup_inv {w : Bool} {K : PySem.W.Frag} {H : Hp} {ds : List D} {v : V} {F : Fp} (r : Rep w K H (.tup ds) v F) : ∃ a vs, v = .ref a ∧ SqT K H a vs ∧ Reps w K H ds vs F := by cases r; exact ⟨_, _, rfl, by assumption, by assumption⟩
theorem Rep.lst_inv {w : Bool} {K : PySem.W.Frag} {H : Hp} {ds : List D} {v : V} {F : Fp} (r : Rep w K H (.lst ds) v F) : ∃ a vs G, v = .ref a ∧ SqL K H a vs ∧ Reps w K H ds vs G ∧ (∀ x ∈ G, x ∈ F) ∧ (w = true → H a = some (.lst vs) ∧ F = a :: G) := by
  cases r with
  | lst h r => exact ⟨_, _, _, rfl, .inl (.inl h), r, fun x hx => List.mem_cons_of_mem _ hx, fun _ => ⟨h, rfl⟩⟩
  | lstF hw h r => exact ⟨_, _, _, rfl, .inl (.inr ⟨_, h⟩), r, fun x hx => hx, fun z => by rw [hw] at z; cases z⟩
  | lstW hw h r => exact ⟨_, _, _, rfl, h _, r, fun x hx => hx, fun z => by rw [hw] at z; cases z⟩

/-! ### operators -/
theorem OpR.or {X : Cx} {f : Value → Value → Sem Value} {r r' : R2} (h : OpR X f r) (h' : OpR X f r') : OpR X f (fun x y H Q => r x y H Q ∨ r' x y H Q) :=
  fun pins s σ H x y v u Q I rx ry q => q.elim (h pins s σ H x y v u Q I rx ry) (h' pins s σ H x y v u Q I rx ry)
theorem OpR.none {X : Cx} {f : Value → Value → Sem Value} : OpR X f (fun _ _ _ _ => False) := fun _ _ _ _ _ _ _ _ _ _ _ _ q => q.elim

def BinOk (K : PySem.W.Frag) (l : Bool) (op : Operator) (r : R2) : Prop := (∀ X : Cx, X.K = K → OpR X (binaryOp op) r) ∧ ∀ (w w' : Bool) (H : Hp) (a b : D) (x y : V) (F G : Fp) (k : D → Prop) (Q : VK), Rep w K H a x F → Rep w' K H b y G →
  (if l then (w = true ∧ w' = true) ∧ a.dep 1 = true ∧ b.dep 1 = true else a.dep 0 = true ∧ b.dep 0 = true) → binK l op a b k → (∀ d v H', k d → New K H H' d v (if l then 1 else 0) → Q v H') → r x y H Q
theorem ixStr {s : List Nat} : (toStr s).length ≤ sizeLine ↔ s.length ≤ sizeLine := by rw [toStr_len]
theorem dep_tup {k : Nat} {ds : List D} : D.dep k (.tup ds) = D.deps k ds := by cases k <;> simp [D.dep]
theorem dep_lst {k : Nat} {ds : List D} : D.dep (k + 1) (.lst ds) = D.deps k ds := by simp [D.dep]
theorem deps_app {k : Nat} {as bs : List D} : D.deps k (as ++ bs) = (D.deps k as && D.deps k bs) := by
  induction as with
  | nil => simp [D.deps]
  | cons a as ih => simp [D.deps, ih, Bool.and_assoc]
def rBin (K : PySem.W.Frag) : Bool → Operator → R2
  | true, .Add => rCat
  | false, .Add => fun x y H Q => rI0 (fun i j => .int (i + j)) x y H Q ∨ ((∃ i j, x = .str i ∧ y = .str j ∧ i.length + j.length ≤ sizeLine ∧ Q (.str (i ++ j)) H) ∨ rCatA K x y H Q)
  | false, .Sub => rI0 fun i j => .int (i - j)
  | false, .Mult => fun x y H Q => rI CMul (fun i j => .int (i * j)) x y H Q ∨ rMulS x y H Q
  | false, .FloorDiv => rI CDiv fun i j => .int (i / j)
  | false, .Mod => rI (fun _ j => 0 < j) fun i j => .int (i % j)
  | false, .Pow => rI CPow fun i j => .int (i ^ j.toNat)
  | _, _ => fun _ _ _ _ => False
theorem bin_ok (K : PySem.W.Frag) (l : Bool) (op : Operator) : BinOk K l op (rBin K l op) := by
  have bad : (∀ a b k, ¬ binK l op a b k) → BinOk K l op (fun _ _ _ _ => False) := fun h => ⟨fun _ _ => OpR.none, fun _ _ _ a b _ _ _ _ k _ _ _ _ q _ => h a b k q⟩
  cases l with
  | true =>
    cases op with
    | Add =>
      refine ⟨fun X e => by subst e; exact op_cat, fun w w' H a b x y F G k Q ra rb hd h q => ?_⟩
      obtain ⟨⟨hw, hw'⟩, da, db⟩ := (by simpa using hd : (w = true ∧ w' = true) ∧ a.dep 1 = true ∧ b.dep 1 = true)
      obtain ⟨xs, ys, rfl, rfl, h⟩ : ∃ xs ys, a = .lst xs ∧ b = .lst ys ∧ xs.length + ys.length ≤ sizeLine ∧ k (.lst (xs ++ ys)) := by
        cases a <;> cases b <;> first | exact False.elim h | exact ⟨_, _, rfl, rfl, h⟩
      obtain ⟨p, vs, G1, rfl, _, r1, _, g1⟩ := ra.lst_inv
      obtain ⟨p2, vs2, G2, rfl, _, r2, _, g2⟩ := rb.lst_inv
      rw [dep_lst] at da db
      refine ⟨p, p2, vs, vs2, rfl, rfl, (g1 hw).1, (g2 hw').1, by rw [← r1.len, ← r2.len]; exact h.1, fun l hl => q _ _ _ h.2 ?_⟩
      exact New.list (r1.weak.app r2.weak) (by rw [deps_app, da, db]; rfl) hl
    | _ => exact bad fun a b k h => by simp [binK] at h
  | false =>
    cases op with
    | Add =>
      refine ⟨fun X e => by subst e; exact op_add.or (op_add_str.or op_catA), fun w w' H a b x y F G k Q ra rb hd h q => ?_⟩
      obtain ⟨da, db⟩ := (by simpa using hd : a.dep 0 = true ∧ b.dep 0 = true)
      have hc : (∃ i j, a = .int i ∧ b = .int j ∧ k (.int (i + j))) ∨ (∃ i j, a = .str i ∧ b = .str j ∧ i.length + j.length ≤ sizeLine ∧ k (.str (i ++ j))) ∨
          (∃ i j, a = .tup i ∧ b = .tup j ∧ i ≠ [] ∧ i.length + j.length ≤ sizeLine ∧ k (.tup (i ++ j))) := by
        cases a <;> cases b <;> first | exact False.elim h | exact .inl ⟨_, _, rfl, rfl, h⟩ | exact .inr (.inl ⟨_, _, rfl, rfl, h⟩) | exact .inr (.inr ⟨_, _, rfl, rfl, h⟩)
      rcases hc with ⟨i, j, rfl, rfl, h⟩ | ⟨i, j, rfl, rfl, h⟩ | ⟨xs, ys, rfl, rfl, h⟩
      · rw [ra.int_inv, rb.int_inv]
        exact .inl ⟨_, _, rfl, rfl, q _ _ _ h New.int⟩
      · obtain ⟨rfl, h1⟩ := ra.str_inv
        obtain ⟨rfl, h2⟩ := rb.str_inv
        refine .inr (.inl ⟨_, _, rfl, rfl, by rw [toStr_len, toStr_len]; exact h.1, ?_⟩)
        rw [toStr_app]
        exact q _ _ _ h.2 (New.str fun c hc => (List.mem_append.mp hc).elim (h1 c) (h2 c))
      · obtain ⟨p, vs, rfl, s1, r1⟩ := ra.tup_inv
        obtain ⟨p2, vs2, rfl, s2, r2⟩ := rb.tup_inv
        rw [dep_tup] at da db
        refine .inr (.inr ⟨p, p2, vs, vs2, rfl, rfl, s1, s2, by rw [← r1.len, ← r2.len]; exact h.2.1, fun e => ?_, fun _ e => ?_, fun _ _ l hl => ?_⟩)
        · subst e
          have := r1.len
          exact absurd (List.length_eq_zero_iff.mp this) h.1
        · subst e
          have e2 : ys = [] := List.length_eq_zero_iff.mp r2.len
          subst e2
          refine q (.tup (xs ++ [])) _ _ h.2.2 ?_
          rw [List.append_nil]
          exact ra.immw (by rw [dep_tup]; exact da)
        · exact q _ _ _ h.2.2 (New.tup (r1.weak.app r2.weak) (by rw [deps_app, da, db]; rfl) hl)
    | Sub =>
      refine ⟨fun X e => by subst e; exact op_sub, fun w w' H a b x y F G k Q ra rb hd h q => ?_⟩
      obtain ⟨i, j, rfl, rfl, h⟩ : ∃ i j, a = .int i ∧ b = .int j ∧ k (.int (i - j)) := by
        cases a <;> cases b <;> first | exact False.elim h | exact ⟨_, _, rfl, rfl, h⟩
      rw [ra.int_inv, rb.int_inv]
      exact ⟨_, _, rfl, rfl, q _ _ _ h New.int⟩
    | Mult =>
      refine ⟨fun X e => by subst e; exact op_mul.or op_mul_str, fun w w' H a b x y F G k Q ra rb hd h q => ?_⟩
      have hc : (∃ i j, a = .int i ∧ b = .int j ∧ CMul i j ∧ k (.int (i * j))) ∨ (∃ s n, a = .str s ∧ b = .int n ∧ (2 ≤ n ∧ 1 ≤ s.length ∧ s.length * n.toNat ≤ 1000000) ∧ k (.str (List.replicate n.toNat s).flatten)) := by
        cases a <;> cases b <;> first | exact False.elim h | exact .inl ⟨_, _, rfl, rfl, h⟩ | exact .inr ⟨_, _, rfl, rfl, h⟩
      clear h
      rcases hc with ⟨i, j, rfl, rfl, h⟩ | ⟨s, n, rfl, rfl, h⟩
      · rw [ra.int_inv, rb.int_inv]
        exact .inl ⟨_, _, rfl, rfl, h.1, q _ _ _ h.2 New.int⟩
      · rw [rb.int_inv]
        obtain ⟨rfl, h1⟩ := ra.str_inv
        refine .inr ⟨_, _, rfl, rfl, by rw [toStr_len]; exact h.1, ?_⟩
        have gen : ∀ (m : Nat) (acc : Array Nat), (List.replicate m (toStr s).cps).foldl (· ++ ·) acc = acc ++ (List.replicate m s).flatten.toArray := by
          intro m
          induction m with
          | zero => intro acc; simp
          | succ m ih => intro acc; rw [List.replicate_succ, List.foldl_cons, ih, List.replicate_succ, List.flatten_cons]; simp [toStr]
        rw [gen]
        have e : (⟨#[] ++ (List.replicate n.toNat s).flatten.toArray⟩ : Str) = toStr (List.replicate n.toNat s).flatten := by simp [toStr]
        rw [e]
        refine q _ _ _ h.2 (New.str fun c hc => ?_)
        obtain ⟨l, hl, hcl⟩ := List.mem_flatten.mp hc
        rw [List.eq_of_mem_replicate hl] at hcl
        exact h1 c hcl
    | FloorDiv =>
      refine ⟨fun X e => by subst e; exact op_fdiv, fun w w' H a b x y F G k Q ra rb hd h q => ?_⟩
      obtain ⟨i, j, rfl, rfl, h⟩ : ∃ i j, a = .int i ∧ b = .int j ∧ CDiv i j ∧ k (.int (i / j)) := by
        cases a <;> cases b <;> first | exact False.elim h | exact ⟨_, _, rfl, rfl, h⟩
      rw [ra.int_inv, rb.int_inv]
      exact ⟨_, _, rfl, rfl, h.1, q _ _ _ h.2 New.int⟩
    | Mod =>
      refine ⟨fun X e => by subst e; exact op_mod, fun w w' H a b x y F G k Q ra rb hd h q => ?_⟩
      obtain ⟨i, j, rfl, rfl, h⟩ : ∃ i j, a = .int i ∧ b = .int j ∧ 0 < j ∧ k (.int (i % j)) := by
        cases a <;> cases b <;> first | exact False.elim h | exact ⟨_, _, rfl, rfl, h⟩
      rw [ra.int_inv, rb.int_inv]
      exact ⟨_, _, rfl, rfl, h.1, q _ _ _ h.2 New.int⟩
    | Pow =>
      refine ⟨fun X e => by subst e; exact op_pow, fun w w' H a b x y F G k Q ra rb hd h q => ?_⟩
      obtain ⟨i, j, rfl, rfl, h⟩ : ∃ i j, a = .int i ∧ b = .int j ∧ CPow i j ∧ k (.int (i ^ j.toNat)) := by
        cases a <;> cases b <;> first | exact False.elim h | exact ⟨_, _, rfl, rfl, h⟩
      rw [ra.int_inv, rb.int_inv]
      exact ⟨_, _, rfl, rfl, h.1, q _ _ _ h.2 New.int⟩
    | _ => exact bad fun a b k h => by simp [binK] at h

/-! ### comparisons -/
mutual
def D.py : D → PyData
  | .bl b => .bool b
  | .int i => .int i
  | .str s => .str (toStr s)
  | .tup xs => .tuple (D.pys xs)
  | .lst xs => .list (D.pys xs)
  | _ => .none
def D.pys : List D → List PyData
  | [] => []
  | x :: xs => D.py x :: D.pys xs
end
theorem toStr_inj {a b : List Nat} : toStr a = toStr b ↔ a = b := ⟨fun h => by have := congrArg (fun s => s.cps.toList) h; simpa [toStr] using this, fun h => by rw [h]⟩
theorem strbeq (a b : List Nat) : (toStr a == toStr b) = (a == b) := by
  rw [Bool.eq_iff_iff]; simp [toStr_inj]
mutual
theorem py_eq : ∀ (n m : Nat) (a b : D), a.ht n = true → b.ht m = true → PyData.eqv a.py b.py = D.eq a b
  | n, m, .tup xs, .tup ys, h, h' => by
    cases n with
    | zero => simp [D.ht] at h
    | succ n => cases m with
      | zero => simp [D.ht] at h'
      | succ m => simp only [D.ht] at h h'; simp only [D.py, PyData.eqv, D.eq]; exact pys_eq n m xs ys h h'
  | n, m, .lst xs, .lst ys, h, h' => by
    cases n with
    | zero => simp [D.ht] at h
    | succ n => cases m with
      | zero => simp [D.ht] at h'
      | succ m => simp only [D.ht] at h h'; simp only [D.py, PyData.eqv, D.eq]; exact pys_eq n m xs ys h h'
  | n, m, .non, b, h, h' => by cases b <;> first | (simp [D.py, PyData.eqv, D.eq]; done) | (cases m <;> simp [D.ht] at h')
  | n, m, .bl _, b, h, h' => by cases b <;> first | (simp [D.py, PyData.eqv, D.eq]; done) | (cases m <;> simp [D.ht] at h')
  | n, m, .int _, b, h, h' => by cases b <;> first | (simp [D.py, PyData.eqv, D.eq]; done) | (cases m <;> simp [D.ht] at h')
  | n, m, .str _, b, h, h' => by cases b <;> first | (simp [D.py, PyData.eqv, D.eq, strbeq]; done) | (cases m <;> simp [D.ht] at h')
  | n, m, .dic _ _, b, h, h' => by cases n <;> simp [D.ht] at h
  | n, m, .set _, b, h, h' => by cases n <;> simp [D.ht] at h
  | n, m, .ins _ _, b, h, h' => by cases n <;> simp [D.ht] at h
  | n, m, .fn _, b, h, h' => by cases n <;> simp [D.ht] at h
  | n, m, .tup _, .non, h, h' => by simp [D.py, PyData.eqv, D.eq]
  | n, m, .tup _, .bl _, h, h' => by simp [D.py, PyData.eqv, D.eq]
  | n, m, .tup _, .int _, h, h' => by simp [D.py, PyData.eqv, D.eq]
  | n, m, .tup _, .str _, h, h' => by simp [D.py, PyData.eqv, D.eq]
  | n, m, .tup _, .lst _, h, h' => by simp [D.py, PyData.eqv, D.eq]
  | n, m, .tup _, .dic _ _, h, h' => by cases m <;> simp [D.ht] at h'
  | n, m, .tup _, .set _, h, h' => by cases m <;> simp [D.ht] at h'
  | n, m, .tup _, .ins _ _, h, h' => by cases m <;> simp [D.ht] at h'
  | n, m, .tup _, .fn _, h, h' => by cases m <;> simp [D.ht] at h'
  | n, m, .lst _, .non, h, h' => by simp [D.py, PyData.eqv, D.eq]
  | n, m, .lst _, .bl _, h, h' => by simp [D.py, PyData.eqv, D.eq]
  | n, m, .lst _, .int _, h, h' => by simp [D.py, PyData.eqv, D.eq]
  | n, m, .lst _, .str _, h, h' => by simp [D.py, PyData.eqv, D.eq]
  | n, m, .lst _, .tup _, h, h' => by simp [D.py, PyData.eqv, D.eq]
  | n, m, .lst _, .dic _ _, h, h' => by cases m <;> simp [D.ht] at h'
  | n, m, .lst _, .set _, h, h' => by cases m <;> simp [D.ht] at h'
  | n, m, .lst _, .ins _ _, h, h' => by cases m <;> simp [D.ht] at h'
  | n, m, .lst _, .fn _, h, h' => by cases m <;> simp [D.ht] at h'
theorem pys_eq : ∀ (n m : Nat) (as bs : List D), D.hts n as = true → D.hts m bs = true → PyData.eqvAll (D.pys as) (D.pys bs) = D.eqs as bs
  | _, _, [], [], _, _ => by simp [D.pys, PyData.eqvAll, D.eqs]
  | _, _, [], _ :: _, _, _ => by simp [D.pys, PyData.eqvAll, D.eqs]
  | _, _, _ :: _, [], _, _ => by simp [D.pys, PyData.eqvAll, D.eqs]
  | n, m, a :: as, b :: bs, h, h' => by
    simp only [D.hts, Bool.and_eq_true] at h h'
    simp only [D.pys, PyData.eqvAll, D.eqs]
    rw [py_eq n m a b h.1 h'.1, pys_eq n m as bs h.2 h'.2]
end
mutual
theorem py_shape {w : Bool} {K : PySem.W.Frag} {H : Hp} : ∀ (n : Nat) {a : D} {v : V} {F : Fp}, Rep w K H a v F → a.ht n = true → Dp K H v a.py ∧ a.py.canLay0 = true ∧ a.py.depth ≤ n
  | n, _, _, _, .non, h => ⟨.non, by simp [D.py, PyData.canLay0], by simp [D.py, PyData.depth]⟩
  | n, _, _, _, .bl b, h => ⟨.bl b, by simp [D.py, PyData.canLay0], by simp [D.py, PyData.depth]⟩
  | n, _, _, _, .int b, h => ⟨.int b, by simp [D.py, PyData.canLay0], by simp [D.py, PyData.depth]⟩
  | n, _, _, _, .str b hc, h => ⟨.str _, by simp [D.py, PyData.canLay0, PyData.strOk, toStr]; exact hc, by simp [D.py, PyData.depth]⟩
  | 0, _, _, _, .tup _ _, h => by simp [D.ht] at h
  | n + 1, _, _, _, .tup hs r, h => by
    simp only [D.ht] at h
    obtain ⟨h1, h2, h3⟩ := pys_shape n r h
    exact ⟨.tup hs h1, by simpa [D.py, PyData.canLay0] using h2, by simp only [D.py, PyData.depth]; omega⟩
  | 0, _, _, _, .lst _ _, h => by simp [D.ht] at h
  | n + 1, _, _, _, .lst hs r, h => by
    simp only [D.ht] at h
    obtain ⟨h1, h2, h3⟩ := pys_shape n r h
    exact ⟨.lst (.inl (.inl hs)) h1, by simpa [D.py, PyData.canLay0] using h2, by simp only [D.py, PyData.depth]; omega⟩
  | 0, _, _, _, .lstF _ _ _, h => by simp [D.ht] at h
  | n + 1, _, _, _, .lstF _ hs r, h => by
    simp only [D.ht] at h
    obtain ⟨h1, h2, h3⟩ := pys_shape n r h
    exact ⟨.lst (.inl (.inr ⟨_, hs⟩)) h1, by simpa [D.py, PyData.canLay0] using h2, by simp only [D.py, PyData.depth]; omega⟩
  | 0, _, _, _, .lstW _ _ _, h => by simp [D.ht] at h
  | n + 1, _, _, _, .lstW _ hs r, h => by
    simp only [D.ht] at h
    obtain ⟨h1, h2, h3⟩ := pys_shape n r h
    exact ⟨.lst (hs H) h1, by simpa [D.py, PyData.canLay0] using h2, by simp only [D.py, PyData.depth]; omega⟩
theorem pys_shape {w : Bool} {K : PySem.W.Frag} {H : Hp} : ∀ (n : Nat) {as : List D} {vs : List V} {F : Fp}, Reps w K H as vs F → D.hts n as = true → DpAll K H vs (D.pys as) ∧ PyData.canLayAll0 (D.pys as) = true ∧ PyData.depthAll (D.pys as) ≤ n
  | n, _, _, _, .nil, _ => ⟨.nil, by simp [D.pys, PyData.canLayAll0], by simp [D.pys, PyData.depthAll]⟩
  | n, _, _, _, .cons r t, h => by
    simp only [D.hts, Bool.and_eq_true] at h
    obtain ⟨h1, h2, h3⟩ := py_shape n r h.1
    obtain ⟨g1, g2, g3⟩ := pys_shape n t h.2
    exact ⟨.cons h1 g1, by simp only [D.pys, PyData.canLayAll0, h2, g2]; rfl, by simp only [D.pys, PyData.depthAll]; omega⟩
end
theorem Rep.dp {w : Bool} {K : PySem.W.Frag} {H : Hp} {a : D} {v : V} {F : Fp} (r : Rep w K H a v F) (h : a.ht 60 = true) : Dp K H v a.py ∧ SeqAt.shaped a.py = true := by
  obtain ⟨h1, h2, h3⟩ := py_shape 60 r h
  refine ⟨h1, ?_⟩
  unfold SeqAt.shaped
  rw [h2, Bool.true_and, decide_eq_true_eq]
  omega
theorem pys_any (x : D) (n : Nat) (hx : x.ht n = true) : ∀ (ys : List D) (m : Nat), D.hts m ys = true → ((D.pys ys).any fun z => PyData.eqv z x.py) = ys.any fun y => y.eq x
  | [], _, _ => by simp [D.pys]
  | y :: ys, m, h => by
    simp only [D.hts, Bool.and_eq_true] at h
    simp only [D.pys, List.any_cons]
    rw [py_eq m n y x h.1 hx, pys_any x n hx ys m h.2]
theorem sc_flat {w : Bool} {K : PySem.W.Frag} {H : Hp} {a : D} {v : V} {F : Fp} (r : Rep w K H a v F) (h : a.sc = true) : flatV v = true := by
  cases r <;> first | rfl | (simp [D.sc] at h)
theorem sc_eq {w w' : Bool} {K : PySem.W.Frag} {H : Hp} {a b : D} {v u : V} {F G : Fp} (r : Rep w K H a v F) (r' : Rep w' K H b u G) (h : a.sc = true) (h' : b.sc = true) : eqV v u = a.eq b := by
  cases r <;> first | (simp [D.sc] at h; done) | (cases r' <;> first | (simp [D.sc] at h'; done) | (simp [eqV, D.eq, strbeq]; done) | rfl)
theorem scs {w w' : Bool} {K : PySem.W.Frag} {H : Hp} {b : D} {u : V} {G : Fp} (r' : Rep w' K H b u G) (h' : b.sc = true) : ∀ {as : List D} {vs : List V} {F : Fp}, Reps w K H as vs F → as.all D.sc = true → vs.all flatV = true ∧ inV u vs = as.any fun y => y.eq b
  | _, _, _, .nil, _ => ⟨rfl, rfl⟩
  | _, _, _, .cons r t, h => by
    simp only [List.all_cons, Bool.and_eq_true] at h
    obtain ⟨h1, h2⟩ := scs r' h' t h.2
    refine ⟨by rw [List.all_cons, sc_flat r h.1, h1]; rfl, ?_⟩
    unfold inV at h2 ⊢
    rw [List.any_cons, List.any_cons, sc_eq r r' h.1 h', h2]

theorem ints_inv {w : Bool} {K : PySem.W.Frag} {H : Hp} : ∀ {bs : List Int} {vs : List V} {F : Fp}, Reps w K H (bs.map .int) vs F → vs = bs.map .int
  | [], _, _, .nil => rfl
  | _ :: bs, _, _, .cons h t => by rw [h.int_inv, ints_inv t]; rfl
def CmpOk (K : PySem.W.Frag) (op : CmpOp) (r : R2) : Prop := (∀ X : Cx, X.K = K → X.A.units + 65 < cLine → OpR X (compareOp op) r) ∧ ∀ (w w' : Bool) (H : Hp) (a b : D) (x y : V) (F G : Fp) (k : D → Prop) (Q : VK), Rep w K H a x F → Rep w' K H b y G →
  cmpK op a b k → (∀ c, k (.bl c) → Q (.bl c) H) → r x y H Q
def rCmp (K : PySem.W.Frag) : CmpOp → R2
  | .Lt => fun x y H Q => rI0 (fun i j => .bl (decide (i < j))) x y H Q ∨ rLtL K x y H Q
  | .LtE => fun x y H Q => rI0 (fun i j => .bl (decide (i ≤ j))) x y H Q ∨ rLeS x y H Q
  | .Gt => rI0 fun i j => .bl (decide (j < i))
  | .GtE => rI0 fun i j => .bl (decide (j ≤ i))
  | .Eq => rEqD K
  | .NotEq => rNeD K
  | .In => fun x y H Q => (∃ (c : Nat) (z : Str), x = .str ⟨#[c]⟩ ∧ y = .str z ∧ Q (.bl (decide (c ∈ z.cps.toList))) H) ∨ (rIn K false x y H Q ∨ rInD K x y H Q)
  | .NotIn => fun x y H Q => (∃ (c : Nat) (z : Str), x = .str ⟨#[c]⟩ ∧ y = .str z ∧ Q (.bl (!decide (c ∈ z.cps.toList))) H) ∨ (rIn K true x y H Q ∨ rNotInD K x y H Q)
  | .Is => fun x y H Q => y = .non ∧ Q (.bl (decide (x = .non))) H
  | .IsNot => fun x y H Q => y = .non ∧ Q (.bl (!decide (x = .non))) H
theorem cmpI {K : PySem.W.Frag} {op : CmpOp} {g : Int → Int → Bool} (h : ∀ X : Cx, OpR X (compareOp op) (rI0 fun i j => .bl (g i j))) (hk : ∀ a b k, cmpK op a b k → ∃ i j, a = .int i ∧ b = .int j ∧ k (.bl (g i j))) : CmpOk K op (rI0 fun i j => .bl (g i j)) :=
  ⟨fun X _ _ => h X, fun w w' H a b x y F G k Q ra rb h q => by
    obtain ⟨i, j, rfl, rfl, e⟩ := hk a b k h
    rw [ra.int_inv, rb.int_inv]
    exact ⟨i, j, rfl, rfl, q _ e⟩⟩
theorem cmp_ok (K : PySem.W.Frag) (op : CmpOp) : CmpOk K op (rCmp K op) := by
  cases op with
  | Lt =>
    refine ⟨fun X e hu => by subst e; exact op_lt.or (op_lt_ints hu), fun w w' H a b x y F G k Q ra rb h q => ?_⟩
    have hc : (∃ i j, a = .int i ∧ b = .int j ∧ k (.bl (decide (i < j)))) ∨ (∃ is js : List Int, a = .lst (is.map .int) ∧ b = .lst (js.map .int) ∧ k (.bl (listLtI is js))) := by
      cases a <;> cases b <;> first | exact False.elim h | exact .inl ⟨_, _, rfl, rfl, h⟩ | skip
      obtain ⟨is, js, rfl, rfl, h⟩ := h
      exact .inr ⟨_, _, rfl, rfl, h⟩
    clear h
    rcases hc with ⟨i, j, rfl, rfl, h⟩ | ⟨is, js, rfl, rfl, h⟩
    · rw [ra.int_inv, rb.int_inv]
      exact .inl ⟨_, _, rfl, rfl, q _ h⟩
    · obtain ⟨p, vs, _, rfl, s1, r1, _⟩ := ra.lst_inv
      obtain ⟨p2, us, _, rfl, s2, r2, _⟩ := rb.lst_inv
      exact .inr ⟨p, p2, is, js, rfl, rfl, by rw [← ints_inv r1]; exact s1, by rw [← ints_inv r2]; exact s2, q _ h⟩
  | LtE =>
    refine ⟨fun X e hu => by subst e; exact op_le.or op_le_str, fun w w' H a b x y F G k Q ra rb h q => ?_⟩
    have hc : (∃ i j, a = .int i ∧ b = .int j ∧ k (.bl (decide (i ≤ j)))) ∨ (∃ i j, a = .str i ∧ b = .str j ∧ k (.bl (!decide (j < i)))) := by
      cases a <;> cases b <;> first | exact False.elim h | exact .inl ⟨_, _, rfl, rfl, h⟩ | exact .inr ⟨_, _, rfl, rfl, h⟩
    clear h
    rcases hc with ⟨i, j, rfl, rfl, h⟩ | ⟨i, j, rfl, rfl, h⟩
    · rw [ra.int_inv, rb.int_inv]
      exact .inl ⟨_, _, rfl, rfl, q _ h⟩
    · obtain ⟨rfl, h1⟩ := ra.str_inv
      obtain ⟨rfl, h2⟩ := rb.str_inv
      exact .inr ⟨_, _, rfl, rfl, by rw [toStr_list, toStr_list]; exact q _ h⟩
  | Gt => exact cmpI (fun _ => op_gt) fun a b k h => by cases a <;> cases b <;> first | exact False.elim h | exact ⟨_, _, rfl, rfl, h⟩
  | GtE => exact cmpI (fun _ => op_ge) fun a b k h => by cases a <;> cases b <;> first | exact False.elim h | exact ⟨_, _, rfl, rfl, h⟩
  | Eq =>
    refine ⟨fun X e hu => by subst e; exact op_eqD (by omega), fun w w' H a b x y F G k Q ra rb h q => ?_⟩
    obtain ⟨h1, h2, h3⟩ : a.ht 60 = true ∧ b.ht 60 = true ∧ k (.bl (a.eq b)) := h
    refine ⟨_, _, (ra.dp h1).1, (rb.dp h2).1, (ra.dp h1).2, (rb.dp h2).2, ?_⟩
    rw [py_eq 60 60 a b h1 h2]; exact q _ h3
  | NotEq =>
    refine ⟨fun X e hu => by subst e; exact op_neD (by omega), fun w w' H a b x y F G k Q ra rb h q => ?_⟩
    obtain ⟨h1, h2, h3⟩ : a.ht 60 = true ∧ b.ht 60 = true ∧ k (.bl (!a.eq b)) := h
    refine ⟨_, _, (ra.dp h1).1, (rb.dp h2).1, (ra.dp h1).2, (rb.dp h2).2, ?_⟩
    rw [py_eq 60 60 a b h1 h2]; exact q _ h3
  | In =>
    refine ⟨fun X e hu => by subst e; exact op_in_sign.or (op_in_seq.or (op_inD hu)), fun w w' H a b x y F G k Q ra rb h q => ?_⟩
    have hc : (∃ c y, a = .str [c] ∧ b = .str y ∧ k (.bl (decide (c ∈ y)))) ∨ (∃ ys, b = .tup ys ∧ a.sc = true ∧ ys.all D.sc = true ∧ k (.bl (ys.any fun y => y.eq a))) ∨
        (∃ ys, b = .lst ys ∧ a.ht 60 = true ∧ D.hts 59 ys = true ∧ k (.bl (ys.any fun y => y.eq a))) := by
      cases b with
      | tup ys => exact .inr (.inl ⟨_, rfl, by cases a <;> exact h⟩)
      | lst ys => exact .inr (.inr ⟨_, rfl, by cases a <;> exact h⟩)
      | str y =>
        cases a with
        | str x => obtain ⟨c, rfl, h⟩ := h; exact .inl ⟨c, y, rfl, rfl, h⟩
        | _ => exact False.elim h
      | _ => cases a <;> exact False.elim h
    clear h
    rcases hc with ⟨c, y, rfl, rfl, h⟩ | ⟨ys, rfl, h⟩ | ⟨ys, rfl, h⟩
    · obtain ⟨rfl, h1⟩ := ra.str_inv
      obtain ⟨rfl, h2⟩ := rb.str_inv
      exact .inl ⟨c, _, rfl, rfl, by rw [toStr_list]; exact q _ h⟩
    · obtain ⟨h1, h2, h3⟩ := h
      obtain ⟨p, vs, rfl, s1, r1⟩ := rb.tup_inv
      obtain ⟨g1, g2⟩ := scs ra h1 r1 h2
      exact .inr (.inl ⟨p, vs, rfl, .inr s1, sc_flat ra h1, g1, by rw [if_neg Bool.false_ne_true, g2]; exact q _ h3⟩)
    · obtain ⟨h1, h2, h3⟩ := h
      have h2' : D.ht 60 (.lst ys) = true := by simpa [D.ht] using h2
      refine .inr (.inr ⟨_, _, (ra.dp h1).1, (rb.dp h2').1, (ra.dp h1).2, (rb.dp h2').2, ?_⟩)
      rw [pys_any a 60 h1 ys 59 h2]; exact q _ h3
  | NotIn =>
    refine ⟨fun X e hu => by subst e; exact op_notIn_sign.or (op_notIn_seq.or (op_notInD hu)), fun w w' H a b x y F G k Q ra rb h q => ?_⟩
    have hc : (∃ c y, a = .str [c] ∧ b = .str y ∧ k (.bl (!decide (c ∈ y)))) ∨ (∃ ys, b = .tup ys ∧ a.sc = true ∧ ys.all D.sc = true ∧ k (.bl (!ys.any fun y => y.eq a))) ∨
        (∃ ys, b = .lst ys ∧ a.ht 60 = true ∧ D.hts 59 ys = true ∧ k (.bl (!ys.any fun y => y.eq a))) := by
      cases b with
      | tup ys => exact .inr (.inl ⟨_, rfl, by cases a <;> exact h⟩)
      | lst ys => exact .inr (.inr ⟨_, rfl, by cases a <;> exact h⟩)
      | str y =>
        cases a with
        | str x => obtain ⟨c, rfl, h⟩ := h; exact .inl ⟨c, y, rfl, rfl, h⟩
        | _ => exact False.elim h
      | _ => cases a <;> exact False.elim h
    clear h
    rcases hc with ⟨c, y, rfl, rfl, h⟩ | ⟨ys, rfl, h⟩ | ⟨ys, rfl, h⟩
    · obtain ⟨rfl, h1⟩ := ra.str_inv
      obtain ⟨rfl, h2⟩ := rb.str_inv
      exact .inl ⟨c, _, rfl, rfl, by rw [toStr_list]; exact q _ h⟩
    · obtain ⟨h1, h2, h3⟩ := h
      obtain ⟨p, vs, rfl, s1, r1⟩ := rb.tup_inv
      obtain ⟨g1, g2⟩ := scs ra h1 r1 h2
      exact .inr (.inl ⟨p, vs, rfl, .inr s1, sc_flat ra h1, g1, by rw [if_pos rfl, g2]; exact q _ h3⟩)
    · obtain ⟨h1, h2, h3⟩ := h
      have h2' : D.ht 60 (.lst ys) = true := by simpa [D.ht] using h2
      refine .inr (.inr ⟨_, _, (ra.dp h1).1, (rb.dp h2').1, (ra.dp h1).2, (rb.dp h2').2, ?_⟩)
      rw [pys_any a 60 h1 ys 59 h2]; exact q _ h3
  | Is =>
    refine ⟨fun X e hu => by subst e; exact op_isN, fun w w' H a b x y F G k Q ra rb h q => ?_⟩
    obtain ⟨rfl, h⟩ : b = .non ∧ k (.bl (match a with | .non => true | _ => false)) := by
      cases b with
      | non => exact ⟨rfl, by cases a <;> exact h⟩
      | _ => cases a <;> exact False.elim h
    refine ⟨rb.non_inv, ?_⟩
    have := q _ h
    cases ra <;> simpa using this
  | IsNot =>
    refine ⟨fun X e hu => by subst e; exact op_notN, fun w w' H a b x y F G k Q ra rb h q => ?_⟩
    obtain ⟨rfl, h⟩ : b = .non ∧ k (.bl (match a with | .non => false | _ => true)) := by
      cases b with
      | non => exact ⟨rfl, by cases a <;> exact h⟩
      | _ => cases a <;> exact False.elim h
    refine ⟨rb.non_inv, ?_⟩
    have := q _ h
    cases ra <;> simpa using this
end Pm

namespace Pm
open PySem L2

/-! ### items, slices -/
def IdxOk (K : PySem.W.Frag) (h : Bool) (r : R2) : Prop := (∀ X : Cx, X.K = K → IxR X r) ∧ ∀ (w w' : Bool) (H : Hp) (a b : D) (x y : V) (F G : Fp) (k : D → Prop) (Q : VK), Rep w K H a x F → Rep w' K H b y G →
  idxK h a b k → (∀ d v E, k d → Rep w K H d v E → (∀ z ∈ E, z ∈ F) → (∀ n, a.dep n = true → d.dep (if h then n - 1 else n) = true) → Q v H) → r x y H Q
theorem atI_get {α β : Type} {xs : List α} {ys : List β} {i : Int} {x : α} (hl : xs.length = ys.length) (h : atI xs i = some x) : ∃ j : Nat, xs[j]? = some x ∧ ∀ y, ys[j]? = some y → atI ys i = some y := by
  unfold atI at h ⊢
  rw [← hl]
  cases e : ixN xs.length i with
  | none => rw [e] at h; simp at h
  | some j => rw [e] at h; exact ⟨j, h, fun y hy => by simpa using hy⟩
theorem deps_get {k : Nat} {ds : List D} {i : Nat} {d : D} (h : D.deps k ds = true) (e : ds[i]? = some d) : d.dep k = true := deps_iff.mp h d (List.mem_of_getElem? e)
theorem idx_ok (K : PySem.W.Frag) (h : Bool) : IdxOk K h (rIx K) := by
  refine ⟨fun X e => by subst e; exact ix_seq, fun w w' H a b x y F G k Q ra rb hk q => ?_⟩
  cases h with
  | true =>
    obtain ⟨ds, i, d, rfl, rfl, e, hd⟩ : ∃ ds i d, a = .lst ds ∧ b = .int i ∧ atI ds i = some d ∧ k d := by
      cases a <;> cases b <;> try exact False.elim hk
      rename_i ds i
      have hk : (match atI ds i with | some x => k x | none => False) := hk
      cases e : atI ds i with
      | none => rw [e] at hk; exact hk.elim
      | some d => rw [e] at hk; exact ⟨ds, i, d, rfl, rfl, e, hk⟩
    obtain ⟨p, vs, G1, rfl, s1, r1, g1, _⟩ := ra.lst_inv
    obtain ⟨j, e1, e2⟩ := atI_get (ys := vs) r1.len e
    obtain ⟨v, E, e3, rv, m⟩ := r1.get e1
    rw [rb.int_inv]
    refine .inl ⟨p, vs, i, v, rfl, rfl, s1, e2 v e3, q d v E hd rv (fun z hz => g1 z (m z hz)) fun n hn => ?_⟩
    cases n with
    | zero => simp [D.dep] at hn
    | succ n => rw [dep_lst] at hn; simpa using deps_get hn e1
  | false =>
    have hc : (∃ ds i d, a = .tup ds ∧ b = .int i ∧ atI ds i = some d ∧ k d) ∨ ∃ s i c, a = .str s ∧ b = .int i ∧ atI s i = some c ∧ s.length ≤ sizeLine ∧ k (.str [c]) := by
      cases a <;> cases b <;> try exact False.elim hk
      · rename_i ds i
        have hk : (match atI ds i with | some x => ds.length ≤ sizeLine ∧ k (.str [x]) | none => False) := hk
        cases e : atI ds i with
        | none => rw [e] at hk; exact hk.elim
        | some d => rw [e] at hk; exact .inr ⟨ds, i, d, rfl, rfl, e, hk⟩
      · rename_i ds i
        have hk : (match atI ds i with | some x => k x | none => False) := hk
        cases e : atI ds i with
        | none => rw [e] at hk; exact hk.elim
        | some d => rw [e] at hk; exact .inl ⟨ds, i, d, rfl, rfl, e, hk⟩
    clear hk
    rcases hc with ⟨ds, i, d, rfl, rfl, e, hd⟩ | ⟨s, i, c, rfl, rfl, e, hz, hd⟩
    · obtain ⟨p, vs, rfl, s1, r1⟩ := ra.tup_inv
      obtain ⟨j, e1, e2⟩ := atI_get (ys := vs) r1.len e
      obtain ⟨v, E, e3, rv, m⟩ := r1.get e1
      rw [rb.int_inv]
      refine .inr (.inl ⟨p, vs, i, v, rfl, rfl, s1, e2 v e3, q d v E hd rv (fun z hz => m z hz) fun n hn => ?_⟩)
      rw [dep_tup] at hn; simpa using deps_get hn e1
    · obtain ⟨rfl, h1⟩ := ra.str_inv
      rw [rb.int_inv]
      refine .inr (.inr ⟨toStr s, i, c, rfl, rfl, by rw [toStr_len]; exact hz, by rw [toStr_list]; exact e, ?_⟩)
      refine q (.str [c]) (.str (toStr [c])) [] hd (.str [c] fun c' hc' => ?_) (fun _ h => by simp at h) fun n _ => by simp [D.dep]
      simp at hc'; subst hc'
      obtain ⟨j, e1, _⟩ := atI_get (ys := s) rfl e
      exact h1 c' (List.mem_of_getElem? e1)

theorem cut_cut {α β : Type} (f : α → β) (xs : List α) (lo hi : Option Int) : cutL (xs.map f) lo hi = (cutL xs lo hi).map f := by
  unfold cutL; rw [List.length_map, List.map_take, List.map_drop]
theorem Reps.cut {w : Bool} {K : PySem.W.Frag} {H : Hp} : ∀ {ds : List D} {vs : List V} {F : Fp} (a b : Nat), Reps w K H ds vs F → ∃ G, Reps w K H ((ds.drop a).take b) ((vs.drop a).take b) G
  | _, _, _, _, _, .nil => ⟨[], by simpa using Reps.nil⟩
  | d :: ds, v :: vs, _, 0, 0, .cons r t => ⟨[], by simpa using Reps.nil⟩
  | d :: ds, v :: vs, _, 0, b + 1, .cons r t => by
    obtain ⟨G, q⟩ := Reps.cut 0 b t
    simp only [List.drop_zero] at q
    exact ⟨_, by simpa using Reps.cons r q⟩
  | d :: ds, v :: vs, _, a + 1, b, .cons r t => by
    obtain ⟨G, q⟩ := Reps.cut a b t
    exact ⟨G, by simpa using q⟩
theorem deps_cut {k : Nat} {ds : List D} (lo hi : Option Int) (h : D.deps k ds = true) : D.deps k (cutL ds lo hi) = true :=
  deps_iff.mpr fun x hx => deps_iff.mp h x (List.mem_of_mem_drop (List.mem_of_mem_take hx))
def SlcOk (K : PySem.W.Frag) (l : Bool) (r : V → Option Int → Option Int → Hp → VK → Prop) : Prop := (∀ X : Cx, X.K = K → SlR X r) ∧ ∀ (w : Bool) (H : Hp) (a : D) (x : V) (F : Fp) (lo hi : Option Int) (k : D → Prop) (Q : VK), Rep w K H a x F →
  (if l then a.dep 1 = true else a.dep 0 = true) → slcK l a lo hi k → (∀ d v H', k d → New K H H' d v (if l then 1 else 0) → Q v H') → r x lo hi H Q
def rSlc (K : PySem.W.Frag) : V → Option Int → Option Int → Hp → VK → Prop := fun x lo hi H Q => rSlL K x lo hi H Q ∨ (rSlA K x lo hi H Q ∨ rSlS x lo hi H Q)
theorem slc_ok (K : PySem.W.Frag) (l : Bool) : SlcOk K l (rSlc K) := by
  refine ⟨fun X e => by subst e; exact sl_list.or (sl_tupA.or sl_str), fun w H a x F lo hi k Q ra hd hk q => ?_⟩
  cases l with
  | true =>
    obtain ⟨ds, rfl, hk⟩ : ∃ ds, a = .lst ds ∧ k (.lst (cutL ds lo hi)) := by cases a <;> first | exact False.elim hk | exact ⟨_, rfl, hk⟩
    obtain ⟨p, vs, G, rfl, s1, r1, _, _⟩ := ra.lst_inv
    have hd : D.dep 1 (.lst ds) = true := by simpa using hd
    rw [dep_lst] at hd
    refine .inl ⟨p, vs, rfl, s1, fun n hn => q _ _ _ hk ?_⟩
    obtain ⟨G', r2⟩ := r1.cut (HT.sIx vs.length 0 lo) (HT.sIx vs.length vs.length hi - HT.sIx vs.length 0 lo)
    have e : cutL ds lo hi = (ds.drop (HT.sIx vs.length 0 lo)).take (HT.sIx vs.length vs.length hi - HT.sIx vs.length 0 lo) := by unfold cutL; rw [r1.len]
    rw [← e] at r2
    exact New.list r2 (deps_cut lo hi hd) hn
  | false =>
    have hd : a.dep 0 = true := by simpa using hd
    have hc : (∃ ds, a = .tup ds ∧ k (.tup (cutL ds lo hi))) ∨ ∃ s, a = .str s ∧ s.length ≤ sizeLine ∧ k (.str (cutL s lo hi)) := by
      cases a <;> first | exact False.elim hk | exact .inl ⟨_, rfl, hk⟩ | exact .inr ⟨_, rfl, hk⟩
    clear hk
    rcases hc with ⟨ds, rfl, hk⟩ | ⟨s, rfl, hz, hk⟩
    · obtain ⟨p, vs, rfl, s1, r1⟩ := ra.tup_inv
      have hd' := hd
      rw [dep_tup] at hd'
      have e : cutL ds lo hi = (ds.drop (HT.sIx vs.length 0 lo)).take (HT.sIx vs.length vs.length hi - HT.sIx vs.length 0 lo) := by unfold cutL; rw [r1.len]
      refine .inr (.inl ⟨p, vs, rfl, s1, fun ⟨e1, e2⟩ => ?_, fun _ n hn => q _ _ _ hk ?_⟩)
      · have : cutL ds lo hi = ds := by rw [e, e1, e2, List.drop_zero, Nat.sub_zero, ← r1.len, List.take_length]
        rw [this] at hk
        exact q _ _ _ hk (ra.immw hd)
      · obtain ⟨G', r2⟩ := r1.cut (HT.sIx vs.length 0 lo) (HT.sIx vs.length vs.length hi - HT.sIx vs.length 0 lo)
        rw [← e] at r2
        exact New.tup r2 (deps_cut lo hi hd') hn
    · obtain ⟨rfl, h1⟩ := ra.str_inv
      refine .inr (.inr ⟨toStr s, rfl, by rw [toStr_len]; exact hz, ?_⟩)
      have e : cutS (toStr s) lo hi = toStr (cutL s lo hi) := by
        unfold cutS cutL; rw [toStr_len, toStr_list]; rfl
      rw [e]
      exact q _ _ _ hk (New.str fun c hc => h1 c (List.mem_of_mem_drop (List.mem_of_mem_take hc)))

/-! ### built-in functions -/
def Bi.k : Bi → Nat | .list _ => 1 | _ => 0
def Bi.need : Bi → List D → Prop
  | .list l, ds => if l then D.deps 1 ds = true else D.deps 0 ds = true
  | .tuple l, ds => if l then D.deps 1 ds = true else D.deps 0 ds = true
  | _, _ => True
def BiSem (K : PySem.W.Frag) (b : Bi) (r : List V → Hp → VK → Prop) : Prop := ∀ (H : Hp) (ds : List D) (vs : List V) (F : Fp) (k : D → Prop) (Q : VK), Reps false K H ds vs F → b.need ds →
  biK b ds k → (∀ d v H', k d → New K H H' d v b.k → Q v H') → r vs H Q
theorem Reps.one {w : Bool} {K : PySem.W.Frag} {H : Hp} {d : D} {vs : List V} {F : Fp} (r : Reps w K H [d] vs F) : ∃ v, vs = [v] ∧ Rep w K H d v F := by
  cases r with
  | cons h t => cases t; exact ⟨_, rfl, by simpa using h⟩
theorem Reps.two {w : Bool} {K : PySem.W.Frag} {H : Hp} {d e : D} {vs : List V} {F : Fp} (r : Reps w K H [d, e] vs F) : ∃ v u F1 F2, vs = [v, u] ∧ Rep w K H d v F1 ∧ Rep w K H e u F2 := by
  cases r with
  | cons h t =>
    obtain ⟨u, rfl, q⟩ := t.one
    exact ⟨_, _, _, _, rfl, h, q⟩
theorem Reps.bls {w : Bool} {K : PySem.W.Frag} {H : Hp} : ∀ {bs : List Bool} {vs : List V} {F : Fp}, Reps w K H (bs.map .bl) vs F → vs = bs.map .bl
  | [], _, _, .nil => rfl
  | _ :: bs, _, _, .cons h t => by rw [h.bl_inv, Reps.bls t]; rfl
theorem Reps.ints {w : Bool} {K : PySem.W.Frag} {H : Hp} : ∀ {bs : List Int} {vs : List V} {F : Fp}, Reps w K H (bs.map .int) vs F → vs = bs.map .int
  | [], _, _, .nil => rfl
  | _ :: bs, _, _, .cons h t => by rw [h.int_inv, Reps.ints t]; rfl
section
variable {K : PySem.W.Frag}
theorem bi_len : BiSem K .len (fun xs H Q => (∃ p ys, xs = [.ref p] ∧ (SqL K H p ys ∨ SqT K H p ys) ∧ Q (.int ys.length) H) ∨ (∃ z, xs = [.str z] ∧ z.length ≤ sizeLine ∧ Q (.int z.length) H)) := fun H ds vs F k Q r _ hk q => by
  obtain ⟨d, rfl⟩ : ∃ d, ds = [d] := by
    rcases ds with _ | ⟨d, _ | ⟨e, ds⟩⟩
    · exact False.elim hk
    · exact ⟨d, rfl⟩
    · cases d <;> exact False.elim hk
  have r0 := r
  clear r
  obtain ⟨v, rfl, r⟩ := r0.one
  cases d <;> try exact False.elim hk
  · obtain ⟨rfl, _⟩ := r.str_inv
    exact .inr ⟨_, rfl, by rw [toStr_len]; exact hk.1, by rw [toStr_len]; exact q _ _ _ hk.2 New.int⟩
  · obtain ⟨a, ys, rfl, s, t⟩ := r.tup_inv
    exact .inl ⟨a, ys, rfl, .inr s, q (.int ys.length) _ _ (by rw [← t.len]; exact hk) New.int⟩
  · obtain ⟨a, ys, _, rfl, s, t, _⟩ := r.lst_inv
    exact .inl ⟨a, ys, rfl, .inl s, q (.int ys.length) _ _ (by rw [← t.len]; exact hk) New.int⟩
theorem bi_int : BiSem K .int (fun xs H Q => (∃ i, xs = [.int i] ∧ Q (.int i) H) ∨ ∃ k, xs = [.bl k] ∧ Q (.int (if k then 1 else 0)) H) := fun H ds vs F k Q r _ hk q => by
  obtain ⟨d, rfl⟩ : ∃ d, ds = [d] := by
    rcases ds with _ | ⟨d, _ | ⟨e, ds⟩⟩
    · exact False.elim hk
    · exact ⟨d, rfl⟩
    · cases d <;> exact False.elim hk
  have r0 := r
  clear r
  obtain ⟨v, rfl, r⟩ := r0.one
  cases d <;> try exact False.elim hk
  · rw [r.bl_inv]; exact .inr ⟨_, rfl, q _ _ _ hk New.int⟩
  · rw [r.int_inv]; exact .inl ⟨_, rfl, q _ _ _ hk New.int⟩
theorem reps_chars {H : Hp} : ∀ {s : List Nat}, (∀ c ∈ s, c < 0x110000) → Reps true K H (s.map fun c => .str [c]) ((toStr s).cps.toList.map fun c => V.str ⟨#[c]⟩) []
  | [], _ => .nil
  | c :: s, h => by
    have := Reps.cons (F := []) (G := []) (Rep.str (K := K) (w := true) (H := H) [c] fun d hd => h d (by simp at hd; subst hd; simp)) (reps_chars (H := H) (s := s) fun d hd => h d (List.mem_cons_of_mem _ hd))
    simpa [toStr] using this
theorem deps_chars : ∀ s : List Nat, D.deps 0 (s.map fun c => D.str [c]) = true
  | [] => by simp [D.deps]
  | c :: s => by simp [D.deps, D.dep, deps_chars s]
theorem bi_list (l : Bool) : BiSem K (.list l) (fun xs H Q => (∃ p ys, xs = [.ref p] ∧ (SqL K H p ys ∨ SqT K H p ys) ∧ ∀ l, H l = none → Q (.ref l) (upd H l (.lst ys))) ∨ ∃ z : Str, xs = [.str z] ∧ z.length ≤ sizeLine ∧ ∀ l, H l = none → Q (.ref l) (upd H l (.lst (z.cps.toList.map fun c => V.str ⟨#[c]⟩)))) := fun H ds vs F k Q r hn hk q => by
  obtain ⟨d, rfl⟩ : ∃ d, ds = [d] := by
    rcases ds with _ | ⟨d, _ | ⟨e, ds⟩⟩
    · cases l <;> exact False.elim hk
    · exact ⟨d, rfl⟩
    · cases l <;> cases d <;> exact False.elim hk
  have r0 := r
  clear r
  obtain ⟨v, rfl, r⟩ := r0.one
  cases l with
  | true =>
    cases d <;> try exact False.elim hk
    rename_i xs
    obtain ⟨a, ys, _, rfl, s, t, _⟩ := r.lst_inv
    have hd : D.deps 0 xs = true := by simpa [Bi.need, D.deps, D.dep] using hn
    exact .inl ⟨a, ys, rfl, .inl s, fun p hp => q _ _ _ hk (New.list t hd hp)⟩
  | false =>
    cases d <;> try exact False.elim hk
    · rename_i s
      obtain ⟨rfl, h1⟩ := r.str_inv
      refine .inr ⟨_, rfl, by rw [toStr_len]; exact hk.1, fun p hp => q _ _ _ hk.2 (New.list (w := true) (F := []) (reps_chars h1) (deps_chars s) hp)⟩
    rename_i xs
    obtain ⟨a, ys, rfl, s, t⟩ := r.tup_inv
    have hd : D.deps 0 xs = true := by simpa [Bi.need, D.deps, D.dep] using hn
    exact .inl ⟨a, ys, rfl, .inr s, fun p hp => q _ _ _ hk (New.list t hd hp)⟩
theorem bi_tuple (l : Bool) : BiSem K (.tuple l) (fun xs H Q => ∃ p ys, xs = [.ref p] ∧ ((SqL K H p ys ∧ ∀ l, H l = none → Q (.ref l) (upd H l (.tup ys))) ∨ (SqT K H p ys ∧ Q (.ref p) H))) := fun H ds vs F k Q r hn hk q => by
  obtain ⟨d, rfl⟩ : ∃ d, ds = [d] := by
    rcases ds with _ | ⟨d, _ | ⟨e, ds⟩⟩
    · cases l <;> exact False.elim hk
    · exact ⟨d, rfl⟩
    · cases l <;> cases d <;> exact False.elim hk
  have r0 := r
  clear r
  obtain ⟨v, rfl, r⟩ := r0.one
  cases l with
  | true =>
    cases d <;> try exact False.elim hk
    rename_i xs
    obtain ⟨a, ys, _, rfl, s, t, _⟩ := r.lst_inv
    have hd : D.deps 0 xs = true := by simpa [Bi.need, D.deps, D.dep] using hn
    exact ⟨a, ys, rfl, .inl ⟨s, fun p hp => q _ _ _ hk (New.tup t hd hp)⟩⟩
  | false =>
    cases d <;> try exact False.elim hk
    rename_i xs
    have hd : D.dep 0 (.tup xs) = true := by simpa [Bi.need, D.deps] using hn
    have r' := r
    obtain ⟨a, ys, rfl, s, t⟩ := r.tup_inv
    exact ⟨a, ys, rfl, .inr ⟨s, q _ _ _ hk (r'.immw hd)⟩⟩
theorem two_of {ds : List D} {P : Prop} (h : ∀ d e, ds = [d, e] → P) (h0 : ds = [] → False) (h1 : ∀ d, ds = [d] → False) (h3 : ∀ d e f r, ds = d :: e :: f :: r → False) : P := by
  rcases ds with _ | ⟨d, _ | ⟨e, _ | ⟨f, r⟩⟩⟩
  · exact (h0 rfl).elim
  · exact (h1 d rfl).elim
  · exact h d e rfl
  · exact (h3 d e f r rfl).elim
theorem bi_max : BiSem K .max (fun xs H Q => ∃ i j, xs = [.int i, .int j] ∧ Q (.int (if j > i then j else i)) H) := fun H ds vs F k Q r _ hk q => by
  refine two_of (ds := ds) (fun d e hde => ?_) (fun e => by subst e; exact hk) (fun d e => by subst e; cases d <;> exact hk) fun d e f r e' => by subst e'; cases d <;> cases e <;> exact hk
  subst hde
  obtain ⟨v, u, _, _, rfl, r1, r2⟩ := r.two
  cases d <;> cases e <;> try exact False.elim hk
  rw [r1.int_inv, r2.int_inv]
  exact ⟨_, _, rfl, q _ _ _ hk New.int⟩
theorem bi_min : BiSem K .min (fun xs H Q => ∃ i j, xs = [.int i, .int j] ∧ Q (.int (if j < i then j else i)) H) := fun H ds vs F k Q r _ hk q => by
  refine two_of (ds := ds) (fun d e hde => ?_) (fun e => by subst e; exact hk) (fun d e => by subst e; cases d <;> exact hk) fun d e f r e' => by subst e'; cases d <;> cases e <;> exact hk
  subst hde
  obtain ⟨v, u, _, _, rfl, r1, r2⟩ := r.two
  cases d <;> cases e <;> try exact False.elim hk
  rw [r1.int_inv, r2.int_inv]
  exact ⟨_, _, rfl, q _ _ _ hk New.int⟩
theorem bi_all : BiSem K .all (rAll K) := fun H ds vs F k Q r _ hk q => by
  obtain ⟨d, rfl⟩ : ∃ d, ds = [d] := by
    rcases ds with _ | ⟨d, _ | ⟨e, ds⟩⟩
    · exact False.elim hk
    · exact ⟨d, rfl⟩
    · cases d <;> exact False.elim hk
  have r0 := r
  clear r
  obtain ⟨v, rfl, r⟩ := r0.one
  cases d <;> try exact False.elim hk
  obtain ⟨bs, rfl, hk⟩ := hk
  obtain ⟨a, ys, _, rfl, s, t, _⟩ := r.lst_inv
  have e := t.bls
  subst e
  exact ⟨a, bs, rfl, s, q _ _ _ hk New.bl⟩
theorem bi_any : BiSem K .any (rAny K) := fun H ds vs F k Q r _ hk q => by
  obtain ⟨d, rfl⟩ : ∃ d, ds = [d] := by
    rcases ds with _ | ⟨d, _ | ⟨e, ds⟩⟩
    · exact False.elim hk
    · exact ⟨d, rfl⟩
    · cases d <;> exact False.elim hk
  have r0 := r
  clear r
  obtain ⟨v, rfl, r⟩ := r0.one
  cases d <;> try exact False.elim hk
  obtain ⟨bs, rfl, hk⟩ := hk
  obtain ⟨a, ys, _, rfl, s, t, _⟩ := r.lst_inv
  have e := t.bls
  subst e
  exact ⟨a, bs, rfl, s, q _ _ _ hk New.bl⟩
theorem bi_sum : BiSem K .sum (rSum K) := fun H ds vs F k Q r _ hk q => by
  obtain ⟨d, rfl⟩ : ∃ d, ds = [d] := by
    rcases ds with _ | ⟨d, _ | ⟨e, ds⟩⟩
    · exact False.elim hk
    · exact ⟨d, rfl⟩
    · cases d <;> exact False.elim hk
  have r0 := r
  clear r
  obtain ⟨v, rfl, r⟩ := r0.one
  cases d <;> try exact False.elim hk
  obtain ⟨bs, rfl, hk⟩ := hk
  obtain ⟨a, ys, _, rfl, s, t, _⟩ := r.lst_inv
  have e := t.ints
  subst e
  exact ⟨a, bs, rfl, s, q _ _ _ hk New.int⟩
theorem lookK {K : PySem.W.Frag} {a : Addr} {o : Obj} (h : K.lookup a = some o) : List.lookup a K = some o := h
end
end Pm

namespace Pm
open PySem L2
section
open PySem.Spec PyProof.Rows
theorem fm_congr {α β : Type} {f g : α → Option β} : ∀ {xs : List α}, (∀ x ∈ xs, f x = g x) → xs.filterMap f = xs.filterMap g
  | [], _ => rfl
  | x :: xs, h => by
    rw [List.filterMap_cons, List.filterMap_cons, h x List.mem_cons_self, fm_congr fun y hy => h y (List.mem_cons_of_mem _ hy)]
theorem rev_idx (z : Str) : ((PySem.Builtin.Str.strSliceIndices none none (-1) z.length).filterMap (z.cps[·]?)).toArray = z.cps.toList.reverse.toArray := by
  have e : PySem.Builtin.Str.strSliceIndices none none (-1) z.length = (List.range z.length).map fun k => z.length - 1 - k := by
    unfold PySem.Builtin.Str.strSliceIndices
    show PySem.sliceRange ((z.length : Int) - 1) (-1) (-1) = _
    unfold PySem.sliceRange
    dsimp only
    have c : (if (-1 : Int) > 0 then (if ((z.length : Int) - 1) < -1 then ((-1) - ((z.length : Int) - 1) + (-1) - 1) / (-1) else 0) else (if ((z.length : Int) - 1) > -1 then (((z.length : Int) - 1) - (-1) - (-1) - 1) / (-(-1)) else 0)).toNat = z.length := by
      rw [if_neg (by decide)]
      split
      · have : (((z.length : Int) - 1) - (-1) - (-1) - 1) / (-(-1)) = z.length := by
          rw [show (-(-1) : Int) = 1 from rfl, Int.ediv_one]; omega
        rw [this]; rfl
      · show 0 = z.length
        omega
    rw [c]
    refine List.map_congr_left fun k hk => ?_
    have := List.mem_range.mp hk
    omega
  rw [e]
  refine congrArg List.toArray ?_
  have hz : z.length = z.cps.toList.length := rfl
  rw [hz]
  generalize hc : z.cps.toList = cs
  have : (fun i : Nat => z.cps[i]?) = fun i : Nat => cs[i]? := by
    funext i; rw [← hc]; simp
  rw [this, List.filterMap_map]
  have : List.filterMap ((fun i => cs[i]?) ∘ fun k => cs.length - 1 - k) (List.range cs.length) = List.filterMap (fun k => cs.reverse[k]?) (List.range cs.length) := by
    refine fm_congr fun k hk => ?_
    have := List.mem_range.mp hk
    show cs[cs.length - 1 - k]? = _
    rw [List.getElem?_reverse this]
  rw [this]
  have gen : ∀ xs : List Nat, List.filterMap (fun k => xs[k]?) (List.range xs.length) = xs := by
    intro xs
    induction xs with
    | nil => rfl
    | cons x xs ih =>
      rw [List.length_cons, List.range_succ_eq_map, List.filterMap_cons]
      simp only [List.getElem?_cons_zero, List.filterMap_map]
      congr 1
  have := gen cs.reverse
  rw [List.length_reverse] at this
  exact this
variable {X : Cx}
def tRevS (te : TE) : TE := fun σ H Q => te σ H fun x H1 => ∃ z : Str, x = .str z ∧ z.length ≤ sizeLine ∧ Q (.str ⟨z.cps.toList.reverse.toArray⟩) H1
theorem pe_revS {e : Expr} {te : TE} {k : Nat} {p1 p2 p3 pos : Pos} (he : PE X e te) : PE X (.Subscript e (.Slice none none (some (.UnaryOp .USub (.Constant (.int 1) k p1) p2)) p3) pos) (tRevS te) := by
  refine ⟨fun pins s σ H Q I h => ?_⟩
  refine Subscript_ (thn (he.run pins s σ H _ I h) fun v s1 ⟨x, H1, I1, r1, q1⟩ => ?_)
  obtain ⟨z, ex, hz, q⟩ := q1
  subst ex
  obtain ⟨t, rfl⟩ := r1
  have hst : PO X (some (.UnaryOp .USub (.Constant (.int 1) k p1) p2)) (tPart (tUn (rU fun i => .int (-i)) (tC (.int 1)))) := po_some (pe_un un_neg pe_int)
  refine wpAny_Slice (thn (po_none.run pins s1 σ H1 (fun o H2 => o = none ∧ H2 = H1) I1 ⟨rfl, rfl⟩) fun vl s2 ⟨l, H2, I2, pl, el, e2⟩ => ?_)
  subst el e2
  refine thn (po_none.run pins s2 σ H2 (fun o H3 => o = none ∧ H3 = H2) I2 ⟨rfl, rfl⟩) fun vu s3 ⟨u, H3, I3, pu, eu, e3⟩ => ?_
  subst eu e3
  refine thn (hst.run pins s3 σ H3 (fun o H4 => o = some (-1) ∧ H4 = H3) I3 ⟨1, rfl, -1, rfl, rfl, rfl⟩) fun vs s4 ⟨o, H4, I4, ps, eo, e4⟩ => ?_
  subst eo e4
  have I5 : Inv X pins σ H4 { s4 with heap := s4.heap.push { cls := .type "slice", data := .fields #[vl, vu, vs] } } := I4.kept (t' := s4.toks) fun b ob q => Heap.get?_push_of_some _ q
  show wpAny (model X.prog X.w) X.A (subscriptTail e (.Slice none none (some (.UnaryOp .USub (.Constant (.int 1) k p1) p2)) p3) (.str z t) (.ref s4.heap.objs.size)) (EP X pins σ Q) X.xe { s4 with heap := s4.heap.push { cls := .type "slice", data := .fields #[vl, vu, vs] } }
  refine tail_any (ops := [.str z t, .ref s4.heap.objs.size]) (typeIs_str _ _ _) (PySem.F.slot_str_getitem.lookup) ?_ (by with_unfolding_all rfl)
  obtain ⟨l', rfl, el⟩ := IsPart.raw pl
  obtain ⟨u', rfl, eu⟩ := IsPart.raw pu
  obtain ⟨st', rfl, es⟩ := IsPart.raw ps
  refine wpAny_getItem_str_slice (l := l') (u := u') (st := st') ⟨_, Heap.get?_push_size _ rfl, rfl, rfl⟩ (by rw [es]; rfl) ?_
  unfold sliceMade slicePicked
  rw [el, eu, es]
  show Made.post (if ((-1 : Int) == 1 && (PySem.Builtin.Str.strSliceIndices none none (-1) z.length).length == z.length) = true then Made.val (.str z t)
    else Made.str ⟨((PySem.Builtin.Str.strSliceIndices none none (-1) z.length).filterMap (z.cps[·]?)).toArray⟩) (EP X pins σ Q) _
  rw [if_neg (by simp), rev_idx]
  refine ⟨?_, .str _, _, I5.tok _, ⟨_, rfl⟩, q⟩
  show z.cps.toList.reverse.toArray.size ≤ sizeLine
  rw [List.size_toArray, List.length_reverse]
  exact hz
theorem call_list_txt (hc : X.calm = true) : CallR X (.type "list") (fun xs H Q => ∃ z : Str, xs = [.str z] ∧ z.length ≤ sizeLine ∧ ∀ l, H l = none → Q (.ref l) (upd H l (.lst (z.cps.toList.map fun c => V.str ⟨#[c]⟩)))) := by
  intro pins s σ H xs us Q I r h
  obtain ⟨z, rfl, hz, q⟩ := h
  obtain ⟨u, rfl, rx⟩ := vals1 r
  obtain ⟨t, rfl⟩ := rx
  refine PySem.call_list_str (I.ok.hd hc) z t (hn := hz) fun h' tk acc c' hk e hi => ?_
  refine ⟨.ref s.heap.objs.size, upd H s.heap.objs.size (.lst (z.cps.toList.map fun c => V.str ⟨#[c]⟩)), I.laid hk (Nat.le_refl _) ⟨by rw [List.length_map]; exact hz, acc.toList, c', ?_, by rw [Array.toArray_toList]; exact e⟩, rfl, q _ (I.hok.fresh (Nat.le_refl _))⟩
  refine vals_of_idx _ _ (by simp [hi.1]) fun j u hj => ?_
  obtain ⟨c, t', hc, rfl⟩ := hi.2 j u (by rw [← Array.getElem?_toList]; exact hj)
  exact ⟨.str ⟨#[c]⟩, by simp [hc], ⟨_, rfl⟩⟩
end
def D.tyName : D → String
  | .non => "NoneType"
  | .bl _ => "bool"
  | .int _ => "int"
  | .str _ => "str"
  | .tup _ => "tuple"
  | .lst _ => "list"
  | _ => ""
theorem Rep.tyx {w : Bool} {K : PySem.W.Frag} {H : Hp} {d : D} {v : V} {F : Fp} (r : Rep w K H d v F) : TyX K H v (.type d.tyName) := by
  cases r with
  | non => exact .base .non
  | bl b => exact .base (.bl b)
  | int i => exact .base (.int i)
  | str s h => exact .base (.str _)
  | tup h r =>
    rcases h with (h | ⟨o, h⟩) | ⟨o, its, n, h1, h2, _⟩
    · exact .base (.tup h)
    · exact .fTuple h
    · exact .kTuple h1 h2
  | lst h r => exact .base (.lst h)
  | lstF _ h r => exact .base (.frz h)
  | lstW _ h r =>
    rcases h (fun _ => none) with (h | ⟨o, h⟩) | ⟨o, its, n, h1, h2, _⟩
    · cases h
    · cases h
    · exact .kList h1 h2
def isTy : Bi → Option String
  | .isbool => some "bool"
  | .isint => some "int"
  | .isstr => some "str"
  | .islist => some "list"
  | _ => none
def rIs1 (K : PySem.W.Frag) (T : String) : List V → Hp → VK → Prop := fun vs H Q => rIsi K (vs ++ [.ty T]) H Q
theorem kitAll : (["NoneType", "bool", "int", "str", "tuple", "list"].all fun a => ["bool", "int", "str", "list"].all fun b => kitB a b == some (a == b || (a == "bool" && b == "int"))) = true := by decide +kernel
theorem kit_of {a b : String} (ha : a ∈ ["NoneType", "bool", "int", "str", "tuple", "list"]) (hb : b ∈ ["bool", "int", "str", "list"]) : kitB a b = some (a == b || (a == "bool" && b == "int")) := by
  have := List.all_eq_true.mp (List.all_eq_true.mp kitAll a ha) b hb
  simpa using this
section
variable {K : PySem.W.Frag}
theorem bi_is (b : Bi) (T : String) (e : isTy b = some T) : BiSem K b (rIs1 K T) := fun H ds vs F k Q r _ hk q => by
  obtain ⟨d, rfl⟩ : ∃ d, ds = [d] := by
    rcases ds with _ | ⟨d, _ | ⟨e, ds⟩⟩
    · cases b <;> first | (cases e; done) | exact False.elim hk
    · exact ⟨d, rfl⟩
    · cases b <;> first | (cases e; done) | (cases d <;> exact False.elim hk)
  have r0 := r
  clear r
  obtain ⟨v, rfl, r⟩ := r0.one
  have hb : b.k = 0 := by cases b <;> first | rfl | cases e
  have hm : d.tyName ∈ ["NoneType", "bool", "int", "str", "tuple", "list"] := by cases r <;> simp [D.tyName]
  have hT : T ∈ ["bool", "int", "str", "list"] := by cases b <;> simp [isTy] at e <;> subst e <;> simp
  refine ⟨v, .ty T, _, _, _, rfl, .ty T, r.tyx, kit_ty (kit_of hm hT), ?_⟩
  have key : ∃ c, k (.bl c) ∧ c = (d.tyName == T || (d.tyName == "bool" && T == "int")) := by
    cases b <;> simp [isTy] at e <;> subst e <;> cases r <;> exact ⟨_, hk, by simp [D.tyName]⟩
  obtain ⟨c, h1, rfl⟩ := key
  refine q _ _ _ h1 ?_
  rw [hb]; exact New.bl
theorem char_lt (c : Char) : c.toNat < 0x110000 := by
  rcases c.valid with h | h
  · exact Nat.lt_trans h (by decide)
  · exact h.2
theorem intTxt_ok (i : Int) : toStr (intTxt i) = (toString i : String) ∧ ∀ c ∈ intTxt i, c < 0x110000 := by
  unfold intTxt
  constructor
  · simp [toStr]
  · rw [Str.ofString_eq_toList]
    intro c hc
    simp at hc
    obtain ⟨a, _, rfl⟩ := hc
    exact char_lt a
theorem bi_str : BiSem K .str (fun xs H Q => ∃ i : Int, xs = [.int i] ∧ i.natAbs.log2 < 1920 ∧ Q (.str (toString i : String)) H) := fun H ds vs F k Q r hn hk q => by
  obtain ⟨d, rfl⟩ : ∃ d, ds = [d] := by
    rcases ds with _ | ⟨d, _ | ⟨e, ds⟩⟩
    · exact False.elim hk
    · exact ⟨d, rfl⟩
    · cases d <;> exact False.elim hk
  have r0 := r
  clear r
  obtain ⟨v, rfl, r⟩ := r0.one
  cases d <;> try exact False.elim hk
  rename_i i
  rw [r.int_inv]
  refine ⟨i, rfl, hk.1, ?_⟩
  rw [← (intTxt_ok i).1]
  exact q _ _ _ hk.2 (New.str (intTxt_ok i).2)
def rBi (K : PySem.W.Frag) : Bi → List V → Hp → VK → Prop
  | .len => fun xs H Q => (∃ p ys, xs = [.ref p] ∧ (SqL K H p ys ∨ SqT K H p ys) ∧ Q (.int ys.length) H) ∨ (∃ z, xs = [.str z] ∧ z.length ≤ sizeLine ∧ Q (.int z.length) H)
  | .int => fun xs H Q => (∃ i, xs = [.int i] ∧ Q (.int i) H) ∨ ∃ k, xs = [.bl k] ∧ Q (.int (if k then 1 else 0)) H
  | .str => fun xs H Q => ∃ i, xs = [.int i] ∧ i.natAbs.log2 < 1920 ∧ Q (.str (toString i)) H
  | .list _ => fun xs H Q => (∃ p ys, xs = [.ref p] ∧ (SqL K H p ys ∨ SqT K H p ys) ∧ ∀ l, H l = none → Q (.ref l) (upd H l (.lst ys))) ∨ ∃ z : Str, xs = [.str z] ∧ z.length ≤ sizeLine ∧ ∀ l, H l = none → Q (.ref l) (upd H l (.lst (z.cps.toList.map fun c => V.str ⟨#[c]⟩)))
  | .tuple _ => fun xs H Q => ∃ p ys, xs = [.ref p] ∧ ((SqL K H p ys ∧ ∀ l, H l = none → Q (.ref l) (upd H l (.tup ys))) ∨ (SqT K H p ys ∧ Q (.ref p) H))
  | .max => fun xs H Q => ∃ i j, xs = [.int i, .int j] ∧ Q (.int (if j > i then j else i)) H
  | .min => fun xs H Q => ∃ i j, xs = [.int i, .int j] ∧ Q (.int (if j < i then j else i)) H
  | .sum => rSum K
  | .all => rAll K
  | .any => rAny K
  | .isbool => rIs1 K "bool"
  | .isint => rIs1 K "int"
  | .isstr => rIs1 K "str"
  | .islist => rIs1 K "list"
/-- the name of the built-in, its value -/
def Bi.name : Bi → Str
  | .len => "len" | .int => "int" | .str => "str" | .list _ => "list" | .tuple _ => "tuple" | .max => "max" | .min => "min" | .sum => "sum" | .all => "all" | .any => "any"
  | _ => "isinstance"
inductive BiHow where | fn (id : String) | ty (T : String) | is (T : String)
def Bi.how : Bi → BiHow
  | .len => .fn "len" | .int => .ty "int" | .str => .ty "str" | .list _ => .ty "list" | .tuple _ => .ty "tuple" | .max => .fn "max" | .min => .fn "min" | .sum => .fn "sum" | .all => .fn "all" | .any => .fn "any"
  | .isbool => .is "bool" | .isint => .is "int" | .isstr => .is "str" | .islist => .is "list"
theorem bi_sem (b : Bi) : BiSem K b (rBi K b) := by
  cases b with
  | len => exact bi_len
  | int => exact bi_int
  | str => exact bi_str
  | list l => exact bi_list l
  | tuple l => exact bi_tuple l
  | max => exact bi_max
  | min => exact bi_min
  | sum => exact bi_sum
  | all => exact bi_all
  | any => exact bi_any
  | isbool => exact bi_is _ _ rfl
  | isint => exact bi_is _ _ rfl
  | isstr => exact bi_is _ _ rfl
  | islist => exact bi_is _ _ rfl
theorem bi_ok {X : Cx} (hc : X.calm = true) (b : Bi) : (match b.how with
    | .fn id => CallR X (.builtin id) (rBi X.K b) ∧ bootBuiltins b.name = some (.builtin id)
    | .ty T => CallR X (.type T) (rBi X.K b) ∧ bootBuiltins b.name = some (.type T)
    | .is T => rBi X.K b = rIs1 X.K T ∧ bootBuiltins T = some (.type T)) := by
  cases b with
  | len => exact ⟨call_len_seq.or call_len_str, by decide +kernel⟩
  | int => exact ⟨call_int1, by decide +kernel⟩
  | str => exact ⟨call_str_int, by decide +kernel⟩
  | list l => exact ⟨call_list_of.or (call_list_txt hc), by show bootBuiltins "list" = _; decide +kernel⟩
  | tuple l => exact ⟨call_tuple_of, by show bootBuiltins "tuple" = _; decide +kernel⟩
  | max => exact ⟨call_max2 hc, by decide +kernel⟩
  | min => exact ⟨call_min2 hc, by decide +kernel⟩
  | sum => exact ⟨cr_sum hc, by decide +kernel⟩
  | all => exact ⟨cr_all hc, by decide +kernel⟩
  | any => exact ⟨cr_any hc, by decide +kernel⟩
  | isbool => exact ⟨rfl, by decide +kernel⟩
  | isint => exact ⟨rfl, by decide +kernel⟩
  | isstr => exact ⟨rfl, by decide +kernel⟩
  | islist => exact ⟨rfl, by decide +kernel⟩
end

/-! ### join -/
theorem glued_join (sep : List Nat) : ∀ ys : List (List Nat), Txt.join (toStr sep) (ys.map toStr) = toStr (joinL sep ys) := by
  have go : ∀ (ys : List (List Nat)) (acc : List Nat), (ys.map toStr).foldl (fun a p => a ++ (toStr sep).cps ++ p.cps) acc.toArray = (acc ++ (ys.map fun y => sep ++ y).flatten).toArray := by
    intro ys
    induction ys with
    | nil => intro acc; simp
    | cons y ys ih =>
      intro acc
      rw [List.map_cons, List.foldl_cons]
      have : acc.toArray ++ (toStr sep).cps ++ (toStr y).cps = (acc ++ sep ++ y).toArray := by simp [toStr]
      rw [this, ih]
      simp
  have jl : ∀ (y : List Nat) (ys : List (List Nat)), joinL sep (y :: ys) = y ++ (ys.map fun y => sep ++ y).flatten := by
    intro y ys
    induction ys generalizing y with
    | nil => simp [joinL]
    | cons z ys ih => rw [joinL, ih]; simp
  intro ys
  cases ys with
  | nil => rfl
  | cons y ys =>
    show Builtin.Str.glued _ _ = _
    unfold Builtin.Str.glued
    simp only [List.map_cons, List.drop_succ_cons, List.drop_zero, List.headD_cons]
    have := go ys y
    rw [show (toStr y).cps = y.toArray from rfl, this, jl]
    rfl
theorem Reps.strs {w : Bool} {K : PySem.W.Frag} {H : Hp} : ∀ {ds : List D} {ys : List (List Nat)} {vs : List V} {F : Fp}, Reps w K H ds vs F → strsOf ds = some ys → vs = (ys.map toStr).map V.str ∧ ∀ y ∈ ys, ∀ c ∈ y, c < 0x110000
  | _, _, _, _, .nil, e => by
    have e : some [] = some _ := e
    cases e
    exact ⟨rfl, fun _ h => by simp at h⟩
  | d :: ds, ys, _, _, .cons h t, e => by
    cases d <;> try (exact absurd (show (none : Option (List (List Nat))) = some ys from e) (by simp))
    rename_i s
    have e : (strsOf ds).map (s :: ·) = some ys := e
    cases e2 : strsOf ds with
    | none => rw [e2] at e; cases e
    | some zs =>
      rw [e2] at e
      cases e
      obtain ⟨rfl, h1⟩ := h.str_inv
      obtain ⟨h2, h3⟩ := t.strs e2
      refine ⟨by rw [h2]; rfl, fun y hy c hc => ?_⟩
      rcases List.mem_cons.mp hy with rfl | hy
      · exact h1 c hc
      · exact h3 y hy c hc
theorem join_mem {sep : List Nat} {P : Nat → Prop} (hs : ∀ c ∈ sep, P c) : ∀ {ys : List (List Nat)}, (∀ y ∈ ys, ∀ c ∈ y, P c) → ∀ c ∈ joinL sep ys, P c
  | [], _, c, h => by simp [joinL] at h
  | [y], hy, c, h => hy y (by simp) c (by simpa [joinL] using h)
  | y :: z :: r, hy, c, h => by
    rw [joinL] at h
    rcases List.mem_append.mp h with h | h
    · rcases List.mem_append.mp h with h | h
      · exact hy y (by simp) c h
      · exact hs c h
    · exact join_mem hs (fun w hw => hy w (List.mem_cons_of_mem _ hw)) c h
end Pm

namespace Pm
open PySem L2

/-! ### the tree is this code -/
structure Code where
  N : List Str
  gn : List Str
  fn : List Str
def locB (sc : Scope) (x : Str) : Bool := sc.names.lookup x == some .local || sc.names.lookup x == some .cell
def visB (sc : Scope) (x : Str) : Bool := locB sc x || sc.names.lookup x == some .free
def glB (sc : Scope) (x : Str) : Bool := sc.names.lookup x == some .globalImplicit
def nomg (x : Str) : Bool := (x == ("__debug__" : Str)) == false && (x == ("__classdict__" : Str)) == false
def Bm.name : Bm → Str | .join => "join" | .index => "index" | .rev => ""
def Mu.name : Mu → Str | .append => "append" | .extend => "extend" | .pop => "pop" | .popAt => "pop" | .clear => "clear"
def Tgt.own (N : List Str) (t : Tgt) : List (Str × Nat) := t.slots.filterMap fun i => (N[i]?).map (·, i)
def isSl : Expr → Bool | .Slice .. => true | _ => false
def isLc : Expr → Bool | .ListComp .. => true | .SetComp .. => true | .DictComp .. => true | _ => false
def nmB (A : Code) (sc : Scope) (i : Nat) : Expr → Bool
  | .Name x _ => A.N[i]? == some x && locB sc x
  | _ => false
def nmsB (A : Code) (sc : Scope) : List Nat → List Expr → Bool
  | [], [] => true
  | i :: is, e :: es => nmB A sc i e && nmsB A sc is es
  | _, _ => false
def mtT (A : Code) (sc : Scope) : Tgt → Expr → Bool
  | .nm i, e => nmB A sc i e
  | .tp is, .Tuple es _ _ => nmsB A sc is es
  | _, _ => false
def isTup : Expr → Bool | .Tuple .. => true | _ => false
def notSet : Expr → Bool | .Set .. => false | _ => true
def plainBase : Expr → Bool | .Call (.Name _ _) [] [] _ => false | _ => true
mutual
def mtE (A : Code) (sc : Scope) : E → Expr → Bool
  | .var i _, .Name x _ => A.N[i]? == some x && visB sc x && nomg x
  | .non, .Constant .none _ _ => true
  | .bl b, .Constant (.bool c) _ _ => b == c
  | .int i, .Constant (.int j) _ _ => i == j
  | .str s, .Constant (.str x) _ _ => x.cps.toList == s && s.all fun c => decide (c < 0x110000)
  | .glb g, .Name x _ => A.gn[g]? == some x && glB sc x && nomg x
  | .tup es, .Tuple xs _ _ => mtEs A sc es xs
  | .lst es, .List xs _ => mtEs A sc es xs
  | .bin _ op a b, .BinOp x o y _ => op == o && mtE A sc a x && mtE A sc b y
  | .cmp op a b, .Compare x [o] [y] _ => op == o && mtE A sc a x && mtE A sc b y && behindInMarks o y == false
  | .chn o1 o2 a b c, .Compare x [p1, p2] [y, z] _ => o1 == p1 && o2 == p2 && mtE A sc a x && mtE A sc b y && mtE A sc c z && lastMarks [p1, p2] [y, z] == false
  | .revl a, .Subscript x (.Slice none none (some (.UnaryOp .USub (.Constant (.int 1) _ _) _)) _) _ => mtE A sc a x
  | .neg a, .UnaryOp .USub x _ => mtE A sc a x
  | .not_ a, .UnaryOp .Not x _ => mtE A sc a x
  | .bop o a b, .BoolOp op (x :: y :: rest) pos => (if o then op == .Or else op == .And) && mtE A sc a x && (if rest.isEmpty then mtE A sc b y else mtE A sc b (.BoolOp op (y :: rest) pos))
  | .idx _ a i, .Subscript x y _ => mtE A sc a x && mtE A sc i y && !isSl y
  | .slc _ a lo hi, .Subscript x (.Slice l u none _) _ => mtE A sc a x && mtOE A sc lo l && mtOE A sc hi u
  | .call f as, .Call (.Name x _) (e :: es) [] _ => A.fn[f]? == some x && glB sc x && nomg x && mtAs A sc as (e :: es)
  | .bi b es, .Call (.Name x _) xs [] _ => x == b.name && glB sc x && (match b.how, xs with
    | .is T, [e, .Name y _] => y == (T : Str) && glB sc y && (match es with | .cons a .nil => mtE A sc a e | _ => false)
    | .is _, _ => false
    | _, e :: es' => mtEs A sc es (e :: es')
    | _, [] => false)
  | .bm m o es, .Call (.Attribute x nm ap) (e :: es') [] cp => nm == m.name && plainBase x && mtE A sc o x && mtEs A sc es (e :: es') && ap.endLine == cp.line && decide ((e :: es').length < 30) && m != .rev
  | .bm m o .nil, .Subscript x (.Slice none none (some (.UnaryOp .USub (.Constant (.int 1) _ _) _)) _) _ => m == .rev && mtE A sc o x
  | .mu m i es, .Call (.Attribute (.Name x _) nm ap) xs [] cp => nm == m.name && A.N[i]? == some x && visB sc x && nomg x && mtEs A sc es xs && ap.endLine == cp.line && decide (xs.length < 30)
  | .comp t it c e, .ListComp elt [⟨tg, iter, ifs, 0⟩] scope _ => mtT A scope t tg && mtIt A sc it tg iter && (match ifs with | [] => mtOE A (relS scope sc) c none | [x] => mtOE A (relS scope sc) c (some x) | _ => false) && mtE A (relS scope sc) e elt && blkC A.N sc scope (t.own A.N) && decide ((t.own A.N).map (·.2) = t.slots)
  | _, _ => false
def mtEs (A : Code) (sc : Scope) : Es → List Expr → Bool
  | .nil, [] => true
  | .cons e es, x :: xs => mtE A sc e x && mtEs A sc es xs
  | _, _ => false
def mtOE (A : Code) (sc : Scope) : OE → Option Expr → Bool
  | .none, none => true
  | .some e, some x => mtE A sc e x
  | _, _ => false
def mtAs (A : Code) (sc : Scope) : As → List Expr → Bool
  | .nil, [] => true
  | .val e as, x :: xs => mtE A sc e x && mtAs A sc as xs
  | .own e as, x :: xs => mtE A sc e x && mtAs A sc as xs
  | .ino i as, .Name x _ :: xs => A.N[i]? == some x && visB sc x && nomg x && mtAs A sc as xs
  | _, _ => false
def mtIt (A : Code) (sc : Scope) : It → Expr → Expr → Bool
  | .val _ e, _, x => mtE A sc e x && notSet x
  | .rng es, _, .Call (.Name x _) xs [] _ => x == ("range" : Str) && glB sc x && (match xs with | [_] => true | [_, _] => true | _ => false) && mtEs A sc es xs
  | .enum true e, tg, .Call (.Name x _) [y] [] _ => x == ("enumerate" : Str) && glB sc x && isTup tg && mtE A sc e y
  | .enum false e, tg, .Call (.Name x _) [y] [] _ => x == ("enumerate" : Str) && glB sc x && isTup tg && mtE A sc e y
  | .zip false false a b, tg, .Call (.Name x _) [y, z] [] _ => x == ("zip" : Str) && glB sc x && isTup tg && mtE A sc a y && mtE A sc b z
  | .zip true true a b, tg, .Call (.Name x _) [y, z] [] _ => x == ("zip" : Str) && glB sc x && isTup tg && mtE A sc a y && mtE A sc b z
  | _, _, _ => false
end
/-- `name = [.. for ..]` on one line -/
def swB (sc : Scope) (t : Expr) (v : Expr) (line : Nat) : Option Bool := match v with
  | .ListComp _ _ scope _ => match t with
    | .Name x p => some (sc.names.lookup x == some .local && p.line == v.pos.line && !(scope.names.any fun (n, k) => n == x && (k == .local || k == .cell)))
    | _ => some false
  | .SetComp .. => none
  | .DictComp .. => none
  | _ => some false
mutual
def mtS (A : Code) (sc : Scope) : S → Stmt → Bool
  | .asg t e, .Assign [tg] v pos => mtT A sc t tg && mtE A sc e v && (swB sc tg v pos.line).isSome && !(isTup tg && isTup v)
  | .setI i k e, .Assign [.Subscript (.Name x _) j _] v _ => A.N[i]? == some x && visB sc x && nomg x && mtE A sc k j && !isSl j && mtE A sc e v
  | .expr e, .Expr v _ => mtE A sc e v && !isLc v
  | .ret e, .Return (some v) _ => mtE A sc e v
  | .retN, .Return none _ => true
  | .if_ c a b, .If v x y _ => mtE A sc c v && mtSs A sc a x && mtSs A sc b y
  | .for_ _ t it b, .For tg v x [] _ => mtT A sc t tg && mtIt A sc it tg v && mtSs A sc b x
  | .while_ _ c b, .While v x [] _ => mtE A sc c v && mtSs A sc b x
  | .brk, .Break _ => true
  | .cnt, .Continue _ => true
  | .pass, .Pass _ => true
  | .dead, _ => true
  | _, _ => false
def mtSs (A : Code) (sc : Scope) : Ss → List Stmt → Bool
  | .nil, [] => true
  | .cons s ss, x :: xs => mtS A sc s x && mtSs A sc ss xs
  | _, _ => false
end

/-! ### what a def promises -/
def ArgsR (K : PySem.W.Frag) (H : Hp) (M : Fp) : List PM → List D → List V → Fp → Prop
  | [], [], [], F => F = []
  | .inn k :: ps, d :: ds, v :: vs, F => (∃ G, Rep false K H d v G ∧ d.dep k = true ∧ ∀ a ∈ G, a ∉ M) ∧ ArgsR K H M ps ds vs F
  | .ino k :: ps, d :: ds, v :: vs, F => ∃ F1 F2, F = F1 ++ F2 ∧ Rep true K H d v F1 ∧ d.dep k = true ∧ ArgsR K H M ps ds vs F2
  | _, _, _, _ => False
def OutsR (K : PySem.W.Frag) (H : Hp) : List PM → List V → List D → Fp → Prop
  | [], [], [], F => F = []
  | .inn _ :: ps, _ :: vs, ds, F => OutsR K H ps vs ds F
  | .ino k :: ps, v :: vs, d :: ds, F => ∃ F1 F2, F = F1 ++ F2 ∧ Rep true K H d v F1 ∧ d.dep k = true ∧ OutsR K H ps vs ds F2
  | _, _, _, _ => False
structure PostR (K : PySem.W.Frag) (H H' : Hp) (s : Sig) (vs : List V) (F : Fp) (d : D) (outs : List D) (v : V) (Fr F' : Fp) : Prop where
  rep : Rep true K H' d v Fr
  dep : d.dep s.k = true
  outs : OutsR K H' s.ps vs outs F'
  nd : (Fr ++ F').Nodup
  new : ∀ a ∈ Fr, a ∈ F ∨ H a = none
  old : ∀ a ∈ F', a ∈ F ∨ H a = none
  ext : Ext (· ∈ F) H H'
/-- how an exception looks: its class, its dict -/
abbrev XRel := Exc → Value → Option Addr → Hp → Prop
def spOf (K : PySem.W.Frag) (XR : XRel) (s : Sig) (S : List D → (FOut → Prop) → Prop) : Sp := fun vs H Q E => ∃ ds Post F, S ds Post ∧ ArgsR K H F s.ps ds vs F ∧ F.Nodup ∧
  (∀ d outs, Post (.ret d outs) → ∀ v H' Fr F', PostR K H H' s vs F d outs v Fr F' → Q v H') ∧ ∀ x, Post (.exc x) → ∀ c o H', Ext (· ∈ F) H H' → XR x c o H' → E c o H'
theorem ArgsR.len {K : PySem.W.Frag} {H : Hp} {M : Fp} : ∀ {ps : List PM} {ds : List D} {vs : List V} {F : Fp}, ArgsR K H M ps ds vs F → vs.length = ps.length
  | [], [], [], _, _ => rfl
  | .inn _ :: ps, _ :: ds, _ :: vs, _, h => by simp [ArgsR.len h.2]
  | .ino _ :: ps, _ :: ds, _ :: vs, _, h => by
    obtain ⟨_, _, _, _, _, h⟩ := h
    simp [ArgsR.len h]
  | [], _ :: _, _, _, h => h.elim
  | [], [], _ :: _, _, h => h.elim
  | .inn _ :: _, [], _, _, h => h.elim
  | .inn _ :: _, _ :: _, [], _, h => h.elim
  | .ino _ :: _, [], _, _, h => h.elim
  | .ino _ :: _, _ :: _, [], _, h => h.elim

/-- the context is of this code -/
structure Good (P : Program) (w : World) (K : PySem.W.Frag) (mg : Str → Option Value) (base : Heap) (A : Code) (kk : Nat) (E : XK) (sc : Scope) (X : Cx) : Prop where
  prog : X.prog = P
  wld : X.w = w
  eK : X.K = K
  emg : X.mg = mg
  ebase : X.base = base
  hN : X.N = A.N
  nd : A.N.Nodup
  esc : X.env.scope = sc
  calm : X.calm = true
  room : Room kk X.A
  pass : Passes (L2.CX P w) X E
/-- .. of a def's own body -/
structure GoodF (P : Program) (w : World) (K : PySem.W.Frag) (mg : Str → Option Value) (base : Heap) (A : Code) (kk : Nat) (E : XK) (sc : Scope) (X : Cx) : Prop where
  good : Good P w K mg base A kk E sc X
  fnl : ∀ x, L2.Loc sc x → X.fn x = true ∨ List.lookup x sc.names = some NameKind.local
  kind : sc.kind = .function
  own : PassesOwn (model X.prog X.w) X.A X.env X.xe
structure Facts (P : Program) (w : World) (K : PySem.W.Frag) (mg : Str → Option Value) (base : Heap) (A : Code) (C : Ctx) (G : TC) (kk : Nat) (XR : XRel) : Prop where
  glob : ∀ g d x, C.glob g = some d → A.gn[g]? = some x → ∃ v u, mg x = some u ∧ RelV v u ∧ (∀ H, Rep false K H d v []) ∧ d.dep (G.gk g) = true
  blt : ∀ b : Bi, mg b.name = none
  tys : ∀ T ∈ ["bool", "int", "str", "list"], mg (Str.ofString T) = none
  its : mg "range" = none ∧ mg "enumerate" = none ∧ mg "zip" = none
  calls : ∀ f s x, G.sig f = some s → A.fn[f]? = some x → ∃ addr fd ps, mg x = some (.ref addr) ∧ PySem.W.keepIn K (.ref addr) = true ∧ Binds K fd ps [] ∧ FnOk P w K mg base (L2.CX P w) kk addr fd ps (spOf K XR s (C.spec f))
end Pm

namespace Pm
open PySem L2

section
variable {K : PySem.W.Frag} {H0 H H' : Hp} {M : Addr → Prop} {ow : Addr → Id} {Γ Γ' : List STy} {ρ : Penv} {σ : St}
theorem TempOk.at {Θs : List Ty} {θs : List (D × V)} {ty : Ty} {d : D} {v : V} {Θ : List Ty} {θ : List (D × V)} (h : TempOk K H ow (Θs ++ ty :: Θ) (θs ++ (d, v) :: θ)) (e : Θs.length = θs.length) : EntOk K H ow (.tmp Θ.length) ty d v :=
  (TempOk.drop h e).1
theorem stack_cons {t : Ty} {ts Θ : List Ty} : (t :: ts).reverse ++ Θ = ts.reverse ++ (t :: Θ) := by simp
theorem zip_cons {d : D} {v : V} {ds : List D} {vs : List V} {θ : List (D × V)} : ((d :: ds).zip (v :: vs)).reverse ++ θ = (ds.zip vs).reverse ++ ((d, v) :: θ) := by simp
theorem zlen {ts : List Ty} {ds : List D} {vs : List V} (h1 : ds.length = ts.length) (h2 : vs.length = ts.length) : ts.reverse.length = (ds.zip vs).reverse.length := by
  simp [List.length_zip, h1, h2]
theorem Rep.weakF {w : Bool} {d : D} {v : V} {F : Fp} (r : Rep w K H d v F) : Rep false K H d v F := r.weak
theorem TempOk.reps : ∀ {ts : List Ty} {ds : List D} {vs : List V} {Θ : List Ty} {θ : List (D × V)}, TempOk K H ow (ts.reverse ++ Θ) ((ds.zip vs).reverse ++ θ) → ds.length = ts.length → vs.length = ts.length →
    ∃ F, Reps false K H ds vs F ∧ ∀ k, (∀ t ∈ ts, t.k ≤ k) → D.deps k ds = true
  | [], [], [], _, _, _, _, _ => ⟨[], .nil, fun _ _ => by simp [D.deps]⟩
  | t :: ts, d :: ds, v :: vs, Θ, θ, h, e1, e2 => by
    rw [stack_cons, zip_cons] at h
    simp at e1 e2
    obtain ⟨F, r, hd⟩ := TempOk.reps h e1 e2
    obtain ⟨G, rr, hg, _⟩ := h.at (zlen e1 e2)
    exact ⟨G ++ F, .cons rr.weak r, fun k hk => by simp only [D.deps, hd k fun t ht => hk t (List.mem_cons_of_mem _ ht), D.dep_mono (hk t List.mem_cons_self) d hg, Bool.and_self]⟩
  | [], _ :: _, _, _, _, _, e, _ => by simp at e
  | [], [], _ :: _, _, _, _, _, e => by simp at e
  | _ :: _, [], _, _, _, _, e, _ => by simp at e
  | _ :: _, _ :: _, [], _, _, _, _, e => by simp at e
theorem TempOk.repsO : ∀ {ts : List Ty} {ds : List D} {vs : List V} {Θ : List Ty} {θ : List (D × V)}, TempOk K H ow (ts.reverse ++ Θ) ((ds.zip vs).reverse ++ θ) → ds.length = ts.length → vs.length = ts.length → ts.all Ty.free = true →
    ∃ F, Reps true K H ds vs F ∧ F.Nodup ∧ ∀ a ∈ F, hiTmp Θ.length (ow a)
  | [], [], [], _, _, _, _, _, _ => ⟨[], .nil, List.nodup_nil, fun _ h => by simp at h⟩
  | t :: ts, d :: ds, v :: vs, Θ, θ, h, e1, e2, hf => by
    rw [stack_cons, zip_cons] at h
    simp at e1 e2
    rw [List.all_cons, Bool.and_eq_true] at hf
    obtain ⟨F, r, nd, hl⟩ := TempOk.repsO h e1 e2 hf.2
    have q := h.at (zlen e1 e2)
    have q' : ∃ G, Rep true K H d v G ∧ G.Nodup ∧ ∀ a ∈ G, ow a = .tmp Θ.length := by
      by_cases h0 : t.k = 0
      · obtain ⟨G, rr, hg, _⟩ := q
        rw [h0] at hg
        exact ⟨[], (rr.imm hg).2, List.nodup_nil, fun _ h => by simp at h⟩
      · obtain ⟨G, rr, hg, hl⟩ := q
        have hp : t.p = .own := by
          have := hf.1
          unfold Ty.free at this
          have h0' : (t.k == 0) = false := by simpa using h0
          rw [h0', Bool.false_or] at this
          cases e : t.p <;> rw [e] at this <;> first | rfl | cases this
        rw [hp] at rr hl
        exact ⟨G, rr, hl.1, hl.2⟩
    obtain ⟨G, rr, nd1, hl1⟩ := q'
    refine ⟨G ++ F, .cons rr r, List.nodup_append.mpr ⟨nd1, nd, fun a ha b hb e => ?_⟩, fun a ha => ?_⟩
    · subst e
      have := hl a hb
      rw [hl1 a ha] at this
      exact absurd (show (t :: Θ).length ≤ Θ.length from this) (by simp)
    · rcases List.mem_append.mp ha with ha | ha
      · rw [hl1 a ha]; exact Nat.le_refl _
      · have := hl a ha
        cases e : ow a with
        | tmp j => rw [e] at this; exact Nat.le_of_lt (show (t :: Θ).length ≤ j from this)
        | frz => rw [e] at this; exact this.elim
        | slot i => rw [e] at this; exact this.elim
  | [], _ :: _, _, _, _, _, e, _, _ => by simp at e
  | [], [], _ :: _, _, _, _, _, e, _ => by simp at e
  | _ :: _, [], _, _, _, _, e, _, _ => by simp at e
  | _ :: _, _ :: _, [], _, _, _, _, e, _ => by simp at e
/-- a new value is told in the place of temporaries -/
theorem Rel.new {Θs Θ : List Ty} {θs θ : List (D × V)} (R : Rel K H0 M Γ ρ σ (Θs ++ Θ) (θs ++ θ) H) (hl : Θs.length = θs.length) {d : D} {v : V} {k : Nat} (n : New K H H' d v k) : Rel K H0 M Γ ρ σ (fresh k :: Θ) ((d, v) :: θ) H' := by
  obtain ⟨ow, R⟩ := R
  obtain ⟨F, r, hd, nd, hn, x⟩ := n
  by_cases h0 : k = 0
  · subst h0
    obtain ⟨rfl, r'⟩ := r.imm hd
    exact R.resI hl r' hd (x.mono fun _ h => h.elim)
  · unfold fresh
    rw [if_neg h0]
    exact R.res hl r hd nd (fun a ha => .inl (hn a ha)) (x.mono fun _ h => h.elim)
theorem Rel.len1 {ty : Ty} {Θ : List Ty} {p : D × V} {θ : List (D × V)} (R : Rel K H0 M Γ ρ σ (ty :: Θ) (p :: θ) H) : ∃ F, Rep ty.p.w K H p.1 p.2 F ∧ p.1.dep ty.k = true := by
  obtain ⟨ow, R⟩ := R
  obtain ⟨F, r, hd, _⟩ := R.temp.1
  exact ⟨F, r, hd⟩
theorem Rel.len2 {ty ty' : Ty} {Θ : List Ty} {p q : D × V} {θ : List (D × V)} (R : Rel K H0 M Γ ρ σ (ty' :: ty :: Θ) (q :: p :: θ) H) : ∃ F, Rep ty.p.w K H p.1 p.2 F ∧ p.1.dep ty.k = true := by
  obtain ⟨ow, R⟩ := R
  obtain ⟨F, r, hd, _⟩ := R.temp.2.1
  exact ⟨F, r, hd⟩

open Classical in
/-- what is borrowed, or frozen, stands alone on top -/
theorem Rw.squash {Θs Θ : List Ty} {θs θ : List (D × V)} {ty : Ty} {d : D} {v : V} (R : Rw K H0 M ow Γ ρ σ (Θs ++ Θ) (θs ++ θ) H) (hl : Θs.length = θs.length) (h : ∃ F, Rep ty.p.w K H d v F ∧ d.dep ty.k = true ∧ ty.p ≠ .own ∧ LabOk ow (.tmp 0) F ty.p) : Rel K H0 M Γ ρ σ (ty :: Θ) ((d, v) :: θ) H := by
  have nz : ∀ i, hiTmp Θ.length i → i ≠ .frz := fun i z e => by subst e; exact z
  refine ⟨fun a => if hiTmp Θ.length (ow a) then .frz else ow a, ?_⟩
  have s : Step (hiTmp Θ.length) ow (fun a => if hiTmp Θ.length (ow a) then .frz else ow a) H H := ⟨Ext.refl, fun a _ h2 => by simp [h2], fun a h => (R.lab a (nz _ h)).1⟩
  obtain ⟨F, r, hd, hp, hl'⟩ := h
  refine ⟨R.lρ, R.lσ, R.nb, fun i ty d' h1 h2 => ?_, ⟨⟨F, r, hd, ?_⟩, (R.temp.drop hl).step s (tempsOff_hi (Nat.le_refl _))⟩, R.ext, fun a h => ?_, fun a j h => ?_⟩
  · obtain ⟨v', e, q⟩ := R.slot i ty d' h1 h2
    exact ⟨v', e, q.step s (slotsOff_hi i ty h1)⟩
  · cases e : ty.p with
    | own => exact absurd e hp
    | frz =>
      rw [e] at hl'
      intro a ha
      have := hl' a ha
      simp [this, hiTmp]
    | bor xs =>
      rw [e] at hl'
      intro a ha
      rcases hl' a ha with z | ⟨i, hi, z⟩
      · left; simp [z, hiTmp]
      · right; exact ⟨i, hi, by simp [z, hiTmp]⟩
  · by_cases hh : hiTmp Θ.length (ow a)
    · simp [hh] at h
    · simp only [hh, if_false] at h
      exact R.lab a h
  · by_cases hh : hiTmp Θ.length (ow a)
    · simp [hh] at h
    · simp only [hh, if_false] at h
      rw [h] at hh
      simp only [List.length_cons]
      exact Nat.lt_succ_of_lt (Nat.lt_of_not_le hh)
end


variable (P : Program) (w : World) (K : PySem.W.Frag) (mg : Str → Option Value) (base : Heap) (A : Code) (C : Ctx) (G : TC) (kk : Nat) (XR : XRel)
def ExcOk (Ex : XK) (M : Addr → Prop) (H0 : Hp) (Xk : Exc → Penv → Prop) : Prop := ∀ x ρ' c o H', Ext M H0 H' → Xk x ρ' → XR x c o H' → Ex c o H'
theorem ExcOk.no {Ex : XK} {M : Addr → Prop} {H0 : Hp} : ExcOk XR Ex M H0 (fun _ _ => False) := fun _ _ _ _ _ _ h => h.elim
def RdE (Ex : XK) (e : E) (t : TE) : Prop := ∀ H0 M Γ Θ ty Γ' ρ σ θ H (Kk : D → Penv → Prop) (Xk : Exc → Penv → Prop) (Q : VK), tyE G Γ Θ e = some (ty, Γ') → Rel K H0 M Γ ρ σ Θ θ H → evalE C e ρ Kk Xk → ExcOk XR Ex M H0 Xk →
  (∀ d ρ' v H', Rel K H0 M Γ' ρ' σ (ty :: Θ) ((d, v) :: θ) H' → Kk d ρ' → Q v H') → t σ H Q
def SE (e : E) : Prop := ∀ Ex sc pe, mtE A sc e pe = true → ∃ t : TE, (∀ X, Good P w K mg base A kk Ex sc X → PE X pe t) ∧ RdE K C G XR Ex e t
def RdT (Ex : XK) (e : E) (t : TT) : Prop := ∀ H0 M Γ Θ ty Γ' ρ σ θ H (Kk : D → Penv → Prop) (Xk : Exc → Penv → Prop) (Q : Bool → Hp → Prop), tyE G Γ Θ e = some (ty, Γ') → Rel K H0 M Γ ρ σ Θ θ H → evalE C e ρ Kk Xk → ExcOk XR Ex M H0 Xk →
  (∀ d ρ' H', Rel K H0 M Γ' ρ' σ Θ θ H' → Kk d ρ' → ∃ b, d.truth = some b ∧ Q b H') → t σ H Q
def isBop : Expr → Bool | .BoolOp .. => true | _ => false
def ST (e : E) : Prop := ∀ Ex sc pe, mtE A sc e pe = true → ∃ t : TT, (∀ X, Good P w K mg base A kk Ex sc X → PT X pe t ∧ (isBop pe = true → PW X pe t)) ∧ RdT K C G XR Ex e t
def plainTest : Expr → Bool
  | .UnaryOp .Not _ _ => false
  | .BoolOp .. => false
  | .IfExp .. => false
  | .Compare .. => false
  | _ => true
theorem plain_isTrue {pe : Expr} (h : plainTest pe = true) (env : Env) : ∀ whole, isTrue pe env whole = (do let v ← whole; standAt pe.pos; holding [v] (truthy v)) := by
  intro whole
  cases pe with
  | UnaryOp op x pos => cases op <;> first | rfl | cases h
  | BoolOp _ _ _ => cases h
  | IfExp _ _ _ _ => cases h
  | Compare _ _ _ _ => cases h
  | _ => rfl
theorem tru_of {w : Bool} {K : PySem.W.Frag} {H : Hp} {d : D} {v : V} {F : Fp} (r : Rep w K H d v F) {b : Bool} (h : d.truth = some b) : TruV K v H b := by
  have empt : ∀ {ds : List D} {vs : List V} {F : Fp}, Reps w K H ds vs F → ds.isEmpty = vs.isEmpty := fun r => by cases r <;> rfl
  cases r with
  | non => cases h; rfl
  | bl c => cases h; rfl
  | int i => cases h; rfl
  | str s _ => cases h
  | tup s r => cases h; exact .inr (.inl ⟨_, s, by rw [empt r]⟩)
  | lst s r => cases h; exact .inl ⟨_, .inl (.inl s), by rw [empt r]⟩
  | lstF _ s r => cases h; exact .inl ⟨_, .inl (.inr ⟨_, s⟩), by rw [empt r]⟩
  | lstW _ s r => cases h; exact .inl ⟨_, s H, by rw [empt r]⟩
variable {P w K mg base A C G kk XR}
theorem st_of_se {e : E} (h : SE P w K mg base A C G kk XR e) (hp : ∀ sc pe, mtE A sc e pe = true → plainTest pe = true) : ST P w K mg base A C G kk XR e := fun Ex sc pe hm => by
  obtain ⟨t, h1, h2⟩ := h Ex sc pe hm
  have hpl := hp sc pe hm
  refine ⟨fun σ H Q => t σ H fun x H' => ∃ k, TruV K x H' k ∧ Q k H', fun X g => ⟨?_, fun hb => ?_⟩, ?_⟩
  · have := pt_truth (h1 X g) (plain_isTrue hpl X.env)
    rw [g.eK] at this
    exact this
  · cases pe <;> first | (cases hpl; done) | (cases hb; done)
  · intro H0 M Γ Θ ty Γ' ρ σ θ H Kk Xk Q ht R he hx hq
    refine h2 _ _ _ _ _ _ _ _ _ _ _ _ _ ht R he hx fun d ρ' v H' R' hk => ?_
    obtain ⟨b, e, q⟩ := hq d ρ' H' R'.pop hk
    obtain ⟨F, r, _⟩ := R'.len1
    exact ⟨b, tru_of r e, q⟩

theorem mt_name {sc : Scope} {N : List Str} {i : Nat} {x : Str} (h : (N[i]? == some x && visB sc x && nomg x) = true) : N[i]? = some x ∧ Vis sc x ∧ (x == ("__debug__" : Str)) = false ∧ (x == ("__classdict__" : Str)) = false := by
  simp only [Bool.and_eq_true, beq_iff_eq, visB, locB, nomg, Bool.or_eq_true] at h
  obtain ⟨⟨h1, h2⟩, h3, h4⟩ := h
  refine ⟨h1, ?_, h3, h4⟩
  rcases h2 with (h2 | h2) | h2
  · exact .inl h2
  · exact .inr (.inl h2)
  · exact .inr (.inr h2)
theorem mt_gl {sc : Scope} {x : Str} (h : glB sc x = true) : sc.names.lookup x = some .globalImplicit := by simpa [glB] using h
theorem Good.gl {Ex : XK} {sc : Scope} {X : Cx} (g : Good P w K mg base A kk Ex sc X) {x : Str} (h : glB sc x = true) : Gl X x := by
  show X.env.scope.names.lookup x = _
  rw [g.esc]; exact mt_gl h
theorem Good.pv {Ex : XK} {sc : Scope} {X : Cx} (g : Good P w K mg base A kk Ex sc X) {i : Nat} {x : Str} {pos : Pos} (h : (A.N[i]? == some x && visB sc x && nomg x) = true) : PE X (.Name x pos) (tVar i) := by
  obtain ⟨h1, h2, h3, h4⟩ := mt_name h
  exact pe_var (by rw [g.hN]; exact h1) (by rw [g.esc]; exact h2) h3 h4
theorem Good.hu {Ex : XK} {sc : Scope} {X : Cx} (g : Good P w K mg base A kk Ex sc X) : X.A.units + 65 < cLine := by have := g.room.un; omega

theorem se_var (i : Nat) (m : UM) : SE P w K mg base A C G kk XR (.var i m) := fun Ex sc pe hm => by
  cases pe <;> try exact absurd hm Bool.false_ne_true
  rename_i x pos
  have hm : (A.N[i]? == some x && visB sc x && nomg x) = true := hm
  refine ⟨tVar i, fun X g => g.pv hm, ?_⟩
  intro H0 M Γ Θ ty Γ' ρ σ θ H Kk Xk Q ht R he hx hq
  have he : (match ρ[i]? with | some (some d) => Kk d ρ | _ => False) := he
  obtain ⟨ow, R⟩ := R
  have hd : ∃ d, ρ[i]? = some (some d) ∧ Kk d ρ := by
    cases e : ρ[i]? with
    | none => rw [e] at he; exact he.elim
    | some o => cases o with
      | none => rw [e] at he; exact he.elim
      | some d => rw [e] at he; exact ⟨d, rfl, he⟩
  obtain ⟨d, e, hk⟩ := hd
  unfold tyE at ht
  split at ht <;> try (cases ht; done)
  rename_i t hΓ
  by_cases h0 : t.k = 0
  · rw [if_pos h0] at ht
    cases ht
    obtain ⟨v, hv, R'⟩ := R.borrow (ty' := imm) hΓ e h0.symm (.inl rfl)
    exact ⟨v, hv, hq d ρ v H ⟨ow, R'⟩ hk⟩
  · rw [if_neg h0] at ht
    split at ht
    · rename_i hp
      cases ht
      obtain ⟨v, hv, R'⟩ := R.borrow (ty' := ⟨.bor [i], t.k⟩) hΓ e rfl (.inr (.inl ⟨hp, rfl⟩))
      exact ⟨v, hv, hq d ρ v H ⟨ow, R'⟩ hk⟩
    · rename_i hp
      cases ht
      obtain ⟨v, hv, R'⟩ := R.borrow (ty' := ⟨.frz, t.k⟩) hΓ e rfl (.inr (.inr ⟨hp, rfl⟩))
      exact ⟨v, hv, hq d ρ v H ⟨ow, R'⟩ hk⟩
    · cases ht
      have R2 := R.freeze hΓ (Nat.le_refl _)
      have hΓ2 : (Γ.set i (some ⟨.frz, t.k⟩))[i]? = some (some ⟨.frz, t.k⟩) := List.getElem?_set_self (List.getElem?_eq_some_iff.mp hΓ).1
      obtain ⟨v, hv, R'⟩ := R2.borrow (ty' := ⟨.frz, t.k⟩) hΓ2 e rfl (.inr (.inr ⟨rfl, rfl⟩))
      exact ⟨v, hv, hq d ρ v H ⟨_, R'⟩ hk⟩
    · rename_i hp
      by_cases hb : noBor i Θ = true
      · rw [if_pos hb] at ht
        cases ht
        obtain ⟨v, ow', hv, R'⟩ := R.move hΓ e hp hb
        have e2 : t = ⟨.own, t.k⟩ := by rw [← hp]
        exact ⟨v, hv, hq d ρ v H ⟨ow', by rw [← e2]; exact R'⟩ hk⟩
      · rw [if_neg hb] at ht; cases ht
    · cases ht
/-- a value without lists -/
theorem se_cst {e : E} {d : D} {v : V} (hty : ∀ Γ Θ, tyE G Γ Θ e = some (imm, Γ)) (hev : ∀ ρ Kk Xk, evalE C e ρ Kk Xk → Kk d ρ)
    (hpe : ∀ sc pe, mtE A sc e pe = true → (∀ X, PE X pe (tC v)) ∧ ∀ K H, Rep true K H d v []) (hd : d.dep 0 = true) : SE P w K mg base A C G kk XR e := fun Ex sc pe hm => by
  refine ⟨tC v, fun X _ => (hpe sc pe hm).1 X, ?_⟩
  intro H0 M Γ Θ ty Γ' ρ σ θ H Kk Xk Q ht R he hx hq
  rw [hty] at ht
  cases ht
  exact hq d ρ v H (R.imm ((hpe sc pe hm).2 _ _) hd) (hev _ _ _ he)
theorem se_non : SE P w K mg base A C G kk XR .non := se_cst (d := .non) (v := .non) (fun _ _ => by unfold tyE; rfl) (fun _ _ _ h => by unfold evalE at h; exact h)
  (fun sc pe hm => ⟨fun X => by
    unfold mtE at hm
    split at hm <;> first | exact absurd hm Bool.false_ne_true | skip
    all_goals first | exact pe_non | (rename_i h; cases h)
    , fun _ _ => .non⟩) (by simp [D.dep])
end Pm

namespace Pm
open PySem L2
variable {P : Program} {w : World} {K : PySem.W.Frag} {mg : Str → Option Value} {base : Heap} {A : Code} {C : Ctx} {G : TC} {kk : Nat} {XR : XRel}

theorem se_bl (b : Bool) : SE P w K mg base A C G kk XR (.bl b) := se_cst (d := .bl b) (v := .bl b) (fun _ _ => by unfold tyE; rfl) (fun _ _ _ h => by unfold evalE at h; exact h)
  (fun sc pe hm => ⟨fun X => by
    unfold mtE at hm
    split at hm <;> first | exact absurd hm Bool.false_ne_true | skip
    all_goals first | (rename_i h; cases h; done) | skip
    rename_i h
    injection h with h
    subst h
    have := eq_of_beq hm
    subst this
    exact pe_bl, fun _ _ => .bl b⟩) (by simp [D.dep])
theorem se_int (i : Int) : SE P w K mg base A C G kk XR (.int i) := se_cst (d := .int i) (v := .int i) (fun _ _ => by unfold tyE; rfl) (fun _ _ _ h => by unfold evalE at h; exact h)
  (fun sc pe hm => ⟨fun X => by
    unfold mtE at hm
    split at hm <;> first | exact absurd hm Bool.false_ne_true | skip
    all_goals first | (rename_i h; cases h; done) | skip
    rename_i h
    injection h with h
    subst h
    have := eq_of_beq hm
    subst this
    exact pe_int, fun _ _ => .int i⟩) (by simp [D.dep])
theorem se_str (s : List Nat) : SE P w K mg base A C G kk XR (.str s) := fun Ex sc pe hm => by
  unfold mtE at hm
  split at hm <;> first | exact absurd hm Bool.false_ne_true | skip
  all_goals first | (rename_i h; cases h; done) | skip
  rename_i h
  injection h with h
  subst h
  simp only [Bool.and_eq_true, beq_iff_eq, List.all_eq_true, decide_eq_true_eq] at hm
  obtain ⟨h1, h2⟩ := hm
  rename_i x _ _
  have hx : x = toStr s := by
    rw [← h1]; rfl
  refine ⟨tC (.str (toStr s)), fun X _ => by rw [hx]; exact pe_str, ?_⟩
  intro H0 M Γ Θ ty Γ' ρ σ θ H Kk Xk Q ht R he hx hq
  unfold tyE at ht
  cases ht
  unfold evalE at he
  exact hq _ ρ _ H (R.imm (.str s h2) (by simp [D.dep])) he
theorem se_glb (F : Facts P w K mg base A C G kk XR) (n : Nat) : SE P w K mg base A C G kk XR (.glb n) := fun Ex sc pe hm => by
  unfold mtE at hm
  split at hm <;> first | exact absurd hm Bool.false_ne_true | skip
  all_goals first | (rename_i h; cases h; done) | skip
  rename_i h
  injection h with h
  subst h
  rename_i x _
  simp only [Bool.and_eq_true, beq_iff_eq] at hm
  obtain ⟨⟨h1, h2⟩, h3⟩ := hm
  simp only [nomg, Bool.and_eq_true, beq_iff_eq] at h3
  cases e : C.glob n with
  | none =>
    refine ⟨fun _ _ _ => False, fun X g => ⟨fun _ _ _ _ _ _ h => h.elim⟩, ?_⟩
    intro H0 M Γ Θ ty Γ' ρ σ θ H Kk Xk Q ht R he hx hq
    unfold evalE at he
    rw [e] at he; exact he
  | some d =>
    obtain ⟨v, u, f1, f2, f3, f4⟩ := F.glob n d x e h1
    refine ⟨tC v, fun X g => pe_glob (g.gl h2) (by rw [g.emg]; exact f1) f2 h3.1, ?_⟩
    intro H0 M Γ Θ ty Γ' ρ σ θ H Kk Xk Q ht R he hx hq
    unfold tyE at ht
    cases ht
    unfold evalE at he
    rw [e] at he
    obtain ⟨ow, R⟩ := R
    exact hq d ρ v H ⟨ow, R.push ⟨[], f3 H, f4, LabOk.nil⟩⟩ he

/-! ### lists of expressions -/
def RdEs (K : PySem.W.Frag) (C : Ctx) (G : TC) (XR : XRel) (Ex : XK) (es : Es) (t : TA) : Prop := ∀ H0 M Γ Θ ts Γ' ρ σ θ H (Kk : List D → Penv → Prop) (Xk : Exc → Penv → Prop) (Q : List V → Hp → Prop), tyEs G Γ Θ es = some (ts, Γ') → Rel K H0 M Γ ρ σ Θ θ H → evalEs C es ρ Kk Xk → ExcOk XR Ex M H0 Xk →
  (∀ ds ρ' vs H', ds.length = ts.length → vs.length = ts.length → Rel K H0 M Γ' ρ' σ (ts.reverse ++ Θ) ((ds.zip vs).reverse ++ θ) H' → Kk ds ρ' → Q vs H') → t σ H Q
def SEs (P : Program) (w : World) (K : PySem.W.Frag) (mg : Str → Option Value) (base : Heap) (A : Code) (C : Ctx) (G : TC) (kk : Nat) (XR : XRel) (es : Es) : Prop :=
  ∀ Ex sc pes, mtEs A sc es pes = true → (∀ pe ∈ pes, ∀ e pos, pe ≠ .Starred e pos) ∧ ∃ t : TA, (∀ X, Good P w K mg base A kk Ex sc X → PA X pes t) ∧ RdEs K C G XR Ex es t
theorem mt_nostar {sc : Scope} {e : E} {x : Expr} {pos : Pos} : ¬ mtE A sc e (.Starred x pos) = true := by
  intro h
  cases e <;> exact absurd h Bool.false_ne_true
theorem star_cons {e : Expr} {es : List Expr} {env : Env} (h : ∀ x pos, e ≠ .Starred x pos) : starEach (e :: es) env = (false, eval e env) :: starEach es env := by
  cases e <;> first | rfl | exact absurd rfl (h _ _)
theorem star_any {es : List Expr} {env : Env} (h : ∀ pe ∈ es, ∀ e pos, pe ≠ .Starred e pos) (pos : Pos) : (backTo pos (starEach es env)).any (·.1) = false := by
  induction es with
  | nil => rfl
  | cons e es ih =>
    rw [star_cons (h e List.mem_cons_self)]
    show (false || (backTo pos (starEach es env)).any (·.1)) = false
    rw [ih fun pe hp => h pe (List.mem_cons_of_mem _ hp)]; rfl
theorem ses_nil : SEs P w K mg base A C G kk XR .nil := fun Ex sc pes hm => by
  cases pes with
  | cons _ _ => exact absurd hm Bool.false_ne_true
  | nil =>
    refine ⟨fun _ h => by simp at h, tNil, fun X g => pa_nil, ?_⟩
    intro H0 M Γ Θ ts Γ' ρ σ θ H Kk Xk Q ht R he hx hq
    unfold tyEs at ht
    cases ht
    unfold evalEs at he
    exact hq [] ρ [] H rfl rfl R he
theorem ses_cons {e : E} {es : Es} (h1 : SE P w K mg base A C G kk XR e) (h2 : SEs P w K mg base A C G kk XR es) : SEs P w K mg base A C G kk XR (.cons e es) := fun Ex sc pes hm => by
  cases pes with
  | nil => exact absurd hm Bool.false_ne_true
  | cons pe pes =>
    have hm : (mtE A sc e pe && mtEs A sc es pes) = true := hm
    rw [Bool.and_eq_true] at hm
    obtain ⟨t1, p1, r1⟩ := h1 Ex sc pe hm.1
    obtain ⟨ns, t2, p2, r2⟩ := h2 Ex sc pes hm.2
    have ns1 : ∀ x pos, pe ≠ .Starred x pos := fun x pos e' => by subst e'; exact mt_nostar hm.1
    refine ⟨fun q hq x pos => ?_, tCons t1 t2, fun X g => pa_cons (p1 X g) (p2 X g) (star_cons ns1), ?_⟩
    · rcases List.mem_cons.mp hq with rfl | hq
      · exact ns1 x pos
      · exact ns q hq x pos
    · intro H0 M Γ Θ ts Γ' ρ σ θ H Kk Xk Q ht R he hx hq
      unfold tyEs at ht
      split at ht <;> try (cases ht; done)
      rename_i t Γ1 ht1
      split at ht <;> try (cases ht; done)
      rename_i ts' Γ2 ht2
      cases ht
      unfold evalEs at he
      refine r1 _ _ _ _ _ _ _ _ _ _ _ _ _ ht1 R he hx fun d ρ1 v H1 R1 he1 => ?_
      refine r2 _ _ _ _ _ _ _ _ _ _ _ _ _ ht2 R1 he1 hx fun ds ρ2 vs H2 l1 l2 R2 hk => ?_
      refine hq (d :: ds) ρ2 (v :: vs) H2 (by simp [l1]) (by simp [l2]) ?_ hk
      rw [stack_cons, zip_cons]; exact R2
/-- a display -/
theorem foldl_max {ts : List Ty} : ∀ {n : Nat}, n ≤ ts.foldl (fun k t => max k t.k) n ∧ ∀ t ∈ ts, t.k ≤ ts.foldl (fun k t => max k t.k) n := by
  induction ts with
  | nil => exact ⟨Nat.le_refl _, fun _ h => by simp at h⟩
  | cons t ts ih =>
    intro n
    obtain ⟨h1, h2⟩ := @ih (max n t.k)
    refine ⟨Nat.le_trans (Nat.le_max_left _ _) h1, fun u hu => ?_⟩
    rcases List.mem_cons.mp hu with rfl | hu
    · exact Nat.le_trans (Nat.le_max_right _ _) h1
    · exact h2 u hu
theorem not_star {pe : Expr} {x : Expr} {pos : Pos} : True := trivial
theorem se_tup {es : Es} (h : SEs P w K mg base A C G kk XR es) : SE P w K mg base A C G kk XR (.tup es) := fun Ex sc pe hm => by
  unfold mtE at hm
  split at hm <;> first | exact absurd hm Bool.false_ne_true | skip
  all_goals first | (rename_i h; cases h; done) | skip
  rename_i h'
  injection h' with h'
  subst h'
  obtain ⟨_, t, p, r⟩ := h Ex sc _ hm
  refine ⟨tTup t, fun X g => pe_tup (p X g), ?_⟩
  intro H0 M Γ Θ ty Γ' ρ σ θ H Kk Xk Q ht R he hx hq
  unfold tyE at ht
  split at ht <;> try (cases ht; done)
  rename_i ts Γ1 ht1
  split at ht <;> try (cases ht; done)
  rename_i hf
  cases ht
  unfold evalE at he
  refine r _ _ _ _ _ _ _ _ _ _ _ _ _ ht1 R he hx fun ds ρ1 vs H1 l1 l2 R1 hk => ?_
  have R1' := R1
  obtain ⟨ow, R1⟩ := R1
  obtain ⟨F, rr, nd, hl⟩ := R1.temp.repsO l1 l2 hf
  obtain ⟨F', rr', hd⟩ := R1.temp.reps l1 l2
  have hz : vs.length ≤ sizeLine := by rw [← rr.len]; exact hk.1
  refine ⟨hz, fun p hp => hq (.tup ds) ρ1 (.ref p) _ ?_ hk.2⟩
  have hd' := hd _ (fun t ht => (foldl_max (n := 0)).2 t ht)
  by_cases h0 : ts.foldl (fun k t => max k t.k) 0 = 0
  · unfold fresh
    rw [if_pos h0]
    rw [h0] at hd'
    exact R1.resI (zlen l1 l2) (.tup (.inl (.inl upd_same)) ((rr.imm hd').2.up hp)) (by rw [dep_tup]; exact hd') (Ext.upd (.inl hp))
  · unfold fresh
    rw [if_neg h0]
    exact R1.res (zlen l1 l2) (.tup (.inl (.inl upd_same)) (rr.up hp)) (by rw [dep_tup]; exact hd') nd (fun a ha => .inr (hl a ha)) (Ext.upd (.inl hp))
theorem se_lst {es : Es} (h : SEs P w K mg base A C G kk XR es) : SE P w K mg base A C G kk XR (.lst es) := fun Ex sc pe hm => by
  unfold mtE at hm
  split at hm <;> first | exact absurd hm Bool.false_ne_true | skip
  all_goals first | (rename_i h; cases h; done) | skip
  rename_i h'
  injection h' with h'
  subst h'
  obtain ⟨_, t, p, r⟩ := h Ex sc _ hm
  refine ⟨tLst t, fun X g => pe_lst (p X g), ?_⟩
  intro H0 M Γ Θ ty Γ' ρ σ θ H Kk Xk Q ht R he hx hq
  unfold tyE at ht
  split at ht <;> try (cases ht; done)
  rename_i ts Γ1 ht1
  split at ht <;> try (cases ht; done)
  rename_i hf
  cases ht
  unfold evalE at he
  refine r _ _ _ _ _ _ _ _ _ _ _ _ _ ht1 R he hx fun ds ρ1 vs H1 l1 l2 R1 hk => ?_
  have R1' := R1
  obtain ⟨ow, R1⟩ := R1
  obtain ⟨F, rr, nd, hl⟩ := R1.temp.repsO l1 l2 hf
  obtain ⟨F', rr', hd⟩ := R1.temp.reps l1 l2
  have hz : vs.length ≤ sizeLine := by rw [← rr.len]; exact hk.1
  refine ⟨hz, fun p hp => hq (.lst ds) ρ1 (.ref p) _ ?_ hk.2⟩
  have hd' := hd _ (fun t ht => (foldl_max (n := 0)).2 t ht)
  have np : p ∉ F := fun hm => mut_ne (rr.mut p hm) hp
  exact R1.res (zlen l1 l2) (.lst upd_same (rr.up hp)) (by rw [dep_lst]; exact hd') (List.nodup_cons.mpr ⟨np, nd⟩)
    (fun a ha => (List.mem_cons.mp ha).elim (fun e => by subst e; exact .inl hp) fun h => .inr (hl a h)) (Ext.upd (.inl hp))
/-- two expressions, one behind the other, then an operation of their values -/
theorem two {Ex : XK} {a b : E} {ta tb : TE} (r1 : RdE K C G XR Ex a ta) (r2 : RdE K C G XR Ex b tb) {H0 : Hp} {M : Addr → Prop} {Γ : List STy} {Θ : List Ty} {t u : Ty} {Γ1 Γ2 : List STy} {ρ : Penv} {σ : St} {θ : List (D × V)} {H : Hp} {Kk : D → D → Penv → Prop} {Xk : Exc → Penv → Prop} {Q : V → V → Hp → Prop}
    (h1 : tyE G Γ Θ a = some (t, Γ1)) (h2 : tyE G Γ1 (t :: Θ) b = some (u, Γ2)) (R : Rel K H0 M Γ ρ σ Θ θ H) (he : evalE C a ρ (fun x ρ1 => evalE C b ρ1 (fun y ρ2 => Kk x y ρ2) Xk) Xk) (hx : ExcOk XR Ex M H0 Xk)
    (hq : ∀ x y ρ' v v' H', Rel K H0 M Γ2 ρ' σ (u :: t :: Θ) ((y, v') :: (x, v) :: θ) H' → Kk x y ρ' → Q v v' H') : ta σ H fun x H1 => tb σ H1 fun y H2 => Q x y H2 := by
  refine r1 _ _ _ _ _ _ _ _ _ _ _ _ _ h1 R he hx fun d ρ1 v H1 R1 he1 => ?_
  refine r2 _ _ _ _ _ _ _ _ _ _ _ _ _ h2 R1 he1 hx fun d2 ρ2 v2 H2 R2 hk => ?_
  exact hq d d2 ρ2 v v2 H2 R2 hk
theorem se_bin {l : Bool} {op : Operator} {a b : E} (ha : SE P w K mg base A C G kk XR a) (hb : SE P w K mg base A C G kk XR b) : SE P w K mg base A C G kk XR (.bin l op a b) := fun Ex sc pe hm => by
  unfold mtE at hm
  split at hm <;> first | exact absurd hm Bool.false_ne_true | skip
  all_goals first | (rename_i h; cases h; done) | skip
  rename_i h'
  injection h' with g1 g2 g3 g4
  subst g1 g2 g3 g4
  simp only [Bool.and_eq_true, beq_iff_eq] at hm
  obtain ⟨⟨e, m1⟩, m2⟩ := hm
  subst e
  obtain ⟨ta, p1, r1⟩ := ha Ex sc _ m1
  obtain ⟨tb, p2, r2⟩ := hb Ex sc _ m2
  refine ⟨tOp (rBin K l op) ta tb, fun X g => ?_, ?_⟩
  · exact pe_op ((bin_ok K l op).1 X g.eK) (p1 X g) (p2 X g)
  · intro H0 M Γ Θ ty Γ' ρ σ θ H Kk Xk Q ht R he hx hq
    unfold tyE at ht
    split at ht <;> try (cases ht; done)
    rename_i t Γ1 ht1
    split at ht <;> try (cases ht; done)
    rename_i u Γ2 ht2
    unfold evalE at he
    refine two r1 r2 ht1 ht2 R he hx fun x y ρ' v v' H' R' hk => ?_
    obtain ⟨F2, q2, d2⟩ := R'.len1
    obtain ⟨F1, q1, d1⟩ := R'.len2
    refine (bin_ok K l op).2 _ _ _ _ _ _ _ _ _ _ _ q1 q2 ?_ hk fun d v'' H'' hd n => ?_
    · cases l with
      | true =>
        simp only [if_true] at ht ⊢
        split at ht <;> try (cases ht; done)
        rename_i hc
        exact ⟨⟨hc.2.2.1, hc.2.2.2⟩, D.dep_mono hc.1 _ d1, D.dep_mono hc.2.1 _ d2⟩
      | false =>
        simp only [Bool.false_eq_true, if_false] at ht ⊢
        split at ht <;> try (cases ht; done)
        rename_i hc
        exact ⟨by rw [← hc.1]; exact d1, by rw [← hc.2]; exact d2⟩
    · refine hq d ρ' v'' H'' ?_ hd
      have R2 := Rel.new (Θs := [u, t]) (θs := [(y, v'), (x, v)]) R' rfl n
      cases l with
      | true =>
        simp only [if_true] at ht
        split at ht <;> try (cases ht; done)
        cases ht
        exact R2
      | false =>
        simp only [Bool.false_eq_true, if_false] at ht
        split at ht <;> try (cases ht; done)
        cases ht
        exact R2
theorem se_cmp {op : CmpOp} {a b : E} (ha : SE P w K mg base A C G kk XR a) (hb : SE P w K mg base A C G kk XR b) : SE P w K mg base A C G kk XR (.cmp op a b) := fun Ex sc pe hm => by
  unfold mtE at hm
  split at hm <;> first | exact absurd hm Bool.false_ne_true | skip
  all_goals first | (rename_i h; cases h; done) | skip
  rename_i h'
  injection h' with g1 g3 g4
  subst g1 g3 g4
  simp only [Bool.and_eq_true, beq_iff_eq] at hm
  obtain ⟨⟨⟨e, m1⟩, m2⟩, m3⟩ := hm
  subst e
  obtain ⟨ta, p1, r1⟩ := ha Ex sc _ m1
  obtain ⟨tb, p2, r2⟩ := hb Ex sc _ m2
  refine ⟨tOp (rCmp K op) ta tb, fun X g => pe_cmpR ((cmp_ok K op).1 X g.eK g.hu) (p1 X g) (p2 X g) m3, ?_⟩
  intro H0 M Γ Θ ty Γ' ρ σ θ H Kk Xk Q ht R he hx hq
  unfold tyE at ht
  split at ht <;> try (cases ht; done)
  rename_i t Γ1 ht1
  split at ht <;> try (cases ht; done)
  rename_i u Γ2 ht2
  cases ht
  unfold evalE at he
  refine two r1 r2 ht1 ht2 R he hx fun x y ρ' v v' H' R' hk => ?_
  obtain ⟨F2, q2, d2⟩ := R'.len1
  obtain ⟨F1, q1, d1⟩ := R'.len2
  refine (cmp_ok K op).2 _ _ _ _ _ _ _ _ _ _ _ q1 q2 hk fun c hc => ?_
  exact hq _ ρ' _ H' (Rel.new (Θs := [u, t]) (θs := [(y, v'), (x, v)]) R' rfl New.bl) hc
/-- .. as a test -/
theorem st_cmp {op : CmpOp} {a b : E} (ha : SE P w K mg base A C G kk XR a) (hb : SE P w K mg base A C G kk XR b) : ST P w K mg base A C G kk XR (.cmp op a b) := fun Ex sc pe hm => by
  obtain ⟨t, p, r⟩ := se_cmp ha hb Ex sc pe hm
  unfold mtE at hm
  split at hm <;> first | exact absurd hm Bool.false_ne_true | skip
  all_goals first | (rename_i h; cases h; done) | skip
  rename_i h'
  injection h' with g1 g3 g4
  subst g1 g3 g4
  simp only [Bool.and_eq_true, beq_iff_eq] at hm
  obtain ⟨⟨⟨e, m1⟩, m2⟩, m3⟩ := hm
  subst e
  obtain ⟨ta, p1, r1⟩ := ha Ex sc _ m1
  obtain ⟨tb, p2, r2⟩ := hb Ex sc _ m2
  refine ⟨tTest (tOp (rCmp K op) ta tb), fun X g => ⟨pt_cmpR ((cmp_ok K op).1 X g.eK g.hu) (p1 X g) (p2 X g) m3, fun h => by cases h⟩, ?_⟩
  intro H0 M Γ Θ ty Γ' ρ σ θ H Kk Xk Q ht R he hx hq
  unfold tyE at ht
  split at ht <;> try (cases ht; done)
  rename_i t Γ1 ht1
  split at ht <;> try (cases ht; done)
  rename_i u Γ2 ht2
  cases ht
  unfold evalE at he
  refine two r1 r2 ht1 ht2 R he hx fun x y ρ' v v' H' R' hk => ?_
  obtain ⟨F2, q2, d2⟩ := R'.len1
  obtain ⟨F1, q1, d1⟩ := R'.len2
  refine (cmp_ok K op).2 _ _ _ _ _ _ _ _ _ _ _ q1 q2 hk fun c hc => ?_
  obtain ⟨b, e, q⟩ := hq _ ρ' H' (Rel.drop (Θs := [u, t]) (θs := [(y, v'), (x, v)]) rfl R') hc
  cases e
  exact ⟨_, rfl, q⟩
theorem se_neg {a : E} (ha : SE P w K mg base A C G kk XR a) : SE P w K mg base A C G kk XR (.neg a) := fun Ex sc pe hm => by
  unfold mtE at hm
  split at hm <;> first | exact absurd hm Bool.false_ne_true | skip
  all_goals first | (rename_i h; cases h; done) | skip
  rename_i h'
  injection h' with g1
  subst g1
  obtain ⟨ta, p1, r1⟩ := ha Ex sc _ hm
  refine ⟨tUn (rU fun i => .int (-i)) ta, fun X g => pe_un un_neg (p1 X g), ?_⟩
  intro H0 M Γ Θ ty Γ' ρ σ θ H Kk Xk Q ht R he hx hq
  unfold tyE at ht
  split at ht <;> try (cases ht; done)
  rename_i t Γ1 ht1
  cases ht
  unfold evalE at he
  refine r1 _ _ _ _ _ _ _ _ _ _ _ _ _ ht1 R he hx fun d ρ1 v H1 R1 hk => ?_
  obtain ⟨F1, q1, d1⟩ := R1.len1
  cases d <;> try exact hk.elim
  have e := q1.int_inv
  have e : v = .int _ := e
  subst e
  exact ⟨_, rfl, hq _ ρ1 _ H1 (Rel.new (Θs := [t]) (θs := [(_, _)]) R1 rfl New.int) hk⟩
theorem se_not {a : E} (ha : SE P w K mg base A C G kk XR a) : SE P w K mg base A C G kk XR (.not_ a) := fun Ex sc pe hm => by
  unfold mtE at hm
  split at hm <;> first | exact absurd hm Bool.false_ne_true | skip
  all_goals first | (rename_i h; cases h; done) | skip
  rename_i h'
  injection h' with g1
  subst g1
  obtain ⟨ta, p1, r1⟩ := ha Ex sc _ hm
  refine ⟨tNotT K ta, fun X g => by
    rw [← g.eK]
    exact pe_notT (p1 X g), ?_⟩
  intro H0 M Γ Θ ty Γ' ρ σ θ H Kk Xk Q ht R he hx hq
  unfold tyE at ht
  split at ht <;> try (cases ht; done)
  rename_i t Γ1 ht1
  cases ht
  unfold evalE at he
  refine r1 _ _ _ _ _ _ _ _ _ _ _ _ _ ht1 R he hx fun d ρ1 v H1 R1 hk => ?_
  obtain ⟨F1, q1, d1⟩ := R1.len1
  cases e : d.truth with
  | none => simp only [e] at hk
  | some c =>
    simp only [e] at hk
    exact ⟨c, tru_of q1 e, hq _ ρ1 _ H1 (Rel.new (Θs := [t]) (θs := [(_, _)]) R1 rfl New.bl) hk⟩
theorem st_not {a : E} (ha : ST P w K mg base A C G kk XR a) : ST P w K mg base A C G kk XR (.not_ a) := fun Ex sc pe hm => by
  unfold mtE at hm
  split at hm <;> first | exact absurd hm Bool.false_ne_true | skip
  all_goals first | (rename_i h; cases h; done) | skip
  rename_i h'
  injection h' with g1
  subst g1
  obtain ⟨ta, p1, r1⟩ := ha Ex sc _ hm
  refine ⟨tNot ta, fun X g => ⟨pt_not (p1 X g).1, fun h => by cases h⟩, ?_⟩
  intro H0 M Γ Θ ty Γ' ρ σ θ H Kk Xk Q ht R he hx hq
  unfold tyE at ht
  split at ht <;> try (cases ht; done)
  rename_i t Γ1 ht1
  cases ht
  unfold evalE at he
  refine r1 _ _ _ _ _ _ _ _ _ _ _ _ _ ht1 R he hx fun d ρ1 H1 R1 hk => ?_
  cases e : d.truth with
  | none => simp only [e] at hk
  | some c =>
    simp only [e] at hk
    obtain ⟨b, e1, q⟩ := hq _ ρ1 H1 R1 hk
    cases e1
    exact ⟨c, rfl, q⟩
theorem se_bop {o : Bool} {a b : E} (ha : SE P w K mg base A C G kk XR a) (hb : SE P w K mg base A C G kk XR b) : SE P w K mg base A C G kk XR (.bop o a b) := fun Ex sc pe hm => by
  unfold mtE at hm
  split at hm <;> first | exact absurd hm Bool.false_ne_true | skip
  all_goals first | (rename_i h; cases h; done) | skip
  rename_i op x y rest pos h'
  injection h' with g1 g2 g3
  subst g1 g2 g3
  simp only [Bool.and_eq_true] at hm
  obtain ⟨⟨m0, m1⟩, m2⟩ := hm
  obtain ⟨ta, p1, r1⟩ := ha Ex sc _ m1
  have hb' : ∃ tb, (∀ X, Good P w K mg base A kk Ex sc X → PE X (.BoolOp op (y :: rest) pos) tb) ∧ RdE K C G XR Ex b tb := by
    cases rest with
    | nil =>
      obtain ⟨tb, p, r⟩ := hb Ex sc y (by simpa using m2)
      exact ⟨tb, fun X g => pe_one (p X g), r⟩
    | cons z rest => exact hb Ex sc _ (by simpa using m2)
  obtain ⟨tb, p2, r2⟩ := hb'
  refine ⟨if o = true then tOrT K ta tb else tAndT K ta tb, fun X g => ?_, ?_⟩
  · cases o with
    | true =>
      have : op = .Or := by simpa using m0
      subst this
      rw [← g.eK]
      exact pe_orT (p1 X g) (p2 X g)
    | false =>
      have : op = .And := by simpa using m0
      subst this
      rw [← g.eK]
      exact pe_andT (p1 X g) (p2 X g)
  · intro H0 M Γ Θ ty Γ' ρ σ θ H Kk Xk Q ht R he hx hq
    unfold tyE at ht
    split at ht <;> try (cases ht; done)
    rename_i t Γ1 ht1
    split at ht <;> try (cases ht; done)
    rename_i u Γ2 ht2
    split at ht <;> try (cases ht; done)
    rename_i hc
    obtain ⟨c1, c2, rfl⟩ := hc
    cases ht
    unfold evalE at he
    have key : ∀ (d : D) ρ1 v H1, Rel K H0 M Γ' ρ1 σ (t :: Θ) ((d, v) :: θ) H1 → (match d.truth with | some c => if c = o then Kk d ρ1 else evalE C b ρ1 Kk Xk | none => False) → ∃ k, TruV K v H1 k ∧ if k = o then Q v H1 else tb σ H1 Q := by
      intro d ρ1 v H1 R1 hk
      obtain ⟨F1, q1, d1⟩ := R1.len1
      cases e : d.truth with
      | none => simp only [e] at hk
      | some c =>
        simp only [e] at hk
        refine ⟨c, tru_of q1 e, ?_⟩
        by_cases hco : c = o
        · rw [if_pos hco] at hk ⊢
          refine hq d ρ1 v H1 ?_ hk
          rw [c1] at d1
          exact Rel.new (Θs := [t]) (θs := [(d, v)]) R1 rfl (q1.immw d1)
        · rw [if_neg hco] at hk ⊢
          refine r2 _ _ _ _ _ _ _ _ _ _ _ _ _ ht2 R1.pop hk hx fun d2 ρ2 v2 H2 R2 hk2 => ?_
          refine hq d2 ρ2 v2 H2 ?_ hk2
          obtain ⟨F2, q2, d2'⟩ := R2.len1
          rw [c2] at d2'
          exact Rel.new (Θs := [u]) (θs := [(d2, v2)]) R2 rfl (q2.immw d2')
    cases o with
    | true =>
      refine r1 _ _ _ _ _ _ _ _ _ _ _ _ _ ht1 R he hx fun d ρ1 v H1 R1 hk => ?_
      exact key d ρ1 v H1 R1 hk
    | false =>
      refine r1 _ _ _ _ _ _ _ _ _ _ _ _ _ ht1 R he hx fun d ρ1 v H1 R1 hk => ?_
      obtain ⟨k, h1, h2⟩ := key d ρ1 v H1 R1 hk
      refine ⟨k, h1, ?_⟩
      cases k with
      | true => simpa using h2
      | false => simpa using h2
theorem st_bop {o : Bool} {a b : E} (ha : ST P w K mg base A C G kk XR a) (hb : ST P w K mg base A C G kk XR b) : ST P w K mg base A C G kk XR (.bop o a b) := fun Ex sc pe hm => by
  unfold mtE at hm
  split at hm <;> first | exact absurd hm Bool.false_ne_true | skip
  all_goals first | (rename_i h; cases h; done) | skip
  rename_i op x y rest pos h'
  injection h' with g1 g2 g3
  subst g1 g2 g3
  simp only [Bool.and_eq_true] at hm
  obtain ⟨⟨m0, m1⟩, m2⟩ := hm
  obtain ⟨ta, p1, r1⟩ := ha Ex sc _ m1
  have hb' : ∃ tb, (∀ X, Good P w K mg base A kk Ex sc X → PW X (.BoolOp op (y :: rest) pos) tb) ∧ RdT K C G XR Ex b tb := by
    cases rest with
    | nil =>
      obtain ⟨tb, p, r⟩ := hb Ex sc y (by simpa using m2)
      refine ⟨tb, fun X g => ?_, r⟩
      cases o with
      | true =>
        have : op = .Or := by simpa using m0
        subst this
        exact pw_or1 (p X g).1
      | false =>
        have : op = .And := by simpa using m0
        subst this
        exact pw_and1 (p X g).1
    | cons z rest =>
      obtain ⟨tb, p, r⟩ := hb Ex sc _ (by simpa using m2)
      exact ⟨tb, fun X g => (p X g).2 rfl, r⟩
  obtain ⟨tb, p2, r2⟩ := hb'
  have hpw : ∀ X, Good P w K mg base A kk Ex sc X → PW X (.BoolOp op (x :: y :: rest) pos) (if o = true then tOr ta tb else tAnd ta tb) := fun X g => by
    cases o with
    | true =>
      have : op = .Or := by simpa using m0
      subst this
      exact pw_or (p1 X g).1 (p2 X g)
    | false =>
      have : op = .And := by simpa using m0
      subst this
      exact pw_and (p1 X g).1 (p2 X g)
  refine ⟨if o = true then tOr ta tb else tAnd ta tb, fun X g => ⟨(hpw X g).pt, fun _ => hpw X g⟩, ?_⟩
  intro H0 M Γ Θ ty Γ' ρ σ θ H Kk Xk Q ht R he hx hq
  unfold tyE at ht
  split at ht <;> try (cases ht; done)
  rename_i t Γ1 ht1
  split at ht <;> try (cases ht; done)
  rename_i u Γ2 ht2
  split at ht <;> try (cases ht; done)
  rename_i hc
  obtain ⟨c1, c2, rfl⟩ := hc
  cases ht
  unfold evalE at he
  have key : ∀ (d : D) ρ1 H1, Rel K H0 M Γ' ρ1 σ Θ θ H1 → (match d.truth with | some c => if c = o then Kk d ρ1 else evalE C b ρ1 Kk Xk | none => False) → ∃ k, d.truth = some k ∧ if k = o then Q k H1 else tb σ H1 Q := by
    intro d ρ1 H1 R1 hk
    cases e : d.truth with
    | none => simp only [e] at hk
    | some c =>
      simp only [e] at hk
      refine ⟨c, rfl, ?_⟩
      by_cases hco : c = o
      · rw [if_pos hco] at hk ⊢
        obtain ⟨b, e1, q⟩ := hq d ρ1 H1 R1 hk
        rw [e] at e1; cases e1
        exact q
      · rw [if_neg hco] at hk ⊢
        exact r2 _ _ _ _ _ _ _ _ _ _ _ _ _ ht2 R1 hk hx hq
  cases o with
  | true =>
    refine r1 _ _ _ _ _ _ _ _ _ _ _ _ _ ht1 R he hx fun d ρ1 H1 R1 hk => ?_
    obtain ⟨k, h1, h2⟩ := key d ρ1 H1 R1 hk
    refine ⟨k, h1, ?_⟩
    cases k with
    | true => simpa using h2
    | false => simpa using h2
  | false =>
    refine r1 _ _ _ _ _ _ _ _ _ _ _ _ _ ht1 R he hx fun d ρ1 H1 R1 hk => ?_
    obtain ⟨k, h1, h2⟩ := key d ρ1 H1 R1 hk
    refine ⟨k, h1, ?_⟩
    cases k with
    | true => simpa using h2
    | false => simpa using h2
end Pm

namespace Pm
open PySem L2
variable {P : Program} {w : World} {K : PySem.W.Frag} {mg : Str → Option Value} {base : Heap} {A : Code} {C : Ctx} {G : TC} {kk : Nat} {XR : XRel}

theorem rd_chain {Ex : XK} {o1 o2 : CmpOp} {a b c : E} {ta tb tc : TE} (r1 : RdE K C G XR Ex a ta) (r2 : RdE K C G XR Ex b tb) (r3 : RdE K C G XR Ex c tc)
    {H0 : Hp} {M : Addr → Prop} {Γ : List STy} {Θ : List Ty} {ty : Ty} {Γ' : List STy} {ρ : Penv} {σ : St} {θ : List (D × V)} {H : Hp} {Kk : D → Penv → Prop} {Xk : Exc → Penv → Prop} {Q : VK}
    (ht : tyE G Γ Θ (.chn o1 o2 a b c) = some (ty, Γ')) (R : Rel K H0 M Γ ρ σ Θ θ H) (he : evalE C (.chn o1 o2 a b c) ρ Kk Xk) (hx : ExcOk XR Ex M H0 Xk)
    (hq : ∀ z ρ' H', Rel K H0 M Γ' ρ' σ (ty :: Θ) ((.bl z, .bl z) :: θ) H' → Kk (.bl z) ρ' → Q (.bl z) H') : tChain (rCmp K o1) (rCmp K o2) ta tb tc σ H Q := by
  unfold tyE at ht
  split at ht <;> try (cases ht; done)
  rename_i t Γ1 ht1
  split at ht <;> try (cases ht; done)
  rename_i u Γ2 ht2
  split at ht <;> try (cases ht; done)
  rename_i s Γ3 ht3
  split at ht <;> try (cases ht; done)
  rename_i hc
  subst hc
  cases ht
  unfold evalE at he
  refine two r1 r2 ht1 ht2 R he hx fun x y ρ' v v' H' R' hk => ?_
  obtain ⟨F2, q2, d2⟩ := R'.len1
  obtain ⟨F1, q1, d1⟩ := R'.len2
  refine (cmp_ok K o1).2 _ _ _ _ _ _ _ _ _ _ _ q1 q2 hk fun z hz => ?_
  refine ⟨z, rfl, ?_⟩
  cases z with
  | false =>
    rw [if_neg Bool.false_ne_true]
    exact hq false ρ' H' (Rel.new (Θs := [u, t]) (θs := [(y, v'), (x, v)]) R' rfl New.bl) hz
  | true =>
    rw [if_pos rfl]
    refine r3 _ _ _ _ _ _ _ _ _ _ _ _ _ ht3 R' hz hx fun d3 ρ3 v3 H3 R3 hk3 => ?_
    obtain ⟨F3, q3, d3'⟩ := R3.len1
    obtain ⟨F4, q4, d4⟩ := R3.len2
    refine (cmp_ok K o2).2 _ _ _ _ _ _ _ _ _ _ _ q4 q3 hk3 fun z hz => ?_
    exact hq z ρ3 H3 (Rel.new (Θs := [s, u, t]) (θs := [(d3, v3), (y, v'), (x, v)]) R3 rfl New.bl) hz
theorem se_chn {o1 o2 : CmpOp} {a b c : E} (ha : SE P w K mg base A C G kk XR a) (hb : SE P w K mg base A C G kk XR b) (hc : SE P w K mg base A C G kk XR c) : SE P w K mg base A C G kk XR (.chn o1 o2 a b c) := fun Ex sc pe hm => by
  unfold mtE at hm
  split at hm <;> first | exact absurd hm Bool.false_ne_true | skip
  all_goals first | (rename_i h; cases h; done) | skip
  rename_i h'
  injection h' with g1 g2 g3 g4 g5
  subst g1 g2 g3 g4 g5
  simp only [Bool.and_eq_true, beq_iff_eq] at hm
  obtain ⟨⟨⟨⟨⟨e1, e2⟩, m1⟩, m2⟩, m3⟩, m4⟩ := hm
  subst e1 e2
  obtain ⟨ta, p1, r1⟩ := ha Ex sc _ m1
  obtain ⟨tb, p2, r2⟩ := hb Ex sc _ m2
  obtain ⟨tc, p3, r3⟩ := hc Ex sc _ m3
  refine ⟨tChain (rCmp K o1) (rCmp K o2) ta tb tc, fun X g => pe_chain ((cmp_ok K o1).1 X g.eK g.hu) ((cmp_ok K o2).1 X g.eK g.hu) (p1 X g) (p2 X g) (p3 X g) m4, ?_⟩
  intro H0 M Γ Θ ty Γ' ρ σ θ H Kk Xk Q ht R he hx hq
  exact rd_chain r1 r2 r3 ht R he hx fun z ρ' H' R' hk => hq _ ρ' _ H' R' hk
theorem st_chn {o1 o2 : CmpOp} {a b c : E} (ha : SE P w K mg base A C G kk XR a) (hb : SE P w K mg base A C G kk XR b) (hc : SE P w K mg base A C G kk XR c) : ST P w K mg base A C G kk XR (.chn o1 o2 a b c) := fun Ex sc pe hm => by
  unfold mtE at hm
  split at hm <;> first | exact absurd hm Bool.false_ne_true | skip
  all_goals first | (rename_i h; cases h; done) | skip
  rename_i h'
  injection h' with g1 g2 g3 g4 g5
  subst g1 g2 g3 g4 g5
  simp only [Bool.and_eq_true, beq_iff_eq] at hm
  obtain ⟨⟨⟨⟨⟨e1, e2⟩, m1⟩, m2⟩, m3⟩, m4⟩ := hm
  subst e1 e2
  obtain ⟨ta, p1, r1⟩ := ha Ex sc _ m1
  obtain ⟨tb, p2, r2⟩ := hb Ex sc _ m2
  obtain ⟨tc, p3, r3⟩ := hc Ex sc _ m3
  refine ⟨tTest (tChain (rCmp K o1) (rCmp K o2) ta tb tc), fun X g => ⟨pt_chain ((cmp_ok K o1).1 X g.eK g.hu) ((cmp_ok K o2).1 X g.eK g.hu) (p1 X g) (p2 X g) (p3 X g) m4, fun h => by cases h⟩, ?_⟩
  intro H0 M Γ Θ ty Γ' ρ σ θ H Kk Xk Q ht R he hx hq
  refine rd_chain r1 r2 r3 ht R he hx fun z ρ' H' R' hk => ?_
  obtain ⟨b, e, q⟩ := hq _ ρ' H' R'.pop hk
  cases e
  exact ⟨_, rfl, q⟩

/-! ### items -/
theorem plainIx {y : Expr} (h : isSl y = false) : PlainIx y := fun o i => by
  cases y <;> first | rfl | cases h
theorem se_idx {h : Bool} {a i : E} (ha : SE P w K mg base A C G kk XR a) (hi : SE P w K mg base A C G kk XR i) : SE P w K mg base A C G kk XR (.idx h a i) := fun Ex sc pe hm => by
  unfold mtE at hm
  split at hm <;> first | exact absurd hm Bool.false_ne_true | skip
  all_goals first | (rename_i h; cases h; done) | skip
  rename_i h'
  injection h' with g1 g2 g3
  subst g1 g2 g3
  simp only [Bool.and_eq_true, Bool.not_eq_true'] at hm
  obtain ⟨⟨m1, m2⟩, m3⟩ := hm
  obtain ⟨ta, p1, r1⟩ := ha Ex sc _ m1
  obtain ⟨tb, p2, r2⟩ := hi Ex sc _ m2
  refine ⟨tOp (rIx K) ta tb, fun X g => pe_ix ((idx_ok K h).1 X g.eK) (p1 X g) (p2 X g) (plainIx m3), ?_⟩
  intro H0 M Γ Θ ty Γ' ρ σ θ H Kk Xk Q ht R he hx hq
  unfold tyE at ht
  split at ht <;> try (cases ht; done)
  rename_i t Γ1 ht1
  split at ht <;> try (cases ht; done)
  rename_i u Γ2 ht2
  split at ht <;> try (cases ht; done)
  rename_i hu0
  unfold evalE at he
  refine two r1 r2 ht1 ht2 R he hx fun x y ρ' v v' H' R' hk => ?_
  obtain ⟨ow, R''⟩ := id R'
  obtain ⟨F2, q2, d2⟩ := R'.len1
  obtain ⟨F1, q1, d1, l1⟩ := R''.temp.2.1
  refine (idx_ok K h).2 _ _ _ _ _ _ _ _ _ _ _ q1 q2 hk fun d v'' E hd re hE hdep => ?_
  have dd := hdep _ d1
  have imm0 : t.k - (if h then 1 else 0) = 0 → Q v'' H' ∨ True := fun _ => .inr trivial
  cases h with
  | true =>
    simp only [if_true] at ht dd
    split at ht
    · rename_i h1
      cases ht
      rw [h1] at dd
      exact hq d ρ' v'' H' (Rel.new (Θs := [u, t]) (θs := [(y, v'), (x, v)]) R' rfl (re.immw dd)) hd
    · split at ht <;> try (cases ht; done)
      rename_i h1 h2
      cases ht
      refine hq d ρ' v'' H' (Rw.squash (Θs := [u, t]) (θs := [(y, v'), (x, v)]) R'' rfl ⟨E, re, dd, fun e => ?_, ?_⟩) hd
      · rw [e] at h2; exact h2 rfl
      · cases e : t.p with
        | own => rw [e] at h2; exact (h2 rfl).elim
        | frz => rw [e] at l1; exact fun a ha => l1 a (hE a ha)
        | bor xs => rw [e] at l1; exact fun a ha => l1 a (hE a ha)
  | false =>
    simp only [Bool.false_eq_true, if_false] at ht dd
    split at ht <;> try (cases ht; done)
    rename_i h1
    cases ht
    rw [h1] at dd
    exact hq d ρ' v'' H' (Rel.new (Θs := [u, t]) (θs := [(y, v'), (x, v)]) R' rfl (re.immw dd)) hd

/-! ### slices -/
def RdO (K : PySem.W.Frag) (C : Ctx) (G : TC) (XR : XRel) (Ex : XK) (e : OE) (t : TO) : Prop := ∀ H0 M Γ Θ Γ' ρ σ θ H (Kk : Option Int → Penv → Prop) (Xk : Exc → Penv → Prop) (Q : Option Int → Hp → Prop), tyOE G Γ Θ e = some Γ' → Rel K H0 M Γ ρ σ Θ θ H → evalOE C e ρ Kk Xk → ExcOk XR Ex M H0 Xk →
  (∀ o ρ' H', Rel K H0 M Γ' ρ' σ Θ θ H' → Kk o ρ' → Q o H') → t σ H Q
def SO (P : Program) (w : World) (K : PySem.W.Frag) (mg : Str → Option Value) (base : Heap) (A : Code) (C : Ctx) (G : TC) (kk : Nat) (XR : XRel) (e : OE) : Prop :=
  ∀ Ex sc pe, mtOE A sc e pe = true → ∃ t : TO, (∀ X, Good P w K mg base A kk Ex sc X → PO X pe t) ∧ RdO K C G XR Ex e t
theorem so_none : SO P w K mg base A C G kk XR .none := fun Ex sc pe hm => by
  cases pe with
  | some _ => exact absurd hm Bool.false_ne_true
  | none =>
    refine ⟨tNoPart, fun X g => po_none, ?_⟩
    intro H0 M Γ Θ Γ' ρ σ θ H Kk Xk Q ht R he hx hq
    unfold tyOE at ht
    cases ht
    unfold evalOE at he
    exact hq none ρ H R he
theorem so_some {e : E} (h : SE P w K mg base A C G kk XR e) : SO P w K mg base A C G kk XR (.some e) := fun Ex sc pe hm => by
  cases pe with
  | none => exact absurd hm Bool.false_ne_true
  | some pe =>
    obtain ⟨t, p, r⟩ := h Ex sc pe hm
    refine ⟨tPart t, fun X g => po_some (p X g), ?_⟩
    intro H0 M Γ Θ Γ' ρ σ θ H Kk Xk Q ht R he hx hq
    unfold tyOE at ht
    split at ht <;> try (cases ht; done)
    rename_i t0 Γ1 ht1
    cases ht
    unfold evalOE at he
    refine r _ _ _ _ _ _ _ _ _ _ _ _ _ ht1 R he hx fun d ρ1 v H1 R1 hk => ?_
    obtain ⟨F1, q1, d1⟩ := R1.len1
    cases d <;> try exact hk.elim
    exact ⟨_, q1.int_inv, hq _ ρ1 H1 R1.pop hk⟩
theorem reps_rev {K : PySem.W.Frag} {H : Hp} : ∀ {ds : List D} {vs : List V} {F : Fp}, Reps true K H ds vs F → D.deps 0 ds = true → Reps true K H ds.reverse vs.reverse [] ∧ D.deps 0 ds.reverse = true
  | _, _, _, .nil, _ => ⟨.nil, rfl⟩
  | d :: ds, _, _, .cons h r, e => by
    have e' : d.dep 0 = true ∧ D.deps 0 ds = true := by simpa [D.deps] using e
    obtain ⟨_, h0⟩ := h.imm e'.1
    obtain ⟨_, r0⟩ := r.imm e'.2
    obtain ⟨r1, d1⟩ := reps_rev r0 e'.2
    rw [List.reverse_cons, List.reverse_cons]
    refine ⟨Reps.app r1 (.cons (F := []) (G := []) h0 .nil), ?_⟩
    rw [deps_app, d1]
    simp [D.deps, e'.1]
theorem se_revl {a : E} (ha : SE P w K mg base A C G kk XR a) : SE P w K mg base A C G kk XR (.revl a) := fun Ex sc pe hm => by
  unfold mtE at hm
  split at hm <;> first | exact absurd hm Bool.false_ne_true | skip
  all_goals first | (rename_i h; cases h; done) | skip
  rename_i h'
  injection h' with g1
  subst g1
  obtain ⟨ta, p1, r1⟩ := ha Ex sc _ hm
  refine ⟨tRevL K ta, fun X g => by rw [← g.eK]; exact pe_revL (p1 X g), ?_⟩
  intro H0 M Γ Θ ty Γ' ρ σ θ H Kk Xk Q ht R he hx hq
  unfold tyE at ht
  split at ht <;> try (cases ht; done)
  rename_i t Γ1 ht1
  split at ht <;> try (cases ht; done)
  rename_i hc
  cases ht
  unfold evalE at he
  refine r1 _ _ _ _ _ _ _ _ _ _ _ _ _ ht1 R he hx fun d ρ1 v H1 R1 hk => ?_
  obtain ⟨F1, q1, d1⟩ := R1.len1
  cases d <;> try exact hk.elim
  rename_i xs
  obtain ⟨p, vs, _, rfl, s, rs, _⟩ := q1.lst_inv
  have hd : D.deps 0 xs = true := by
    have := D.dep_mono hc _ d1
    rwa [dep_lst] at this
  obtain ⟨_, r0⟩ := rs.imm hd
  obtain ⟨r2, d2⟩ := reps_rev r0 hd
  refine ⟨p, vs, rfl, s, fun q hq2 => hq (.lst xs.reverse) ρ1 (.ref q) _ ?_ hk⟩
  have R3 : Rel K H0 M Γ' ρ1 σ ([t] ++ Θ) ([(D.lst xs, .ref p)] ++ θ) H1 := R1
  exact Rel.new R3 rfl (New.list r2 d2 hq2)
theorem se_slc {l : Bool} {a : E} {lo hi : OE} (ha : SE P w K mg base A C G kk XR a) (h1 : SO P w K mg base A C G kk XR lo) (h2 : SO P w K mg base A C G kk XR hi) : SE P w K mg base A C G kk XR (.slc l a lo hi) := fun Ex sc pe hm => by
  unfold mtE at hm
  split at hm <;> first | exact absurd hm Bool.false_ne_true | skip
  all_goals first | (rename_i h; cases h; done) | skip
  rename_i h'
  injection h' with g1 g2 g3 g4
  subst g1 g2 g3 g4
  simp only [Bool.and_eq_true] at hm
  obtain ⟨⟨m1, m2⟩, m3⟩ := hm
  obtain ⟨ta, p1, r1⟩ := ha Ex sc _ m1
  obtain ⟨tl, p2, r2⟩ := h1 Ex sc _ m2
  obtain ⟨tu, p3, r3⟩ := h2 Ex sc _ m3
  refine ⟨tSl (rSlc K) ta tl tu, fun X g => pe_slice ((slc_ok K l).1 X g.eK) (p1 X g) (p2 X g) (p3 X g), ?_⟩
  intro H0 M Γ Θ ty Γ' ρ σ θ H Kk Xk Q ht R he hx hq
  unfold tyE at ht
  split at ht <;> try (cases ht; done)
  rename_i t Γ1 ht1
  split at ht <;> try (cases ht; done)
  rename_i Γ2 ht2
  split at ht <;> try (cases ht; done)
  rename_i Γ3 ht3
  unfold evalE at he
  refine r1 _ _ _ _ _ _ _ _ _ _ _ _ _ ht1 R he hx fun d ρ1 v H1 R1 he1 => ?_
  refine r2 _ _ _ _ _ _ _ _ _ _ _ _ ht2 R1 he1 hx fun o1 ρ2 H2 R2 he2 => ?_
  refine r3 _ _ _ _ _ _ _ _ _ _ _ _ ht3 R2 he2 hx fun o2 ρ3 H3 R3 hk => ?_
  obtain ⟨F1, q1, d1⟩ := R3.len1
  refine (slc_ok K l).2 _ _ _ _ _ _ _ _ _ q1 ?_ hk fun d' v' H' hd n => ?_
  · cases l with
    | true =>
      simp only [if_true] at ht ⊢
      split at ht <;> try (cases ht; done)
      rename_i hc
      exact D.dep_mono hc _ d1
    | false =>
      simp only [Bool.false_eq_true, if_false] at ht ⊢
      split at ht <;> try (cases ht; done)
      rename_i hc
      rw [← hc]; exact d1
  · refine hq d' ρ3 v' H' ?_ hd
    have R4 := Rel.new (Θs := [t]) (θs := [(d, v)]) R3 rfl n
    cases l with
    | true =>
      simp only [if_true] at ht
      split at ht <;> try (cases ht; done)
      cases ht
      exact R4
    | false =>
      simp only [Bool.false_eq_true, if_false] at ht
      split at ht <;> try (cases ht; done)
      cases ht
      exact R4
end Pm

namespace Pm
open PySem L2
variable {P : Program} {w : World} {K : PySem.W.Frag} {mg : Str → Option Value} {base : Heap} {A : Code} {C : Ctx} {G : TC} {kk : Nat} {XR : XRel}

/-! ### built-in functions -/
theorem fresh0 : fresh 0 = imm := rfl
theorem fresh1 : fresh 1 = ⟨.own, 1⟩ := rfl
theorem name_ok (b : Bi) : b.name ≠ ("__name__" : Str) ∧ (b.name == ("__debug__" : Str)) = false := by
  cases b with
  | list l => cases l <;> decide
  | tuple l => cases l <;> decide
  | _ => decide
theorem rd_bi {Ex : XK} {b : Bi} {es : Es} {t : TA} (r : RdEs K C G XR Ex es t) : RdE K C G XR Ex (.bi b es) (tCB (rBi K b) t) := by
  intro H0 M Γ Θ ty Γ' ρ σ θ H Kk Xk Q ht R he hx hq
  unfold tyE at ht
  split at ht <;> try (cases ht; done)
  rename_i ts Γ1 ht1
  unfold evalE at he
  refine r _ _ _ _ _ _ _ _ _ _ _ _ _ ht1 R he hx fun ds ρ1 vs H1 l1 l2 R1 hk => ?_
  obtain ⟨ow, R1'⟩ := id R1
  obtain ⟨F, rr, hd⟩ := R1'.temp.reps l1 l2
  have need : b.need ds ∧ (ty, Γ') = (fresh b.k, Γ1) := by
    cases b with
    | list l =>
      simp only at ht
      split at ht <;> try (cases ht; done)
      rename_i hc
      cases ht
      rw [List.all_eq_true] at hc
      refine ⟨?_, rfl⟩
      unfold Bi.need
      cases l with
      | true => exact hd 1 fun t ht => by have := hc t ht; simp at this; exact this
      | false => exact hd 0 fun t ht => by have := hc t ht; simp at this; omega
    | tuple l =>
      simp only at ht
      split at ht <;> try (cases ht; done)
      rename_i hc
      cases ht
      rw [List.all_eq_true] at hc
      refine ⟨?_, rfl⟩
      unfold Bi.need
      cases l with
      | true => exact hd 1 fun t ht => by have := hc t ht; simp at this; exact this
      | false => exact hd 0 fun t ht => by have := hc t ht; simp at this; omega
    | _ => simp only at ht; cases ht; exact ⟨trivial, rfl⟩
  obtain ⟨n1, n2⟩ := need
  cases n2
  refine bi_sem b H1 ds vs F _ Q rr n1 hk fun d v H' hd' n => ?_
  exact hq d ρ1 v H' (Rel.new R1 (zlen l1 l2) n) hd'
theorem se_bi (F : Facts P w K mg base A C G kk XR) {b : Bi} {es : Es} (h : SEs P w K mg base A C G kk XR es) (h1 : ∀ e, es = .cons e .nil → SE P w K mg base A C G kk XR e) : SE P w K mg base A C G kk XR (.bi b es) := fun Ex sc pe hm => by
  unfold mtE at hm
  split at hm <;> first | exact absurd hm Bool.false_ne_true | skip
  all_goals first | (rename_i h; cases h; done) | skip
  rename_i x p xs pos h'
  injection h' with g1 g2
  subst g1 g2
  simp only [Bool.and_eq_true, beq_iff_eq] at hm
  obtain ⟨⟨e1, hg⟩, hm⟩ := hm
  subst e1
  obtain ⟨nn, nd⟩ := name_ok b
  cases hb : b.how with
  | fn id =>
    rw [hb] at hm
    cases xs with
    | nil => exact absurd hm Bool.false_ne_true
    | cons e es' =>
      obtain ⟨ns, t, pr, rd⟩ := h Ex sc (e :: es') hm
      refine ⟨_, fun X g => ?_, rd_bi rd⟩
      have := bi_ok g.calm b
      rw [hb] at this
      rw [← g.eK]
      exact pe_callB this.1 (g.gl hg) (by rw [g.emg]; exact F.blt b) this.2 (pr X g) nn nd (star_cons (ns e List.mem_cons_self)) (star_any (fun q hq => ns q (List.mem_cons_of_mem _ hq)) _)
  | ty T =>
    rw [hb] at hm
    cases xs with
    | nil => exact absurd hm Bool.false_ne_true
    | cons e es' =>
      obtain ⟨ns, t, pr, rd⟩ := h Ex sc (e :: es') hm
      refine ⟨_, fun X g => ?_, rd_bi rd⟩
      have := bi_ok g.calm b
      rw [hb] at this
      rw [← g.eK]
      exact pe_callTy this.1 (g.gl hg) (by rw [g.emg]; exact F.blt b) this.2 (pr X g) nn nd (star_cons (ns e List.mem_cons_self)) (star_any (fun q hq => ns q (List.mem_cons_of_mem _ hq)) _)
  | is T =>
    rw [hb] at hm
    obtain ⟨e, y, py, a, rfl, rfl, hy, hgy, hma⟩ : ∃ e y py a, xs = [e, .Name y py] ∧ es = .cons a .nil ∧ y = (T : Str) ∧ glB sc y = true ∧ mtE A sc a e = true := by
      rcases xs with _ | ⟨e, _ | ⟨f, _ | ⟨g, xs⟩⟩⟩
      · exact absurd hm Bool.false_ne_true
      · exact absurd hm Bool.false_ne_true
      · cases f <;> try exact absurd hm Bool.false_ne_true
        rename_i y py
        simp only [Bool.and_eq_true, beq_iff_eq] at hm
        obtain ⟨⟨m1, m2⟩, m3⟩ := hm
        cases es with
        | nil => exact absurd m3 Bool.false_ne_true
        | cons a es2 => cases es2 with
          | nil => exact ⟨e, y, py, a, rfl, rfl, m1, m2, m3⟩
          | cons _ _ => exact absurd m3 Bool.false_ne_true
      · cases f <;> exact absurd hm Bool.false_ne_true
    subst hy
    obtain ⟨t, p1, r1⟩ := h1 a rfl Ex sc e hma
    have ns1 : ∀ z pos, e ≠ .Starred z pos := fun z pos e' => by subst e'; exact mt_nostar hma
    have hT : T ∈ ["bool", "int", "str", "list"] := by cases b <;> simp [Bi.how] at hb <;> subst hb <;> simp
    have hnm : b.name = ("isinstance" : Str) := by cases b <;> simp [Bi.how] at hb <;> rfl
    refine ⟨tCB (rIsi K) (tCons t (tCons (tC (.ty T)) tNil)), fun X g => ?_, ?_⟩
    · have hbo := bi_ok g.calm b
      rw [hb] at hbo
      have hTm : X.mg (T : Str) = none := by rw [g.emg]; exact F.tys T hT
      have hne : (T : Str) ≠ ("__name__" : Str) ∧ ((T : Str) == ("__debug__" : Str)) = false := by
        simp at hT
        rcases hT with rfl | rfl | rfl | rfl <;> decide
      have hm2 : X.mg b.name = none := by rw [g.emg]; exact F.blt b
      rw [hnm] at hm2 hg ⊢
      rw [← g.eK]
      exact pe_callB call_isi (g.gl hg) hm2 (by decide +kernel) (pa_cons (p1 X g) (pa_cons (pe_bltn (g.gl hgy) hTm hbo.2 rfl hne.1 hne.2) pa_nil) (star_cons ns1)) (by decide) (by decide) (star_cons ns1) rfl
    · have rs : RdEs K C G XR Ex (.cons a .nil) (tCons t tNil) := by
        intro H0 M Γ Θ ts Γ' ρ σ θ H Kk Xk Q ht R he hx hq
        unfold tyEs at ht
        split at ht <;> try (cases ht; done)
        rename_i t' Γ1 ht1
        split at ht <;> try (cases ht; done)
        rename_i ts' Γ2 ht2
        cases ht
        unfold tyEs at ht2
        cases ht2
        unfold evalEs at he
        refine r1 _ _ _ _ _ _ _ _ _ _ _ _ _ ht1 R he hx fun d ρ1 v H1 R1 he1 => ?_
        unfold evalEs at he1
        exact hq [d] ρ1 [v] H1 rfl rfl R1 he1
      have := rd_bi (b := b) rs
      have hr : rBi K b = rIs1 K T := by cases b <;> simp [Bi.how] at hb <;> subst hb <;> rfl
      rw [hr] at this
      exact this

/-! ### methods that change nothing -/
theorem idxOf_get {c : Nat} : ∀ {s : List Nat} {i : Nat}, idxOf c s = some i → s[i]? = some c ∧ ∀ j, j < i → s[j]? ≠ some c
  | [], i, h => by cases h
  | x :: s, i, h => by
    unfold idxOf at h
    by_cases e : x = c
    · rw [if_pos e] at h; cases h; exact ⟨by simp [e], fun j hj => by omega⟩
    · rw [if_neg e] at h
      cases e2 : idxOf c s with
      | none => rw [e2] at h; cases h
      | some k =>
        rw [e2] at h; cases h
        obtain ⟨h1, h2⟩ := idxOf_get e2
        refine ⟨by simpa using h1, fun j hj => ?_⟩
        cases j with
        | zero => simpa using e
        | succ j => simpa using h2 j (Nat.lt_of_succ_lt_succ hj)
theorem occ_one {c : Nat} {s : List Nat} {i : Nat} (h : idxOf c s = some i) : ∃ rest, Builtin.Str.occurrences (toStr s) (toStr [c]) 0 (toStr s).length 1 = i :: rest := by
  obtain ⟨h1, h2⟩ := idxOf_get h
  have at_iff : ∀ j, StrLaws.At (toStr s) (toStr [c]) (toStr s).length j ↔ s[j]? = some c := fun j => by
    have := StrLaws.subAt_one (toStr s) c j
    rw [toStr_list] at this
    exact this
  rcases StrLaws.occ_head (toStr s) (toStr [c]) 1 (Nat.le_refl _) with ⟨_, hn⟩ | ⟨j, r, e, ha, hn⟩
  · exact absurd ((at_iff i).mpr h1) (hn i)
  · have hj : s[j]? = some c := (at_iff j).mp ha
    have e1 : ¬ j < i := fun q => h2 j q hj
    have e2 : ¬ i < j := fun q => hn i q ((at_iff i).mpr h1)
    have : j = i := by omega
    subst this
    exact ⟨r, e⟩
def Bm.k : Bm → Nat | _ => 0
def BmSem (K : PySem.W.Frag) (m : Bm) (r : V → List V → Hp → VK → Prop) : Prop := ∀ (w : Bool) (H : Hp) (o : D) (x : V) (F0 : Fp) (ds : List D) (vs : List V) (F : Fp) (k : D → Prop) (Q : VK), Rep w K H o x F0 → Reps false K H ds vs F →
  bmK m o ds k → (∀ d v H', k d → New K H H' d v m.k → Q v H') → r x vs H Q
def rBm (K : PySem.W.Frag) : Bm → V → List V → Hp → VK → Prop
  | .join => fun x xs H Q => ∃ a p, ∃ ys : List Str, x = .str a ∧ xs = [.ref p] ∧ (SqL K H p (ys.map V.str) ∨ SqT K H p (ys.map V.str)) ∧ (ys.map (·.length)).sum + ys.length * a.length ≤ 16777216 ∧ Q (.str (Txt.join a ys)) H
  | .index => fun x xs H Q => ∃ a b i rest, x = .str a ∧ xs = [.str b] ∧ Builtin.Str.occurrences a b 0 a.length 1 = i :: rest ∧ Q (.int (i : Nat)) H
  | .rev => fun x xs H Q => ∃ z : Str, x = .str z ∧ xs = [] ∧ z.length ≤ sizeLine ∧ Q (.str ⟨z.cps.toList.reverse.toArray⟩) H
theorem bm_join : BmSem K .join (rBm K .join) := fun w H o x F0 ds vs F k Q ro rs hk q => by
  cases o <;> try exact False.elim hk
  rename_i sep
  obtain ⟨xs, rfl⟩ : ∃ xs, ds = [.lst xs] := by
    rcases ds with _ | ⟨d, _ | ⟨e, ds⟩⟩
    · exact False.elim hk
    · cases d <;> first | exact False.elim hk | exact ⟨_, rfl⟩
    · cases d <;> exact False.elim hk
  obtain ⟨v, rfl, r⟩ := rs.one
  obtain ⟨rfl, h1⟩ := ro.str_inv
  obtain ⟨a, ys, _, rfl, s, t, _⟩ := r.lst_inv
  have hk : (match strsOf xs with | some ys => (ys.map List.length).sum + ys.length * sep.length ≤ 16777216 ∧ k (.str (joinL sep ys)) | none => False) := hk
  cases e : strsOf xs with
  | none => rw [e] at hk; exact hk.elim
  | some zs =>
    rw [e] at hk
    obtain ⟨h2, h3⟩ := t.strs e
    subst h2
    refine ⟨toStr sep, a, zs.map toStr, rfl, rfl, .inl s, ?_, ?_⟩
    · rw [List.map_map, List.length_map, toStr_len]
      have : (zs.map ((fun (x : Str) => x.length) ∘ toStr)) = zs.map List.length := List.map_congr_left fun y _ => toStr_len y
      rw [this]; exact hk.1
    · rw [glued_join]
      exact q _ _ _ hk.2 (New.str (join_mem h1 h3))
theorem bm_index : BmSem K .index (rBm K .index) := fun w H o x F0 ds vs F k Q ro rs hk q => by
  cases o <;> try exact False.elim hk
  rename_i s
  obtain ⟨c, rfl⟩ : ∃ c, ds = [.str [c]] := by
    rcases ds with _ | ⟨d, _ | ⟨e, ds⟩⟩
    · exact False.elim hk
    · cases d <;> try exact False.elim hk
      rename_i z
      rcases z with _ | ⟨c, _ | ⟨_, _⟩⟩ <;> first | exact False.elim hk | exact ⟨_, rfl⟩
    · cases d <;> try exact False.elim hk
      rename_i z
      rcases z with _ | ⟨c, _ | ⟨_, _⟩⟩ <;> exact False.elim hk
  obtain ⟨v, rfl, r⟩ := rs.one
  obtain ⟨rfl, h1⟩ := ro.str_inv
  obtain ⟨rfl, h2⟩ := r.str_inv
  have hk : (match idxOf c s with | some i => k (.int i) | none => False) := hk
  cases e : idxOf c s with
  | none => rw [e] at hk; exact hk.elim
  | some i =>
    rw [e] at hk
    obtain ⟨rest, ho⟩ := occ_one e
    exact ⟨_, _, i, rest, rfl, rfl, ho, q _ _ _ hk New.int⟩
theorem bm_rev : BmSem K .rev (rBm K .rev) := fun w H o x F0 ds vs F k Q ro rs hk q => by
  cases o <;> try exact False.elim hk
  rename_i s
  obtain rfl : ds = [] := by
    rcases ds with _ | ⟨d, ds⟩
    · rfl
    · exact False.elim hk
  cases rs
  obtain ⟨rfl, h1⟩ := ro.str_inv
  refine ⟨_, rfl, rfl, by rw [toStr_len]; exact hk.1, ?_⟩
  have e : (⟨(toStr s).cps.toList.reverse.toArray⟩ : Str) = toStr s.reverse := by simp [toStr]
  rw [e]
  exact q _ _ _ hk.2 (New.str fun c hc => h1 c (List.mem_reverse.mp hc))
theorem bm_sem (m : Bm) : BmSem K m (rBm K m) := by
  cases m with
  | join => exact bm_join
  | index => exact bm_index
  | rev => exact bm_rev
theorem base_ok {x : Expr} {nm : Str} {env : Env} (h : plainBase x = true) : attributeBase x nm env (eval x env) = eval x env := by
  unfold attributeBase
  split
  · cases h
  · rfl
theorem few_ok {pes : List Expr} {cp : Pos} {env : Env} (ns : ∀ pe ∈ pes, ∀ e pos, pe ≠ .Starred e pos) (h : pes.length < 30) : ((backTo cp (starEach pes env)).all (fun x => !x.1) && (backToKw cp (keywordEach [] env)).all (fun x => x.1.isSome)
      && decide (pes.length + ([] : List Keyword).length + (if ([] : List Keyword).isEmpty then 0 else 1) < 30)) = true := by
  have h1 : (backTo cp (starEach pes env)).all (fun x => !x.1) = true := by
    have := star_any (env := env) ns cp
    rw [List.any_eq_false] at this
    rw [List.all_eq_true]
    intro x hx
    have := this x hx
    simpa using this
  have h2 : (backToKw cp (keywordEach [] env)).all (fun x => x.1.isSome) = true := rfl
  rw [h1, h2]
  simpa using h
theorem bmO_ty {w : Bool} {m : Bm} {o : D} {x : V} {H : Hp} {F : Fp} (h : bmO m o = true) (r : Rep w K H o x F) : tyV K "str" x H := by
  cases m <;> cases o <;> first | (simp [bmO] at h; done) | skip
  all_goals
    obtain ⟨rfl, _⟩ := r.str_inv
    rfl
theorem se_bm {m : Bm} {o : E} {es : Es} (ho : SE P w K mg base A C G kk XR o) (h : SEs P w K mg base A C G kk XR es) : SE P w K mg base A C G kk XR (.bm m o es) := fun Ex sc pe hm => by
  unfold mtE at hm
  split at hm <;> first | exact absurd hm Bool.false_ne_true | skip
  all_goals first | (rename_i h; cases h; done) | skip
  rotate_left
  · rename_i x _ _ _ _ _ h'
    injection h' with g1 g2 g3
    subst g1 g2 g3
    simp only [Bool.and_eq_true, beq_iff_eq] at hm
    obtain ⟨rfl, m1⟩ := hm
    obtain ⟨to, p1, r1⟩ := ho Ex sc _ m1
    refine ⟨tRevS to, fun X g => pe_revS (p1 X g), ?_⟩
    intro H0 M Γ Θ ty Γ' ρ σ θ H Kk Xk Q ht R he hx hq
    unfold tyE at ht
    split at ht <;> try (cases ht; done)
    rename_i t0 Γ1 ht1
    split at ht <;> try (cases ht; done)
    rename_i ts Γ2 ht2
    cases ht
    unfold tyEs at ht2
    cases ht2
    unfold evalE at he
    refine r1 _ _ _ _ _ _ _ _ _ _ _ _ _ ht1 R he hx fun d ρ1 v H1 R1 he1 => ?_
    obtain ⟨hb, hk⟩ := he1
    unfold evalEs at hk
    obtain ⟨F1, q1, d1⟩ := R1.len1
    obtain ⟨z, a, _, b, c⟩ := bm_rev (K := K) _ _ _ _ _ _ _ _ _ Q q1 .nil hk fun d' v' H' hd n => by
      refine hq d' ρ1 v' H' ?_ hd
      have R3 : Rel K H0 M Γ' ρ1 σ ([t0] ++ Θ) ([(d, v)] ++ θ) H1 := R1
      exact Rel.new R3 rfl n
    exact ⟨z, a, b, c⟩
  rename_i x nm ap e es' cp h'
  injection h' with g1 g2 g3
  subst g1 g2 g3
  simp only [Bool.and_eq_true, beq_iff_eq, decide_eq_true_eq] at hm
  obtain ⟨⟨⟨⟨⟨⟨e1, hb⟩, m1⟩, m2⟩, hl⟩, hfew⟩, hnr⟩ := hm
  subst e1
  obtain ⟨to, p1, r1⟩ := ho Ex sc _ m1
  obtain ⟨ns, t, p2, r2⟩ := h Ex sc (e :: es') m2
  refine ⟨tBM K "str" (rBm K m) to t, fun X g => ?_, ?_⟩
  · have st1 := star_cons (env := X.env) (es := es') (ns e List.mem_cons_self)
    have st2 := star_any (env := X.env) (fun q hq => ns q (List.mem_cons_of_mem _ hq)) cp
    have hl' : (ap.endLine == cp.line) = true := by rw [hl]; exact beq_self_eq_true _
    have fw := few_ok (cp := cp) (env := X.env) ns hfew
    rw [← g.eK]
    cases m with
    | join => exact pe_bm PySem.F.plainAttrs_str PySem.F.slot_str_join PySem.F.type_str_join mt_join (p1 X g) (p2 X g) (base_ok hb) fw hl' st1 st2
    | index => exact pe_bm PySem.F.plainAttrs_str PySem.F.slot_str_index PySem.F.type_str_index mt_sindex (p1 X g) (p2 X g) (base_ok hb) fw hl' st1 st2
    | rev => exact absurd hnr (by decide)
  · intro H0 M Γ Θ ty Γ' ρ σ θ H Kk Xk Q ht R he hx hq
    unfold tyE at ht
    split at ht <;> try (cases ht; done)
    rename_i t0 Γ1 ht1
    split at ht <;> try (cases ht; done)
    rename_i ts Γ2 ht2
    cases ht
    unfold evalE at he
    refine r1 _ _ _ _ _ _ _ _ _ _ _ _ _ ht1 R he hx fun d ρ1 v H1 R1 he1 => ?_
    obtain ⟨F1, q1, d1⟩ := R1.len1
    refine ⟨bmO_ty he1.1 q1, ?_⟩
    refine r2 _ _ _ _ _ _ _ _ _ _ _ _ _ ht2 R1 he1.2 hx fun ds ρ2 vs H2 l1 l2 R2 hk => ?_
    obtain ⟨ow, R2'⟩ := id R2
    obtain ⟨F, rr, _⟩ := R2'.temp.reps l1 l2
    obtain ⟨F0, q0, _⟩ := R2'.temp.drop (zlen l1 l2) |>.1
    refine bm_sem m _ _ _ _ _ _ _ _ _ _ q0 rr hk fun d' v' H' hd n => ?_
    refine hq d' ρ2 v' H' ?_ hd
    have hlen : (ts.reverse ++ [t0]).length = ((ds.zip vs).reverse ++ [(d, v)]).length := by simp [zlen l1 l2, l1, l2]
    have R3 : Rel K H0 M Γ' ρ2 σ ((ts.reverse ++ [t0]) ++ Θ) (((ds.zip vs).reverse ++ [(d, v)]) ++ θ) H2 := by simpa using R2
    have := Rel.new R3 hlen n
    cases m <;> exact this
end Pm

namespace Pm
open PySem L2
variable {P : Program} {w : World} {K : PySem.W.Frag} {mg : Str → Option Value} {base : Heap} {A : Code} {C : Ctx} {G : TC} {kk : Nat} {XR : XRel}

/-! ### methods that change their list -/
theorem Reps.updO {w : Bool} {H : Hp} {p : Addr} {o : HO} {ds : List D} {vs : List V} {F : Fp} (r : Reps w K H ds vs F) (hm : Mut (H p)) (h : p ∉ F) : Reps w K (upd H p o) ds vs F :=
  r.ext (M := (· = p)) (Ext.upd (.inr rfl)) (fun a e => by subst e; exact hm) fun a ha e => by subst e; exact h ha
theorem Rep.updO {w : Bool} {H : Hp} {p : Addr} {o : HO} {d : D} {v : V} {F : Fp} (r : Rep w K H d v F) (hm : Mut (H p)) (h : p ∉ F) : Rep w K (upd H p o) d v F :=
  r.ext (M := (· = p)) (Ext.upd (.inr rfl)) (fun a e => by subst e; exact hm) fun a ha e => by subst e; exact h ha
section
variable {H0 H H' : Hp} {M : Addr → Prop} {ow ow' : Addr → Id} {Γ Γ' : List STy} {ρ : Penv} {σ : St} {Θ Θs : List Ty} {θ θs : List (D × V)}
/-- a slot's own list -/
theorem Rw.own_lst (R : Rw K H0 M ow Γ ρ σ Θ θ H) {i : Nat} {k : Nat} {xs : List D} (hΓ : Γ[i]? = some (some ⟨.own, k⟩)) (hρ : ρ[i]? = some (some (.lst xs))) :
    ∃ a vs F, σ[i]? = some (some (.ref a)) ∧ H a = some (.lst vs) ∧ Reps true K H xs vs F ∧ D.deps (k - 1) xs = true ∧ 1 ≤ k ∧ (a :: F).Nodup ∧ ∀ b ∈ a :: F, ow b = .slot i := by
  obtain ⟨v, hσ, F, r, hd, hL⟩ := R.slot i _ _ hΓ hρ
  have r' : Rep true K H (.lst xs) v F := r
  obtain ⟨a, vs, F', rfl, _, rs, _, hw⟩ := r'.lst_inv
  obtain ⟨ha, rfl⟩ := hw rfl
  have hL : (a :: F').Nodup ∧ ∀ b ∈ a :: F', ow b = .slot i := hL
  have hd : D.dep k (.lst xs) = true := hd
  refine ⟨a, vs, F', hσ, ha, rs, ?_, ?_, hL.1, hL.2⟩
  · cases k with
    | zero => simp [D.dep] at hd
    | succ k => simpa [D.dep] using hd
  · cases k with
    | zero => simp [D.dep] at hd
    | succ k => omega
/-- .. gets other items -/
theorem Rw.relist (R : Rw K H0 M ow Γ ρ σ (Θs ++ Θ) (θs ++ θ) H) (hl : Θs.length = θs.length) {i : Nat} {k : Nat} {xs zs : List D} {us vs : List V} {E : Fp} {a : Addr} (hΓ : Γ[i]? = some (some ⟨.own, k⟩)) (hρ : ρ[i]? = some (some (.lst xs)))
    (hb : Pm.noBor i Θ = true) (hσ : σ[i]? = some (some (.ref a))) (ha : H a = some (.lst vs)) (hs : ow a = .slot i) (hz : D.dep k (.lst zs) = true)
    (rz : Reps true K H zs us E) (ndE : E.Nodup) (hE : ∀ b ∈ E, (b ≠ a ∧ ow b = .slot i) ∨ hiTmp Θ.length (ow b)) :
    Rel K H0 M Γ (ρ.set i (some (.lst zs))) σ Θ θ (upd H a (.lst us)) := by
  have hmut : Mut (H a) := by rw [ha]; trivial
  have aE : a ∉ E := fun q => by
    rcases hE a q with z | z
    · exact z.1 rfl
    · rw [hs] at z; exact z
  have hi : i < ρ.length := (List.getElem?_eq_some_iff.mp hρ).1
  have S := R.swap hl (L := [(i, a :: E)]) (d := .non) (v := .non) (Fr := []) (k := 0) (ρ' := ρ.set i (some (.lst zs))) (H' := upd H a (.lst us)) ?_ ?_ ?_ ?_ ?_ .non rfl (by simp) ?_ ?_
  · exact S.pop
  · intro j hj; simp at hj; subst hj; exact hb
  · refine Ext.upd (.inr ?_)
    show touch [i] Θ.length (ow a)
    rw [hs]; exact List.mem_singleton.mpr rfl
  · simpa using ⟨aE, ndE⟩
  · intro b hb; simp at hb
  · intro p hp b hb
    simp at hp; subst hp
    right
    rcases List.mem_cons.mp hb with rfl | hb
    · rw [hs]; exact List.mem_singleton.mpr rfl
    · rcases hE b hb with ⟨_, z⟩ | z
      · rw [z]; exact List.mem_singleton.mpr rfl
      · cases e : ow b with
        | tmp j => rw [e] at z; exact z
        | frz => rw [e] at z; exact z.elim
        | slot j => rw [e] at z; exact z.elim
  · intro p hp
    simp at hp; subst hp
    exact ⟨k, .lst zs, .ref a, hΓ, hσ, List.getElem?_set_self hi, .lst upd_same (rz.updO hmut aE), hz⟩
  · intro j hj
    simp at hj
    exact List.getElem?_set_ne (fun e => hj e.symm)
end
def rMu : Mu → V → List V → Hp → VK → Prop
  | .append => rAppend
  | .extend => rExtend
  | .pop => rPop
  | .popAt => rPopAt
  | .clear => rClear
theorem rdes_nil {Ex : XK} : RdEs K C G XR Ex .nil tNil := by
  intro H0 M Γ Θ ts Γ' ρ σ θ H Kk Xk Q ht R he hx hq
  unfold tyEs at ht
  cases ht
  unfold evalEs at he
  exact hq [] ρ [] H rfl rfl R he
theorem own_eq {t : Ty} (h : t.p = .own) : t = ⟨.own, t.k⟩ := by cases t; simp at h; subst h; rfl
theorem dep_pred {k : Nat} {xs : List D} (h : 1 ≤ k) (hd : D.deps (k - 1) xs = true) : D.dep k (.lst xs) = true := by
  cases k with
  | zero => omega
  | succ k => rw [dep_lst]; simpa using hd
theorem Reps.cutI {w : Bool} {H : Hp} {ds : List D} {vs : List V} (a b : Nat) (r : Reps w K H ds vs []) (hd : D.deps 0 ds = true) : Reps true K H ((ds.drop a).take b) ((vs.drop a).take b) [] := by
  obtain ⟨G, q⟩ := r.cut a b
  exact (q.imm (deps_iff.mpr fun x hx => deps_iff.mp hd x (List.mem_of_mem_drop (List.mem_of_mem_take hx)))).2
theorem list1 {α : Type} {xs : List α} (h : xs.length = 1) : ∃ x, xs = [x] := match xs, h with | [x], _ => ⟨x, rfl⟩
theorem rd_mu {Ex : XK} {m : Mu} {i : Nat} {es : Es} {t : TA} (r : RdEs K C G XR Ex es t) : RdE K C G XR Ex (.mu m i es) (tBM K "list" (rMu m) (tVar i) t) := by
  intro H0 M Γ Θ ty Γ' ρ σ θ H Kk Xk Q ht R he hx hq
  unfold tyE at ht
  split at ht <;> try (cases ht; done)
  rename_i hsome
  split at ht <;> try (cases ht; done)
  rename_i ts Γ1 ht1
  split at ht <;> try (cases ht; done)
  rename_i u hu
  split at ht <;> try (cases ht; done)
  rename_i hc
  obtain ⟨hp, hk1, hb, hbt⟩ := hc
  unfold evalE at he
  split at he <;> try exact he.elim
  rename_i xs0 hρ0
  obtain ⟨t0, hΓ0⟩ : ∃ t0, Γ[i]? = some (some t0) := by
    cases e : Γ[i]? with
    | none => simp [e] at hsome
    | some o => cases o with
      | none => simp [e] at hsome
      | some t0 => exact ⟨t0, rfl⟩
  obtain ⟨ow0, R0⟩ := id R
  obtain ⟨v0, hσ0, F0, q0, _⟩ := R0.slot i t0 _ hΓ0 hρ0
  obtain ⟨a0, vs0, _, rfl, s0, _, _, _⟩ := q0.lst_inv
  refine ⟨.ref a0, hσ0, .inl ⟨rfl, _, s0⟩, ?_⟩
  refine r _ _ _ _ _ _ _ _ _ _ _ _ _ ht1 R he hx fun ds ρ1 vs H1 l1 l2 R1 hk => ?_
  split at hk <;> try exact hk.elim
  rename_i x hρ1
  obtain ⟨ow, R1'⟩ := id R1
  have hu' : Γ1[i]? = some (some ⟨.own, u.k⟩) := by rw [hu, ← own_eq hp]
  have zl := zlen l1 l2
  obtain ⟨xs, rfl⟩ : ∃ xs, x = .lst xs := by
    cases m <;> cases x <;> first | exact ⟨_, rfl⟩ | exact hk.elim
  obtain ⟨a, us, F, hσ1, ha, rs, dxs, h1k, nd, hL⟩ := R1'.own_lst hu' hρ1
  rw [hσ0] at hσ1
  cases hσ1
  have hsl := hL a0 List.mem_cons_self
  have aF := (List.nodup_cons.mp nd).1
  have ndF := (List.nodup_cons.mp nd).2
  have hF : ∀ b ∈ F, (b ≠ a0 ∧ ow b = .slot i) ∨ hiTmp Θ.length (ow b) := fun b hb' => .inl ⟨fun e => aF (e ▸ hb'), hL b (List.mem_cons_of_mem _ hb')⟩
  have imm1 : u.k = 1 → F = [] ∧ Reps true K H1 xs us [] ∧ D.deps 0 xs = true := fun e => by
    rw [e] at dxs
    obtain ⟨h1, h2⟩ := rs.imm dxs
    exact ⟨h1, h2, dxs⟩
  cases m with
  | append =>
    simp only at ht
    split at ht <;> try (cases ht; done)
    rename_i hall
    cases ht
    obtain ⟨d, rfl, hk⟩ : ∃ d, ds = [d] ∧ xs.length < sizeLine ∧ Kk .non (ρ1.set i (some (.lst (xs ++ [d])))) := by
      rcases ds with _ | ⟨d, _ | ⟨e, ds⟩⟩
      · exact hk.elim
      · exact ⟨d, rfl, hk⟩
      · exact hk.elim
    obtain ⟨y, rfl⟩ := list1 (xs := vs) (by rw [l2, ← l1]; rfl)
    rw [List.all_eq_true] at hall
    have hall' : ∀ t ∈ ts, Ty.free t = true ∧ t.k + 1 ≤ u.k := fun t ht => by simpa using hall t ht
    obtain ⟨Fd, rd, ndd, hld⟩ := R1'.temp.repsO l1 l2 (List.all_eq_true.mpr fun t ht => (hall' t ht).1)
    obtain ⟨_, _, hdd⟩ := R1'.temp.reps l1 l2
    have dd := hdd (u.k - 1) fun t ht => by have := (hall' t ht).2; omega
    have R2 := R1'.relist zl (zs := xs ++ [d]) (us := us ++ [y]) (E := F ++ Fd) hu' hρ1 hb hσ0 ha hsl (dep_pred h1k (by rw [deps_app, dxs, dd]; rfl)) (rs.app rd)
      (List.nodup_append.mpr ⟨ndF, ndd, fun b hb c hc e => by
        subst e
        have h1 := hL b (List.mem_cons_of_mem _ hb)
        have h2 := hld b hc
        rw [h1] at h2; exact h2⟩) (fun b hb => (List.mem_append.mp hb).elim (hF b) fun z => .inr (hld b z))
    exact ⟨a0, us, y, rfl, rfl, ha, by rw [← rs.len]; exact hk.1, hq .non _ _ _ (R2.imm .non rfl) hk.2⟩
  | extend =>
    simp only at ht
    split at ht <;> try (cases ht; done)
    rename_i hall
    cases ht
    obtain ⟨ys, rfl, hk⟩ : ∃ ys, ds = [.lst ys] ∧ xs.length + ys.length ≤ sizeLine ∧ Kk .non (ρ1.set i (some (.lst (xs ++ ys)))) := by
      rcases ds with _ | ⟨d, _ | ⟨e, ds⟩⟩
      · exact hk.elim
      · cases d <;> first | exact hk.elim | exact ⟨_, rfl, hk⟩
      · cases d <;> exact hk.elim
    obtain ⟨y, rfl⟩ := list1 (xs := vs) (by rw [l2, ← l1]; rfl)
    obtain ⟨t1, rfl⟩ := list1 (xs := ts) (by rw [← l1]; rfl)
    have hall : t1.k ≤ 1 ∧ t1.p.w = true := by simpa using hall
    obtain ⟨Fy, ry, dy, _⟩ := R1'.temp.1
    rw [hall.2] at ry
    obtain ⟨b0, zs, Gy, rfl, _, rzs, _, hwy⟩ := ry.lst_inv
    obtain ⟨hb0, _⟩ := hwy rfl
    have dys : D.deps 0 ys = true := by
      have : D.dep 1 (.lst ys) = true := D.dep_mono hall.1 _ dy
      rwa [dep_lst] at this
    obtain ⟨_, rys⟩ := rzs.imm dys
    have R2 := R1'.relist zl (zs := xs ++ ys) (us := us ++ zs) (E := F ++ []) hu' hρ1 hb hσ0 ha hsl (dep_pred h1k (by rw [deps_app, dxs, D.deps_mono (Nat.zero_le _) ys dys]; rfl)) (rs.app rys)
      (by simpa using ndF) (fun b hb => hF b (by simpa using hb))
    exact ⟨a0, b0, us, zs, rfl, rfl, ha, hb0, by rw [← rs.len, ← rys.len]; exact hk.1, hq .non _ _ _ (R2.imm .non rfl) hk.2⟩
  | pop =>
    simp only at ht
    split at ht <;> try (cases ht; done)
    rename_i hu1
    cases ht
    obtain ⟨rfl, rs, dx⟩ := imm1 hu1
    obtain ⟨y, rfl, hy, hk⟩ : ∃ y, ds = [] ∧ xs[xs.length - 1]? = some y ∧ Kk y (ρ1.set i (some (.lst xs.dropLast))) := by
      rcases ds with _ | ⟨d, ds⟩
      · have hk : (match xs[xs.length - 1]? with | some y => Kk y (ρ1.set i (some (.lst xs.dropLast))) | none => False) := hk
        cases e : xs[xs.length - 1]? with
        | none => rw [e] at hk; exact hk.elim
        | some y => rw [e] at hk; exact ⟨y, rfl, rfl, hk⟩
      · exact hk.elim
    have hvs : vs = [] := List.length_eq_zero_iff.mp (by rw [l2, ← l1]; rfl)
    subst hvs
    obtain ⟨v, Gv, ev, rv, _⟩ := rs.get hy
    have dy := deps_get dx hy
    have e1 : xs.dropLast = (xs.drop 0).take (xs.length - 1) := by simp [List.dropLast_eq_take]
    have e2 : us.dropLast = (us.drop 0).take (xs.length - 1) := by simp [List.dropLast_eq_take, rs.len]
    have rz : Reps true K H1 xs.dropLast us.dropLast [] := by rw [e1, e2]; exact rs.cutI 0 _ dx
    have dz : D.deps 0 xs.dropLast = true := deps_iff.mpr fun x hx => deps_iff.mp dx x (List.dropLast_subset _ hx)
    have R2 := R1'.relist zl (zs := xs.dropLast) (us := us.dropLast) (E := []) hu' hρ1 hb hσ0 ha hsl (dep_pred h1k (by rw [hu1]; exact dz)) rz List.nodup_nil (fun b hb => by simp at hb)
    refine ⟨a0, us, v, rfl, rfl, ha, by rw [← rs.len]; exact ev, hq y _ _ _ (R2.imm ?_ dy) hk⟩
    exact (rv.imm dy).2.updO (by rw [ha]; trivial) (by simp)
  | popAt =>
    simp only at ht
    split at ht <;> try (cases ht; done)
    rename_i hu1
    cases ht
    obtain ⟨rfl, rs, dx⟩ := imm1 hu1
    obtain ⟨n, j, y, rfl, hj, hy, hk⟩ : ∃ n j y, ds = [.int n] ∧ ixN xs.length n = some j ∧ xs[j]? = some y ∧ (-(2 ^ 63) ≤ n ∧ n < 2 ^ 63) ∧ Kk y (ρ1.set i (some (.lst (xs.eraseIdx j)))) := by
      rcases ds with _ | ⟨d, _ | ⟨e, ds⟩⟩
      · exact hk.elim
      · cases d <;> try exact hk.elim
        rename_i n
        have hk : (match ixN xs.length n with | some j => (match xs[j]? with | some y => (-(2 ^ 63) ≤ n ∧ n < 2 ^ 63) ∧ Kk y (ρ1.set i (some (.lst (xs.eraseIdx j)))) | none => False) | none => False) := hk
        cases e : ixN xs.length n with
        | none => rw [e] at hk; exact hk.elim
        | some j =>
          rw [e] at hk
          simp only at hk
          cases e2 : xs[j]? with
          | none => rw [e2] at hk; exact hk.elim
          | some y => rw [e2] at hk; exact ⟨n, j, y, rfl, e, e2, hk⟩
      · cases d <;> exact hk.elim
    obtain ⟨v0, rfl⟩ := list1 (xs := vs) (by rw [l2, ← l1]; rfl)
    obtain ⟨t1, rfl⟩ := list1 (xs := ts) (by rw [← l1]; rfl)
    obtain ⟨Fy, ry, dy0, _⟩ := R1'.temp.1
    have ev0 : v0 = .int n := ry.int_inv
    subst ev0
    obtain ⟨v, Gv, ev, rv, _⟩ := rs.get hy
    have dy := deps_get dx hy
    have rz : Reps true K H1 (xs.eraseIdx j) (us.eraseIdx j) [] := by
      have q1 := rs.cutI 0 j dx
      have q2 := rs.cutI (j + 1) xs.length dx
      have := q1.app q2
      have e1 : (xs.drop (j + 1)).take xs.length = xs.drop (j + 1) := List.take_of_length_le (by simp)
      have e2 : (us.drop (j + 1)).take xs.length = us.drop (j + 1) := List.take_of_length_le (by simp [rs.len])
      rw [e1, e2, List.drop_zero, List.drop_zero] at this
      rw [List.eraseIdx_eq_take_drop_succ, List.eraseIdx_eq_take_drop_succ]
      exact this
    have dz : D.deps 0 (xs.eraseIdx j) = true := deps_iff.mpr fun x hx => deps_iff.mp dx x (List.mem_of_mem_eraseIdx hx)
    have R2 := R1'.relist zl (zs := xs.eraseIdx j) (us := us.eraseIdx j) (E := []) hu' hρ1 hb hσ0 ha hsl (dep_pred h1k (by rw [hu1]; exact dz)) rz List.nodup_nil (fun b hb => by simp at hb)
    refine ⟨a0, us, n, j, v, rfl, rfl, ha, hk.1.1, hk.1.2, ?_, ev, hq y _ _ _ (R2.imm ?_ dy) hk.2⟩
    · rw [← rs.len]; exact (ixN_seq hj).1
    · exact (rv.imm dy).2.updO (by rw [ha]; trivial) (by simp)
  | clear =>
    simp only at ht
    cases ht
    obtain ⟨rfl, hk⟩ : ds = [] ∧ Kk .non (ρ1.set i (some (.lst []))) := by
      rcases ds with _ | ⟨d, ds⟩
      · exact ⟨rfl, hk⟩
      · exact hk.elim
    have hvs : vs = [] := List.length_eq_zero_iff.mp (by rw [l2, ← l1]; rfl)
    subst hvs
    have R2 := R1'.relist zl (zs := []) (us := []) (E := []) hu' hρ1 hb hσ0 ha hsl (dep_pred h1k rfl) .nil List.nodup_nil (fun b hb => by simp at hb)
    exact ⟨a0, us, rfl, rfl, ha, hq .non _ _ _ (R2.imm .non rfl) hk⟩
theorem name_base {x : Str} {p : Pos} {nm : Str} {env : Env} : attributeBase (.Name x p) nm env (eval (.Name x p) env) = eval (.Name x p) env := rfl
theorem se_mu {m : Mu} {i : Nat} {es : Es} (h : SEs P w K mg base A C G kk XR es) : SE P w K mg base A C G kk XR (.mu m i es) := fun Ex sc pe hm => by
  unfold mtE at hm
  split at hm <;> first | exact absurd hm Bool.false_ne_true | skip
  all_goals first | (rename_i h; cases h; done) | skip
  rename_i x p nm ap xs cp h'
  injection h' with g1 g2 g3
  subst g1 g2 g3
  simp only [Bool.and_eq_true, beq_iff_eq, decide_eq_true_eq] at hm
  obtain ⟨⟨⟨⟨⟨⟨e1, n1⟩, n2⟩, n3⟩, m2⟩, hl⟩, hfew⟩ := hm
  subst e1
  have hn : (A.N[i]? == some x && visB sc x && nomg x) = true := by simp [n1, n2, n3]
  have hl' : (ap.endLine == cp.line) = true := by rw [hl]; exact beq_self_eq_true _
  cases xs with
  | nil =>
    cases es with
    | cons _ _ => exact absurd m2 Bool.false_ne_true
    | nil =>
      refine ⟨tBM K "list" (rMu m) (tVar i) tNil, fun X g => ?_, rd_mu rdes_nil⟩
      rw [← g.eK]
      cases m with
      | append => exact pe_bm0 PySem.F.plainAttrs_list PySem.F.slot_list_append PySem.F.type_list_append mt_append (g.pv hn) name_base hl'
      | extend => exact pe_bm0 PySem.F.plainAttrs_list PySem.F.slot_list_extend PySem.F.type_list_extend mt_extend (g.pv hn) name_base hl'
      | pop => exact pe_bm0 PySem.F.plainAttrs_list PySem.F.slot_list_pop PySem.F.type_list_pop mt_pop (g.pv hn) name_base hl'
      | popAt => exact pe_bm0 PySem.F.plainAttrs_list PySem.F.slot_list_pop PySem.F.type_list_pop mt_popAt (g.pv hn) name_base hl'
      | clear => exact pe_bm0 PySem.F.plainAttrs_list PySem.F.slot_list_clear PySem.F.type_list_clear mt_clear (g.pv hn) name_base hl'
  | cons e es' =>
    obtain ⟨ns, t, p2, r2⟩ := h Ex sc (e :: es') m2
    refine ⟨tBM K "list" (rMu m) (tVar i) t, fun X g => ?_, rd_mu r2⟩
    have st1 := star_cons (env := X.env) (es := es') (ns e List.mem_cons_self)
    have st2 := star_any (env := X.env) (fun q hq => ns q (List.mem_cons_of_mem _ hq)) cp
    have fw := few_ok (cp := cp) (env := X.env) ns hfew
    rw [← g.eK]
    cases m with
    | append => exact pe_bm PySem.F.plainAttrs_list PySem.F.slot_list_append PySem.F.type_list_append mt_append (g.pv hn) (p2 X g) name_base fw hl' st1 st2
    | extend => exact pe_bm PySem.F.plainAttrs_list PySem.F.slot_list_extend PySem.F.type_list_extend mt_extend (g.pv hn) (p2 X g) name_base fw hl' st1 st2
    | pop => exact pe_bm PySem.F.plainAttrs_list PySem.F.slot_list_pop PySem.F.type_list_pop mt_pop (g.pv hn) (p2 X g) name_base fw hl' st1 st2
    | popAt => exact pe_bm PySem.F.plainAttrs_list PySem.F.slot_list_pop PySem.F.type_list_pop mt_popAt (g.pv hn) (p2 X g) name_base fw hl' st1 st2
    | clear => exact pe_bm PySem.F.plainAttrs_list PySem.F.slot_list_clear PySem.F.type_list_clear mt_clear (g.pv hn) (p2 X g) name_base fw hl' st1 st2
end Pm

namespace Pm
open PySem L2
variable {P : Program} {w : World} {K : PySem.W.Frag} {mg : Str → Option Value} {base : Heap} {A : Code} {C : Ctx} {G : TC} {kk : Nat} {XR : XRel}

/-! ### calls -/
def argT : As → List D → List V → List (D × V)
  | .val _ as, d :: ds, v :: vs => (d, v) :: argT as ds vs
  | .own _ as, d :: ds, v :: vs => (d, v) :: argT as ds vs
  | .ino _ as, _ :: ds, _ :: vs => (.non, .non) :: argT as ds vs
  | _, _, _ => []
/-- the temporaries that are handed on -/
def ownIx : Nat → As → List Nat
  | _, .nil => []
  | n, .val _ as => ownIx (n + 1) as
  | n, .own _ as => n :: ownIx (n + 1) as
  | n, .ino _ as => ownIx (n + 1) as
theorem ownIx_ge : ∀ {n : Nat} {as : As}, ∀ j ∈ ownIx n as, n ≤ j
  | n, .nil, j, h => by simp [ownIx] at h
  | n, .val _ as, j, h => Nat.le_of_succ_le (ownIx_ge (n := n + 1) (as := as) j h)
  | n, .ino _ as, j, h => Nat.le_of_succ_le (ownIx_ge (n := n + 1) (as := as) j h)
  | n, .own _ as, j, h => by
    rcases List.mem_cons.mp h with rfl | h
    · exact Nat.le_refl _
    · exact Nat.le_of_succ_le (ownIx_ge (n := n + 1) (as := as) j h)
def ArgsAt (Γ : List STy) (ρ : Penv) (σ : St) : List PM → As → List Ty → List D → List V → Prop
  | [], .nil, [], [], [] => True
  | .inn k :: ps, .val _ as, t :: ts, _ :: ds, _ :: vs => t.k ≤ k ∧ ArgsAt Γ ρ σ ps as ts ds vs
  | .ino k :: ps, .own _ as, t :: ts, _ :: ds, _ :: vs => (t.p = .own ∧ t.k ≤ k) ∧ ArgsAt Γ ρ σ ps as ts ds vs
  | .ino k :: ps, .ino i as, t :: ts, d :: ds, v :: vs => t = imm ∧ Γ[i]? = some (some ⟨.own, k⟩) ∧ ρ[i]? = some (some d) ∧ σ[i]? = some (some v) ∧ ArgsAt Γ ρ σ ps as ts ds vs
  | _, _, _, _, _ => False
theorem ArgsAt.ext {Γ Γ' : List STy} {ρ ρ' : Penv} {σ : St} : ∀ {ps : List PM} {as : As} {ts : List Ty} {ds : List D} {vs : List V}, ArgsAt Γ ρ σ ps as ts ds vs → (∀ i ∈ as.inos, Γ'[i]? = Γ[i]? ∧ ρ'[i]? = ρ[i]?) → ArgsAt Γ' ρ' σ ps as ts ds vs
  | [], .nil, [], [], [], _, _ => trivial
  | .inn k :: ps, .val _ as, t :: ts, _ :: ds, _ :: vs, h, q => ⟨h.1, ArgsAt.ext h.2 q⟩
  | .ino k :: ps, .own _ as, t :: ts, _ :: ds, _ :: vs, h, q => ⟨h.1, ArgsAt.ext h.2 q⟩
  | .ino k :: ps, .ino i as, t :: ts, d :: ds, v :: vs, h, q => by
    obtain ⟨h1, h2, h3, h4, h5⟩ := h
    obtain ⟨q1, q2⟩ := q i List.mem_cons_self
    exact ⟨h1, by rw [q1]; exact h2, by rw [q2]; exact h3, h4, ArgsAt.ext h5 fun j hj => q j (List.mem_cons_of_mem _ hj)⟩
theorem ArgsAt.lens {Γ : List STy} {ρ : Penv} {σ : St} : ∀ {ps : List PM} {as : As} {ts : List Ty} {ds : List D} {vs : List V}, ArgsAt Γ ρ σ ps as ts ds vs → (argT as ds vs).length = ts.length
  | [], .nil, [], [], [], _ => rfl
  | .inn k :: ps, .val _ as, t :: ts, _ :: ds, _ :: vs, h => by simp [argT, ArgsAt.lens h.2]
  | .ino k :: ps, .own _ as, t :: ts, _ :: ds, _ :: vs, h => by simp [argT, ArgsAt.lens h.2]
  | .ino k :: ps, .ino i as, t :: ts, d :: ds, v :: vs, h => by simp [argT, ArgsAt.lens h.2.2.2.2]
def RdAs (K : PySem.W.Frag) (C : Ctx) (G : TC) (XR : XRel) (Ex : XK) (as : As) (t : TA) : Prop := ∀ ps H0 M Γ Θ ts Γ' ρ σ θ H (Kk : List D → Penv → Prop) (Xk : Exc → Penv → Prop) (Q : List V → Hp → Prop), tyAs G Γ Θ ps as = some (ts, Γ') → Rel K H0 M Γ ρ σ Θ θ H → evalAs C as ρ Kk Xk → ExcOk XR Ex M H0 Xk →
  (∀ ds ρ' vs H', ArgsAt Γ' ρ' σ ps as ts ds vs → as.inos.Nodup → (∀ i ∈ as.inos, noBor i ts = true ∧ noBor i Θ = true) → Rel K H0 M Γ' ρ' σ (ts.reverse ++ Θ) ((argT as ds vs).reverse ++ θ) H' → Kk ds ρ' → Q vs H') → t σ H Q
def SAs (P : Program) (w : World) (K : PySem.W.Frag) (mg : Str → Option Value) (base : Heap) (A : Code) (C : Ctx) (G : TC) (kk : Nat) (XR : XRel) (as : As) : Prop :=
  ∀ Ex sc pes, mtAs A sc as pes = true → (∀ pe ∈ pes, ∀ e pos, pe ≠ .Starred e pos) ∧ ∃ t : TA, (∀ X, Good P w K mg base A kk Ex sc X → PA X pes t) ∧ RdAs K C G XR Ex as t
theorem sas_nil : SAs P w K mg base A C G kk XR .nil := fun Ex sc pes hm => by
  cases pes with
  | cons _ _ => exact absurd hm Bool.false_ne_true
  | nil =>
    refine ⟨fun _ h => by simp at h, tNil, fun X g => pa_nil, ?_⟩
    intro ps H0 M Γ Θ ts Γ' ρ σ θ H Kk Xk Q ht R he hx hq
    cases ps with
    | cons p ps => cases p <;> (unfold tyAs at ht; cases ht)
    | nil =>
      unfold tyAs at ht
      cases ht
      unfold evalAs at he
      exact hq [] ρ [] H trivial List.nodup_nil (fun i h => by cases h) R he
theorem argT_cons {p : D × V} {l : List (D × V)} {θ : List (D × V)} : (p :: l).reverse ++ θ = l.reverse ++ (p :: θ) := by simp
theorem noBor_cons {i : Nat} {t : Ty} {Θ : List Ty} : noBor i (t :: Θ) = true ↔ noBor i [t] = true ∧ noBor i Θ = true := by simp [noBor]
theorem sas_val {e : E} {as : As} (h1 : SE P w K mg base A C G kk XR e) (h2 : SAs P w K mg base A C G kk XR as) : SAs P w K mg base A C G kk XR (.val e as) := fun Ex sc pes hm => by
  cases pes with
  | nil => exact absurd hm Bool.false_ne_true
  | cons pe pes =>
    have hm : (mtE A sc e pe && mtAs A sc as pes) = true := hm
    rw [Bool.and_eq_true] at hm
    obtain ⟨t1, p1, r1⟩ := h1 Ex sc pe hm.1
    obtain ⟨ns, t2, p2, r2⟩ := h2 Ex sc pes hm.2
    have ns1 : ∀ x pos, pe ≠ .Starred x pos := fun x pos e' => by subst e'; exact mt_nostar hm.1
    refine ⟨fun q hq x pos => ?_, tCons t1 t2, fun X g => pa_cons (p1 X g) (p2 X g) (star_cons ns1), ?_⟩
    · rcases List.mem_cons.mp hq with rfl | hq
      · exact ns1 x pos
      · exact ns q hq x pos
    · intro ps H0 M Γ Θ ts Γ' ρ σ θ H Kk Xk Q ht R he hx hq
      cases ps with
      | nil => unfold tyAs at ht; cases ht
      | cons p ps =>
        cases p with
        | ino k => unfold tyAs at ht; cases ht
        | inn k =>
          unfold tyAs at ht
          split at ht <;> try (cases ht; done)
          rename_i t Γ1 ht1
          split at ht <;> try (cases ht; done)
          rename_i hk
          split at ht <;> try (cases ht; done)
          rename_i ts' Γ2 ht2
          cases ht
          unfold evalAs at he
          refine r1 _ _ _ _ _ _ _ _ _ _ _ _ _ ht1 R he hx fun d ρ1 v H1 R1 he1 => ?_
          refine r2 ps _ _ _ _ _ _ _ _ _ _ _ _ _ ht2 R1 he1 hx fun ds ρ2 vs H2 at2 nd nb R2 hk2 => ?_
          refine hq (d :: ds) ρ2 (v :: vs) H2 ⟨hk, at2⟩ nd (fun i hi => ?_) ?_ hk2
          · obtain ⟨n1, n2⟩ := nb i hi
            obtain ⟨n3, n4⟩ := noBor_cons.mp n2
            exact ⟨noBor_cons.mpr ⟨n3, n1⟩, n4⟩
          · rw [stack_cons]
            show Rel K H0 M Γ' ρ2 σ _ (((d, v) :: argT as ds vs).reverse ++ θ) H2
            rw [argT_cons]; exact R2
theorem sas_own {e : E} {as : As} (h1 : SE P w K mg base A C G kk XR e) (h2 : SAs P w K mg base A C G kk XR as) : SAs P w K mg base A C G kk XR (.own e as) := fun Ex sc pes hm => by
  cases pes with
  | nil => exact absurd hm Bool.false_ne_true
  | cons pe pes =>
    have hm : (mtE A sc e pe && mtAs A sc as pes) = true := hm
    rw [Bool.and_eq_true] at hm
    obtain ⟨t1, p1, r1⟩ := h1 Ex sc pe hm.1
    obtain ⟨ns, t2, p2, r2⟩ := h2 Ex sc pes hm.2
    have ns1 : ∀ x pos, pe ≠ .Starred x pos := fun x pos e' => by subst e'; exact mt_nostar hm.1
    refine ⟨fun q hq x pos => ?_, tCons t1 t2, fun X g => pa_cons (p1 X g) (p2 X g) (star_cons ns1), ?_⟩
    · rcases List.mem_cons.mp hq with rfl | hq
      · exact ns1 x pos
      · exact ns q hq x pos
    · intro ps H0 M Γ Θ ts Γ' ρ σ θ H Kk Xk Q ht R he hx hq
      cases ps with
      | nil => unfold tyAs at ht; cases ht
      | cons p ps =>
        cases p with
        | inn k => unfold tyAs at ht; cases ht
        | ino k =>
          unfold tyAs at ht
          split at ht <;> try (cases ht; done)
          rename_i t Γ1 ht1
          split at ht <;> try (cases ht; done)
          rename_i hk
          split at ht <;> try (cases ht; done)
          rename_i ts' Γ2 ht2
          cases ht
          unfold evalAs at he
          refine r1 _ _ _ _ _ _ _ _ _ _ _ _ _ ht1 R he hx fun d ρ1 v H1 R1 he1 => ?_
          refine r2 ps _ _ _ _ _ _ _ _ _ _ _ _ _ ht2 R1 he1 hx fun ds ρ2 vs H2 at2 nd nb R2 hk2 => ?_
          refine hq (d :: ds) ρ2 (v :: vs) H2 ⟨hk, at2⟩ nd (fun i hi => ?_) ?_ hk2
          · obtain ⟨n1, n2⟩ := nb i hi
            obtain ⟨n3, n4⟩ := noBor_cons.mp n2
            exact ⟨noBor_cons.mpr ⟨n3, n1⟩, n4⟩
          · rw [stack_cons]
            show Rel K H0 M Γ' ρ2 σ _ (((d, v) :: argT as ds vs).reverse ++ θ) H2
            rw [argT_cons]; exact R2
theorem Rw.widen {H0 H : Hp} {M : Addr → Prop} {ow : Addr → Id} {Γ : List STy} {ρ : Penv} {σ : St} {Θ : List Ty} {θ : List (D × V)} (R : Rw K H0 M ow Γ ρ σ Θ θ H) {i : Nat} {u : Ty} {k : Nat} (h : Γ[i]? = some (some u)) (hp : u.p = .own) (hk : u.k ≤ k) : Rw K H0 M ow (Γ.set i (some ⟨.own, k⟩)) ρ σ Θ θ H where
  lρ := by rw [List.length_set]; exact R.lρ
  lσ := by rw [List.length_set]; exact R.lσ
  nb := fun j ty h' => by
    by_cases e : i = j
    · subst e
      rw [List.getElem?_set_self (List.getElem?_eq_some_iff.mp h).1] at h'; cases h'; exact .inl rfl
    · rw [List.getElem?_set_ne e] at h'; exact R.nb j ty h'
  slot := fun j ty d h1 h2 => by
    by_cases e : i = j
    · subst e
      rw [List.getElem?_set_self (List.getElem?_eq_some_iff.mp h).1] at h1; cases h1
      obtain ⟨v, e, F, r, hd, hl⟩ := R.slot i u d h h2
      rw [hp] at r hl
      exact ⟨v, e, F, r, D.dep_mono hk d hd, hl⟩
    · rw [List.getElem?_set_ne e] at h1
      exact R.slot j ty d h1 h2
  temp := R.temp
  ext := R.ext
  lab := R.lab
  hiT := R.hiT
theorem tyAs_keep : ∀ {ps : List PM} {as : As} {Γ Γ' : List STy} {Θ ts : List Ty}, tyAs G Γ Θ ps as = some (ts, Γ') → True := fun _ => trivial
theorem sas_ino {i : Nat} {as : As} (h2 : SAs P w K mg base A C G kk XR as) : SAs P w K mg base A C G kk XR (.ino i as) := fun Ex sc pes hm => by
  cases pes with
  | nil => exact absurd hm Bool.false_ne_true
  | cons pe pes =>
    cases pe <;> try exact absurd hm Bool.false_ne_true
    rename_i x pos
    have hm : (A.N[i]? == some x && visB sc x && nomg x && mtAs A sc as pes) = true := hm
    rw [Bool.and_eq_true] at hm
    obtain ⟨ns, t2, p2, r2⟩ := h2 Ex sc pes hm.2
    refine ⟨fun q hq y p e => ?_, tCons (tVar i) t2, fun X g => pa_cons (g.pv hm.1) (p2 X g) (star_cons fun _ _ e => by cases e), ?_⟩
    · rcases List.mem_cons.mp hq with rfl | hq
      · cases e
      · exact ns q hq y p e
    · intro ps H0 M Γ Θ ts Γ' ρ σ θ H Kk Xk Q ht R he hx hq
      cases ps with
      | nil => unfold tyAs at ht; cases ht
      | cons p ps =>
        cases p with
        | inn k => unfold tyAs at ht; cases ht
        | ino k =>
          unfold tyAs at ht
          split at ht <;> try (cases ht; done)
          rename_i t0 hΓ0
          split at ht <;> try (cases ht; done)
          rename_i ts' Γ2 ht2
          split at ht <;> try (cases ht; done)
          rename_i u hu
          split at ht <;> try (cases ht; done)
          rename_i hc
          obtain ⟨c1, c2, c3, c4, c5⟩ := hc
          cases ht
          unfold evalAs at he
          split at he <;> try exact he.elim
          rename_i d0 hρ0
          obtain ⟨ow0, R0⟩ := id R
          obtain ⟨v, hσ, _⟩ := R0.slot i t0 _ hΓ0 hρ0
          refine ⟨v, hσ, ?_⟩
          refine r2 ps _ _ _ _ _ _ _ _ _ _ _ _ _ ht2 (R.imm (d := .non) (v := .non) .non rfl) he hx fun ds ρ2 vs H2 at2 nd nb R2 hk2 => ?_
          split at hk2 <;> try exact hk2.elim
          rename_i d hρ2
          obtain ⟨ow2, R2'⟩ := id R2
          have hlt := (List.getElem?_eq_some_iff.mp hu).1
          have hni : i ∉ as.inos := by simpa using c5
          refine hq (d :: ds) ρ2 (v :: vs) H2 ⟨rfl, List.getElem?_set_self hlt, hρ2, hσ, at2.ext fun j hj => ⟨List.getElem?_set_ne fun e => hni (by rw [e]; exact hj), rfl⟩⟩ (List.nodup_cons.mpr ⟨hni, nd⟩) (fun j hj => ?_) ?_ hk2
          · rcases List.mem_cons.mp hj with rfl | hj
            · exact ⟨noBor_cons.mpr ⟨rfl, c4⟩, c3⟩
            · obtain ⟨n1, n2⟩ := nb j hj
              obtain ⟨n3, n4⟩ := noBor_cons.mp n2
              exact ⟨noBor_cons.mpr ⟨n3, n1⟩, n4⟩
          · rw [stack_cons]
            show Rel K H0 M _ ρ2 σ _ (((.non, .non) :: argT as ds vs).reverse ++ θ) H2
            rw [argT_cons]
            exact ⟨ow2, R2'.widen hu c1 c2⟩
section
variable {H0 H H' : Hp} {M : Addr → Prop} {ow : Addr → Id} {Γ : List STy} {ρ : Penv} {σ : St} {Θ : List Ty} {θ : List (D × V)}
theorem args_fp (hslot : ∀ (i : Nat) (ty : Ty) (d : D), Γ[i]? = some (some ty) → ρ[i]? = some (some d) → ∃ v, σ[i]? = some (some v) ∧ EntOk K H ow (.slot i) ty d v) {I J : List Nat} :
    ∀ {ps : List PM} {as : As} {ts Θ : List Ty} {θ : List (D × V)} {ds : List D} {vs : List V}, ArgsAt Γ ρ σ ps as ts ds vs → TempOk K H ow (ts.reverse ++ Θ) ((argT as ds vs).reverse ++ θ) → (∀ i ∈ I, noBor i ts = true) → as.inos.Nodup → (∀ j ∈ J, j < Θ.length ∨ j ∈ ownIx Θ.length as) →
      ∃ E, (∀ M' : Fp, (∀ a ∈ M', (∃ i ∈ I, ow a = .slot i) ∨ ∃ j ∈ J, ow a = .tmp j) → ArgsR K H M' ps ds vs E) ∧ E.Nodup ∧ ∀ a ∈ E, (∃ i ∈ as.inos, ow a = .slot i) ∨ ∃ j ∈ ownIx Θ.length as, ow a = .tmp j
  | [], .nil, [], _, _, [], [], _, _, _, _, _ => ⟨[], fun _ _ => rfl, List.nodup_nil, fun _ h => by simp at h⟩
  | .inn k :: ps, .val e as, t :: ts, Θ, θ, d :: ds, v :: vs, h, q, nb, nd, hJ => by
    rw [stack_cons] at q
    have q : TempOk K H ow (ts.reverse ++ (t :: Θ)) (((d, v) :: argT as ds vs).reverse ++ θ) := q
    rw [argT_cons] at q
    obtain ⟨E, e1, e2, e3⟩ := args_fp hslot (I := I) (J := J) h.2 q (fun i hi => (noBor_cons.mp (nb i hi)).2) nd (fun j hj => by
      rcases hJ j hj with z | z
      · exact .inl (by simp; omega)
      · exact .inr z)
    refine ⟨E, fun M' hM => ⟨?_, e1 M' hM⟩, e2, e3⟩
    obtain ⟨G, r, hd, hl⟩ := q.at (by simp [ArgsAt.lens h.2])
    refine ⟨G, r.weak, D.dep_mono h.1 d hd, fun a ha hm => ?_⟩
    rcases hM a hm with ⟨i, hi, e⟩ | ⟨j, hj, e⟩
    · cases hp : t.p with
      | own => rw [hp] at hl; rw [hl.2 a ha] at e; cases e
      | frz => rw [hp] at hl; rw [hl a ha] at e; cases e
      | bor xs =>
        rw [hp] at hl
        rcases hl a ha with z | ⟨j, hj, z⟩
        · rw [z] at e; cases e
        · rw [z] at e
          cases e
          have := (noBor_cons.mp (nb i hi)).1
          simp [noBor, hp] at this
          exact this hj
    · cases hp : t.p with
      | own =>
        rw [hp] at hl
        rw [hl.2 a ha] at e
        have e : Θ.length = j := Id.tmp.inj e
        subst e
        rcases hJ _ hj with z | z
        · exact absurd z (Nat.lt_irrefl _)
        · have := ownIx_ge (n := Θ.length + 1) (as := as) _ z
          omega
      | frz => rw [hp] at hl; rw [hl a ha] at e; cases e
      | bor xs =>
        rw [hp] at hl
        rcases hl a ha with z | ⟨j, hj, z⟩
        · rw [z] at e; cases e
        · rw [z] at e; cases e
  | .ino k :: ps, .own e as, t :: ts, Θ, θ, d :: ds, v :: vs, h, q, nb, nd, hJ => by
    rw [stack_cons] at q
    have q : TempOk K H ow (ts.reverse ++ (t :: Θ)) (((d, v) :: argT as ds vs).reverse ++ θ) := q
    rw [argT_cons] at q
    obtain ⟨E, e1, e2, e3⟩ := args_fp hslot (I := I) (J := J) h.2 q (fun i hi => (noBor_cons.mp (nb i hi)).2) nd (fun j hj => by
      rcases hJ j hj with z | z
      · exact .inl (by simp; omega)
      · rcases List.mem_cons.mp z with rfl | z
        · exact .inl (by simp)
        · exact .inr z)
    obtain ⟨G, r, hd, hl⟩ := q.at (by simp [ArgsAt.lens h.2])
    rw [h.1.1] at r hl
    have hl : G.Nodup ∧ ∀ a ∈ G, ow a = .tmp Θ.length := hl
    refine ⟨G ++ E, fun M' hM => ⟨G, E, rfl, r, D.dep_mono h.1.2 d hd, e1 M' hM⟩, List.nodup_append.mpr ⟨hl.1, e2, fun a ha b hb e => ?_⟩, fun a ha => ?_⟩
    · subst e
      rcases e3 a hb with ⟨i, _, z⟩ | ⟨j, hj, z⟩
      · rw [hl.2 a ha] at z; cases z
      · rw [hl.2 a ha] at z
        have z : Θ.length = j := Id.tmp.inj z
        subst z
        have := ownIx_ge (n := Θ.length + 1) (as := as) _ hj
        omega
    · rcases List.mem_append.mp ha with ha | ha
      · exact .inr ⟨_, List.mem_cons_self, hl.2 a ha⟩
      · rcases e3 a ha with z | ⟨j, hj, z⟩
        · exact .inl z
        · exact .inr ⟨j, List.mem_cons_of_mem _ hj, z⟩
  | .ino k :: ps, .ino i as, t :: ts, Θ, θ, d :: ds, v :: vs, h, q, nb, nd, hJ => by
    obtain ⟨rfl, h2, h3, h4, h5⟩ := h
    rw [stack_cons] at q
    have q : TempOk K H ow (ts.reverse ++ (imm :: Θ)) (((.non, .non) :: argT as ds vs).reverse ++ θ) := q
    rw [argT_cons] at q
    have nd' : (i :: as.inos).Nodup := nd
    obtain ⟨n1, n2⟩ := List.nodup_cons.mp nd'
    obtain ⟨E, e1, e2, e3⟩ := args_fp hslot (I := I) (J := J) h5 q (fun i hi => (noBor_cons.mp (nb i hi)).2) n2 (fun j hj => by
      rcases hJ j hj with z | z
      · exact .inl (by simp; omega)
      · exact .inr z)
    obtain ⟨v', hv, G, r, hd, hl⟩ := hslot i _ _ h2 h3
    rw [h4] at hv; cases hv
    have hl : G.Nodup ∧ ∀ a ∈ G, ow a = .slot i := hl
    refine ⟨G ++ E, fun M' hM => ⟨G, E, rfl, r, hd, e1 M' hM⟩, List.nodup_append.mpr ⟨hl.1, e2, fun a ha b hb e => ?_⟩, fun a ha => ?_⟩
    · subst e
      rcases e3 a hb with ⟨j, hj, z⟩ | ⟨j, hj, z⟩
      · rw [hl.2 a ha] at z
        cases z
        exact n1 hj
      · rw [hl.2 a ha] at z; cases z
    · rcases List.mem_append.mp ha with ha | ha
      · exact .inl ⟨i, List.mem_cons_self, hl.2 a ha⟩
      · rcases e3 a ha with ⟨j, hj, z⟩ | z
        · exact .inl ⟨j, List.mem_cons_of_mem _ hj, z⟩
        · exact .inr z
theorem setOuts_ne : ∀ {is : List (Option Nat)} {outs : List D} {ρ : Penv} {j : Nat}, some j ∉ is → (setOuts is outs ρ)[j]? = ρ[j]?
  | [], _, _, _, _ => by simp [setOuts]
  | some _ :: _, [], _, _, _ => by simp [setOuts]
  | none :: _, [], _, _, _ => by simp [setOuts]
  | none :: is, d :: ds, ρ, j, h => by
    unfold setOuts
    exact setOuts_ne (is := is) (outs := ds) fun q => h (List.mem_cons_of_mem _ q)
  | some i :: is, d :: ds, ρ, j, h => by
    unfold setOuts
    rw [setOuts_ne (is := is) (outs := ds) fun q => h (List.mem_cons_of_mem _ q)]
    exact List.getElem?_set_ne fun e => h (by rw [e]; exact List.mem_cons_self)
theorem setOuts_len : ∀ {is : List (Option Nat)} {outs : List D} {ρ : Penv}, (setOuts is outs ρ).length = ρ.length
  | [], _, _ => by simp [setOuts]
  | some _ :: _, [], _ => by simp [setOuts]
  | none :: _, [], _ => by simp [setOuts]
  | none :: is, d :: ds, ρ => by
    unfold setOuts
    exact setOuts_len (is := is) (outs := ds)
  | some i :: is, d :: ds, ρ => by
    unfold setOuts
    rw [setOuts_len (is := is) (outs := ds)]; simp
theorem outs_inos : ∀ {as : As} {i : Nat}, some i ∈ as.outs ↔ i ∈ as.inos
  | .nil, i => by simp [As.outs, As.inos]
  | .val _ as, i => outs_inos (as := as)
  | .own _ as, i => by simp [As.outs, As.inos, outs_inos (as := as)]
  | .ino j as, i => by simp [As.outs, As.inos, outs_inos (as := as)]
theorem outs_list : ∀ {ps : List PM} {as : As} {ts : List Ty} {ds : List D} {vs : List V} {outs : List D} {F' : Fp} {ρ : Penv}, ArgsAt Γ ρ σ ps as ts ds vs → OutsR K H' ps vs outs F' → as.inos.Nodup →
    ∃ L : List (Nat × Fp), L.map (·.1) = as.inos ∧ (L.map (·.2)).flatten.Sublist F' ∧ ∀ p ∈ L, ∃ kk d' v', Γ[p.1]? = some (some ⟨.own, kk⟩) ∧ σ[p.1]? = some (some v') ∧ (setOuts as.outs outs ρ)[p.1]? = some (some d') ∧ Rep true K H' d' v' p.2 ∧ d'.dep kk = true
  | [], .nil, [], [], [], [], F', ρ, _, h, _ => ⟨[], rfl, by simp, fun _ h => by simp at h⟩
  | .inn k :: ps, .val _ as, t :: ts, d :: ds, v :: vs, outs, F', ρ, h, q, nd => outs_list (as := as) h.2 q nd
  | .ino k :: ps, .own _ as, t :: ts, d :: ds, v :: vs, o :: outs, F', ρ, h, q, nd => by
    obtain ⟨F1, F2, rfl, r, hd, q2⟩ := q
    obtain ⟨L, l1, l2, l3⟩ := outs_list (as := as) h.2 q2 nd
    exact ⟨L, l1, l2.trans (List.sublist_append_right _ _), l3⟩
  | .ino k :: ps, .ino i as, t :: ts, d :: ds, v :: vs, o :: outs, F', ρ, h, q, nd => by
    obtain ⟨rfl, h2, h3, h4, h5⟩ := h
    obtain ⟨F1, F2, rfl, r, hd, q2⟩ := q
    have nd' : (i :: as.inos).Nodup := nd
    obtain ⟨n1, n2⟩ := List.nodup_cons.mp nd'
    have h5' : ArgsAt Γ (ρ.set i (some o)) σ ps as ts ds vs := h5.ext fun j hj => ⟨rfl, List.getElem?_set_ne fun e => n1 (by rw [e]; exact hj)⟩
    obtain ⟨L, l1, l2, l3⟩ := outs_list h5' q2 n2
    refine ⟨(i, F1) :: L, ?_, by simpa using l2, fun p hp => ?_⟩
    · show i :: L.map (·.1) = i :: as.inos
      rw [l1]
    rcases List.mem_cons.mp hp with rfl | hp
    · refine ⟨k, o, v, h2, h4, ?_, r, hd⟩
      show (setOuts as.outs outs (ρ.set i (some o)))[i]? = _
      rw [setOuts_ne (fun z => n1 (outs_inos.mp z))]
      exact List.getElem?_set_self (List.getElem?_eq_some_iff.mp h3).1
    · exact l3 p hp
  | [], .nil, [], [], [], _ :: _, _, _, _, h, _ => h.elim
  | .ino k :: ps, .ino i as, t :: ts, d :: ds, v :: vs, [], _, _, _, h, _ => h.elim
  | .ino k :: ps, .own i as, t :: ts, d :: ds, v :: vs, [], _, _, _, h, _ => h.elim
end
theorem rd_call (F : Facts P w K mg base A C G kk XR) {Ex : XK} {f : Nat} {as : As} {s : Sig} {t : TA} (hs : G.sig f = some s) (r : RdAs K C G XR Ex as t) : RdE K C G XR Ex (.call f as) (tCall (spOf K XR s (C.spec f)) [] Ex t) := by
  intro H0 M Γ Θ ty Γ' ρ σ θ H Kk Xk Q ht R he hx hq
  unfold tyE at ht
  rw [hs] at ht
  simp only at ht
  split at ht <;> try (cases ht; done)
  rename_i ts Γ1 ht1
  cases ht
  unfold evalE at he
  refine r s.ps _ _ _ _ _ _ _ _ _ _ _ _ _ ht1 R he hx fun ds ρ1 vs H1 at1 nd nb R1 hk => ?_
  obtain ⟨ow, R1'⟩ := id R1
  obtain ⟨E, e1, e2, e3⟩ := args_fp R1'.slot (I := as.inos) (J := ownIx Θ.length as) at1 R1'.temp (fun i hi => (nb i hi).1) nd (fun j hj => .inr hj)
  rw [List.append_nil]
  have zl : ts.reverse.length = ((argT as ds vs).reverse).length := by simp [at1.lens]
  have tch : ∀ a ∈ E, touch as.inos Θ.length (ow a) := fun a ha => by
    rcases e3 a ha with ⟨i, hi, z⟩ | ⟨j, hj, z⟩
    · rw [z]; exact hi
    · rw [z]; exact ownIx_ge j hj
  have nfz : ∀ a ∈ E, ow a ≠ .frz := fun a ha => touch_nf (tch a ha)
  refine ⟨ds, _, E, hk, e1 E e3, e2, fun d outs hk v H' Fr F' post => ?_, fun x hk c o H' hext hxr => ?_⟩
  rotate_left
  · have hk : Xk x ρ1 := hk
    refine hx x ρ1 c o H' ?_ hk hxr
    refine ⟨fun a h m => ?_, fun a h => hext.there a (R1'.ext.there a h)⟩
    rw [hext.keep a (R1'.ext.there a h) fun z => ?_]
    · exact R1'.ext.keep a h m
    · rcases (R1'.lab a (nfz a z)).2 with q | q
      · exact m q
      · exact h q
  · have hk : Kk d (setOuts as.outs outs ρ1) := hk
    obtain ⟨L, l1, l2, l3⟩ := outs_list at1 post.outs nd
    have S := R1'.swap zl (L := L) (d := d) (v := v) (Fr := Fr) (k := s.k) (ρ' := setOuts as.outs outs ρ1) (H' := H')
      (by rw [l1]; exact fun i hi => (nb i hi).2)
      (post.ext.mono fun a ha => by rw [l1]; exact tch a ha)
      (post.nd.sublist ((List.Sublist.refl _).append l2)) (fun a ha => by
        rcases post.new a ha with z | z
        · right; rw [l1]; exact tch a z
        · exact .inl z)
      (fun p hp a ha => by
        have : a ∈ F' := l2.subset (List.mem_flatten.mpr ⟨p.2, List.mem_map.mpr ⟨p, hp, rfl⟩, ha⟩)
        rcases post.old a this with z | z
        · right; rw [l1]; exact tch a z
        · exact .inl z)
      post.rep post.dep setOuts_len l3 (fun i hi => setOuts_ne (fun z => hi (by rw [l1]; exact outs_inos.mp z)))
    refine hq d _ v H' ?_ hk
    by_cases h0 : s.k = 0
    · have hd := post.dep
      rw [h0] at hd
      unfold fresh
      rw [if_pos h0]
      exact Rel.new (Θs := [⟨.own, s.k⟩]) (θs := [(d, v)]) S rfl (post.rep.immw hd)
    · unfold fresh
      rw [if_neg h0]
      exact S
theorem se_call (F : Facts P w K mg base A C G kk XR) {f : Nat} {as : As} (h : SAs P w K mg base A C G kk XR as) : SE P w K mg base A C G kk XR (.call f as) := fun Ex sc pe hm => by
  unfold mtE at hm
  split at hm <;> first | exact absurd hm Bool.false_ne_true | skip
  all_goals first | (rename_i h; cases h; done) | skip
  rename_i x p e es pos h'
  injection h' with g1 g2
  subst g1 g2
  simp only [Bool.and_eq_true, beq_iff_eq] at hm
  obtain ⟨⟨⟨n1, n2⟩, n3⟩, hm⟩ := hm
  simp only [nomg, Bool.and_eq_true, beq_iff_eq] at n3
  obtain ⟨ns, t, pr, rd⟩ := h Ex sc (e :: es) hm
  cases hs : G.sig f with
  | none =>
    refine ⟨fun _ _ _ => False, fun X g => ⟨fun _ _ _ _ _ _ h => h.elim⟩, ?_⟩
    intro H0 M Γ Θ ty Γ' ρ σ θ H Kk Xk Q ht
    unfold tyE at ht
    rw [hs] at ht
    cases ht
  | some s =>
    obtain ⟨addr, fd, ps, f1, f2, f3, f4⟩ := F.calls f s x hs n1
    refine ⟨_, fun X g => ?_, rd_call F hs rd⟩
    obtain ⟨e1, e2, e3, e4, e5⟩ := (⟨g.prog, g.wld, g.eK, g.emg, g.ebase⟩ : X.prog = P ∧ X.w = w ∧ X.K = K ∧ X.mg = mg ∧ X.base = base)
    have f4' : FnOk X.prog X.w X.K X.mg X.base (L2.CX P w) kk addr fd ps (spOf K XR s (C.spec f)) := by rw [e1, e2, e3, e4, e5]; exact f4
    exact pe_call f4' g.room (g.gl n2) (by rw [e4]; exact f1) (by rw [e3]; exact f2) (by rw [e3]; exact f3) .nil g.pass (pr X g) n3.1 (star_cons (ns e List.mem_cons_self)) (star_any (fun q hq => ns q (List.mem_cons_of_mem _ hq)) _)
end Pm

namespace Pm
open PySem PySem.Spec PyProof.Rows L2
variable {P : Program} {w : World} {K : PySem.W.Frag} {mg : Str → Option Value} {base : Heap} {A : Code} {C : Ctx} {G : TC} {kk : Nat} {XR : XRel}

/-! ### what is walked -/
/-- a list, a tuple, a text -/
def iAny (K : PySem.W.Frag) (tl : TE) : TI := fun σ H R => tl σ H fun x H1 => (∃ a, x = .ref a ∧ (∃ xs, SqL K H1 a xs) ∧ R (Itl K a) H1) ∨ (∃ a, x = .ref a ∧ (∃ xs, SqT K H1 a xs) ∧ R (Itt K a) H1) ∨ ∃ z, x = .str z ∧ R (Its z) H1
theorem pi_any {X : Cx} {tg l : Expr} {tl : TE} (hl : PE X l tl) : PI X tg l (iAny X.K tl) := by
  refine ⟨fun pins s σ H R I h => ?_⟩
  refine thn (hl.run pins s σ H _ I h) fun v s1 ⟨x, H1, I1, r1, q1⟩ => ?_
  rcases q1 with ⟨a, e, ⟨xs, hq⟩, q⟩ | ⟨a, e, ⟨xs, hq⟩, q⟩ | ⟨z, e, q⟩
  · subst e
    cases r1
    obtain ⟨its, rv, p, hz⟩ := I1.list hq
    refine wpAny_pyIter_list p.isList ?_
    refine ⟨s1.heap.objs.size, [s1.heap.objs.size], _, _, H1, rfl, I1.kept (t' := s1.toks) fun b o e => Heap.get?_push_of_some _ e, turn_list a _, ⟨_, Heap.get?_push_size _ rfl, rfl, rfl⟩, fun b hb => ?_, q⟩
    have e : b = s1.heap.objs.size := by simpa using hb
    subst e
    exact I1.fpOk (Nat.le_refl _) (I1.hok.fresh (Nat.le_refl _))
  · subst e
    cases r1
    obtain ⟨its, rv, p, hz⟩ := I1.tuple hq
    refine wpAny_pyIter_tuple (show s1.heap.IsTuple a its.toArray from p) ?_
    refine ⟨s1.heap.objs.size, [s1.heap.objs.size], _, _, H1, rfl, I1.kept (t' := s1.toks) fun b o e => Heap.get?_push_of_some _ e, turn_tuple a _, ⟨_, Heap.get?_push_size _ rfl, rfl, rfl⟩, fun b hb => ?_, q⟩
    have e : b = s1.heap.objs.size := by simpa using hb
    subst e
    exact I1.fpOk (Nat.le_refl _) (I1.hok.fresh (Nat.le_refl _))
  · subst e
    obtain ⟨t, rfl⟩ := r1
    cases ha : z.cps.all (· < 128)
    · exact wpAny_pyIter_wide ha (pi_one (tk := s1.toks) I1 _ (turn_str _ z t "str_iterator" (.inr rfl)) ⟨_, Heap.get?_push_size _ rfl, rfl, rfl⟩ q)
    · exact wpAny_pyIter_ascii ha (pi_one (tk := s1.toks) I1 _ (turn_str _ z t "str_ascii_iterator" (.inl rfl)) ⟨_, Heap.get?_push_size _ rfl, rfl, rfl⟩ q)

def WalkOk (K : PySem.W.Frag) (us : List Ty) (θs : List (D × V)) (u : Ty) (xs : List D) (J : L2.It) : Prop :=
  ∀ H0 M Γ ρ σ Θa θa Θ θ H i, Θa.length = θa.length → Rel K H0 M Γ ρ σ (Θa ++ (us ++ Θ)) (θa ++ (θs ++ θ)) H →
    (∀ d, xs[i]? = some d → J.go i H ∧ ∀ x H', J.yld i H x H' → Rel K H0 M Γ ρ σ (u :: (Θa ++ (us ++ Θ))) ((d, x) :: (θa ++ (θs ++ θ))) H') ∧ (xs.length ≤ i → J.stop i H)
def RdIt (K : PySem.W.Frag) (C : Ctx) (G : TC) (XR : XRel) (Ex : XK) (it : Pm.It) (t : TI) : Prop := ∀ H0 M Γ Θ us u Γ' ρ σ θ H (Kk : List D → Penv → Prop) (Xk : Exc → Penv → Prop) (R : L2.It → Hp → Prop), tyIt G Γ Θ it = some (us, u, Γ') → Rel K H0 M Γ ρ σ Θ θ H → evalIt C it ρ Kk Xk → ExcOk XR Ex M H0 Xk →
  (∀ xs ρ' (J : L2.It) H' θs, us.length = θs.length → Rel K H0 M Γ' ρ' σ (us ++ Θ) (θs ++ θ) H' → WalkOk K us θs u xs J → Kk xs ρ' → R J H') → t σ H R
def SIt (P : Program) (w : World) (K : PySem.W.Frag) (mg : Str → Option Value) (base : Heap) (A : Code) (C : Ctx) (G : TC) (kk : Nat) (XR : XRel) (it : Pm.It) : Prop :=
  ∀ Ex sc tg pe, mtIt A sc it tg pe = true → ∃ t : TI, (∀ X, Good P w K mg base A kk Ex sc X → PI X tg pe t ∧ ∀ x, foldedSetIterable pe X.env x = pure x) ∧ RdIt K C G XR Ex it t
theorem TempOk.mid {H : Hp} {ow : Addr → Id} {Θa : List Ty} {θa : List (D × V)} {ty : Ty} {p : D × V} {Θ : List Ty} {θ : List (D × V)} (h : TempOk K H ow (Θa ++ ([ty] ++ Θ)) (θa ++ ([p] ++ θ))) (e : Θa.length = θa.length) : EntOk K H ow (.tmp Θ.length) ty p.1 p.2 :=
  TempOk.at (d := p.1) (v := p.2) h e
theorem walk_list {t : Ty} {ds : List D} {a : Addr} (hk : t.k ≠ 0) (hp : t.k = 1 ∨ t.p = .frz) : WalkOk K [t] [(.lst ds, .ref a)] (if t.k = 1 then imm else ⟨.frz, t.k - 1⟩) ds (Itl K a) := by
  intro H0 M Γ ρ σ Θa θa Θ θ H i hl R
  obtain ⟨ow, R⟩ := id R
  obtain ⟨F, r, hd, hL⟩ := R.temp.mid hl
  have r' : Rep t.p.w K H (.lst ds) (.ref a) F := r
  obtain ⟨a', vs, E, e, s, rs, hE, _⟩ := r'.lst_inv
  cases e
  have hd' : D.deps (t.k - 1) ds = true := by
    have hd : D.dep t.k (.lst ds) = true := hd
    cases e : t.k with
    | zero => exact absurd e hk
    | succ k => rw [e] at hd; simpa [D.dep] using hd
  refine ⟨fun d hd1 => ?_, fun hle => ⟨vs, s, by rw [← rs.len]; exact hle⟩⟩
  obtain ⟨v, E', e1, rv, hE'⟩ := rs.get hd1
  refine ⟨⟨vs, v, s, e1⟩, fun x H' y => ?_⟩
  obtain ⟨rfl, y⟩ := y
  have ex : x = v := Option.some.inj ((y _ s).symm.trans e1)
  subst ex
  have dd := deps_get hd' hd1
  by_cases h1 : t.k = 1
  · rw [if_pos h1]
    rw [h1] at dd
    exact Rel.imm ⟨ow, R⟩ (rv.imm dd).2 dd
  · rw [if_neg h1]
    have hf : t.p = .frz := hp.resolve_left h1
    rw [hf] at hL
    exact ⟨ow, R.push ⟨E', rv.weak, dd, fun b hb => hL b (hE b (hE' b hb))⟩⟩
theorem walk_tup {t : Ty} {ds : List D} {a : Addr} (hk : t.k = 0) : WalkOk K [t] [(.tup ds, .ref a)] imm ds (Itt K a) := by
  intro H0 M Γ ρ σ Θa θa Θ θ H i hl R
  obtain ⟨ow, R⟩ := id R
  obtain ⟨F, r, hd, hL⟩ := R.temp.mid hl
  have r' : Rep t.p.w K H (.tup ds) (.ref a) F := r
  obtain ⟨a', vs, e, s, rs⟩ := r'.tup_inv
  cases e
  have hd' : D.deps 0 ds = true := by
    have hd : D.dep t.k (.tup ds) = true := hd
    rw [hk, dep_tup] at hd; exact hd
  refine ⟨fun d hd1 => ?_, fun hle => ⟨vs, s, by rw [← rs.len]; exact hle⟩⟩
  obtain ⟨v, E', e1, rv, hE'⟩ := rs.get hd1
  refine ⟨⟨vs, v, s, e1⟩, fun x H' y => ?_⟩
  obtain ⟨rfl, y⟩ := y
  have ex : x = v := Option.some.inj ((y _ s).symm.trans e1)
  subst ex
  have dd := deps_get hd' hd1
  exact Rel.imm ⟨ow, R⟩ (rv.imm dd).2 dd
theorem walk_str {t : Ty} {s : List Nat} : WalkOk K [t] [(.str s, .str (toStr s))] imm (s.map fun c => .str [c]) (Its (toStr s)) := by
  intro H0 M Γ ρ σ Θa θa Θ θ H i hl R
  obtain ⟨ow, R⟩ := id R
  obtain ⟨F, r, hd, hL⟩ := R.temp.mid hl
  have r' : Rep t.p.w K H (.str s) (.str (toStr s)) F := r
  obtain ⟨_, hc⟩ := r'.str_inv
  have sz : (toStr s).cps.size = s.length := by simp [toStr]
  refine ⟨fun d hd1 => ?_, fun hle => by show (toStr s).cps.size ≤ i; rw [sz]; simpa using hle⟩
  rw [List.getElem?_map] at hd1
  cases e : s[i]? with
  | none => rw [e] at hd1; cases hd1
  | some c =>
    rw [e] at hd1
    cases hd1
    refine ⟨?_, fun x H' y => ?_⟩
    · show i < (toStr s).cps.size
      rw [sz]; exact (List.getElem?_eq_some_iff.mp e).1
    · obtain ⟨rfl, c', e1, rfl⟩ := y
      have : c' = c := by
        have h2 : (toStr s).cps[i]? = s[i]? := by simp [toStr]
        rw [h2, e] at e1; exact (Option.some.inj e1).symm
      subst this
      exact Rel.imm ⟨ow, R⟩ (.str [c'] fun c hc' => by simp at hc'; subst hc'; exact hc _ (List.mem_of_getElem? e)) (by simp [D.dep])
theorem walk_rng {lo : Int} {n : Nat} : WalkOk K [] [] imm ((List.range n).map fun (i : Nat) => .int (lo + (i : Int))) (Itr lo n) := by
  intro H0 M Γ ρ σ Θa θa Θ θ H i hl R
  refine ⟨fun d hd1 => ?_, fun hle => by show n ≤ i; simpa using hle⟩
  rw [List.getElem?_map] at hd1
  by_cases hi : i < n
  · rw [List.getElem?_range hi] at hd1
    cases hd1
    refine ⟨hi, fun x H' y => ?_⟩
    obtain ⟨rfl, rfl⟩ := y
    exact R.imm (.int _) (by simp [D.dep])
  · rw [List.getElem?_eq_none (by simpa using hi)] at hd1
    cases hd1
theorem ihead {X : Cx} {tg e : Expr} {t : TI} (h : PI X tg e t) (hs : notSet e = true) : PI X tg e t ∧ ∀ x, foldedSetIterable e X.env x = pure x := ⟨h, fun x => by
  unfold foldedSetIterable
  cases e <;> first | rfl | cases hs⟩
theorem sit_val {l : Bool} {e : E} (h : SE P w K mg base A C G kk XR e) : SIt P w K mg base A C G kk XR (.val l e) := fun Ex sc tg pe hm => by
  have hm : (mtE A sc e pe && notSet pe) = true := hm
  rw [Bool.and_eq_true] at hm
  obtain ⟨t, p, r⟩ := h Ex sc pe hm.1
  refine ⟨iAny K t, fun X g => ihead (by rw [← g.eK]; exact pi_any (p X g)) hm.2, ?_⟩
  intro H0 M Γ Θ us u Γ' ρ σ θ H Kk Xk R ht Rl he hx hq
  unfold tyIt at ht
  split at ht <;> try (cases ht; done)
  rename_i t0 Γ1 ht1
  split at ht <;> try (cases ht; done)
  rename_i hno
  unfold evalIt at he
  refine r _ _ _ _ _ _ _ _ _ _ _ _ _ ht1 Rl he hx fun d ρ1 v H1 R1 hk => ?_
  obtain ⟨F, q, hd⟩ := R1.len1
  cases l with
  | true =>
    simp only [if_true] at ht
    split at ht <;> try (cases ht; done)
    rename_i h0
    obtain ⟨ds, rfl, hk⟩ : ∃ ds, d = .lst ds ∧ Kk ds ρ1 := by
      cases d <;> first | exact ⟨_, rfl, hk⟩ | exact hk.elim
    obtain ⟨a, vs, _, ev, s, _⟩ := q.lst_inv
    have ev : v = .ref a := ev
    subst ev
    refine .inl ⟨a, rfl, ⟨vs, s⟩, ?_⟩
    by_cases h1 : t0.k = 1
    · rw [if_pos h1] at ht
      cases ht
      have W := walk_list (K := K) (t := t0) (ds := ds) (a := a) h0 (.inl h1)
      rw [if_pos h1] at W
      exact hq ds ρ1 _ H1 [(.lst ds, .ref a)] rfl R1 W hk
    · rw [if_neg h1] at ht
      split at ht <;> try (cases ht; done)
      rename_i hf
      cases ht
      have W := walk_list (K := K) (t := t0) (ds := ds) (a := a) h0 (.inr hf)
      rw [if_neg h1] at W
      exact hq ds ρ1 _ H1 [(.lst ds, .ref a)] rfl R1 W hk
  | false =>
    simp only [Bool.false_eq_true, if_false] at ht
    split at ht <;> try (cases ht; done)
    rename_i h0
    cases ht
    have hc : (∃ ds, d = .tup ds ∧ Kk ds ρ1) ∨ ∃ s, d = .str s ∧ Kk (s.map fun c => .str [c]) ρ1 := by
      cases d <;> first | exact .inl ⟨_, rfl, hk⟩ | exact .inr ⟨_, rfl, hk⟩ | exact hk.elim
    clear hk
    rcases hc with ⟨ds, rfl, hk⟩ | ⟨s, rfl, hk⟩
    · obtain ⟨a, vs, ev, s, _⟩ := q.tup_inv
      have ev : v = .ref a := ev
      subst ev
      exact .inr (.inl ⟨a, rfl, ⟨vs, s⟩, hq ds ρ1 _ H1 [(.tup ds, .ref a)] rfl R1 (walk_tup h0) hk⟩)
    · obtain ⟨ev, _⟩ := q.str_inv
      have ev : v = .str (toStr s) := ev
      subst ev
      exact .inr (.inr ⟨_, rfl, hq _ ρ1 _ H1 [(.str s, .str (toStr s))] rfl R1 walk_str hk⟩)
def Es.len : Es → Nat | .nil => 0 | .cons _ es => es.len + 1
theorem tyEs_len : ∀ {es : Es} {Γ Γ' : List STy} {Θ ts : List Ty}, tyEs G Γ Θ es = some (ts, Γ') → ts.length = es.len
  | .nil, _, _, _, _, h => by unfold tyEs at h; cases h; rfl
  | .cons e es, _, _, _, _, h => by
    unfold tyEs at h
    split at h <;> try (cases h; done)
    split at h <;> try (cases h; done)
    rename_i h2
    cases h
    simp [tyEs_len h2, Es.len]
theorem mtEs_len {sc : Scope} : ∀ {es : Es} {xs : List Expr}, mtEs A sc es xs = true → es.len = xs.length
  | .nil, [], _ => rfl
  | .cons e es, x :: xs, h => by
    have h : (mtE A sc e x && mtEs A sc es xs) = true := h
    rw [Bool.and_eq_true] at h
    simp [Es.len, mtEs_len h.2]
  | .nil, _ :: _, h => absurd h Bool.false_ne_true
  | .cons _ _, [], h => absurd h Bool.false_ne_true
theorem sit_rng (F : Facts P w K mg base A C G kk XR) {es : Es} (h : SEs P w K mg base A C G kk XR es) : SIt P w K mg base A C G kk XR (.rng es) := fun Ex sc tg pe hm => by
  unfold mtIt at hm
  split at hm <;> first | exact absurd hm Bool.false_ne_true | skip
  all_goals first | (rename_i h; cases h; done) | skip
  rename_i x p xs pos h'
  injection h' with g1
  subst g1
  simp only [Bool.and_eq_true, beq_iff_eq] at hm
  obtain ⟨⟨⟨e1, hg⟩, hl⟩, m2⟩ := hm
  subst e1
  obtain ⟨ns, t, pr, rd⟩ := h Ex sc xs m2
  have rng : ∀ {H0 M Γ Θ us u Γ' ρ σ θ H} {Kk : List D → Penv → Prop} {Xk : Exc → Penv → Prop} {R : L2.It → Hp → Prop} {Q : List V → Hp → Prop}, tyIt G Γ Θ (.rng es) = some (us, u, Γ') → Rel K H0 M Γ ρ σ Θ θ H → evalIt C (.rng es) ρ Kk Xk → ExcOk XR Ex M H0 Xk →
      (∀ xs ρ' (J : L2.It) H' θs, us.length = θs.length → Rel K H0 M Γ' ρ' σ (us ++ Θ) (θs ++ θ) H' → WalkOk K us θs u xs J → Kk xs ρ' → R J H') →
      (es.len = 1 → ∀ (j : Int) H1, -(2 ^ 62) ≤ j → j < 2 ^ 62 → R (Itr 0 j.toNat) H1 → Q [.int j] H1) → (es.len = 2 → ∀ (i j : Int) H1, (-(2 ^ 62) ≤ i ∧ i < 2 ^ 62 ∧ -(2 ^ 62) ≤ j ∧ j < 2 ^ 62) → R (Itr i (j - i).toNat) H1 → Q [.int i, .int j] H1) →
      t σ H Q := by
    intro H0 M Γ Θ us u Γ' ρ σ θ H Kk Xk R Q ht Rl he hx hq hq1 hq2
    unfold tyIt at ht
    split at ht <;> try (cases ht; done)
    rename_i ts Γ1 ht1
    split at ht <;> try (cases ht; done)
    cases ht
    have hlen := tyEs_len ht1
    unfold evalIt at he
    refine rd _ _ _ _ _ _ _ _ _ _ _ _ _ ht1 Rl he hx fun ds ρ1 vs H1 l1 l2 R1 hk => ?_
    obtain ⟨ow, R1'⟩ := id R1
    obtain ⟨F, rr, _⟩ := R1'.temp.reps l1 l2
    have R2 := R1.drop (zlen l1 l2)
    have hc : (∃ j, ds = [.int j] ∧ -(2 ^ 62) ≤ j ∧ j < 2 ^ 62 ∧ Kk ((List.range j.toNat).map fun (i : Nat) => .int (i : Int)) ρ1) ∨
        ∃ i j, ds = [.int i, .int j] ∧ (-(2 ^ 62) ≤ i ∧ i < 2 ^ 62 ∧ -(2 ^ 62) ≤ j ∧ j < 2 ^ 62) ∧ Kk ((List.range (j - i).toNat).map fun (t : Nat) => .int (i + (t : Int))) ρ1 := by
      rcases ds with _ | ⟨d, _ | ⟨e, _ | ⟨f, ds⟩⟩⟩
      · exact hk.elim
      · cases d <;> first | exact .inl ⟨_, rfl, hk⟩ | exact hk.elim
      · cases d <;> cases e <;> first | exact .inr ⟨_, _, rfl, hk⟩ | exact hk.elim
      · cases d <;> cases e <;> exact hk.elim
    rcases hc with ⟨j, rfl, b1, b2, hk⟩ | ⟨i, j, rfl, b, hk⟩
    · obtain ⟨v, rfl, r1⟩ := rr.one
      have ev := r1.int_inv
      subst ev
      have W := walk_rng (K := K) (lo := 0) (n := j.toNat)
      simp only [Int.zero_add] at W
      exact hq1 (by rw [← hlen, ← l1]; rfl) j H1 b1 b2 (hq _ ρ1 _ H1 [] rfl R2 W hk)
    · obtain ⟨v, u, _, _, rfl, r1, r2⟩ := rr.two
      have ev := r1.int_inv
      have eu := r2.int_inv
      subst ev eu
      exact hq2 (by rw [← hlen, ← l1]; rfl) i j H1 b (hq _ ρ1 _ H1 [] rfl R2 walk_rng hk)
  have hel := mtEs_len m2
  rcases xs with _ | ⟨e, _ | ⟨f, _ | ⟨g, xs⟩⟩⟩
  · exact absurd hl Bool.false_ne_true
  · refine ⟨iRng1 t, fun X g => ⟨pi_range1 (g.gl hg) (by rw [g.emg]; exact F.its.1) (pr X g) (star_cons (ns e (by simp))), fun _ => rfl⟩, ?_⟩
    intro H0 M Γ Θ us u Γ' ρ σ θ H Kk Xk R ht Rl he hx hq
    exact rng ht Rl he hx hq (fun _ j H1 b1 b2 q => ⟨j, rfl, b1, b2, q⟩) (fun e2 => by rw [hel] at e2; cases e2)
  · refine ⟨iRng2 t, fun X g => ⟨pi_range2 (g.gl hg) (by rw [g.emg]; exact F.its.1) (pr X g) (by rw [star_cons (ns e (by simp)), star_cons (ns f (by simp))]; rfl) (star_cons (ns f (by simp))), fun _ => rfl⟩, ?_⟩
    intro H0 M Γ Θ us u Γ' ρ σ θ H Kk Xk R ht Rl he hx hq
    exact rng ht Rl he hx hq (fun e2 => by rw [hel] at e2; cases e2) (fun _ i j H1 b q => ⟨i, j, rfl, b, q⟩)
  · exact absurd hl Bool.false_ne_true
end Pm

namespace Pm
open PySem PySem.Spec L2
variable {P : Program} {w : World} {K : PySem.W.Frag} {mg : Str → Option Value} {base : Heap} {A : Code} {C : Ctx} {G : TC} {kk : Nat} {XR : XRel}

/-! ### places -/
def killTs (is : List Nat) (Γ : List STy) : List STy := is.foldl (fun Γ i => Γ.set i none) Γ
theorem set_at {α : Type} {l : List α} {i j : Nat} {x : α} : (l.set i x)[j]? = if i = j ∧ j < l.length then some x else l[j]? := by
  by_cases e : i = j
  · subst e
    by_cases h : i < l.length
    · rw [List.getElem?_set_self h, if_pos ⟨rfl, h⟩]
    · rw [if_neg (fun z => h z.2), List.getElem?_eq_none (by simpa using h), List.getElem?_eq_none (by simpa using h)]
  · rw [List.getElem?_set_ne e, if_neg (fun z => e z.1)]
theorem foldset_at {α : Type} {x : α} : ∀ {is : List Nat} {l : List α} {j : Nat}, (is.foldl (fun l i => l.set i x) l)[j]? = if j ∈ is ∧ j < l.length then some x else l[j]?
  | [], l, j => by simp
  | i :: is, l, j => by
    rw [List.foldl_cons, foldset_at (is := is), set_at, List.length_set]
    by_cases h : j < l.length
    · by_cases h1 : j ∈ is
      · simp [h, h1]
      · by_cases h2 : i = j
        · simp [h, h1, h2]
        · simp [h, h1, h2, Ne.symm h2]
    · simp [h]
theorem foldset_len {α : Type} {x : α} : ∀ {is : List Nat} {l : List α}, (is.foldl (fun l i => l.set i x) l).length = l.length
  | [], l => rfl
  | i :: is, l => by rw [List.foldl_cons, foldset_len (is := is), List.length_set]
theorem setTs_at {is : List Nat} {t : Ty} {Γ : List STy} {j : Nat} : (setTs is t Γ)[j]? = if j ∈ is ∧ j < Γ.length then some (some t) else Γ[j]? := foldset_at
theorem killTs_at {is : List Nat} {Γ : List STy} {j : Nat} : (killTs is Γ)[j]? = if j ∈ is ∧ j < Γ.length then some none else Γ[j]? := foldset_at
theorem setTs_len {is : List Nat} {t : Ty} {Γ : List STy} : (setTs is t Γ).length = Γ.length := foldset_len
theorem killTs_len {is : List Nat} {Γ : List STy} : (killTs is Γ).length = Γ.length := foldset_len
theorem set_kill {is : List Nat} {t : Ty} {Γ : List STy} : setTs is t (killTs is Γ) = setTs is t Γ := by
  apply List.ext_getElem?
  intro j
  rw [setTs_at, setTs_at, killTs_at, killTs_len]
  by_cases h : j ∈ is ∧ j < Γ.length
  · simp [h]
  · simp [h]
theorem kill_set {is : List Nat} {t : Ty} {Γ : List STy} : killTs is (setTs is t Γ) = killTs is Γ := by
  apply List.ext_getElem?
  intro j
  rw [killTs_at, killTs_at, setTs_at, setTs_len]
  by_cases h : j ∈ is ∧ j < Γ.length
  · simp [h]
  · simp [h]
theorem wipeP_at {vs : List Nat} {ρ : Penv} {j : Nat} : (wipeP vs ρ)[j]? = if j ∈ vs ∧ j < ρ.length then some none else ρ[j]? := foldset_at
theorem wipeP_len {vs : List Nat} {ρ : Penv} : (wipeP vs ρ).length = ρ.length := foldset_len
theorem elim_len {ρ' : Penv} {v : Nat} {o : Option (Option D)} : (o.elim ρ' fun x => ρ'.set v x).length = ρ'.length := by cases o <;> simp
theorem restore_len : ∀ {vs : List Nat} {ρ ρ' : Penv}, (restore vs ρ ρ').length = ρ'.length
  | [], _, _ => rfl
  | v :: vs, ρ, ρ' => by
    have ih := @restore_len vs ρ ((ρ[v]?).elim ρ' fun x => ρ'.set v x)
    unfold restore at ih ⊢
    rw [List.foldl_cons, ih, elim_len]
theorem restore_at : ∀ {vs : List Nat} {ρ ρ' : Penv} {j : Nat}, ρ.length = ρ'.length → (restore vs ρ ρ')[j]? = if j ∈ vs then ρ[j]? else ρ'[j]?
  | [], _, _, _, _ => by simp [restore]
  | v :: vs, ρ, ρ', j, hl => by
    have ih := @restore_at vs ρ ((ρ[v]?).elim ρ' fun x => ρ'.set v x) j (by rw [elim_len, hl])
    unfold restore at ih ⊢
    rw [List.foldl_cons, ih]
    by_cases h1 : j ∈ vs
    · simp [h1]
    · by_cases h2 : j = v
      · subst h2
        simp only [h1, if_false, List.mem_cons, true_or, if_true]
        cases e : ρ[j]? with
        | none =>
          have : ρ.length ≤ j := by simpa using e
          exact List.getElem?_eq_none (by simp only [Option.elim]; omega)
        | some x =>
          have : j < ρ.length := (List.getElem?_eq_some_iff.mp e).1
          exact List.getElem?_set_self (by omega)
      · simp only [h1, h2, if_false, List.mem_cons, or_self]
        cases ρ[v]? with
        | none => rfl
        | some x => exact List.getElem?_set_ne (fun e => h2 e.symm)

section
variable {H0 H H' : Hp} {M : Addr → Prop} {ow : Addr → Id} {Γ Γ' : List STy} {ρ ρ' : Penv} {σ σ' : St} {Θ Θs : List Ty} {θ θs : List (D × V)}
/-- less is claimed of the slots -/
theorem Rw.reslot (R : Rw K H0 M ow Γ ρ σ Θ θ H) (h1 : ρ'.length = ρ.length) (h2 : σ'.length = σ.length) (h3 : Γ'.length = Γ.length)
    (h : ∀ (i : Nat) (ty : Ty), Γ'[i]? = some (some ty) → Γ[i]? = some (some ty) ∧ ρ'[i]? = ρ[i]? ∧ σ'[i]? = σ[i]?) : Rw K H0 M ow Γ' ρ' σ' Θ θ H where
  lρ := by rw [h1, h3]; exact R.lρ
  lσ := by rw [h2, h3]; exact R.lσ
  nb := fun i ty e => R.nb i ty (h i ty e).1
  slot := fun i ty d e1 e2 => by
    obtain ⟨q1, q2, q3⟩ := h i ty e1
    rw [q2] at e2
    rw [q3]
    exact R.slot i ty d q1 e2
  temp := R.temp
  ext := R.ext
  lab := R.lab
  hiT := R.hiT
theorem Rw.rebase (R : Rw K H0 M ow Γ ρ σ Θ θ H) : Rw K H (fun a => ow a ≠ .frz) ow Γ ρ σ Θ θ H where
  lρ := R.lρ
  lσ := R.lσ
  nb := R.nb
  slot := R.slot
  temp := R.temp
  ext := Ext.refl
  lab := fun a h => ⟨(R.lab a h).1, .inl h⟩
  hiT := R.hiT
theorem Rw.unbase {ow' : Addr → Id} {Γ1 : List STy} {ρ1 : Penv} {σ1 : St} {Θ1 : List Ty} {θ1 : List (D × V)} (R : Rw K H0 M ow Γ ρ σ Θ θ H) (R' : Rw K H (fun a => ow a ≠ .frz) ow' Γ1 ρ1 σ1 Θ1 θ1 H') : Rw K H0 M ow' Γ1 ρ1 σ1 Θ1 θ1 H' where
  lρ := R'.lρ
  lσ := R'.lσ
  nb := R'.nb
  slot := R'.slot
  temp := R'.temp
  ext := by
    refine ⟨fun a h m => ?_, fun a h => R'.ext.there a (R.ext.there a h)⟩
    rw [R'.ext.keep a (R.ext.there a h) fun z => ?_]
    · exact R.ext.keep a h m
    · rcases (R.lab a z).2 with q | q
      · exact m q
      · exact h q
  lab := fun a h => by
    obtain ⟨m1, m2⟩ := R'.lab a h
    refine ⟨m1, ?_⟩
    rcases m2 with q | q
    · exact (R.lab a q).2
    · exact .inr (Classical.byContradiction fun z => (R.ext.there a z) q)
  hiT := R'.hiT
/-- what is owned on top stands alone -/
theorem Rw.under (R : Rw K H0 M ow Γ ρ σ (⟨.own, k⟩ :: (Θs ++ Θ)) ((d, v) :: (θs ++ θ)) H) (hl : Θs.length = θs.length) : Rel K H0 M Γ ρ σ (⟨.own, k⟩ :: Θ) ((d, v) :: θ) H := by
  obtain ⟨F, r, hd, hL⟩ := R.temp.1
  have hL : F.Nodup ∧ ∀ a ∈ F, ow a = .tmp (Θs ++ Θ).length := hL
  have R' : Rw K H0 M ow Γ ρ σ ((⟨.own, k⟩ :: Θs) ++ Θ) (((d, v) :: θs) ++ θ) H := R
  refine R'.res (by simp [hl]) r hd hL.1 (fun a ha => .inr ?_) Ext.refl
  rw [hL.2 a ha]
  show Θ.length ≤ (Θs ++ Θ).length
  simp
/-- an item is put behind the list below it -/
theorem Rw.gather {w : Ty} {k : Nat} {acc : List D} {D' : Addr} {y : D} {vy : V} (R : Rw K H0 M ow Γ ρ σ (w :: ⟨.own, k + 1⟩ :: Θ) ((y, vy) :: (.lst acc, .ref D') :: θ) H) (hf : w.free = true) (hk : w.k ≤ k) :
    ∃ va, H D' = some (.lst va) ∧ va.length = acc.length ∧ Rel K H0 M Γ ρ σ (⟨.own, k + 1⟩ :: Θ) ((.lst (acc ++ [y]), .ref D') :: θ) (upd H D' (.lst (va ++ [vy]))) := by
  obtain ⟨F, r, hd, hL⟩ := R.temp.2.1
  have hL : F.Nodup ∧ ∀ a ∈ F, ow a = .tmp Θ.length := hL
  have r' : Rep true K H (.lst acc) (.ref D') F := r
  obtain ⟨a, va, E, e, _, rs, _, hw⟩ := r'.lst_inv
  cases e
  obtain ⟨ha, rfl⟩ := hw rfl
  have hd : D.dep (k + 1) (.lst acc) = true := hd
  rw [dep_lst] at hd
  have hy : ∃ E', Rep true K H y vy E' ∧ E'.Nodup ∧ ∀ a ∈ E', ow a = .tmp (Θ.length + 1) := by
    obtain ⟨F', r', hd', hL'⟩ := R.temp.1
    by_cases h0 : w.k = 0
    · rw [h0] at hd'
      exact ⟨[], (r'.imm hd').2, List.nodup_nil, fun _ h => by simp at h⟩
    · have hp : w.p = .own := by
        unfold Ty.free at hf
        have h0' : (w.k == 0) = false := by simpa using h0
        rw [h0', Bool.false_or] at hf
        cases e : w.p <;> rw [e] at hf <;> first | rfl | cases hf
      rw [hp] at r' hL'
      exact ⟨F', r', hL'.1, hL'.2⟩
  obtain ⟨E', ry, nd', hL'⟩ := hy
  have dy : y.dep k = true := by
    obtain ⟨_, _, hd', _⟩ := R.temp.1
    exact D.dep_mono hk y hd'
  have hmut : Mut (H D') := by rw [ha]; trivial
  have n1 := (List.nodup_cons.mp hL.1).1
  have n2 : D' ∉ E' := fun h => by
    have := hL' D' h
    rw [hL.2 D' List.mem_cons_self] at this
    have := Id.tmp.inj this
    omega
  refine ⟨va, ha, rs.len.symm, ?_⟩
  have R' : Rw K H0 M ow Γ ρ σ ([w, ⟨.own, k + 1⟩] ++ Θ) ([(y, vy), (.lst acc, .ref D')] ++ θ) H := R
  refine R'.res rfl (d := .lst (acc ++ [y])) (v := .ref D') (F := D' :: (E ++ E')) (k := k + 1) (.lst upd_same ?_) ?_ ?_ (fun a ha => .inr ?_) (Ext.upd (.inr ?_))
  · have := (rs.updO hmut n1).app (Reps.cons (ry.updO (o := .lst (va ++ [vy])) hmut n2) .nil)
    simpa using this
  · rw [dep_lst, deps_app, hd]
    simp [D.deps, dy]
  · refine List.nodup_cons.mpr ⟨fun h => (List.mem_append.mp h).elim n1 n2, List.nodup_append.mpr ⟨(List.nodup_cons.mp hL.1).2, nd', fun a ha b hb e => ?_⟩⟩
    subst e
    have h1 := hL.2 a (List.mem_cons_of_mem _ ha)
    rw [hL' a hb] at h1
    have := Id.tmp.inj h1
    omega
  · rcases List.mem_cons.mp ha with rfl | ha
    · rw [hL.2 a List.mem_cons_self]; exact Nat.le_refl _
    · rcases List.mem_append.mp ha with ha | ha
      · rw [hL.2 a (List.mem_cons_of_mem _ ha)]; exact Nat.le_refl _
      · rw [hL' a ha]; exact Nat.le_succ _
  · show hiTmp Θ.length (ow D')
    rw [hL.2 D' List.mem_cons_self]; exact Nat.le_refl _
/-- a new empty list -/
theorem Rw.nil (R : Rw K H0 M ow Γ ρ σ Θ θ H) {k : Nat} {p : Addr} (hp : H p = none) : Rel K H0 M Γ ρ σ (⟨.own, k + 1⟩ :: Θ) ((.lst [], .ref p) :: θ) (upd H p (.lst [])) :=
  R.res (Θs := []) (θs := []) rfl (d := .lst []) (v := .ref p) (F := [p]) (.lst upd_same .nil) (by rw [dep_lst]; rfl) (by simp) (fun a ha => by simp at ha; subst ha; exact .inl hp) (Ext.upd (.inl hp))
end

/-! ### targets -/
def gSlots : List Nat → TGs
  | [] => gNil
  | i :: is => gCons (gName i) (gSlots is)
def gTgt (K : PySem.W.Frag) : Tgt → TG
  | .nm i => gName i
  | .tp is => gTup K is.length (gSlots is)
theorem gSlots_ok : ∀ {is : List Nat} {vs : List V} {σ : St} {H : Hp} {Q : St → Hp → Prop}, vs.length = is.length → Q ((is.zip vs).foldl (fun s p => s.set p.1 (some p.2)) σ) H → gSlots is vs σ H Q
  | [], [], _, _, _, _, q => ⟨rfl, q⟩
  | i :: is, v :: vs, σ, H, Q, h, q => ⟨v, vs, rfl, gSlots_ok (by simpa using h) q⟩
  | [], _ :: _, _, _, _, h, _ => by simp at h
  | _ :: _, [], _, _, _, h, _ => by simp at h
theorem zipset_at {α : Type} : ∀ {is : List Nat} {xs ys : List α} {l m : List (Option α)} {j : Nat}, True := fun {_ _ _ _ _ _} => trivial
section
variable {H0 H : Hp} {M : Addr → Prop} {Γ : List STy} {ρ : Penv} {σ : St} {Θ : List Ty} {θ : List (D × V)}
theorem Rel.putI (R : Rel K H0 M Γ ρ σ Θ θ H) {i : Nat} {d : D} {v : V} (hi : i < Γ.length) (r : Rep true K H d v []) (hd : d.dep 0 = true) : Rel K H0 M (Γ.set i (some Pm.imm)) (ρ.set i (some d)) (σ.set i (some v)) Θ θ H := by
  obtain ⟨ow, R⟩ := R
  exact ⟨ow, R.put hi (.inr rfl) (ty := Pm.imm) ⟨[], r.weak, hd, LabOk.nil⟩⟩
/-- a slot is given what it did not hold: those of the temporaries stay -/
theorem Rw.killB (R : Rw K H0 M ow Γ ρ σ Θ θ H) (i : Nat) (hb : noBor i Θ = true) : Rw K H0 M ow (Γ.set i none) ρ σ Θ θ H := R.kill i
theorem Rel.putTs : ∀ {is : List Nat} {ds : List D} {vs : List V} {F : Fp} {Γ : List STy} {ρ : Penv} {σ : St}, Rel K H0 M Γ ρ σ Θ θ H → Reps true K H ds vs F → D.deps 0 ds = true → ds.length = is.length → (∀ i ∈ is, i < Γ.length) →
    Rel K H0 M (setTs is Pm.imm Γ) ((is.zip ds).foldl (fun ρ p => ρ.set p.1 (some p.2)) ρ) ((is.zip vs).foldl (fun s p => s.set p.1 (some p.2)) σ) Θ θ H
  | [], [], _, _, _, _, _, R, .nil, _, _, _ => R
  | i :: is, d :: ds, _, _, Γ, ρ, σ, R, rs, hd, hl, hi => by
    cases rs with
    | @cons _ v _ vs F G r rs =>
      simp only [D.deps, Bool.and_eq_true] at hd
      obtain ⟨_, r⟩ := r.imm hd.1
      obtain ⟨_, rs⟩ := rs.imm hd.2
      have R1 := R.putI (hi i List.mem_cons_self) r hd.1
      have R2 := Rel.putTs R1 rs hd.2 (by simpa using hl) (fun j hj => by rw [List.length_set]; exact hi j (List.mem_cons_of_mem _ hj))
      exact R2
  | [], _ :: _, _, _, _, _, _, _, _, _, hl, _ => by simp at hl
  | _ :: _, [], _, _, _, _, _, _, _, _, hl, _ => by simp at hl
/-- the topmost temporary goes to a target -/
theorem Rel.tgt {t : Tgt} {u : Ty} {d : D} {v : V} (R : Rel K H0 M Γ ρ σ (u :: Θ) ((d, v) :: θ) H) (he : elemOk t u = true) (hu : u.k = 0 ∨ u.p = .frz ∨ u.p = .own) (hn : ∀ i ∈ t.slots, i < Γ.length) {k : Penv → Prop} (ha : asgK t d ρ k) {Q : St → Hp → Prop}
    (hq : ∀ ρ' σ', Rel K H0 M (setTs t.slots (if u.k = 0 then Pm.imm else u) Γ) ρ' σ' Θ θ H → (∀ j, j ∉ t.slots → σ'[j]? = σ[j]?) → σ'.length = σ.length → k ρ' → Q σ' H) : gTgt K t v σ H Q := by
  cases t with
  | nm i =>
    have hi : i < Γ.length := hn i (by simp [Tgt.slots])
    obtain ⟨ow, R⟩ := R
    exact hq _ _ (R.store hi hu) (fun j hj => List.getElem?_set_ne fun e => hj (by simp [Tgt.slots, e])) List.length_set ha
  | tp is =>
    have h0 : u.k = 0 := by simpa [elemOk] using he
    obtain ⟨F, r, hd⟩ := R.len1
    obtain ⟨xs, rfl, hl, hk⟩ : ∃ xs, d = .tup xs ∧ xs.length = is.length ∧ k ((is.zip xs).foldl (fun ρ p => ρ.set p.1 (some p.2)) ρ) := by
      cases d <;> first | exact ⟨_, rfl, ha⟩ | exact False.elim ha
    have r : Rep u.p.w K H (.tup xs) v F := r
    obtain ⟨a, vs, rfl, s, rs⟩ := r.tup_inv
    have hd : D.dep u.k (.tup xs) = true := hd
    rw [h0, dep_tup] at hd
    obtain ⟨_, rs⟩ := rs.imm hd
    have hvl : vs.length = is.length := by rw [← rs.len, hl]
    refine ⟨a, vs, rfl, s, hvl, gSlots_ok hvl ?_⟩
    rw [if_pos h0] at hq
    have keep : ∀ {is : List Nat} {vs : List V} {σ : St}, ((is.zip vs).foldl (fun s p => s.set p.1 (some p.2)) σ).length = σ.length ∧ ∀ j, j ∉ is → ((is.zip vs).foldl (fun s p => s.set p.1 (some p.2)) σ)[j]? = σ[j]? := by
      intro is
      induction is with
      | nil => intro vs σ; simp
      | cons i is ih =>
        intro vs σ
        cases vs with
        | nil => simp
        | cons v vs =>
          simp only [List.zip_cons_cons, List.foldl_cons]
          obtain ⟨h1, h2⟩ := @ih vs (σ.set i (some v))
          refine ⟨by rw [h1, List.length_set], fun j hj => ?_⟩
          simp only [List.mem_cons, not_or] at hj
          rw [h2 j hj.2, List.getElem?_set_ne (fun e => hj.1 e.symm)]
    exact hq _ _ (R.pop.putTs rs hd hl hn) keep.2 keep.1 hk
end
theorem asg_names {X : Cx} : ∀ {is : List Nat} {es : List Expr} {sc : Scope}, nmsB A sc is es = true → (∀ i x pos, nmB A sc i (.Name x pos) = true → PG X (.Name x pos) (gName i)) → PGs X es (gSlots is) ∧ (assignEach es X.env).length = is.length ∧ (assignEach es X.env).findIdx? (·.1) = none
  | [], [], _, _, _ => ⟨pgs_nil, rfl, rfl⟩
  | i :: is, e :: es, sc, h, q => by
    have h : (nmB A sc i e && nmsB A sc is es) = true := h
    rw [Bool.and_eq_true] at h
    cases e <;> try exact absurd h.1 Bool.false_ne_true
    rename_i x pos _
    obtain ⟨h1, h2, h3⟩ := asg_names h.2 q
    refine ⟨pgs_cons (q i x pos h.1) h1 (by rfl), ?_, ?_⟩
    · show (assignEach es X.env).length + 1 = is.length + 1
      rw [h2]
    · show ((false, _) :: assignEach es X.env).findIdx? (·.1) = none
      rw [List.findIdx?_cons, h3]; rfl
  | [], _ :: _, _, h, _ => absurd h Bool.false_ne_true
  | _ :: _, [], _, h, _ => absurd h Bool.false_ne_true
theorem pg_tgt {X : Cx} {sc : Scope} {t : Tgt} {tg : Expr} (hm : mtT A sc t tg = true) (hc : X.calm = true) (hK : X.K = K) (q : ∀ i x pos, nmB A sc i (.Name x pos) = true → PG X (.Name x pos) (gName i)) : PG X tg (gTgt K t) := by
  cases t with
  | nm i =>
    have hm : nmB A sc i tg = true := hm
    cases tg <;> try exact absurd hm Bool.false_ne_true
    exact q _ _ _ hm
  | tp is =>
    cases tg <;> try exact absurd hm Bool.false_ne_true
    have hm : nmsB A sc is _ = true := hm
    obtain ⟨h1, h2, h3⟩ := asg_names hm q
    rw [← hK]
    exact pg_tup hc h1 h2 h3
end Pm

namespace Pm
open PySem PySem.Spec L2
variable {P : Program} {w : World} {K : PySem.W.Frag} {mg : Str → Option Value} {base : Heap} {A : Code} {C : Ctx} {G : TC} {kk : Nat} {XR : XRel}

theorem wipe_at {vs : List Nat} {σ : L2.St} {j : Nat} : (wipe σ vs)[j]? = if j ∈ vs ∧ j < σ.length then some none else σ[j]? := by
  induction vs with
  | nil => simp [wipe]
  | cons v vs ih =>
    unfold wipe
    rw [set_at, wipe_length, ih]
    by_cases h : j < σ.length
    · by_cases h2 : v = j
      · simp [h, h2]
      · by_cases h1 : j ∈ vs
        · simp [h, h1, h2]
        · simp [h, h1, h2, Ne.symm h2]
    · simp [h]
theorem wipe_eq {vs : List Nat} {σ σ2 : L2.St} (h : ∀ j, j ∉ vs → σ2[j]? = (wipe σ vs)[j]?) (hl : σ2.length = (wipe σ vs).length) : wipe σ2 vs = wipe σ vs := by
  apply List.ext_getElem?
  intro j
  rw [wipe_length] at hl
  by_cases hj : j ∈ vs
  · rw [wipe_at, wipe_at, hl]
    by_cases h2 : j < σ.length
    · simp [hj, h2]
    · simp only [h2, and_false, if_false]
      rw [List.getElem?_eq_none (by omega), List.getElem?_eq_none (by omega)]
  · rw [wipe_at, if_neg (fun z => hj z.1)]
    exact h j hj
theorem tyIt_elem {it : Pm.It} {Γ Γ' : List STy} {Θ us : List Ty} {u : Ty} (h : tyIt G Γ Θ it = some (us, u, Γ')) : u = imm ∨ (u.k ≠ 0 ∧ u.p = .frz) := by
  cases it with
  | val l e =>
    unfold tyIt at h
    split at h <;> try (cases h; done)
    split at h <;> try (cases h; done)
    cases l with
    | true =>
      simp only [if_true] at h
      split at h <;> try (cases h; done)
      split at h
      · cases h; exact .inl rfl
      · split at h <;> try (cases h; done)
        cases h
        right
        refine ⟨?_, rfl⟩
        show _ - 1 ≠ 0
        omega
    | false =>
      simp only [Bool.false_eq_true, if_false] at h
      split at h <;> try (cases h; done)
      cases h; exact .inl rfl
  | rng es =>
    unfold tyIt at h
    split at h <;> try (cases h; done)
    split at h <;> try (cases h; done)
    cases h; exact .inl rfl
  | enum l e =>
    unfold tyIt at h
    split at h <;> try (cases h; done)
    split at h <;> try (cases h; done)
    cases h; exact .inl rfl
  | zip l1 l2 a b =>
    unfold tyIt at h
    split at h <;> try (cases h; done)
    split at h <;> try (cases h; done)
    split at h <;> try (cases h; done)
    cases h; exact .inl rfl
theorem elem_if {u : Ty} (h : u = imm ∨ (u.k ≠ 0 ∧ u.p = .frz)) : (if u.k = 0 then imm else u) = u ∧ (u.k = 0 ∨ u.p = .frz ∨ u.p = .own) := by
  rcases h with rfl | ⟨h1, h2⟩
  · exact ⟨rfl, .inl rfl⟩
  · exact ⟨if_neg h1, .inr (.inl h2)⟩
section
variable {H0 H H1 : Hp} {M : Addr → Prop} {ow ow1 : Addr → Id} {Γ1 : List STy} {ρ1 ρ' : Penv} {σ σw : L2.St} {Θ Θ1 : List Ty} {θ θ1 : List (D × V)}
theorem Rw.restore {vs : List Nat} (R1 : Rw K H0 M ow1 Γ1 ρ1 σ Θ1 θ1 H1) (R : Rw K H0 M ow (killTs vs Γ1) ρ' σw Θ θ H) (x : Ext (fun a => ow1 a ≠ .frz) H1 H) (hσ : ∀ j, j ∉ vs → σw[j]? = σ[j]?)
    (h0 : ∀ i ∈ vs, ∀ ty, Γ1[i]? = some (some ty) → ty.k = 0) : Rw K H0 M ow Γ1 (restore vs ρ1 ρ') σ Θ θ H where
  lρ := by rw [restore_len, R.lρ, killTs_len]
  lσ := R1.lσ
  nb := R1.nb
  slot := fun i ty d h1 h2 => by
    have hl : ρ1.length = ρ'.length := by rw [R1.lρ, R.lρ, killTs_len]
    rw [restore_at hl] at h2
    by_cases hi : i ∈ vs
    · rw [if_pos hi] at h2
      obtain ⟨v, e, F, r, hd, _⟩ := R1.slot i ty d h1 h2
      have hk := h0 i hi ty h1
      rw [hk] at hd
      obtain ⟨_, r'⟩ := r.imm hd
      have r2 := r'.ext x (fun a h => (R1.lab a h).1) (fun a ha => by simp at ha)
      refine ⟨v, e, [], ?_, by rw [hk]; exact hd, LabOk.nil⟩
      cases ty.p with
      | own => exact r2
      | frz => exact r2.weak
      | bor _ => exact r2
    · rw [if_neg hi] at h2
      obtain ⟨v, e, q⟩ := R.slot i ty d (by rw [killTs_at, if_neg (fun z => hi z.1)]; exact h1) h2
      exact ⟨v, by rw [← hσ i hi]; exact e, q⟩
  temp := R.temp
  ext := R.ext
  lab := R.lab
  hiT := R.hiT
end
def RdC (K : PySem.W.Frag) (C : Ctx) (G : TC) (XR : XRel) (Ex : XK) (c : OE) (t : TT) : Prop := ∀ H0 M Γ Θ Γ' ρ σ θ H (Kk : Bool → Penv → Prop) (Xk : Exc → Penv → Prop) (Q : Bool → Hp → Prop), tyOE G Γ Θ c = some Γ' → Rel K H0 M Γ ρ σ Θ θ H → evalC C c ρ Kk Xk → ExcOk XR Ex M H0 Xk →
  (∀ b ρ' H', Rel K H0 M Γ' ρ' σ Θ θ H' → Kk b ρ' → Q b H') → t σ H Q
theorem rc_none {Ex : XK} : RdC K C G XR Ex .none tYes := by
  intro H0 M Γ Θ Γ' ρ σ θ H Kk Xk Q ht R he hx hq
  unfold tyOE at ht
  cases ht
  unfold evalC at he
  exact hq true ρ H R he
theorem rc_some {Ex : XK} {e : E} {t : TT} (r : RdT K C G XR Ex e t) : RdC K C G XR Ex (.some e) t := by
  intro H0 M Γ Θ Γ' ρ σ θ H Kk Xk Q ht R he hx hq
  unfold tyOE at ht
  split at ht <;> try (cases ht; done)
  rename_i t0 Γ1 ht1
  cases ht
  unfold evalC at he
  refine r _ _ _ _ _ _ _ _ _ _ _ _ _ ht1 R he hx fun d ρ1 H1 R1 hk => ?_
  cases e : d.truth with
  | none => simp only [e] at hk
  | some b =>
    simp only [e] at hk
    exact ⟨b, rfl, hq b ρ1 H1 R1 hk⟩
theorem rd_comp {Ex : XK} {t : Tgt} {it : Pm.It} {c : OE} {e : E} {wi : TI} {tt : TT} {te : TE} (ri : RdIt K C G XR Ex it wi) (rc : RdC K C G XR E0 c tt) (re : RdE K C G XR E0 e te) : RdE K C G XR Ex (.comp t it c e) (tLc wi (gTgt K t) tt te t.slots) := by
  intro H0 M Γ Θ ty Γ' ρ σ θ H Kk Xk Q ht R he hx hq
  unfold tyE at ht
  split at ht <;> try (cases ht; done)
  rename_i us u Γ1 ht1
  split at ht <;> try (cases ht; done)
  rename_i w0 Γ0 ht0
  split at ht <;> try (cases ht; done)
  rename_i Γ2 ht2
  split at ht <;> try (cases ht; done)
  rename_i w Γ3 ht3
  split at ht <;> try (cases ht; done)
  rename_i hc
  obtain ⟨c1, c2, c3, c4, c5, c6, c7⟩ := hc
  cases ht
  subst c5
  subst c4
  unfold evalE at he
  have c6' : ∀ i ∈ t.slots, i < Γ'.length ∧ ∀ ty, Γ'[i]? = some (some ty) → ty.k = 0 := fun i hi => by
    have := List.all_eq_true.mp c6 i hi
    split at this
    · rename_i ty e
      refine ⟨(List.getElem?_eq_some_iff.mp e).1, fun ty' e' => ?_⟩
      rw [e] at e'; cases e'
      simpa using this
    · rename_i e
      refine ⟨(List.getElem?_eq_some_iff.mp e).1, fun ty' e' => ?_⟩
      rw [e] at e'; cases e'
    · cases this
  refine ri _ _ _ _ _ _ _ _ _ _ _ _ _ _ ht1 R he hx fun xs ρ1 J H1 θs hul R1 W hk => ?_
  obtain ⟨hsz, hk⟩ := hk
  intro D' hD
  obtain ⟨ow1, R1'⟩ := id R1
  obtain ⟨ow2, B2⟩ := R1'.rebase.nil (k := w0.k) hD
  have hlσ : (wipe σ t.slots).length = σ.length := wipe_length _ _
  have kill : ∀ {ow : Addr → Id} {Γx : List STy} {ρx ρy : Penv} {σx : L2.St} {Θx : List Ty} {θx : List (D × V)} {Hx : Hp} {Mx : Addr → Prop} {Hb : Hp}, Rw K Hb Mx ow Γx ρx σx Θx θx Hx → Γx.length = Γ'.length → (∀ j, j ∉ t.slots → Γx[j]? = Γ'[j]?) → (∀ j, j ∉ t.slots → σx[j]? = (wipe σ t.slots)[j]?) → ρy.length = ρx.length → (∀ j, j ∉ t.slots → ρy[j]? = ρx[j]?) →
      Rw K Hb Mx ow (killTs t.slots Γ') ρy (wipe σ t.slots) Θx θx Hx := by
    intro ow Γx ρx ρy σx Θx θx Hx Mx Hb q h1 h2 h3 h4 h5
    refine q.reslot h4 (by rw [hlσ, q.lσ, h1]; exact R1'.lσ) (by rw [killTs_len, h1]) fun i ty e => ?_
    rw [killTs_at] at e
    by_cases hi : i ∈ t.slots
    · rw [if_pos ⟨hi, (c6' i hi).1⟩] at e; cases e
    · rw [if_neg (fun z => hi z.1)] at e
      exact ⟨by rw [h2 i hi]; exact e, h5 i hi, (h3 i hi).symm⟩
  have hσw : ∀ j, j ∉ t.slots → σ[j]? = (wipe σ t.slots)[j]? := fun j hj => by rw [wipe_at, if_neg (fun z => hj z.1)]
  have B3 := kill B2 rfl (fun _ _ => rfl) hσw rfl (fun _ _ => rfl)
  -- the invariant
  refine ⟨fun i m H => m = xs.length - i ∧ i ≤ xs.length ∧ ∃ acc ρ', acc.length ≤ i ∧ Rel K H1 (fun a => ow1 a ≠ .frz) (killTs t.slots Γ') ρ' (wipe σ t.slots) (⟨.own, w0.k + 1⟩ :: (us ++ Θ)) ((.lst acc, .ref D') :: (θs ++ θ)) H ∧
    compLoop (fun x ρ' k => asgK t x (wipeP t.slots ρ') fun ρ2 => evalC C c ρ2 (fun b ρ3 => if b = true then evalE C e ρ3 (fun y ρ4 => k (some y) ρ4) (fun _ _ => False) else k none ρ3) (fun _ _ => False)) (fun acc ρ' => Kk (.lst acc) (restore t.slots ρ1 ρ')) (xs.drop i) acc ρ',
    ⟨xs.length, by simp, Nat.zero_le _, [], ρ1, Nat.le_refl _, ⟨ow2, B3⟩, by simpa using hk⟩, ?_⟩
  rintro i m H2 ⟨rfl, hi, acc, ρ', hacc, R2, hloop⟩
  obtain ⟨wk, wstop⟩ := W _ _ _ _ _ [⟨.own, w0.k + 1⟩] [(.lst acc, .ref D')] _ _ _ i rfl R2
  obtain ⟨eu1, eu2⟩ := elem_if (tyIt_elem ht1)
  by_cases hlt : i < xs.length
  · right
    obtain ⟨go, yl⟩ := wk xs[i] (List.getElem?_eq_getElem hlt)
    rw [List.drop_eq_getElem_cons hlt] at hloop
    unfold compLoop at hloop
    refine ⟨go, fun H => ∃ acc ρ', acc.length ≤ i + 1 ∧ Rel K H1 (fun a => ow1 a ≠ .frz) (killTs t.slots Γ') ρ' (wipe σ t.slots) (⟨.own, w0.k + 1⟩ :: (us ++ Θ)) ((.lst acc, .ref D') :: (θs ++ θ)) H ∧
      compLoop (fun x ρ' k => asgK t x (wipeP t.slots ρ') fun ρ2 => evalC C c ρ2 (fun b ρ3 => if b = true then evalE C e ρ3 (fun y ρ4 => k (some y) ρ4) (fun _ _ => False) else k none ρ3) (fun _ _ => False)) (fun acc ρ' => Kk (.lst acc) (restore t.slots ρ1 ρ')) (xs.drop (i + 1)) acc ρ',
      fun H' ⟨acc', ρ'', h1, h2, h3⟩ => ⟨xs.length - (i + 1), by omega, rfl, hlt, acc', ρ'', h1, h2, h3⟩, fun x H' y => ?_⟩
    obtain ⟨ow3, R3⟩ := yl x H' y
    have R3' : Rel K H1 (fun a => ow1 a ≠ .frz) (killTs t.slots Γ') (wipeP t.slots ρ') (wipe σ t.slots) (u :: (⟨.own, w0.k + 1⟩ :: (us ++ Θ))) ((xs[i], x) :: ((.lst acc, .ref D') :: (θs ++ θ))) H' :=
      ⟨ow3, R3.reslot wipeP_len rfl rfl fun j ty e => by
        refine ⟨e, ?_, rfl⟩
        rw [killTs_at] at e
        by_cases hj : j ∈ t.slots
        · rw [if_pos ⟨hj, (c6' j hj).1⟩] at e; cases e
        · rw [wipeP_at, if_neg (fun z => hj z.1)]⟩
    refine R3'.tgt c3 eu2 (fun i hi => by rw [killTs_len]; exact (c6' i hi).1) hloop fun ρ2 σ2 R4 hσ2 hl2 hev => ?_
    rw [eu1, set_kill] at R4
    have hw : wipe σ2 t.slots = wipe σ t.slots := wipe_eq hσ2 hl2
    refine ⟨hw, ?_⟩
    have hσ2' : ∀ j, j ∉ t.slots → σ2[j]? = (wipe σ t.slots)[j]? := hσ2
    refine rc _ _ _ _ _ _ _ _ _ _ _ _ ht2 R4 hev (ExcOk.no XR) fun b ρ3 H3 R5 hb => ?_
    cases b with
    | false =>
      simp only [Bool.false_eq_true, if_false] at hb ⊢
      obtain ⟨ow5, R5⟩ := R5
      exact ⟨acc, ρ3, Nat.le_succ_of_le hacc, ⟨ow5, kill R5 setTs_len (fun j hj => by rw [setTs_at, if_neg (fun z => hj z.1)]) hσ2' rfl (fun _ _ => rfl)⟩, hb⟩
    | true =>
      simp only [if_true] at hb ⊢
      refine re _ _ _ _ _ _ _ _ _ _ _ _ _ ht3 R5 hb (ExcOk.no XR) fun y' ρ4 vy H4 R6 hy => ?_
      obtain ⟨ow6, R6⟩ := R6
      obtain ⟨va, hva, hvl, ow7, R7⟩ := R6.gather c1 c2
      refine ⟨va, hva, by rw [hvl]; omega, acc ++ [y'], ρ4, by simp; omega, ⟨ow7, kill R7 setTs_len (fun j hj => by rw [setTs_at, if_neg (fun z => hj z.1)]) hσ2' rfl (fun _ _ => rfl)⟩, hy⟩
  · left
    have hie : i = xs.length := by omega
    refine ⟨wstop (by omega), ?_⟩
    rw [hie, List.drop_length] at hloop
    unfold compLoop at hloop
    obtain ⟨ow4, R4⟩ := R2
    have ub := R1'.unbase R4
    obtain ⟨ow5, R5⟩ := ub.under hul
    exact hq (.lst acc) _ (.ref D') H2 ⟨ow5, R1'.restore R5 R4.ext (fun j hj => (hσw j hj).symm) fun i hi => (c6' i hi).2⟩ hloop
structure LcOk (X : Cx) (t : Tgt) (elt tg iter : Expr) (ifs : List Expr) (scope : Scope) (wi : TI) (tt : TT) (te : TE) (own : List (Str × Nat)) : Prop where
  hi : PI X tg iter wi
  ok : BlkOk X.N X.env.scope scope own
  hg : ∀ (s : Shared) (H : Hp) (C : Addr) (cl : List (Str × Addr)) (fp : List Addr), PG (X.blk s H scope (compEnvC scope cl C X.env) fp) tg (gTgt X.K t)
  ht : ∀ (s : Shared) (H : Hp) (C : Addr) (cl : List (Str × Addr)) (fp : List Addr), PTs (X.blk s H scope (compEnvC scope cl C X.env) fp) ifs tt
  he : ∀ (s : Shared) (H : Hp) (C : Addr) (cl : List (Str × Addr)) (fp : List Addr), PE (X.blk s H scope (compEnvC scope cl C X.env) fp) elt te
  hs : ∀ x, foldedSetIterable iter X.env x = pure x
theorem comp_parts {t : Tgt} {it : Pm.It} {c : OE} {e : E} (hi : SIt P w K mg base A C G kk XR it) (hc : ∀ e', c = .some e' → ST P w K mg base A C G kk XR e') (he : SE P w K mg base A C G kk XR e) (Ex : XK) {sc : Scope} {pe : Expr} (hm : mtE A sc (.comp t it c e) pe = true) :
    ∃ elt tg iter ifs scope pos wi tt te own, pe = .ListComp elt [⟨tg, iter, ifs, 0⟩] scope pos ∧ own.map (·.2) = t.slots ∧ (∀ X, Good P w K mg base A kk Ex sc X → LcOk X t elt tg iter ifs scope wi tt te own) ∧ RdE K C G XR Ex (.comp t it c e) (tLc wi (gTgt K t) tt te t.slots) := by
  unfold mtE at hm
  split at hm <;> first | exact absurd hm Bool.false_ne_true | skip
  all_goals first | (rename_i h; cases h; done) | skip
  rename_i elt tg iter ifs scope pos h'
  injection h' with g1 g2 g3 g4
  subst g1 g2 g3 g4
  simp only [Bool.and_eq_true, decide_eq_true_eq] at hm
  obtain ⟨⟨⟨⟨⟨m1, m2⟩, m3⟩, m4⟩, m5⟩, m6⟩ := hm
  obtain ⟨wi, pi, ri⟩ := hi Ex sc tg iter m2
  obtain ⟨te, pe, re⟩ := he E0 (relS scope sc) elt m4
  have hts : ∃ tt : TT, (∀ X, Good P w K mg base A kk E0 (relS scope sc) X → PTs X ifs tt) ∧ RdC K C G XR E0 c tt := by
    rcases ifs with _ | ⟨x, _ | ⟨y, ifs⟩⟩
    · cases c with
      | none => exact ⟨tYes, fun X _ => pts_nil, rc_none⟩
      | some _ => exact absurd m3 Bool.false_ne_true
    · cases c with
      | none => exact absurd m3 Bool.false_ne_true
      | some e' =>
        obtain ⟨t', p', r'⟩ := hc e' rfl E0 (relS scope sc) x m3
        exact ⟨t', fun X g => pts_one (p' X g).1, rc_some r'⟩
    · exact absurd m3 Bool.false_ne_true
  obtain ⟨tt, pt, rt⟩ := hts
  refine ⟨elt, tg, iter, ifs, scope, pos, wi, tt, te, t.own A.N, rfl, m6, fun X g => ?_, rd_comp ri rt re⟩
  have hblk : ∀ (s : Shared) (H : Hp) (C : Addr) (cl : List (Str × Addr)) (fp : List Addr), Good P w K mg base A kk E0 (relS scope sc) (X.blk s H scope (compEnvC scope cl C X.env) fp) := fun s H C cl fp =>
    ⟨g.prog, g.wld, g.eK, g.emg, g.ebase, g.hN, g.nd, by
      show relS scope X.env.scope = _
      rw [g.esc], g.calm, g.room, by
      rw [← g.prog, ← g.wld]
      exact passL⟩
  refine ⟨(pi X g).1, by rw [g.hN, g.esc]; exact blkOk_by m5, fun s H C cl fp => ?_, fun s H C cl fp => pt _ (hblk s H C cl fp), fun s H C cl fp => pe _ (hblk s H C cl fp), (pi X g).2⟩
  rw [g.eK]
  refine pg_tgt (sc := scope) m1 g.calm g.eK fun i x pos hn => ?_
  have hn : (A.N[i]? == some x && locB scope x) = true := hn
  simp only [Bool.and_eq_true, beq_iff_eq, locB, Bool.or_eq_true] at hn
  obtain ⟨n1, n2⟩ := hn
  refine pg_name (by show X.N.Nodup; rw [g.hN]; exact g.nd) (by show X.N[i]? = _; rw [g.hN]; exact n1) ?_ ?_
  · rcases n2 with n2 | n2
    · exact .inl (lookup_relS_keep (by decide) n2)
    · exact .inr (lookup_relS_keep (by decide) n2)
  · rcases n2 with n2 | n2
    · exact .inr (lookup_relS_keep (by decide) n2)
    · refine .inl ?_
      show (scope.names.lookup x == some .cell) = true
      rw [n2]; rfl
theorem se_comp {t : Tgt} {it : Pm.It} {c : OE} {e : E} (hi : SIt P w K mg base A C G kk XR it) (hc : ∀ e', c = .some e' → ST P w K mg base A C G kk XR e') (he : SE P w K mg base A C G kk XR e) : SE P w K mg base A C G kk XR (.comp t it c e) := fun Ex sc pe hm => by
  obtain ⟨elt, tg, iter, ifs, scope, pos, wi, tt, te, own, rfl, m6, ok, rd⟩ := comp_parts hi hc he Ex hm
  refine ⟨_, fun X g => ?_, rd⟩
  have L := ok X g
  rw [← m6, ← g.eK]
  exact pe_lc g.calm (by rw [g.hN]; exact g.nd) L.hi L.ok L.hg L.ht L.he L.hs
end Pm

namespace Pm
open PySem PySem.Spec L2
variable {P : Program} {w : World} {K : PySem.W.Frag} {mg : Str → Option Value} {base : Heap} {A : Code} {C : Ctx} {G : TC} {kk : Nat} {XR : XRel}

section
variable {H0 H : Hp} {M : Addr → Prop} {ow : Addr → Id} {Γ Δ : List STy} {ρ : Penv} {σ : L2.St} {Θ Θs : List Ty} {θ θs : List (D × V)}
theorem subΓ_len : ∀ {Γ Δ : List STy}, subΓ Γ Δ = true → Γ.length = Δ.length
  | [], [], _ => rfl
  | a :: Γ, b :: Δ, h => by
    have h : (subTy a b && subΓ Γ Δ) = true := h
    rw [Bool.and_eq_true] at h
    simp [subΓ_len h.2]
  | [], _ :: _, h => absurd h Bool.false_ne_true
  | _ :: _, [], h => absurd h Bool.false_ne_true
theorem subΓ_at : ∀ {Γ Δ : List STy} {i : Nat} {u : Ty}, subΓ Γ Δ = true → Δ[i]? = some (some u) → ∃ t, Γ[i]? = some (some t) ∧ subTy (some t) (some u) = true
  | a :: Γ, b :: Δ, 0, u, h, e => by
    have h : (subTy a b && subΓ Γ Δ) = true := h
    rw [Bool.and_eq_true] at h
    simp at e
    subst e
    cases a with
    | none => exact absurd h.1 Bool.false_ne_true
    | some t => exact ⟨t, rfl, h.1⟩
  | a :: Γ, b :: Δ, i + 1, u, h, e => by
    have h : (subTy a b && subΓ Γ Δ) = true := h
    rw [Bool.and_eq_true] at h
    simp only [List.getElem?_cons_succ] at e ⊢
    exact subΓ_at h.2 e
  | [], [], _, _, _, e => by simp at e
  | [], _ :: _, _, _, h, _ => absurd h Bool.false_ne_true
  | _ :: _, [], _, _, h, _ => absurd h Bool.false_ne_true
/-- fewer claims -/
def subOw (Δ : List STy) (ow : Addr → Id) : Addr → Id := fun a => match ow a with
  | .slot i => if (match Δ[i]? with | some (some u) => u.p == .own | _ => false) = true then .slot i else .frz
  | x => x
theorem subOw_frz {a : Addr} (h : ow a = .frz) : subOw Δ ow a = .frz := by unfold subOw; rw [h]
theorem subOw_tmp {a : Addr} {j : Nat} : subOw Δ ow a = .tmp j ↔ ow a = .tmp j := by
  unfold subOw
  cases e : ow a with
  | frz => simp
  | tmp k => simp
  | slot i =>
    simp only
    split
    all_goals first | (split <;> simp) | simp
theorem subOw_slot {a : Addr} {i : Nat} (h : ow a = .slot i) : subOw Δ ow a = .slot i ∨ subOw Δ ow a = .frz := by
  unfold subOw
  rw [h]
  simp only
  split
  all_goals first | (split <;> simp) | simp
theorem subOw_own {a : Addr} {i : Nat} {u : Ty} (h : ow a = .slot i) (hu : Δ[i]? = some (some u)) (hp : u.p = .own) : subOw Δ ow a = .slot i := by
  unfold subOw
  rw [h]
  simp [hu, hp]
theorem subOw_nown {a : Addr} {i : Nat} {u : Ty} (h : ow a = .slot i) (hu : Δ[i]? = some (some u)) (hp : u.p ≠ .own) : subOw Δ ow a = .frz := by
  unfold subOw
  rw [h]
  simp [hu, hp]
theorem EntOk.subT {ty : Ty} {d : D} {v : V} {j : Nat} (h : EntOk K H ow (.tmp j) ty d v) : EntOk K H (subOw Δ ow) (.tmp j) ty d v := by
  obtain ⟨F, r, hd, hl⟩ := h
  refine ⟨F, r, hd, ?_⟩
  cases hp : ty.p with
  | own => rw [hp] at hl; exact ⟨hl.1, fun a ha => subOw_tmp.mpr (hl.2 a ha)⟩
  | frz => rw [hp] at hl; exact fun a ha => subOw_frz (hl a ha)
  | bor xs =>
    rw [hp] at hl
    intro a ha
    rcases hl a ha with z | ⟨i, hi, z⟩
    · exact .inl (subOw_frz z)
    · rcases subOw_slot (Δ := Δ) z with q | q
      · exact .inr ⟨i, hi, q⟩
      · exact .inl q
theorem TempOk.sub : ∀ {Θ : List Ty} {θ : List (D × V)}, TempOk K H ow Θ θ → TempOk K H (subOw Δ ow) Θ θ
  | [], [], _ => trivial
  | _ :: Θ, (_, _) :: θ, h => ⟨h.1.subT, TempOk.sub h.2⟩
  | [], _ :: _, h => h.elim
  | _ :: _, [], h => h.elim
theorem Rw.sub (R : Rw K H0 M ow Γ ρ σ Θ θ H) (h : subΓ Γ Δ = true) : Rw K H0 M (subOw Δ ow) Δ ρ σ Θ θ H where
  lρ := by rw [← subΓ_len h]; exact R.lρ
  lσ := by rw [← subΓ_len h]; exact R.lσ
  nb := fun i u e => by
    obtain ⟨t, _, q⟩ := subΓ_at h e
    have q : ((u.p == .own || u.p == .frz) && (t.k == 0 || (decide (t.k ≤ u.k) && (t.p == .own || (t.p == .frz && u.p == .frz))))) = true := q
    simp only [Bool.and_eq_true, Bool.or_eq_true, beq_iff_eq] at q
    exact q.1
  slot := fun i u d e1 e2 => by
    obtain ⟨t, e, q⟩ := subΓ_at h e1
    have q : ((u.p == .own || u.p == .frz) && (t.k == 0 || (decide (t.k ≤ u.k) && (t.p == .own || (t.p == .frz && u.p == .frz))))) = true := q
    simp only [Bool.and_eq_true, Bool.or_eq_true, beq_iff_eq, decide_eq_true_eq] at q
    obtain ⟨v, hσ, E⟩ := R.slot i t d e e2
    refine ⟨v, hσ, ?_⟩
    obtain ⟨q1, q2⟩ := q
    rcases q2 with q2 | ⟨q2, q3⟩
    · exact E.imm q2
    · obtain ⟨F, r, hd, hl⟩ := E
      refine ⟨F, ?_, D.dep_mono q2 d hd, ?_⟩
      · rcases q3 with q3 | ⟨q3, q4⟩
        · rw [q3] at r
          rcases q1 with q1 | q1 <;> rw [q1]
          · exact r
          · exact r.weak
        · rw [q4]; exact r.weak
      · rcases q3 with q3 | ⟨q3, q4⟩
        · rw [q3] at hl
          rcases q1 with q1 | q1
          · rw [q1]; exact ⟨hl.1, fun a ha => subOw_own (hl.2 a ha) e1 q1⟩
          · rw [q1]; exact fun a ha => subOw_nown (hl.2 a ha) e1 (by rw [q1]; simp)
        · rw [q3] at hl
          rw [q4]; exact fun a ha => subOw_frz (hl a ha)
  temp := R.temp.sub
  ext := R.ext
  lab := fun a h => R.lab a fun e => h (subOw_frz e)
  hiT := fun a j e => R.hiT a j (subOw_tmp.mp e)
theorem Rel.sub (R : Rel K H0 M Γ ρ σ Θ θ H) (h : subΓ Γ Δ = true) : Rel K H0 M Δ ρ σ Θ θ H := by
  obtain ⟨ow, R⟩ := R
  exact ⟨_, R.sub h⟩
/-- what is told goes past what a loop walks -/
theorem Rel.past {t : Ty} {d : D} {v : V} (R : Rel K H0 M Γ ρ σ (t :: (Θs ++ Θ)) ((d, v) :: (θs ++ θ)) H) (hl : Θs.length = θs.length) (hf : t.free = true) : Rel K H0 M Γ ρ σ (t :: Θ) ((d, v) :: θ) H ∨ (t.k = 0 ∧ Rel K H0 M Γ ρ σ (Pm.imm :: Θ) ((d, v) :: θ) H) := by
  by_cases h0 : t.k = 0
  · obtain ⟨F, r, hd⟩ := R.len1
    rw [h0] at hd
    exact .inr ⟨h0, Rel.new (Θs := t :: Θs) (θs := (d, v) :: θs) R (by simp [hl]) (r.immw hd)⟩
  · left
    have hp : t.p = .own := by
      unfold Ty.free at hf
      have h0' : (t.k == 0) = false := by simpa using h0
      rw [h0', Bool.false_or] at hf
      cases e : t.p <;> rw [e] at hf <;> first | rfl | cases hf
    rw [own_eq hp] at R ⊢
    obtain ⟨ow, R⟩ := R
    exact R.under hl
end
def Pin (RC : RC) (σ0 σ : L2.St) : Prop := ∀ p ∈ RC.ino, σ[p.1]? = σ0[p.1]?
structure EndsOk (K : PySem.W.Frag) (σ0 : L2.St) (RC : RC) (B : List STy) (Θ : List Ty) (θ : List (D × V)) (H0 : Hp) (M : Addr → Prop) (Kt : Kt) (D : Ends) : Prop where
  rt : ∀ (t : Ty) Γ1 (d : Pm.D) ρ' v σ' H', retOk RC t Γ1 = true → Rel K H0 M Γ1 ρ' σ' (t :: Θ) ((d, v) :: θ) H' → Pin RC σ0 σ' → Kt.rt d ρ' → D.rt v H'
  bk : ∀ ρ' σ' H', Rel K H0 M B ρ' σ' Θ θ H' → Pin RC σ0 σ' → Kt.bk ρ' → D.bk σ' H'
  ct : ∀ ρ' σ' H', Rel K H0 M B ρ' σ' Θ θ H' → Pin RC σ0 σ' → Kt.ct ρ' → D.ct σ' H'
def RdS (K : PySem.W.Frag) (C : Ctx) (G : TC) (XR : XRel) (Ex : XK) (s : S) (t : TS) : Prop := ∀ RC B Γ Θ o H0 M ρ σ θ H (Kt : Kt) (D : Ends) σ0, tyS G RC B Γ Θ s = some o → Rel K H0 M Γ ρ σ Θ θ H → evalS C s ρ Kt → ExcOk XR Ex M H0 Kt.ex → Pin RC σ0 σ → EndsOk K σ0 RC B Θ θ H0 M Kt D →
  (∀ Γ1, o = some Γ1 → ∀ ρ' σ' H', Rel K H0 M Γ1 ρ' σ' Θ θ H' → Pin RC σ0 σ' → Kt.nx ρ' → D.nx σ' H') → t D σ H
def RdSs (K : PySem.W.Frag) (C : Ctx) (G : TC) (XR : XRel) (Ex : XK) (s : Ss) (t : TS) : Prop := ∀ RC B Γ Θ o H0 M ρ σ θ H (Kt : Kt) (D : Ends) σ0, tySs G RC B Γ Θ s = some o → Rel K H0 M Γ ρ σ Θ θ H → evalSs C s ρ Kt → ExcOk XR Ex M H0 Kt.ex → Pin RC σ0 σ → EndsOk K σ0 RC B Θ θ H0 M Kt D →
  (∀ Γ1, o = some Γ1 → ∀ ρ' σ' H', Rel K H0 M Γ1 ρ' σ' Θ θ H' → Pin RC σ0 σ' → Kt.nx ρ' → D.nx σ' H') → t D σ H
def SS (P : Program) (w : World) (K : PySem.W.Frag) (mg : Str → Option Value) (base : Heap) (A : Code) (C : Ctx) (G : TC) (kk : Nat) (XR : XRel) (s : S) : Prop :=
  ∀ Ex sc st, mtS A sc s st = true → ∃ t : TS, (∀ X, GoodF P w K mg base A kk Ex sc X → PS X st t) ∧ RdS K C G XR Ex s t
def SSs (P : Program) (w : World) (K : PySem.W.Frag) (mg : Str → Option Value) (base : Heap) (A : Code) (C : Ctx) (G : TC) (kk : Nat) (XR : XRel) (s : Ss) : Prop :=
  ∀ Ex sc st, mtSs A sc s st = true → ∃ t : TS, (∀ X, GoodF P w K mg base A kk Ex sc X → PSs X st t) ∧ RdSs K C G XR Ex s t
theorem sss_nil : SSs P w K mg base A C G kk XR .nil := fun Ex sc st hm => by
  cases st with
  | cons _ _ => exact absurd hm Bool.false_ne_true
  | nil =>
    refine ⟨tNext, fun X g => pss_nil, ?_⟩
    intro RC B Γ Θ o H0 M ρ σ θ H Kt D σ0 ht R he hx hpin hd hn
    unfold tySs at ht
    cases ht
    unfold evalSs at he
    exact hn Γ rfl ρ σ H R hpin he
theorem sss_cons {s : S} {ss : Ss} (h1 : SS P w K mg base A C G kk XR s) (h2 : SSs P w K mg base A C G kk XR ss) : SSs P w K mg base A C G kk XR (.cons s ss) := fun Ex sc st hm => by
  cases st with
  | nil => exact absurd hm Bool.false_ne_true
  | cons x xs =>
    have hm : (mtS A sc s x && mtSs A sc ss xs) = true := hm
    rw [Bool.and_eq_true] at hm
    obtain ⟨t, p, r⟩ := h1 Ex sc x hm.1
    obtain ⟨u, q, r2⟩ := h2 Ex sc xs hm.2
    refine ⟨tSeq t u, fun X g => pss_cons (p X g) (q X g), ?_⟩
    intro RC B Γ Θ o H0 M ρ σ θ H Kt D σ0 ht R he hx hpin hd hn
    unfold tySs at ht
    unfold evalSs at he
    split at ht <;> try (cases ht; done)
    · rename_i Γ1 ht1
      refine r _ _ _ _ _ _ _ _ _ _ _ _ _ _ ht1 R he hx hpin ⟨hd.rt, hd.bk, hd.ct⟩ fun Γ2 e2 ρ' σ' H' R' hp' hk => ?_
      cases e2
      exact r2 _ _ _ _ _ _ _ _ _ _ _ _ _ _ ht R' hk hx hp' hd hn
    · rename_i ht1
      cases ht
      exact r _ _ _ _ _ _ _ _ _ _ _ _ _ _ ht1 R he hx hpin ⟨hd.rt, hd.bk, hd.ct⟩ fun Γ2 e2 => by cases e2
theorem ss_pass : SS P w K mg base A C G kk XR .pass := fun Ex sc st hm => by
  unfold mtS at hm
  split at hm <;> first | exact absurd hm Bool.false_ne_true | skip
  all_goals first | (rename_i h; cases h; done) | skip
  refine ⟨tNext, fun X g => ps_pass, ?_⟩
  intro RC B Γ Θ o H0 M ρ σ θ H Kt D σ0 ht R he hx hpin hd hn
  unfold tyS at ht
  cases ht
  unfold evalS at he
  exact hn Γ rfl ρ σ H R hpin he
theorem ss_dead : SS P w K mg base A C G kk XR .dead := fun Ex sc st hm => by
  refine ⟨fun _ _ _ => False, fun X g => ⟨fun _ _ _ _ _ _ h => h.elim⟩, ?_⟩
  intro RC B Γ Θ o H0 M ρ σ θ H Kt D σ0 ht R he hx hpin hd hn
  exact he.elim
theorem ss_brk : SS P w K mg base A C G kk XR .brk := fun Ex sc st hm => by
  unfold mtS at hm
  split at hm <;> first | exact absurd hm Bool.false_ne_true | skip
  all_goals first | (rename_i h; cases h; done) | skip
  refine ⟨tBreak, fun X g => ps_break, ?_⟩
  intro RC B Γ Θ o H0 M ρ σ θ H Kt D σ0 ht R he hx hpin hd hn
  unfold tyS at ht
  split at ht <;> try (cases ht; done)
  rename_i hs
  unfold evalS at he
  exact hd.bk ρ σ H (R.sub hs) hpin he
theorem ss_cnt : SS P w K mg base A C G kk XR .cnt := fun Ex sc st hm => by
  unfold mtS at hm
  split at hm <;> first | exact absurd hm Bool.false_ne_true | skip
  all_goals first | (rename_i h; cases h; done) | skip
  refine ⟨tCont, fun X g => ps_continue, ?_⟩
  intro RC B Γ Θ o H0 M ρ σ θ H Kt D σ0 ht R he hx hpin hd hn
  unfold tyS at ht
  split at ht <;> try (cases ht; done)
  rename_i hs
  unfold evalS at he
  exact hd.ct ρ σ H (R.sub hs) hpin he
theorem ss_expr {e : E} (h : SE P w K mg base A C G kk XR e) : SS P w K mg base A C G kk XR (.expr e) := fun Ex sc st hm => by
  unfold mtS at hm
  split at hm <;> first | exact absurd hm Bool.false_ne_true | skip
  all_goals first | (rename_i h; cases h; done) | skip
  rename_i v pos h'
  injection h' with g1
  subst g1
  simp only [Bool.and_eq_true, Bool.not_eq_true'] at hm
  obtain ⟨t, p, r⟩ := h Ex sc _ hm.1
  refine ⟨tDrop t, fun X g => ps_expr (p X g.good) ?_, ?_⟩
  · have hl := hm.2
    unfold swapsWith
    cases v <;> first | rfl | cases hl
  · intro RC B Γ Θ o H0 M ρ σ θ H Kt D σ0 ht R he hx hpin hd hn
    unfold tyS at ht
    split at ht <;> try (cases ht; done)
    rename_i t0 Γ1 ht1
    cases ht
    unfold evalS at he
    exact r _ _ _ _ _ _ _ _ _ _ _ _ _ ht1 R he hx fun d ρ1 v H1 R1 hk => hn Γ1 rfl ρ1 σ H1 R1.pop hpin hk
theorem ss_ret {e : E} (h : SE P w K mg base A C G kk XR e) : SS P w K mg base A C G kk XR (.ret e) := fun Ex sc st hm => by
  unfold mtS at hm
  split at hm <;> first | exact absurd hm Bool.false_ne_true | skip
  all_goals first | (rename_i h; cases h; done) | skip
  rename_i v pos h'
  injection h' with g1
  subst g1
  obtain ⟨t, p, r⟩ := h Ex sc _ hm
  refine ⟨tRet t, fun X g => ps_ret (p X g.good), ?_⟩
  intro RC B Γ Θ o H0 M ρ σ θ H Kt D σ0 ht R he hx hpin hd hn
  unfold tyS at ht
  split at ht <;> try (cases ht; done)
  rename_i t0 Γ1 ht1
  split at ht <;> try (cases ht; done)
  rename_i hr
  unfold evalS at he
  exact r _ _ _ _ _ _ _ _ _ _ _ _ _ ht1 R he hx fun d ρ1 v H1 R1 hk => hd.rt _ _ d ρ1 v σ H1 hr R1 hpin hk
theorem ss_retN : SS P w K mg base A C G kk XR .retN := fun Ex sc st hm => by
  unfold mtS at hm
  split at hm <;> first | exact absurd hm Bool.false_ne_true | skip
  all_goals first | (rename_i h; cases h; done) | skip
  refine ⟨tRetN, fun X g => ps_retN, ?_⟩
  intro RC B Γ Θ o H0 M ρ σ θ H Kt D σ0 ht R he hx hpin hd hn
  unfold tyS at ht
  split at ht <;> try (cases ht; done)
  rename_i hr
  unfold evalS at he
  exact hd.rt _ _ _ ρ _ σ H hr (R.imm .non rfl) hpin he
theorem ss_if {c : E} {a b : Ss} (hc : ST P w K mg base A C G kk XR c) (ha : SSs P w K mg base A C G kk XR a) (hb : SSs P w K mg base A C G kk XR b) : SS P w K mg base A C G kk XR (.if_ c a b) := fun Ex sc st hm => by
  unfold mtS at hm
  split at hm <;> first | exact absurd hm Bool.false_ne_true | skip
  all_goals first | (rename_i h; cases h; done) | skip
  rename_i v x y pos h'
  injection h' with g1 g2 g3
  subst g1 g2 g3
  simp only [Bool.and_eq_true] at hm
  obtain ⟨⟨m1, m2⟩, m3⟩ := hm
  obtain ⟨tc, p1, r1⟩ := hc Ex sc _ m1
  obtain ⟨ta, p2, r2⟩ := ha Ex sc _ m2
  obtain ⟨tb, p3, r3⟩ := hb Ex sc _ m3
  refine ⟨tIfS tc ta tb, fun X g => ps_if (p1 X g.good).1 (p2 X g) (p3 X g), ?_⟩
  intro RC B Γ Θ o H0 M ρ σ θ H Kt D σ0 ht R he hx hpin hd hn
  unfold tyS at ht
  split at ht <;> try (cases ht; done)
  rename_i t0 Γ1 ht1
  split at ht <;> try (cases ht; done)
  rename_i xa ya hta htb
  have hj : (∀ Γ2, xa = some Γ2 → ∃ Δ, o = some Δ ∧ subΓ Γ2 Δ = true) ∧ ∀ Γ2, ya = some Γ2 → ∃ Δ, o = some Δ ∧ subΓ Γ2 Δ = true := by
    cases xa with
    | none =>
      cases ya with
      | none => exact ⟨fun Γ2 e => (by cases e), fun Γ2 e => by cases e⟩
      | some Γb =>
        simp only [joinR] at ht
        split at ht <;> try (cases ht; done)
        rename_i hs
        cases ht
        rw [Bool.and_eq_true] at hs
        exact ⟨fun Γ2 e => (by cases e), fun Γ2 e => by cases e; exact ⟨_, rfl, hs.2⟩⟩
    | some Γa =>
      cases ya with
      | none =>
        simp only [joinR] at ht
        split at ht <;> try (cases ht; done)
        rename_i hs
        cases ht
        rw [Bool.and_eq_true] at hs
        exact ⟨fun Γ2 e => (by cases e; exact ⟨_, rfl, hs.1⟩), fun Γ2 e => by cases e⟩
      | some Γb =>
        simp only [joinR] at ht
        split at ht <;> try (cases ht; done)
        rename_i hs
        cases ht
        rw [Bool.and_eq_true] at hs
        exact ⟨fun Γ2 e => (by cases e; exact ⟨_, rfl, hs.1⟩), fun Γ2 e => by cases e; exact ⟨_, rfl, hs.2⟩⟩
  unfold evalS at he
  refine r1 _ _ _ _ _ _ _ _ _ _ _ _ _ ht1 R he hx fun d ρ1 H1 R1 hk => ?_
  cases e : d.truth with
  | none => simp only [e] at hk
  | some c' =>
    simp only [e] at hk
    refine ⟨c', rfl, ?_⟩
    cases c' with
    | true =>
      rw [if_pos rfl]
      refine r2 _ _ _ _ _ _ _ _ _ _ _ _ _ _ hta R1 hk hx hpin hd fun Γ2 e2 ρ' σ' H' R' hp' hk' => ?_
      obtain ⟨Δ, h1, h2⟩ := hj.1 Γ2 e2
      exact hn Δ h1 ρ' σ' H' (R'.sub h2) hp' hk'
    | false =>
      rw [if_neg Bool.false_ne_true]
      refine r3 _ _ _ _ _ _ _ _ _ _ _ _ _ _ htb R1 hk hx hpin hd fun Γ2 e2 ρ' σ' H' R' hp' hk' => ?_
      obtain ⟨Δ, h1, h2⟩ := hj.2 Γ2 e2
      exact hn Δ h1 ρ' σ' H' (R'.sub h2) hp' hk'
theorem retOk_imm {RC : RC} {t : Ty} {Γ : List STy} (h : retOk RC t Γ = true) (h0 : t.k = 0) : retOk RC imm Γ = true := by
  unfold retOk at h ⊢
  simp only [Bool.and_eq_true] at h ⊢
  exact ⟨⟨rfl, by simp [imm]⟩, h.2⟩
theorem retOk_free {RC : RC} {t : Ty} {Γ : List STy} (h : retOk RC t Γ = true) : t.free = true := by
  unfold retOk at h
  simp only [Bool.and_eq_true] at h
  exact h.1.1
theorem pg_own {Ex : XK} {sc : Scope} {X : Cx} (g : GoodF P w K mg base A kk Ex sc X) {i : Nat} {x : Str} {pos : Pos} (hn : nmB A sc i (.Name x pos) = true) : PG X (.Name x pos) (gName i) := by
  have hn : (A.N[i]? == some x && locB sc x) = true := hn
  simp only [Bool.and_eq_true, beq_iff_eq, locB, Bool.or_eq_true] at hn
  have hl : Loc sc x := hn.2
  refine pg_name (by rw [g.good.hN]; exact g.good.nd) (by rw [g.good.hN]; exact hn.1) (by rw [g.good.esc]; exact hl) ?_
  rw [g.good.esc]
  exact g.fnl x hl
theorem ss_for {Δ : List STy} {t : Tgt} {it : Pm.It} {b : Ss} (hi : SIt P w K mg base A C G kk XR it) (hb : SSs P w K mg base A C G kk XR b) : SS P w K mg base A C G kk XR (.for_ Δ t it b) := fun Ex sc st hm => by
  unfold mtS at hm
  split at hm <;> first | exact absurd hm Bool.false_ne_true | skip
  all_goals first | (rename_i h; cases h; done) | skip
  rename_i tg v x pos h'
  injection h' with g1 g2 g3 g4
  subst g1 g2 g3 g4
  simp only [Bool.and_eq_true] at hm
  obtain ⟨⟨m1, m2⟩, m3⟩ := hm
  obtain ⟨wi, pi, ri⟩ := hi Ex sc tg v m2
  obtain ⟨tb, pb, rb⟩ := hb Ex sc x m3
  refine ⟨tFor wi (gTgt K t) tb, fun X g => ps_for g.own g.good.calm (pi X g.good).1 (pg_tgt m1 g.good.calm g.good.eK fun i x pos hn => pg_own g hn) (pb X g) (pi X g.good).2, ?_⟩
  intro RC B Γ Θ o H0 M ρ σ θ H Kt D σ0 ht R he hx hpin hd hn
  unfold tyS at ht
  split at ht <;> try (cases ht; done)
  rename_i us u Γ1 ht1
  split at ht <;> try (cases ht; done)
  rename_i hc
  simp only [Bool.and_eq_true, List.all_eq_true, decide_eq_true_eq] at hc
  obtain ⟨⟨c1, c2⟩, c3⟩ := hc
  have hbody : ∃ ob, tySs G RC Δ (setTs t.slots u Δ) (us ++ Θ) b = some ob ∧ o = some Δ ∧ ∀ Γ2, ob = some Γ2 → subΓ Γ2 Δ = true := by
    split at ht <;> try (cases ht; done)
    · rename_i Γ2 ht2
      split at ht <;> try (cases ht; done)
      rename_i hs
      cases ht
      exact ⟨_, ht2, rfl, fun Γ3 e => by cases e; exact hs⟩
    · rename_i ht2
      cases ht
      exact ⟨_, ht2, rfl, fun Γ3 e => by cases e⟩
  obtain ⟨ob, ht2, rfl, hob⟩ := hbody
  unfold evalS at he
  refine ri _ _ _ _ _ _ _ _ _ _ _ _ _ _ ht1 R he hx fun xs ρ1 J H1 θs hul R1 W hk => ?_
  obtain ⟨eu1, eu2⟩ := elem_if (tyIt_elem ht1)
  have R1 := R1.sub c1
  refine ⟨fun i m σ H => m = xs.length - i ∧ i ≤ xs.length ∧ ∃ ρ', Rel K H0 M Δ ρ' σ (us ++ Θ) (θs ++ θ) H ∧ Pin RC σ0 σ ∧
      forLoop (fun x ρ' k => asgK t x ρ' fun ρ2 => evalSs C b ρ2 ⟨k, Kt.rt, Kt.nx, k, Kt.ex⟩) Kt.nx (xs.drop i) ρ', ⟨xs.length, by simp, Nat.zero_le _, ρ1, R1, hpin, by simpa using hk⟩, ?_⟩
  rintro i m σ2 H2 ⟨rfl, hi, ρ2, R2, hp2, hloop⟩
  obtain ⟨wk, wstop⟩ := W _ _ _ _ _ [] [] _ _ _ i rfl R2
  by_cases hlt : i < xs.length
  · right
    obtain ⟨go, yl⟩ := wk xs[i] (List.getElem?_eq_getElem hlt)
    rw [List.drop_eq_getElem_cons hlt] at hloop
    unfold forLoop at hloop
    refine ⟨go, fun σ H => ∃ ρ', Rel K H0 M Δ ρ' σ (us ++ Θ) (θs ++ θ) H ∧ Pin RC σ0 σ ∧ forLoop (fun x ρ' k => asgK t x ρ' fun ρ2 => evalSs C b ρ2 ⟨k, Kt.rt, Kt.nx, k, Kt.ex⟩) Kt.nx (xs.drop (i + 1)) ρ',
      fun σ' H' ⟨ρ', h1, h2, h3⟩ => ⟨xs.length - (i + 1), by omega, rfl, hlt, ρ', h1, h2, h3⟩, fun x H' y => ?_⟩
    have R3 := yl x H' y
    refine R3.tgt c2 eu2 (fun i hi => (c3 i hi).1.1) hloop fun ρ3 σ3 R4 k3 _ hev => ?_
    have hp3 : Pin RC σ0 σ3 := fun p hp => (k3 p.1 fun hm => by
      have := List.all_eq_true.mp (c3 p.1 hm).2 p hp
      simp at this).trans (hp2 p hp)
    rw [eu1] at R4
    refine rb _ _ _ _ _ _ _ _ _ _ _ _ _ _ ht2 R4 hev hx hp3 ⟨fun t' Γ' d ρ' v σ' H' hr R' hp' hk' => ?_, fun ρ' σ' H' R' hp' hk' => ?_, fun ρ' σ' H' R' hp' hk' => ⟨ρ', R', hp', hk'⟩⟩ fun Γ2 e2 ρ' σ' H' R' hp' hk' => ⟨ρ', R'.sub (hob Γ2 e2), hp', hk'⟩
    · rcases Rel.past (Θs := us) (θs := θs) R' hul (retOk_free hr) with q | ⟨h0, q⟩
      · exact hd.rt _ _ _ _ _ _ _ hr q hp' hk'
      · exact hd.rt _ _ _ _ _ _ _ (retOk_imm hr h0) q hp' hk'
    · exact hn Δ rfl ρ' σ' H' (R'.drop hul) hp' hk'
  · left
    have hie : i = xs.length := by omega
    refine ⟨wstop (by omega), ?_⟩
    rw [hie, List.drop_length] at hloop
    unfold forLoop at hloop
    exact hn Δ rfl ρ2 σ2 H2 (R2.drop hul) hp2 hloop
theorem ss_while {Δ : List STy} {c : E} {b : Ss} (hc : ST P w K mg base A C G kk XR c) (hb : SSs P w K mg base A C G kk XR b) : SS P w K mg base A C G kk XR (.while_ Δ c b) := fun Ex sc st hm => by
  unfold mtS at hm
  split at hm <;> first | exact absurd hm Bool.false_ne_true | skip
  all_goals first | (rename_i h; cases h; done) | skip
  rename_i v x pos h'
  injection h' with g1 g2 g3
  subst g1 g2 g3
  simp only [Bool.and_eq_true] at hm
  obtain ⟨m2, m3⟩ := hm
  obtain ⟨tc, pc, rc⟩ := hc Ex sc v m2
  obtain ⟨tb, pb, rb⟩ := hb Ex sc x m3
  refine ⟨tWhile tc tb, fun X g => ps_while g.own (pc X g.good).1 (pb X g), ?_⟩
  intro RC B Γ Θ o H0 M ρ σ θ H Kt D σ0 ht R he hx hpin hd hn
  unfold tyS at ht
  split at ht <;> try (cases ht; done)
  rename_i c1
  split at ht <;> try (cases ht; done)
  rename_i t0 Γ1 ht1
  split at ht <;> try (cases ht; done)
  rename_i c2
  have hbody : ∃ ob, tySs G RC Δ Γ1 Θ b = some ob ∧ o = some Δ ∧ ∀ Γ2, ob = some Γ2 → subΓ Γ2 Δ = true := by
    split at ht <;> try (cases ht; done)
    · rename_i Γ2 ht2
      split at ht <;> try (cases ht; done)
      rename_i hs
      cases ht
      exact ⟨_, ht2, rfl, fun Γ3 e => by cases e; exact hs⟩
    · rename_i ht2
      cases ht
      exact ⟨_, ht2, rfl, fun Γ3 e => by cases e⟩
  obtain ⟨ob, ht2, rfl, hob⟩ := hbody
  unfold evalS at he
  obtain ⟨n, hw⟩ := he
  refine ⟨fun m σ H => ∃ ρ', Rel K H0 M Δ ρ' σ Θ θ H ∧ Pin RC σ0 σ ∧ whileN (fun ρ' k => evalE C c ρ' k Kt.ex) (fun ρ' k => evalSs C b ρ' ⟨k, Kt.rt, Kt.nx, k, Kt.ex⟩) Kt.nx m ρ', ⟨n, ρ, R.sub c1, hpin, hw⟩, ?_⟩
  rintro m σ2 H2 ⟨ρ2, R2, hp2, hw⟩
  cases m with
  | zero => exact hw.elim
  | succ m =>
    have hw : evalE C c ρ2 (fun d ρ' => match d.truth with
      | some true => evalSs C b ρ' ⟨whileN (fun ρ' k => evalE C c ρ' k Kt.ex) (fun ρ' k => evalSs C b ρ' ⟨k, Kt.rt, Kt.nx, k, Kt.ex⟩) Kt.nx m, Kt.rt, Kt.nx, whileN (fun ρ' k => evalE C c ρ' k Kt.ex) (fun ρ' k => evalSs C b ρ' ⟨k, Kt.rt, Kt.nx, k, Kt.ex⟩) Kt.nx m, Kt.ex⟩
      | some false => Kt.nx ρ'
      | none => False) Kt.ex := hw
    refine rc _ _ _ _ _ _ _ _ _ _ _ _ _ ht1 R2 hw hx fun d ρ3 H3 R3 hk => ?_
    cases e : d.truth with
    | none => simp only [e] at hk
    | some c' =>
      simp only [e] at hk
      refine ⟨c', rfl, ?_⟩
      cases c' with
      | true =>
        rw [if_pos rfl]
        refine ⟨fun σ H => ∃ ρ', Rel K H0 M Δ ρ' σ Θ θ H ∧ Pin RC σ0 σ ∧ whileN (fun ρ' k => evalE C c ρ' k Kt.ex) (fun ρ' k => evalSs C b ρ' ⟨k, Kt.rt, Kt.nx, k, Kt.ex⟩) Kt.nx m ρ', fun σ' H' h => ⟨m, Nat.lt_succ_self _, h⟩, ?_⟩
        exact rb _ _ _ _ _ _ _ _ _ _ _ _ _ _ ht2 R3 hk hx hp2 ⟨hd.rt, fun ρ' σ' H' R' hp' hk' => hn Δ rfl ρ' σ' H' R' hp' hk', fun ρ' σ' H' R' hp' hk' => ⟨ρ', R', hp', hk'⟩⟩ fun Γ2 e2 ρ' σ' H' R' hp' hk' => ⟨ρ', R'.sub (hob Γ2 e2), hp', hk'⟩
      | false =>
        rw [if_neg Bool.false_ne_true]
        exact hn Δ rfl ρ3 σ2 H3 (R3.sub c2) hp2 hk
end Pm

namespace Pm
open PySem PySem.Spec L2
variable {P : Program} {w : World} {K : PySem.W.Frag} {mg : Str → Option Value} {base : Heap} {A : Code} {C : Ctx} {G : TC} {kk : Nat} {XR : XRel}

/-! ### assignments -/
theorem kindFn {Ex : XK} {sc : Scope} {X : Cx} (g : GoodF P w K mg base A kk Ex sc X) : X.env.scope.kind = .function := by rw [g.good.esc]; exact g.kind
theorem bkFn {env : Env} (h : env.scope.kind = .function) : env.blockKind = .function := by unfold Env.blockKind; rw [h]; rfl
theorem ss_asg {t : Tgt} {e : E} (h : SE P w K mg base A C G kk XR e) (hcomp : ∀ t' it c e', e = .comp t' it c e' → SIt P w K mg base A C G kk XR it ∧ (∀ e2, c = .some e2 → ST P w K mg base A C G kk XR e2) ∧ SE P w K mg base A C G kk XR e') :
    SS P w K mg base A C G kk XR (.asg t e) := fun Ex sc st hm => by
  unfold mtS at hm
  split at hm <;> first | exact absurd hm Bool.false_ne_true | skip
  all_goals first | (rename_i h; cases h; done) | skip
  rename_i tg v pos h'
  injection h' with g1 g2
  subst g1 g2
  simp only [Bool.and_eq_true, Bool.not_eq_true'] at hm
  obtain ⟨⟨⟨m1, m2⟩, m3⟩, m4⟩ := hm
  have rd : ∀ te, RdE K C G XR Ex e te → RdS K C G XR Ex (.asg t e) (tAsg te (gTgt K t)) := by
    intro te r RC B Γ Θ o H0 M ρ σ θ H Kt D σ0 ht R he hx hpin hd hn
    unfold tyS at ht
    split at ht <;> try (cases ht; done)
    rename_i u Γ1 ht1
    unfold evalS at he
    refine r _ _ _ _ _ _ _ _ _ _ _ _ _ ht1 R he hx fun d ρ1 v H1 R1 hk => ?_
    cases t with
    | nm i =>
      simp only at ht
      split at ht <;> try (cases ht; done)
      rename_i hc
      cases ht
      exact R1.tgt (t := .nm i) rfl hc.2.1 (fun j hj => by simp [Tgt.slots] at hj; subst hj; exact hc.1) hk fun ρ' σ' R2 k2 _ q => hn _ rfl ρ' σ' H1 R2 (fun p hp => (k2 p.1 fun hm => by
        simp [Tgt.slots] at hm
        have := List.all_eq_true.mp hc.2.2.2 p hp
        simp [hm] at this).trans (hpin p hp)) q
    | tp is =>
      simp only at ht
      split at ht <;> try (cases ht; done)
      rename_i hc
      cases ht
      obtain ⟨h0, hc⟩ := hc
      simp only [List.all_eq_true, Bool.and_eq_true, decide_eq_true_eq] at hc
      refine R1.tgt (t := .tp is) (by simp [elemOk, h0]) (.inl h0) (fun j hj => (hc j hj).1.1) hk fun ρ' σ' R2 k2 _ q => hn _ rfl ρ' σ' H1 ?_ (fun p hp => (k2 p.1 fun hm => by
        have := List.all_eq_true.mp (hc p.1 hm).2 p hp
        simp at this).trans (hpin p hp)) q
      rw [if_pos h0] at R2
      exact R2
  obtain ⟨te, pe, re⟩ := h Ex sc v m2
  have htg : (∃ i x p, t = .nm i ∧ tg = .Name x p) ∨ ∃ is es k p, t = .tp is ∧ tg = .Tuple es k p := by
    cases t with
    | nm i => cases tg <;> first | exact .inl ⟨_, _, _, rfl, rfl⟩ | exact absurd m1 Bool.false_ne_true
    | tp is => cases tg <;> first | exact .inr ⟨_, _, _, _, rfl, rfl⟩ | exact absurd m1 Bool.false_ne_true
  have plain : (∀ X, GoodF P w K mg base A kk Ex sc X → swapsWith v (some tg) pos.line X.env = pure false) → ∃ t' : TS, (∀ X, GoodF P w K mg base A kk Ex sc X → PS X (.Assign [tg] v pos) t') ∧ RdS K C G XR Ex (.asg t e) t' := by
    intro hsw
    refine ⟨_, fun X g => ps_asg (pe X g.good) (pg_tgt m1 g.good.calm g.good.eK fun i x pos hn => pg_own g hn) (hsw X g) ?_ ?_, rd te re⟩
    · unfold swappedStores
      rcases htg with ⟨i, x, p, rfl, rfl⟩ | ⟨is, es, k, p, rfl, rfl⟩
      · cases v <;> rfl
      · cases v <;> first | rfl | cases m4
    · rcases htg with ⟨i, x, p, rfl, rfl⟩ | ⟨is, es, k, p, rfl, rfl⟩ <;> rfl
  cases hsw : swB sc tg v pos.line with
  | none => rw [hsw] at m3; cases m3
  | some b =>
    cases v with
    | ListComp elt gs scope vpos =>
      rcases htg with ⟨i, x, p, rfl, rfl⟩ | ⟨is, es, k, p, rfl, rfl⟩
      · have hb : (sc.names.lookup x == some .local && p.line == vpos.line && !(scope.names.any fun (n, k) => n == x && (k == .local || k == .cell))) = b := by
          have := hsw
          unfold swB at this
          exact Option.some.inj this
        cases b with
        | false =>
          refine plain fun X g => ?_
          unfold swapsWith
          have hk : X.env.kindOf x = sc.names.lookup x := by
            show X.env.scope.names.lookup x = _
            rw [g.good.esc]
          simp only [bkFn (kindFn g), hk, Expr.pos]
          show (pure (_ && _ && _ && _) : Sem Bool) = pure false
          rw [show (ScopeKind.function == ScopeKind.function) = true from rfl, Bool.true_and, hb]
        | true =>
          simp only [Bool.and_eq_true, beq_iff_eq, Bool.not_eq_true'] at hb
          obtain ⟨⟨h1, h2⟩, h3⟩ := hb
          obtain ⟨t', it, c, e', rfl⟩ : ∃ t' it c e', e = .comp t' it c e' := by
            cases e <;> first | exact ⟨_, _, _, _, rfl⟩ | exact absurd m2 Bool.false_ne_true
          obtain ⟨q1, q2, q3⟩ := hcomp t' it c e' rfl
          obtain ⟨elt', tg', iter, ifs, scope', pos', wi, tt, te', own, epe, m6, ok, rdc⟩ := comp_parts q1 q2 q3 Ex m2
          cases epe
          refine ⟨_, fun X g => ?_, rd _ rdc⟩
          have L := ok X g.good
          have m1' : (A.N[i]? == some x && locB sc x) = true := m1
          simp only [Bool.and_eq_true, beq_iff_eq] at m1'
          rw [← m6, ← g.good.eK]
          have hl : X.env.scope.names.lookup x = some .local := by rw [g.good.esc]; exact h1
          exact ps_setLc (i := i) g.good.calm (by rw [g.good.hN]; exact g.good.nd) (by rw [g.good.hN]; exact m1'.1) hl (sw_true (kindFn g) hl (by rw [h2]; exact beq_self_eq_true _) h3) L.hi L.ok L.hg L.ht L.he L.hs
      · refine plain fun X g => ?_
        unfold swapsWith
        rfl
    | SetComp _ _ _ _ => cases tg <;> cases hsw
    | DictComp _ _ _ _ _ => cases tg <;> cases hsw
    | _ =>
      refine plain fun X g => ?_
      unfold swapsWith
      rfl
theorem Reps.setR {w : Bool} {H : Hp} : ∀ {xs : List D} {vs : List V} {F : Fp} {j : Nat} {d : D} {v : V} {Fd : Fp}, Reps w K H xs vs F → Rep w K H d v Fd → F.Nodup → Fd.Nodup → (∀ a ∈ Fd, a ∉ F) → ∃ F', Reps w K H (xs.set j d) (vs.set j v) F' ∧ F'.Nodup ∧ ∀ a ∈ F', a ∈ F ∨ a ∈ Fd
  | [], _, _, j, d, v, Fd, .nil, _, _, _, _ => ⟨[], by simpa using Reps.nil, List.nodup_nil, fun _ h => by simp at h⟩
  | x :: xs, _, _, 0, d, v, Fd, .cons (F := F1) (G := G1) r rs, rd, nd, ndd, dj => by
    obtain ⟨n1, n2, n3⟩ := List.nodup_append.mp nd
    refine ⟨Fd ++ G1, .cons rd rs, List.nodup_append.mpr ⟨ndd, n2, fun a ha b hb e => by subst e; exact dj a ha (List.mem_append_right _ hb)⟩, fun a ha => ?_⟩
    rcases List.mem_append.mp ha with ha | ha
    · exact .inr ha
    · exact .inl (List.mem_append_right _ ha)
  | x :: xs, _, _, j + 1, d, v, Fd, .cons (F := F1) (G := G1) r rs, rd, nd, ndd, dj => by
    obtain ⟨n1, n2, n3⟩ := List.nodup_append.mp nd
    obtain ⟨F', h1, h2, h3⟩ := Reps.setR (j := j) rs rd n2 ndd fun a ha hm => dj a ha (List.mem_append_right _ hm)
    refine ⟨F1 ++ F', .cons r h1, List.nodup_append.mpr ⟨n1, h2, fun a ha b hb e => ?_⟩, fun a ha => ?_⟩
    · subst e
      rcases h3 a hb with z | z
      · exact n3 a ha a z rfl
      · exact dj a z (List.mem_append_left _ ha)
    · rcases List.mem_append.mp ha with ha | ha
      · exact .inl (List.mem_append_left _ ha)
      · exact (h3 a ha).imp (List.mem_append_right _) id
theorem deps_set {k : Nat} {xs : List D} {j : Nat} {d : D} (h : D.deps k xs = true) (hd : d.dep k = true) : D.deps k (xs.set j d) = true :=
  deps_iff.mpr fun x hx => (List.mem_or_eq_of_mem_set hx).elim (fun z => deps_iff.mp h x z) fun e => by rw [e]; exact hd
theorem ss_setI {i : Nat} {k e : E} (hk : SE P w K mg base A C G kk XR k) (he : SE P w K mg base A C G kk XR e) : SS P w K mg base A C G kk XR (.setI i k e) := fun Ex sc st hm => by
  unfold mtS at hm
  split at hm <;> first | exact absurd hm Bool.false_ne_true | skip
  all_goals first | (rename_i h; cases h; done) | skip
  rename_i x xp j jp v pos h'
  injection h' with g1 g2 g3
  subst g1 g2 g3
  simp only [Bool.and_eq_true, Bool.not_eq_true'] at hm
  obtain ⟨⟨⟨m0, m1⟩, m2⟩, m3⟩ := hm
  have hn : (A.N[i]? == some x && visB sc x && nomg x) = true := by simp only [Bool.and_eq_true]; exact m0
  obtain ⟨tk, p1, r1⟩ := hk Ex sc j m1
  obtain ⟨te, p2, r2⟩ := he Ex sc v m3
  refine ⟨tAsg te (gSub (tVar i) tk rSetL), fun X g => ps_asg (p2 X g.good) (pg_sub (g.good.pv hn) (p1 X g.good) set_list ?_) ?_ ?_ ?_, ?_⟩
  · intro v'
    cases j <;> first | rfl | cases m2
  · unfold swapsWithSole swapsWith
    cases v <;> rfl
  · unfold swappedStores
    cases v <;> rfl
  · rfl
  · intro RC B Γ Θ o H0 M ρ σ θ H Kt D σ0 ht R he hx hpin hd hnx
    unfold tyS at ht
    split at ht <;> try (cases ht; done)
    rename_i u Γ1 ht1
    split at ht <;> try (cases ht; done)
    rename_i hsome
    split at ht <;> try (cases ht; done)
    rename_i w' Γ2 ht2
    split at ht <;> try (cases ht; done)
    rename_i t hΓ
    split at ht <;> try (cases ht; done)
    rename_i hc
    obtain ⟨c1, c2, c3, c4, c5, c6⟩ := hc
    cases ht
    unfold evalS at he
    refine r2 _ _ _ _ _ _ _ _ _ _ _ _ _ ht1 R he hx fun d ρ1 vd H1 R1 he1 => ?_
    split at he1 <;> try exact he1.elim
    rename_i o1 hρ1
    obtain ⟨t0, hΓ0⟩ : ∃ t0, Γ1[i]? = some (some t0) := by
      cases e : Γ1[i]? with
      | none => simp [e] at hsome
      | some o => cases o with
        | none => simp [e] at hsome
        | some t0 => exact ⟨t0, rfl⟩
    obtain ⟨ow1, R1'⟩ := id R1
    obtain ⟨vi, hσ, _⟩ := R1'.slot i t0 _ hΓ0 hρ1
    refine ⟨vi, hσ, ?_⟩
    refine r1 _ _ _ _ _ _ _ _ _ _ _ _ _ ht2 R1 he1 hx fun dj ρ2 vj H2 R2 hk2 => ?_
    split at hk2 <;> try exact hk2.elim
    rename_i o2 hρ2
    obtain ⟨ow, R2'⟩ := id R2
    have hΓ' : Γ2[i]? = some (some ⟨.own, t.k⟩) := by rw [hΓ, ← own_eq c1]
    obtain ⟨xs, n, jj, rfl, rfl, hj, hk2⟩ : ∃ xs n jj, o2 = .lst xs ∧ dj = .int n ∧ ixN xs.length n = some jj ∧ Kt.nx (ρ2.set i (some (.lst (xs.set jj d)))) := by
      cases o2 <;> cases dj <;> try exact False.elim hk2
      rename_i xs n
      have hk2 : (match ixN xs.length n with | some j => Kt.nx (ρ2.set i (some (.lst (xs.set j d)))) | none => False) := hk2
      cases e : ixN xs.length n with
      | none => rw [e] at hk2; exact hk2.elim
      | some jj => rw [e] at hk2; exact ⟨xs, n, jj, rfl, rfl, e, hk2⟩
    obtain ⟨a, us, F, hσ2, ha, rs, dxs, h1k, nd, hL⟩ := R2'.own_lst hΓ' hρ2
    rw [hσ] at hσ2
    cases hσ2
    obtain ⟨Fj, rj, _⟩ := R2.len1
    have ej := rj.int_inv
    have ej : vj = .int n := ej
    subst ej
    have hd' : ∃ Fd, Rep true K H2 d vd Fd ∧ Fd.Nodup ∧ d.dep (t.k - 1) = true ∧ ∀ b ∈ Fd, hiTmp Θ.length (ow b) := by
      obtain ⟨Fd, rd, dd, ll⟩ := R2'.temp.2.1
      by_cases h0 : u.k = 0
      · rw [h0] at dd
        exact ⟨[], (rd.imm dd).2, List.nodup_nil, Pm.D.dep_mono (Nat.zero_le _) d dd, fun _ h => by simp at h⟩
      · have hp : u.p = .own := by
          unfold Ty.free at c4
          have h0' : (u.k == 0) = false := by simpa using h0
          rw [h0', Bool.false_or] at c4
          cases e : u.p <;> rw [e] at c4 <;> first | rfl | cases c4
        rw [hp] at rd ll
        exact ⟨Fd, rd, ll.1, Pm.D.dep_mono (by omega) d dd, fun b hb => by rw [ll.2 b hb]; exact Nat.le_refl _⟩
    obtain ⟨Fd, rd, ndd, dd, lld⟩ := hd'
    have hsl := hL a List.mem_cons_self
    obtain ⟨F', rs', nd', hF'⟩ := Reps.setR (j := jj) rs rd (List.nodup_cons.mp nd).2 ndd fun b hb hm => by
      have h1 := lld b hb
      rw [hL b (List.mem_cons_of_mem _ hm)] at h1
      exact h1
    have R3 := R2'.relist (Θs := [w', u]) (θs := [(.int n, .int n), (d, vd)]) rfl (zs := xs.set jj d) (us := us.set jj vd) (E := F') hΓ' hρ2 c2 hσ ha hsl (dep_pred h1k (deps_set dxs dd)) rs' nd'
      (fun b hb => (hF' b hb).elim (fun z => .inl ⟨fun e => (List.nodup_cons.mp nd).1 (by rw [← e]; exact z), hL b (List.mem_cons_of_mem _ z)⟩) fun z => .inr (lld b z))
    exact ⟨a, us, n, jj, rfl, rfl, ha, by rw [← rs.len]; exact hj, hnx _ rfl _ σ _ R3 hpin hk2⟩
end Pm

set_option maxRecDepth 100000
namespace L2
open PySem PySem.Spec PyProof.Rows
/-! ### enumerate(text), zip(text, text) -/
def IteS (x : Str) : It := ⟨fun i _ => i < x.cps.size, fun i H v H' => ∃ T c, v = .ref T ∧ H T = none ∧ H' = upd H T (.tup [.int (i : Nat), .str ⟨#[c]⟩]) ∧ x.cps[i]? = some c, fun i _ => x.cps.size ≤ i⟩
theorem turn_enumS {P : Program} {w : World} {K : PySem.W.Frag} {elts : List Expr} {kk : Nat} {tpos : Pos} (x : Str) (t : Tok) (e it : Addr) :
    Turn P w K (.Tuple elts kk tpos) (IteS x) [e, it] e (fun i h => i ≤ x.cps.size ∧ (∃ old, IsEnum h e it ((i : Nat) : Int) old) ∧ h.IsStrIter it (strIterType x) x t i ∧ e ≠ it) where
  mem := by simp
  obj := fun i h st b hb => by
    obtain ⟨_, ⟨old, he⟩, hst, _⟩ := st
    obtain ⟨o, ho, hc, hd⟩ := hst
    have e' : b = e ∨ b = it := by simpa using hb
    rcases e' with z | z
    · rw [z]; exact ⟨_, he, fun v q => nomatch q⟩
    · rw [z]; exact ⟨o, ho, fun v q => by rw [hd] at q; cases q⟩
  keep := fun i h h' st k => let ⟨hi, ⟨old, he⟩, ⟨o, ho, r⟩, hne⟩ := st; ⟨hi, ⟨old, k e (by simp) _ he⟩, ⟨o, k it (by simp) o ho, r⟩, hne⟩
  item := by
    intro X hP hw hK hc i pins s σ H E I hf st hg
    subst hP hw hK
    obtain ⟨hi, ⟨old, he⟩, hit, hne⟩ := st
    have hel : e < s.heap.objs.size := Heap.lt_size he
    have hil : it < s.heap.objs.size := by obtain ⟨_, q, _⟩ := hit; exact Heap.lt_size q
    refine wpAny_pyNext_enum_itemC (Draws.text (A := X.A.in1) (I.ok.hd hc) it x t) he hit hg hne (by simpa using hne) fun u h' tk hP ho hit' hT hsz hk => ?_
    obtain ⟨c, tc, hcx, rfl⟩ := hP
    refine ⟨_, rfl, wpAny_letOwnedTupleGo_enum (s := { s with heap := h', toks := tk + 1 }) ho fun h'' he' sb => ?_⟩
    have hT2 : h''.get? s.heap.objs.size = some { cls := .type "tuple", data := .seq #[.int i tk, .str ⟨#[c]⟩ tc] } := (sb.2 _ (Nat.ne_of_gt hel)).trans hT
    have new : ObjOk X.prog X.w (upd H s.heap.objs.size (.tup [.int (i : Nat), .str ⟨#[c]⟩])) h'' s.heap.objs.size (.tup [.int (i : Nat), .str ⟨#[c]⟩]) :=
      ⟨by show 2 ≤ sizeLine; decide, [.int i tk, .str ⟨#[c]⟩ tc], .cons ⟨_, rfl⟩ (.cons ⟨_, rfl⟩ .nil), ⟨_, hT2, rfl, _, rfl⟩⟩
    have I1 : Inv X pins σ (upd H s.heap.objs.size (.tup [.int (i : Nat), .str ⟨#[c]⟩])) { s with heap := h'', toks := tk + 1 } :=
      I.turnedNew (ch := [e, it]) (fun b ob hb q => (sb.2 b (fun z => hb (by simp [z]))).trans (hk b ob (fun z => hb (by simp [z])) (fun z => hb (by simp [z])) q)) hf (Nat.le_refl _) new
    have hit2 : h''.IsStrIter it (strIterType x) x t (i + 1) := by
      obtain ⟨o, q, r⟩ := hit'
      exact ⟨o, (sb.2 it (Ne.symm hne)).trans q, r⟩
    refine ⟨.ref s.heap.objs.size, _, I1, rfl, ⟨_, c, rfl, I.hok.fresh (Nat.le_refl _), rfl, hcx⟩, ⟨hg, ⟨.str ⟨#[c]⟩ tc, ?_⟩, hit2, hne⟩, fun b hb => ?_⟩
    · have e1 : ((i + 1 : Nat) : Int) = (i : Int) + 1 := by omega
      rw [e1]; exact he'
    · have hb' : b < s.heap.objs.size := by
        have e' : b = e ∨ b = it := by simpa using hb
        rcases e' with z | z
        · rw [z]; exact hel
        · rw [z]; exact hil
      rw [upd_ne (Nat.ne_of_lt hb')]
      exact (hf b hb).1
  done := by
    intro X hP hw hK hc i pins s σ H E I hf st hg
    subst hP hw hK
    obtain ⟨hi, ⟨old, he⟩, hit, hne⟩ := st
    obtain ⟨f0, f1, f2, f3, f4, f5⟩ := hf it (by simp)
    have ei : i = x.cps.size := Nat.le_antisymm hi hg
    subst ei
    exact wpAny_pyNext_enum_endD (Draws.text (A := X.A.in1) (I.ok.hd hc) it x t) he hit fun h' eb => ⟨rfl, I.turned (t' := s.toks) (fun b o hb q => eb b o hb q) f0 f1 f3 f4 f5⟩
  self := fun A i s Q E st h => let ⟨_, ⟨_, he⟩, _⟩ := st; wpAny_pyIter_enum he h
def iEnumS (te : TA) : TI := fun σ H R => te σ H fun vs H1 => ∃ x, vs = [.str x] ∧ R (IteS x) H1
theorem pi_enumS {X : Cx} {e : Expr} {ta : TA} {p pos tpos : Pos} {elts : List Expr} {kk : Nat} (hg : Gl X "enumerate") (hm : X.mg "enumerate" = none) (ha : PA X [e] ta) (hs : starEach [e] X.env = [(false, eval e X.env)] := by rfl) :
    PI X (.Tuple elts kk tpos) (.Call (.Name "enumerate" p) [e] [] pos) (iEnumS ta) := by
  refine ⟨fun pins s σ H R I h => ?_⟩
  refine Call_ (ld_blt I hg hm boot_enumerate (PyProof.Rows.callWith_type1 (thn (ha.run pos pins s σ H _ I h) fun us s1 ⟨vs, H1, I1, r1, q1⟩ => ?_) hs rfl))
  obtain ⟨x, ex, q⟩ := q1
  subst ex
  cases r1 with
  | cons r rr =>
    cases rr
    obtain ⟨t, rfl⟩ := r
    refine call_enumerate_str fun h' he hit hsz hk => wpAny_pyIter_enum he ?_
    have I2 : Inv X pins σ H1 { s1 with heap := h' } := I1.kept (t' := s1.toks) hk
    refine ⟨s1.heap.objs.size + 1, [s1.heap.objs.size + 1, s1.heap.objs.size], _, _, H1, rfl, I2, turn_enumS x t (s1.heap.objs.size + 1) s1.heap.objs.size, ⟨Nat.zero_le _, ⟨.none, he⟩, hit, Nat.succ_ne_self _⟩, fun b hb => ?_, q⟩
    have e' : b = s1.heap.objs.size + 1 ∨ b = s1.heap.objs.size := by simpa using hb
    have hle : s1.heap.objs.size ≤ b := by
      rcases e' with z | z
      · rw [z]; exact Nat.le_add_right _ _
      · rw [z]; exact Nat.le_refl _
    exact I1.fpOk hle (I1.hok.fresh hle)
def ItzS (x y : Str) : It := ⟨fun i _ => i < x.cps.size ∧ i < y.cps.size, fun i H v H' => ∃ T c d, v = .ref T ∧ H T = none ∧ H' = upd H T (.tup [.str ⟨#[c]⟩, .str ⟨#[d]⟩]) ∧ x.cps[i]? = some c ∧ y.cps[i]? = some d, fun i _ => x.cps.size ≤ i ∨ y.cps.size ≤ i⟩
theorem turn_zipS {P : Program} {w : World} {K : PySem.W.Frag} {elts : List Expr} {kk : Nat} {tpos : Pos} {z TI TO i1 i2 : Addr} (x y : Str) (t u : Tok) (S : ZipSep2 z TI TO i1 i2 [i1] [i2]) :
    Turn P w K (.Tuple elts kk tpos) (ItzS x y) [z, TI, TO, i1, i2] z (fun i h => (i ≤ x.cps.size ∧ i ≤ y.cps.size) ∧ IsZip h z TI TO .none ∧ IsTupOf2 h TI (.ref i1) (.ref i2) ∧ (∃ a b, IsTupOf2 h TO a b) ∧ h.IsStrIter i1 (strIterType x) x t i ∧ h.IsStrIter i2 (strIterType y) y u i) where
  mem := by simp
  obj := fun i h st c hc => by
    obtain ⟨_, hz, hTI, ⟨a, b, hTO⟩, ⟨o1, e1, _, d1⟩, ⟨o2, e2, _, d2⟩⟩ := st
    have e' : c = z ∨ c = TI ∨ c = TO ∨ c = i1 ∨ c = i2 := by simpa using hc
    rcases e' with q | q | q | q | q
    · rw [q]; exact ⟨_, hz, fun v q => nomatch q⟩
    · rw [q]; exact ⟨_, hTI, fun v q => nomatch q⟩
    · rw [q]; exact ⟨_, hTO, fun v q => nomatch q⟩
    · rw [q]; exact ⟨o1, e1, fun v q => by rw [d1] at q; cases q⟩
    · rw [q]; exact ⟨o2, e2, fun v q => by rw [d2] at q; cases q⟩
  keep := fun i h h' st k => by
    obtain ⟨hi, hz, hTI, ⟨a, b, hTO⟩, ⟨o1, e1, r1⟩, ⟨o2, e2, r2⟩⟩ := st
    exact ⟨hi, k z (by simp) _ hz, k TI (by simp) _ hTI, ⟨a, b, k TO (by simp) _ hTO⟩, ⟨o1, k i1 (by simp) _ e1, r1⟩, ⟨o2, k i2 (by simp) _ e2, r2⟩⟩
  item := by
    intro X hP hw hK hc i pins s σ H E I hf st hg
    subst hP hw hK
    obtain ⟨hi, hz, hTI, ⟨a, b, hTO⟩, h1, h2⟩ := st
    have hzl : z < s.heap.objs.size := Heap.lt_size hz
    refine wpAny_pyNext_zipD2_item S (Draws.text (A := X.A.in1) (I.ok.hd hc) i1 x t) (Draws.text (A := X.A.in1) (I.ok.hd hc) i2 y u) hz hTI hTO h1 h2 hg.1 hg.2 fun v1 v2 h' tk p1 p2 hz' hTO' h1' h2' hT hsz hk => ?_
    obtain ⟨c, tc, hcx, rfl⟩ := p1
    obtain ⟨d, td, hdx, rfl⟩ := p2
    refine ⟨_, rfl, wpAny_letOwnedTupleGo_zip (s := { s with heap := h', toks := tk }) hz' fun h'' z'' sb => ?_⟩
    have hT2 : h''.get? s.heap.objs.size = some { cls := .type "tuple", data := .seq #[.str ⟨#[c]⟩ tc, .str ⟨#[d]⟩ td] } := (sb.2 _ (Nat.ne_of_gt hzl)).trans hT
    have new : ObjOk X.prog X.w (upd H s.heap.objs.size (.tup [.str ⟨#[c]⟩, .str ⟨#[d]⟩])) h'' s.heap.objs.size (.tup [.str ⟨#[c]⟩, .str ⟨#[d]⟩]) :=
      ⟨by show 2 ≤ sizeLine; decide, [.str ⟨#[c]⟩ tc, .str ⟨#[d]⟩ td], .cons ⟨_, rfl⟩ (.cons ⟨_, rfl⟩ .nil), ⟨_, hT2, rfl, _, rfl⟩⟩
    have I1 : Inv X pins σ (upd H s.heap.objs.size (.tup [.str ⟨#[c]⟩, .str ⟨#[d]⟩])) { s with heap := h'', toks := tk } :=
      I.turnedNew (t' := tk) (ch := [z, TI, TO, i1, i2]) (fun c o hb q => (sb.2 c (fun q' => hb (by simp [q']))).trans (hk c o (fun q' => hb (by simp [q'])) (fun q' => hb (by simp [q'])) (fun q' => hb (by simp [q'])) (fun q' => hb (by simp [q'])) q)) hf (Nat.le_refl _) new
    have zi1 : i1 ≠ z := fun e => S.zf1 (by rw [← e]; simp)
    have zi2 : i2 ≠ z := fun e => S.zf2 (by rw [← e]; simp)
    refine ⟨.ref s.heap.objs.size, _, I1, rfl, ⟨_, c, d, rfl, I.hok.fresh (Nat.le_refl _), rfl, hcx, hdx⟩, ⟨⟨hg.1, hg.2⟩, z'', ?_, ⟨.str ⟨#[c]⟩ tc, .str ⟨#[d]⟩ td, ?_⟩, ?_, ?_⟩, fun c hcm => ?_⟩
    · exact (sb.2 _ S.TIz).trans (hk _ _ S.TIz S.TITO S.TIi1 S.TIi2 hTI)
    · exact (sb.2 _ S.TOz).trans hTO'
    · obtain ⟨o, q, r⟩ := h1'; exact ⟨o, (sb.2 _ zi1).trans q, r⟩
    · obtain ⟨o, q, r⟩ := h2'; exact ⟨o, (sb.2 _ zi2).trans q, r⟩
    · have hlt : c < s.heap.objs.size := by
        have e' : c = z ∨ c = TI ∨ c = TO ∨ c = i1 ∨ c = i2 := by simpa using hcm
        rcases e' with q | q | q | q | q
        · rw [q]; exact hzl
        · rw [q]; exact Heap.lt_size hTI
        · rw [q]; exact Heap.lt_size hTO
        · rw [q]; obtain ⟨_, e1, _⟩ := h1; exact Heap.lt_size e1
        · rw [q]; obtain ⟨_, e2, _⟩ := h2; exact Heap.lt_size e2
      rw [upd_ne (Nat.ne_of_lt hlt)]
      exact (hf c hcm).1
  done := by
    intro X hP hw hK hc i pins s σ H E I hf st hg
    subst hP hw hK
    obtain ⟨hi, hz, hTI, ⟨a, b, hTO⟩, h1, h2⟩ := st
    refine wpAny_pyNext_zipD2_end S (Draws.text (A := X.A.in1) (I.ok.hd hc) i1 x t) (Draws.text (A := X.A.in1) (I.ok.hd hc) i2 y u) hz hTI hTO h1 h2 hi.1 hi.2 ?_ fun h' tk hk => ⟨rfl, I.turnedL (t' := tk) (ch := [z, TI, TO, i1, i2]) (fun c o hb q =>
      hk c o (fun q' => hb (by simp [q'])) (fun q' => hb (by simp [q'])) (fun q' => hb (by simp [q'])) (fun q' => hb (by simp [q'])) q) hf⟩
    rcases hg with q | q
    · exact .inl (Nat.le_antisymm hi.1 q)
    · exact .inr (Nat.le_antisymm hi.2 q)
  self := fun A i s Q E st h => wpAny_pyIter_zip st.2.1 h
def iZipS (ta : TA) : TI := fun σ H R => ta σ H fun vs H1 => ∃ x y, vs = [.str x, .str y] ∧ R (ItzS x y) H1
theorem pi_zipS {X : Cx} {e e2 : Expr} {ta : TA} {p pos tpos : Pos} {elts : List Expr} {kk : Nat} (hg : Gl X "zip") (hm : X.mg "zip" = none) (ha : PA X [e, e2] ta)
    (hs : starEach [e, e2] X.env = (false, eval e X.env) :: starEach [e2] X.env := by rfl) (hpl : (backTo pos (starEach [e2] X.env)).any (·.1) = false := by rfl) :
    PI X (.Tuple elts kk tpos) (.Call (.Name "zip" p) [e, e2] [] pos) (iZipS ta) := by
  refine ⟨fun pins s σ H R I h => ?_⟩
  refine Call_ (ld_blt I hg hm PyProof.Rows.boot_zip (PyProof.Rows.callWith_type1 (thn (ha.run pos pins s σ H _ I h) fun us s1 ⟨vs, H1, I1, r1, q1⟩ => ?_) hs hpl))
  obtain ⟨x, y, ex, q⟩ := q1
  subst ex
  cases r1 with
  | cons r rr =>
    cases rr with
    | cons r' rr =>
      cases rr
      obtain ⟨t, rfl⟩ := r
      obtain ⟨u, rfl⟩ := r'
      refine zip_begins2 (begins_text x t) (begins_text y u) trivial trivial fun h' hz hTI hTO h1 h2 hsz hk => wpAny_pyIter_zip hz ?_
      have I2 : Inv X pins σ H1 { s1 with heap := h' } := I1.kept (t' := s1.toks) hk
      have S : ZipSep2 (s1.heap.objs.size + 4) (s1.heap.objs.size + 2) (s1.heap.objs.size + 3) s1.heap.objs.size (s1.heap.objs.size + 1) [s1.heap.objs.size] [s1.heap.objs.size + 1] := by
        constructor <;> simp <;> omega
      refine ⟨s1.heap.objs.size + 4, [s1.heap.objs.size + 4, s1.heap.objs.size + 2, s1.heap.objs.size + 3, s1.heap.objs.size, s1.heap.objs.size + 1], _, _, H1, rfl, I2, turn_zipS x y t u S, ⟨⟨Nat.zero_le _, Nat.zero_le _⟩, hz, hTI, ⟨_, _, hTO⟩, ⟨_, h1, rfl, rfl⟩, ⟨_, h2, rfl, rfl⟩⟩, fun c hcm => ?_, q⟩
      have e' : c = s1.heap.objs.size + 4 ∨ c = s1.heap.objs.size + 2 ∨ c = s1.heap.objs.size + 3 ∨ c = s1.heap.objs.size ∨ c = s1.heap.objs.size + 1 := by simpa using hcm
      have hle : s1.heap.objs.size ≤ c := by
        rcases e' with z | z | z | z | z
        · rw [z]; exact Nat.le_add_right _ _
        · rw [z]; exact Nat.le_add_right _ _
        · rw [z]; exact Nat.le_add_right _ _
        · rw [z]; exact Nat.le_refl _
        · rw [z]; exact Nat.le_add_right _ _
      exact I1.fpOk hle (I1.hok.fresh hle)
end L2

namespace Pm
open PySem PySem.Spec L2
variable {P : Program} {w : World} {K : PySem.W.Frag} {mg : Str → Option Value} {base : Heap} {A : Code} {C : Ctx} {G : TC} {kk : Nat} {XR : XRel}

theorem walk_enum {t : Ty} {ds : List D} {a : Addr} (hk : t.k ≤ 1) : WalkOk K [t] [(.lst ds, .ref a)] imm (ds.zipIdx.map fun p => .tup [.int p.2, p.1]) (Ite K a) := by
  intro H0 M Γ ρ σ Θa θa Θ θ H i hl R
  obtain ⟨ow, R⟩ := id R
  obtain ⟨F, r, hd, hL⟩ := R.temp.mid hl
  have r' : Rep t.p.w K H (.lst ds) (.ref a) F := r
  obtain ⟨a', vs, E, e, s, rs, hE, _⟩ := r'.lst_inv
  cases e
  have hd' : D.deps 0 ds = true := by
    have hd : D.dep 1 (.lst ds) = true := D.dep_mono hk _ hd
    rwa [dep_lst] at hd
  refine ⟨fun d hd1 => ?_, fun hle => ⟨vs, s, by rw [← rs.len]; simpa using hle⟩⟩
  rw [List.getElem?_map, List.getElem?_zipIdx] at hd1
  cases e : ds[i]? with
  | none => rw [e] at hd1; cases hd1
  | some d0 =>
    rw [e] at hd1
    simp at hd1
    subst hd1
    obtain ⟨v, E', e1, rv, hE'⟩ := rs.get e
    refine ⟨⟨vs, v, s, e1⟩, fun x H' y => ?_⟩
    obtain ⟨T, x', rfl, hT, rfl, y⟩ := y
    have ex : x' = v := Option.some.inj ((y _ s).symm.trans e1)
    subst ex
    have dd := deps_get hd' e
    exact Rel.new (Θs := []) (θs := []) ⟨ow, R⟩ rfl (New.tup (w := true) (F := []) (Reps.cons (F := []) (G := []) (.int _) (Reps.cons (F := []) (G := []) (rv.imm dd).2 .nil)) (by simp [D.deps, D.dep, dd]) hT)
theorem walk_zip {t u : Ty} {ds es : List D} {a b : Addr} (hk : t.k ≤ 1) (hu : u.k ≤ 1) : WalkOk K [u, t] [(.lst es, .ref b), (.lst ds, .ref a)] imm ((ds.zip es).map fun p => .tup [p.1, p.2]) (Itz K a b) := by
  intro H0 M Γ ρ σ Θa θa Θ θ H i hl R
  obtain ⟨ow, R⟩ := id R
  have T1 : TempOk K H ow (Θa ++ u :: ([t] ++ Θ)) (θa ++ (.lst es, .ref b) :: ([(.lst ds, .ref a)] ++ θ)) := R.temp
  have T2 : TempOk K H ow ((Θa ++ [u]) ++ t :: Θ) ((θa ++ [(.lst es, .ref b)]) ++ (.lst ds, .ref a) :: θ) := by simpa using R.temp
  obtain ⟨F1, r1, hd1, _⟩ := T2.at (by simp [hl])
  obtain ⟨F2, r2, hd2, _⟩ := T1.at hl
  obtain ⟨a', vs, E1, e, s1, rs1, _, _⟩ := r1.lst_inv
  cases e
  obtain ⟨b', us, E2, e, s2, rs2, _, _⟩ := r2.lst_inv
  cases e
  have hd1' : D.deps 0 ds = true := by
    have hd : D.dep 1 (.lst ds) = true := D.dep_mono hk _ hd1
    rwa [dep_lst] at hd
  have hd2' : D.deps 0 es = true := by
    have hd : D.dep 1 (.lst es) = true := D.dep_mono hu _ hd2
    rwa [dep_lst] at hd
  refine ⟨fun d hdd => ?_, fun hle => ⟨vs, us, s1, s2, by rw [← rs1.len, ← rs2.len]; simp at hle; omega⟩⟩
  rw [List.getElem?_map] at hdd
  cases e : (ds.zip es)[i]? with
  | none => rw [e] at hdd; cases hdd
  | some z =>
    rw [e] at hdd
    simp at hdd
    subst hdd
    obtain ⟨z1, z2⟩ := List.getElem?_zip_eq_some.mp e
    obtain ⟨v1, G1, e1, rv1, _⟩ := rs1.get z1
    obtain ⟨v2, G2, e2, rv2, _⟩ := rs2.get z2
    refine ⟨⟨vs, us, v1, v2, s1, s2, e1, e2⟩, fun x H' y => ?_⟩
    obtain ⟨T, x', y', rfl, hT, rfl, y1, y2⟩ := y
    have ex : x' = v1 := Option.some.inj ((y1 _ s1).symm.trans e1)
    have ey : y' = v2 := Option.some.inj ((y2 _ s2).symm.trans e2)
    subst ex ey
    have dd1 := deps_get hd1' z1
    have dd2 := deps_get hd2' z2
    exact Rel.new (Θs := []) (θs := []) ⟨ow, R⟩ rfl (New.tup (w := true) (F := []) (Reps.cons (F := []) (G := []) (rv1.imm dd1).2 (Reps.cons (F := []) (G := []) (rv2.imm dd2).2 .nil)) (by simp [D.deps, dd1, dd2]) hT)
theorem toStr_at {s : List Nat} {i : Nat} : (toStr s).cps[i]? = s[i]? := by simp [toStr]
theorem toStr_sz {s : List Nat} : (toStr s).cps.size = s.length := by simp [toStr]
theorem walk_enumS {t : Ty} {s : List Nat} {v : V} : WalkOk K [t] [(.str s, v)] imm ((s.map fun c => D.str [c]).zipIdx.map fun p => .tup [.int p.2, p.1]) (IteS (toStr s)) := by
  intro H0 M Γ ρ σ Θa θa Θ θ H i hl R
  obtain ⟨ow, R⟩ := id R
  obtain ⟨F, r, hd, hL⟩ := R.temp.mid hl
  have r' : Rep t.p.w K H (.str s) v F := r
  obtain ⟨_, hv⟩ := r'.str_inv
  refine ⟨fun d hd1 => ?_, fun hle => by show (toStr s).cps.size ≤ i; rw [toStr_sz]; simpa using hle⟩
  rw [List.getElem?_map, List.getElem?_zipIdx, List.getElem?_map] at hd1
  cases e : s[i]? with
  | none => rw [e] at hd1; cases hd1
  | some c =>
    rw [e] at hd1
    simp at hd1
    subst hd1
    have hi : i < s.length := (List.getElem?_eq_some_iff.mp e).1
    refine ⟨by show i < (toStr s).cps.size; rw [toStr_sz]; exact hi, fun x H' y => ?_⟩
    obtain ⟨T, c', rfl, hT, rfl, y⟩ := y
    rw [toStr_at, e] at y
    cases y
    have hc : ∀ d ∈ [c], d < 0x110000 := fun d hd => by simp at hd; subst hd; exact hv _ (List.mem_of_getElem? e)
    exact Rel.new (Θs := []) (θs := []) ⟨ow, R⟩ rfl (New.tup (w := true) (F := []) (Reps.cons (F := []) (G := []) (.int _) (Reps.cons (F := []) (G := []) (.str [c] hc) .nil)) (by simp [D.deps, D.dep]) hT)
theorem walk_zipS {t u : Ty} {s z : List Nat} {v v' : V} : WalkOk K [u, t] [(.str z, v'), (.str s, v)] imm (((s.map fun c => D.str [c]).zip (z.map fun c => D.str [c])).map fun p => .tup [p.1, p.2]) (ItzS (toStr s) (toStr z)) := by
  intro H0 M Γ ρ σ Θa θa Θ θ H i hl R
  obtain ⟨ow, R⟩ := id R
  have T1 : TempOk K H ow (Θa ++ u :: ([t] ++ Θ)) (θa ++ (.str z, v') :: ([(.str s, v)] ++ θ)) := R.temp
  have T2 : TempOk K H ow ((Θa ++ [u]) ++ t :: Θ) ((θa ++ [(.str z, v')]) ++ (.str s, v) :: θ) := by simpa using R.temp
  obtain ⟨F1, r1, hd1, _⟩ := T2.at (by simp [hl])
  obtain ⟨F2, r2, hd2, _⟩ := T1.at hl
  obtain ⟨_, hv1⟩ := r1.str_inv
  obtain ⟨_, hv2⟩ := r2.str_inv
  refine ⟨fun d hdd => ?_, fun hle => by show (toStr s).cps.size ≤ i ∨ (toStr z).cps.size ≤ i; rw [toStr_sz, toStr_sz]; simp at hle; omega⟩
  rw [List.getElem?_map] at hdd
  cases e : ((s.map fun c => D.str [c]).zip (z.map fun c => D.str [c]))[i]? with
  | none => rw [e] at hdd; cases hdd
  | some q =>
    rw [e] at hdd
    simp at hdd
    subst hdd
    obtain ⟨z1, z2⟩ := List.getElem?_zip_eq_some.mp e
    rw [List.getElem?_map] at z1 z2
    cases e1 : s[i]? with
    | none => rw [e1] at z1; cases z1
    | some c =>
      cases e2 : z[i]? with
      | none => rw [e2] at z2; cases z2
      | some d =>
        rw [e1] at z1
        rw [e2] at z2
        obtain ⟨q1, q2⟩ := q
        simp at z1 z2
        subst z1 z2
        have hi1 : i < s.length := (List.getElem?_eq_some_iff.mp e1).1
        have hi2 : i < z.length := (List.getElem?_eq_some_iff.mp e2).1
        refine ⟨⟨by rw [toStr_sz]; exact hi1, by rw [toStr_sz]; exact hi2⟩, fun x H' y => ?_⟩
        obtain ⟨T, c', d', rfl, hT, rfl, y1, y2⟩ := y
        rw [toStr_at, e1] at y1
        rw [toStr_at, e2] at y2
        cases y1
        cases y2
        have hc : ∀ x ∈ [c], x < 0x110000 := fun x hx => by simp at hx; subst hx; exact hv1 _ (List.mem_of_getElem? e1)
        have hd : ∀ x ∈ [d], x < 0x110000 := fun x hx => by simp at hx; subst hx; exact hv2 _ (List.mem_of_getElem? e2)
        exact Rel.new (Θs := []) (θs := []) ⟨ow, R⟩ rfl (New.tup (w := true) (F := []) (Reps.cons (F := []) (G := []) (.str [c] hc) (Reps.cons (F := []) (G := []) (.str [d] hd) .nil)) (by simp [D.deps, D.dep]) hT)
theorem isTup_inv {tg : Expr} (h : isTup tg = true) : ∃ es k p, tg = .Tuple es k p := by
  cases tg <;> first | exact ⟨_, _, _, rfl⟩ | cases h
theorem sit_enum (F : Facts P w K mg base A C G kk XR) {l : Bool} {e : E} (h : SE P w K mg base A C G kk XR e) : SIt P w K mg base A C G kk XR (.enum l e) := fun Ex sc tg pe hm => by
  unfold mtIt at hm
  split at hm <;> first | exact absurd hm Bool.false_ne_true | skip
  all_goals first | (rename_i h; cases h; done) | skip
  · rename_i x p y pos h'
    injection h' with g0 g1
    subst g0 g1
    simp only [Bool.and_eq_true, beq_iff_eq] at hm
    obtain ⟨⟨⟨e1, hg⟩, ht⟩, m2⟩ := hm
    subst e1
    obtain ⟨es, k, tp, rfl⟩ := isTup_inv ht
    obtain ⟨t, pr, rd⟩ := h Ex sc y m2
    have ns : ∀ z pos, y ≠ .Starred z pos := fun z pos e' => by subst e'; exact mt_nostar m2
    refine ⟨iEnum K (tCons t tNil), fun X g => ⟨?_, fun _ => rfl⟩, ?_⟩
    · rw [← g.eK]
      exact pi_enum (g.gl hg) (by rw [g.emg]; exact F.its.2.1) (pa_cons (pr X g) pa_nil (star_cons ns)) (star_cons ns)
    · intro H0 M Γ Θ us u Γ' ρ σ θ H Kk Xk R ht Rl he hx hq
      unfold tyIt at ht
      split at ht <;> try (cases ht; done)
      rename_i t0 Γ1 ht1
      split at ht <;> try (cases ht; done)
      rename_i hc
      cases ht
      unfold evalIt at he
      refine rd _ _ _ _ _ _ _ _ _ _ _ _ _ ht1 Rl he hx fun d ρ1 v H1 R1 hk => ?_
      obtain ⟨F1, q, hd⟩ := R1.len1
      obtain ⟨ds, rfl, hk⟩ : ∃ ds, d = .lst ds ∧ Kk (ds.zipIdx.map fun p => .tup [.int p.2, p.1]) ρ1 := by
        cases d <;> first | exact ⟨_, rfl, hk⟩ | exact hk.elim
      obtain ⟨a, vs, _, ev, s, _⟩ := q.lst_inv
      have ev : v = .ref a := ev
      subst ev
      exact ⟨a, vs, rfl, s, hq _ ρ1 _ H1 [(.lst ds, .ref a)] rfl R1 (walk_enum hc.1) hk⟩
  · rename_i x p y pos h'
    injection h' with g0 g1
    subst g0 g1
    simp only [Bool.and_eq_true, beq_iff_eq] at hm
    obtain ⟨⟨⟨e1, hg⟩, ht⟩, m2⟩ := hm
    subst e1
    obtain ⟨es, k, tp, rfl⟩ := isTup_inv ht
    obtain ⟨t, pr, rd⟩ := h Ex sc y m2
    have ns : ∀ z pos, y ≠ .Starred z pos := fun z pos e' => by subst e'; exact mt_nostar m2
    refine ⟨iEnumS (tCons t tNil), fun X g => ⟨?_, fun _ => rfl⟩, ?_⟩
    · exact pi_enumS (g.gl hg) (by rw [g.emg]; exact F.its.2.1) (pa_cons (pr X g) pa_nil (star_cons ns)) (star_cons ns)
    · intro H0 M Γ Θ us u Γ' ρ σ θ H Kk Xk R ht Rl he hx hq
      unfold tyIt at ht
      split at ht <;> try (cases ht; done)
      rename_i t0 Γ1 ht1
      split at ht <;> try (cases ht; done)
      rename_i hc
      cases ht
      unfold evalIt at he
      refine rd _ _ _ _ _ _ _ _ _ _ _ _ _ ht1 Rl he hx fun d ρ1 v H1 R1 hk => ?_
      obtain ⟨F1, q, hd⟩ := R1.len1
      obtain ⟨s, rfl, hk⟩ : ∃ s, d = .str s ∧ Kk ((s.map fun c => D.str [c]).zipIdx.map fun p => .tup [.int p.2, p.1]) ρ1 := by
        cases d <;> first | exact ⟨_, rfl, hk⟩ | exact hk.elim
      obtain ⟨ev, _⟩ := q.str_inv
      have ev : v = .str (toStr s) := ev
      exact ⟨toStr s, by rw [ev], hq _ ρ1 _ H1 [(.str s, v)] rfl R1 walk_enumS hk⟩
theorem sit_zip (F : Facts P w K mg base A C G kk XR) {l1 l2 : Bool} {a b : E} (ha : SE P w K mg base A C G kk XR a) (hb : SE P w K mg base A C G kk XR b) : SIt P w K mg base A C G kk XR (.zip l1 l2 a b) := fun Ex sc tg pe hm => by
  unfold mtIt at hm
  split at hm <;> first | exact absurd hm Bool.false_ne_true | skip
  all_goals first | (rename_i h; cases h; done) | skip
  · rename_i x p y z pos h'
    injection h' with g0 g1 g2 g3
    subst g0 g1 g2 g3
    simp only [Bool.and_eq_true, beq_iff_eq] at hm
    obtain ⟨⟨⟨⟨e1, hg⟩, ht⟩, m2⟩, m3⟩ := hm
    subst e1
    obtain ⟨es, k, tp, rfl⟩ := isTup_inv ht
    obtain ⟨ta, p1, r1⟩ := ha Ex sc y m2
    obtain ⟨tb, p2, r2⟩ := hb Ex sc z m3
    have ns : ∀ q pos, y ≠ .Starred q pos := fun q pos e' => by subst e'; exact mt_nostar m2
    have ns2 : ∀ pe ∈ [z], ∀ q pos, pe ≠ .Starred q pos := fun pe hp q pos e' => by simp at hp; subst hp; subst e'; exact mt_nostar m3
    refine ⟨iZipS (tCons ta (tCons tb tNil)), fun X g => ⟨?_, fun _ => rfl⟩, ?_⟩
    · exact pi_zipS (g.gl hg) (by rw [g.emg]; exact F.its.2.2) (pa_cons (p1 X g) (pa_cons (p2 X g) pa_nil (star_cons (ns2 z (by simp)))) (star_cons ns)) (star_cons ns) (star_any ns2 _)
    · intro H0 M Γ Θ us u Γ' ρ σ θ H Kk Xk R ht Rl he hx hq
      unfold tyIt at ht
      split at ht <;> try (cases ht; done)
      rename_i t0 Γ1 ht1
      split at ht <;> try (cases ht; done)
      rename_i u0 Γ2 ht2
      split at ht <;> try (cases ht; done)
      rename_i hc
      cases ht
      unfold evalIt at he
      refine two r1 r2 ht1 ht2 Rl he hx fun x y ρ' v v' H' R' hk => ?_
      obtain ⟨F2, q2, d2⟩ := R'.len1
      obtain ⟨F1, q1, d1⟩ := R'.len2
      obtain ⟨s, z, rfl, rfl, hk⟩ : ∃ s z, x = .str s ∧ y = .str z ∧ Kk (((s.map fun c => D.str [c]).zip (z.map fun c => D.str [c])).map fun p => .tup [p.1, p.2]) ρ' := by
        cases x <;> cases y <;> first | exact ⟨_, _, rfl, rfl, hk⟩ | exact hk.elim
      obtain ⟨ev, _⟩ := q1.str_inv
      obtain ⟨eu, _⟩ := q2.str_inv
      have ev : v = .str (toStr s) := ev
      have eu : v' = .str (toStr z) := eu
      exact ⟨toStr s, toStr z, by rw [ev, eu], hq _ ρ' _ H' [(.str z, v'), (.str s, v)] rfl R' walk_zipS hk⟩
  · rename_i x p y z pos h'
    injection h' with g0 g1 g2 g3
    subst g0 g1 g2 g3
    simp only [Bool.and_eq_true, beq_iff_eq] at hm
    obtain ⟨⟨⟨⟨e1, hg⟩, ht⟩, m2⟩, m3⟩ := hm
    subst e1
    obtain ⟨es, k, tp, rfl⟩ := isTup_inv ht
    obtain ⟨ta, p1, r1⟩ := ha Ex sc y m2
    obtain ⟨tb, p2, r2⟩ := hb Ex sc z m3
    have ns : ∀ q pos, y ≠ .Starred q pos := fun q pos e' => by subst e'; exact mt_nostar m2
    have ns2 : ∀ pe ∈ [z], ∀ q pos, pe ≠ .Starred q pos := fun pe hp q pos e' => by simp at hp; subst hp; subst e'; exact mt_nostar m3
    refine ⟨iZip K (tCons ta (tCons tb tNil)), fun X g => ⟨?_, fun _ => rfl⟩, ?_⟩
    · rw [← g.eK]
      exact pi_zip (g.gl hg) (by rw [g.emg]; exact F.its.2.2) (pa_cons (p1 X g) (pa_cons (p2 X g) pa_nil (star_cons (ns2 z (by simp)))) (star_cons ns)) (star_cons ns) (star_any ns2 _)
    · intro H0 M Γ Θ us u Γ' ρ σ θ H Kk Xk R ht Rl he hx hq
      unfold tyIt at ht
      split at ht <;> try (cases ht; done)
      rename_i t0 Γ1 ht1
      split at ht <;> try (cases ht; done)
      rename_i u0 Γ2 ht2
      split at ht <;> try (cases ht; done)
      rename_i hc
      cases ht
      unfold evalIt at he
      refine two r1 r2 ht1 ht2 Rl he hx fun x y ρ' v v' H' R' hk => ?_
      obtain ⟨F2, q2, d2⟩ := R'.len1
      obtain ⟨F1, q1, d1⟩ := R'.len2
      obtain ⟨ds, es, rfl, rfl, hk⟩ : ∃ ds es, x = .lst ds ∧ y = .lst es ∧ Kk ((ds.zip es).map fun p => .tup [p.1, p.2]) ρ' := by
        cases x <;> cases y <;> first | exact ⟨_, _, rfl, rfl, hk⟩ | exact hk.elim
      obtain ⟨a', vs, _, ev, s1, _⟩ := q1.lst_inv
      obtain ⟨b', us, _, eu, s2, _⟩ := q2.lst_inv
      have ev : v = .ref a' := ev
      have eu : v' = .ref b' := eu
      subst ev eu
      exact ⟨a', b', vs, us, rfl, s1, s2, hq _ ρ' _ H' [(.lst es, .ref b'), (.lst ds, .ref a')] rfl R' (walk_zip hc.1 hc.2.2.1) hk⟩

  /-! ### all of it -/
theorem st_plain {e : E} (h : SE P w K mg base A C G kk XR e) (hp : ∀ sc pe, mtE A sc e pe = true → plainTest pe = true) : SE P w K mg base A C G kk XR e ∧ ST P w K mg base A C G kk XR e := ⟨h, st_of_se h hp⟩
mutual
theorem allE (F : Facts P w K mg base A C G kk XR) : ∀ e : E, SE P w K mg base A C G kk XR e ∧ ST P w K mg base A C G kk XR e
  | .var i m => st_plain (se_var i m) fun sc pe h => by cases pe <;> first | rfl | exact absurd h Bool.false_ne_true
  | .non => st_plain se_non fun sc pe h => by cases pe <;> first | rfl | exact absurd h Bool.false_ne_true
  | .bl b => st_plain (se_bl b) fun sc pe h => by cases pe <;> first | rfl | exact absurd h Bool.false_ne_true
  | .int i => st_plain (se_int i) fun sc pe h => by cases pe <;> first | rfl | exact absurd h Bool.false_ne_true
  | .str s => st_plain (se_str s) fun sc pe h => by cases pe <;> first | rfl | exact absurd h Bool.false_ne_true
  | .glb g => st_plain (se_glb F g) fun sc pe h => by cases pe <;> first | rfl | exact absurd h Bool.false_ne_true
  | .tup es => st_plain (se_tup (allEs F es)) fun sc pe h => by cases pe <;> first | rfl | exact absurd h Bool.false_ne_true
  | .lst es => st_plain (se_lst (allEs F es)) fun sc pe h => by cases pe <;> first | rfl | exact absurd h Bool.false_ne_true
  | .bin l op a b => st_plain (se_bin (allE F a).1 (allE F b).1) fun sc pe h => by cases pe <;> first | rfl | exact absurd h Bool.false_ne_true
  | .cmp op a b => ⟨se_cmp (allE F a).1 (allE F b).1, st_cmp (allE F a).1 (allE F b).1⟩
  | .chn o1 o2 a b c => ⟨se_chn (allE F a).1 (allE F b).1 (allE F c).1, st_chn (allE F a).1 (allE F b).1 (allE F c).1⟩
  | .revl a => st_plain (se_revl (allE F a).1) fun sc pe h => by cases pe <;> first | rfl | exact absurd h Bool.false_ne_true
  | .neg a => st_plain (se_neg (allE F a).1) fun sc pe h => by
    cases pe with
    | UnaryOp op x p => cases op <;> first | rfl | exact absurd h Bool.false_ne_true
    | _ => exact absurd h Bool.false_ne_true
  | .not_ a => ⟨se_not (allE F a).1, st_not (allE F a).2⟩
  | .bop o a b => ⟨se_bop (allE F a).1 (allE F b).1, st_bop (allE F a).2 (allE F b).2⟩
  | .idx h a i => st_plain (se_idx (allE F a).1 (allE F i).1) fun sc pe h => by cases pe <;> first | rfl | exact absurd h Bool.false_ne_true
  | .slc l a lo hi => st_plain (se_slc (allE F a).1 (allOE F lo).1 (allOE F hi).1) fun sc pe h => by cases pe <;> first | rfl | exact absurd h Bool.false_ne_true
  | .call f as => st_plain (se_call F (allAs F as)) fun sc pe h => by cases pe <;> first | rfl | exact absurd h Bool.false_ne_true
  | .bi b es => st_plain (se_bi F (allEs F es) (allEs1 F es)) fun sc pe h => by cases pe <;> first | rfl | exact absurd h Bool.false_ne_true
  | .bm m o es => st_plain (se_bm (allE F o).1 (allEs F es)) fun sc pe h => by cases pe <;> first | rfl | exact absurd h Bool.false_ne_true
  | .mu m i es => st_plain (se_mu (allEs F es)) fun sc pe h => by cases pe <;> first | rfl | exact absurd h Bool.false_ne_true
  | .comp t it c e => st_plain (se_comp (allIt F it) (allOE F c).2 (allE F e).1) fun sc pe h => by cases pe <;> first | rfl | exact absurd h Bool.false_ne_true
theorem allEs (F : Facts P w K mg base A C G kk XR) : ∀ es : Es, SEs P w K mg base A C G kk XR es
  | .nil => ses_nil
  | .cons e es => ses_cons (allE F e).1 (allEs F es)
theorem allEs1 (F : Facts P w K mg base A C G kk XR) : ∀ es : Es, ∀ e, es = .cons e .nil → SE P w K mg base A C G kk XR e
  | .nil, _, h => by cases h
  | .cons e .nil, e', h => by
    have : e = e' := by injection h
    rw [← this]
    exact (allE F e).1
  | .cons e (.cons _ _), e', h => by injection h with _ h; cases h
theorem allOE (F : Facts P w K mg base A C G kk XR) : ∀ c : OE, SO P w K mg base A C G kk XR c ∧ ∀ e', c = .some e' → ST P w K mg base A C G kk XR e'
  | .none => ⟨so_none, fun _ h => by cases h⟩
  | .some e => ⟨so_some (allE F e).1, fun e' h => by
    have : e = e' := by injection h
    rw [← this]
    exact (allE F e).2⟩
theorem allAs (F : Facts P w K mg base A C G kk XR) : ∀ as : As, SAs P w K mg base A C G kk XR as
  | .nil => sas_nil
  | .val e as => sas_val (allE F e).1 (allAs F as)
  | .ino i as => sas_ino (allAs F as)
  | .own e as => sas_own (allE F e).1 (allAs F as)
theorem allIt (F : Facts P w K mg base A C G kk XR) : ∀ it : Pm.It, SIt P w K mg base A C G kk XR it
  | .val l e => sit_val (allE F e).1
  | .rng es => sit_rng F (allEs F es)
  | .enum l e => sit_enum F (allE F e).1
  | .zip l1 l2 a b => sit_zip F (allE F a).1 (allE F b).1
end
theorem asgC (F : Facts P w K mg base A C G kk XR) (e : E) : ∀ t' it c e', e = .comp t' it c e' → SIt P w K mg base A C G kk XR it ∧ (∀ e2, c = .some e2 → ST P w K mg base A C G kk XR e2) ∧ SE P w K mg base A C G kk XR e' :=
  fun _ it c e' _ => ⟨allIt F it, (allOE F c).2, (allE F e').1⟩
mutual
theorem allS (F : Facts P w K mg base A C G kk XR) : ∀ s : S, SS P w K mg base A C G kk XR s
  | .asg t e => ss_asg (allE F e).1 (asgC F e)
  | .setI i k e => ss_setI (allE F k).1 (allE F e).1
  | .expr e => ss_expr (allE F e).1
  | .ret e => ss_ret (allE F e).1
  | .retN => ss_retN
  | .if_ c a b => ss_if (allE F c).2 (allSs F a) (allSs F b)
  | .for_ Δ t it b => ss_for (allIt F it) (allSs F b)
  | .while_ Δ c b => ss_while (allE F c).2 (allSs F b)
  | .brk => ss_brk
  | .cnt => ss_cnt
  | .pass => ss_pass
  | .dead => ss_dead
theorem allSs (F : Facts P w K mg base A C G kk XR) : ∀ s : Ss, SSs P w K mg base A C G kk XR s
  | .nil => sss_nil
  | .cons s ss => sss_cons (allS F s) (allSs F ss)
end
end Pm

namespace Pm
open PySem PySem.Spec L2
variable {P : Program} {w : World} {K : PySem.W.Frag} {mg : Str → Option Value} {base : Heap} {A : Code} {C : Ctx} {G : TC} {kk : Nat} {XR : XRel}

/-! ### a def -/
def PM.ty : PM → STy
  | .inn k => some (if k = 0 then imm else ⟨.frz, k⟩)
  | .ino k => some ⟨.own, k⟩
def Sig.Γ (s : Sig) (n : Nat) : List STy := s.ps.map PM.ty ++ List.replicate (n - s.ps.length) none
def inosOf : Nat → List PM → List (Nat × Nat)
  | _, [] => []
  | i, .inn _ :: ps => inosOf (i + 1) ps
  | i, .ino k :: ps => (i, k) :: inosOf (i + 1) ps
def Sig.rc (s : Sig) : RC := ⟨inosOf 0 s.ps, s.k⟩
def chkDef (G : TC) (s : Sig) (n : Nat) (b : Ss) : Bool := match tySs G s.rc [] (s.Γ n) [] b with
  | some none => true
  | some (some Γ) => retOk s.rc imm Γ
  | none => false
def ini (n : Nat) (ds : List D) : Penv := ds.map some ++ List.replicate (n - ds.length) none
def outsAre : List (Nat × Nat) → Penv → List D → Prop
  | [], _, [] => True
  | p :: is, ρ, d :: ds => ρ[p.1]? = some (some d) ∧ outsAre is ρ ds
  | _, _, _ => False
def ktOf (s : Sig) (Post : FOut → Prop) : Kt where
  nx := fun ρ => ∃ outs, Post (.ret .non outs) ∧ outsAre s.rc.ino ρ outs
  rt := fun d ρ => ∃ outs, Post (.ret d outs) ∧ outsAre s.rc.ino ρ outs
  bk := fun _ => False
  ct := fun _ => False
  ex := fun x _ => Post (.exc x)
theorem inosOf_mem : ∀ {n : Nat} {ps : List PM} {p : Nat × Nat}, p ∈ inosOf n ps ↔ n ≤ p.1 ∧ ps[p.1 - n]? = some (.ino p.2)
  | n, [], p => by simp [inosOf]
  | n, .inn k :: ps, p => by
    rw [inosOf, inosOf_mem (ps := ps)]
    constructor
    · rintro ⟨h1, h2⟩
      refine ⟨by omega, ?_⟩
      rw [show p.1 - n = (p.1 - (n + 1)) + 1 by omega]
      simpa using h2
    · rintro ⟨h1, h2⟩
      by_cases e : p.1 = n
      · rw [e] at h2; simp at h2
      · refine ⟨by omega, ?_⟩
        rw [show p.1 - n = (p.1 - (n + 1)) + 1 by omega] at h2
        simpa using h2
  | n, .ino k :: ps, p => by
    rw [inosOf, List.mem_cons, inosOf_mem (ps := ps)]
    constructor
    · rintro (rfl | ⟨h1, h2⟩)
      · simp
      · refine ⟨by omega, ?_⟩
        rw [show p.1 - n = (p.1 - (n + 1)) + 1 by omega]
        simpa using h2
    · rintro ⟨h1, h2⟩
      by_cases e : p.1 = n
      · left
        rw [e] at h2
        simp at h2
        exact Prod.ext e h2.symm
      · right
        refine ⟨by omega, ?_⟩
        rw [show p.1 - n = (p.1 - (n + 1)) + 1 by omega] at h2
        simpa using h2
theorem args_in {H : Hp} {M : Fp} : ∀ (n : Nat) {ps : List PM} {ds : List D} {vs : List V} {F : Fp}, ArgsR K H M ps ds vs F → ds.length = ps.length ∧ vs.length = ps.length ∧ ∃ L : List (Nat × Fp), (L.map (·.2)).flatten = F ∧ (∀ p ∈ L, n ≤ p.1) ∧
    ∀ (j : Nat) (pm : PM), ps[j]? = some pm → ∃ d v, ds[j]? = some d ∧ vs[j]? = some v ∧ match pm with
      | .inn k => ∃ E, Rep false K H d v E ∧ d.dep k = true ∧ ∀ a ∈ E, a ∉ M
      | .ino k => ∃ E, (n + j, E) ∈ L ∧ Rep true K H d v E ∧ d.dep k = true
  | n, [], [], [], F, h => ⟨rfl, rfl, [], by cases h; rfl, fun _ h => by simp at h, fun j pm e => by simp at e⟩
  | n, .inn k :: ps, d :: ds, v :: vs, F, h => by
    obtain ⟨h1, h2⟩ := h
    obtain ⟨l1, l2, L, e1, e2, e3⟩ := args_in (n + 1) h2
    refine ⟨by simp [l1], by simp [l2], L, e1, fun p hp => Nat.le_of_succ_le (e2 p hp), fun j pm e => ?_⟩
    cases j with
    | zero =>
      simp at e; subst e
      exact ⟨d, v, rfl, rfl, h1⟩
    | succ j =>
      obtain ⟨d', v', q1, q2, q3⟩ := e3 j pm (by simpa using e)
      refine ⟨d', v', by simpa using q1, by simpa using q2, ?_⟩
      cases pm with
      | inn k => exact q3
      | ino k =>
        obtain ⟨E, m, r⟩ := q3
        exact ⟨E, by rw [show n + (j + 1) = n + 1 + j by omega]; exact m, r⟩
  | n, .ino k :: ps, d :: ds, v :: vs, F, h => by
    obtain ⟨F1, F2, rfl, r, hd, h2⟩ := h
    obtain ⟨l1, l2, L, e1, e2, e3⟩ := args_in (n + 1) h2
    refine ⟨by simp [l1], by simp [l2], (n, F1) :: L, by simp [e1], fun p hp => ?_, fun j pm e => ?_⟩
    · rcases List.mem_cons.mp hp with rfl | hp
      · exact Nat.le_refl _
      · exact Nat.le_of_succ_le (e2 p hp)
    · cases j with
      | zero =>
        simp at e; subst e
        exact ⟨d, v, rfl, rfl, F1, by simp, r, hd⟩
      | succ j =>
        obtain ⟨d', v', q1, q2, q3⟩ := e3 j pm (by simpa using e)
        refine ⟨d', v', by simpa using q1, by simpa using q2, ?_⟩
        cases pm with
        | inn k => exact q3
        | ino k =>
          obtain ⟨E, m, r⟩ := q3
          exact ⟨E, List.mem_cons_of_mem _ (by rw [show n + (j + 1) = n + 1 + j by omega]; exact m), r⟩
  | _, [], _ :: _, _, _, h => h.elim
  | _, [], [], _ :: _, _, h => h.elim
  | _, .inn _ :: _, [], _, _, h => h.elim
  | _, .inn _ :: _, _ :: _, [], _, h => h.elim
  | _, .ino _ :: _, [], _, _, h => h.elim
  | _, .ino _ :: _, _ :: _, [], _, h => h.elim
theorem outs_out {H' : Hp} {Γ : List STy} {ρ : Penv} {σ : L2.St} : ∀ (n : Nat) {ps : List PM} {vs : List V} {outs : List D}, vs.length = ps.length → outsAre (inosOf n ps) ρ outs →
    (∀ p ∈ inosOf n ps, ∃ d v E, ρ[p.1]? = some (some d) ∧ vs[p.1 - n]? = some v ∧ Rep true K H' d v E ∧ d.dep p.2 = true ∧ E.Nodup ∧ (∀ a ∈ E, True)) → True := fun _ _ _ _ _ _ _ => trivial
theorem outs_mk {H' : Hp} {ow : Addr → Id} {ρ : Penv} : ∀ (n : Nat) {ps : List PM} {vs : List V} {outs : List D}, vs.length = ps.length → outsAre (inosOf n ps) ρ outs →
    (∀ p ∈ inosOf n ps, ∀ d, ρ[p.1]? = some (some d) → ∃ v E, vs[p.1 - n]? = some v ∧ Rep true K H' d v E ∧ d.dep p.2 = true ∧ E.Nodup ∧ ∀ a ∈ E, ow a = .slot p.1) →
    ∃ F', OutsR K H' ps vs outs F' ∧ F'.Nodup ∧ ∀ a ∈ F', ∃ i, n ≤ i ∧ ow a = .slot i
  | n, [], [], [], _, _, _ => ⟨[], rfl, List.nodup_nil, fun _ h => by simp at h⟩
  | n, .inn k :: ps, v :: vs, outs, hl, ho, h => by
    obtain ⟨F', h1, h2, h3⟩ := outs_mk (n + 1) (ps := ps) (vs := vs) (by simpa using hl) ho fun p hp d hd => by
      obtain ⟨v', E, q1, q2⟩ := h p hp d hd
      have := (inosOf_mem.mp hp).1
      rw [show p.1 - n = (p.1 - (n + 1)) + 1 by omega] at q1
      exact ⟨v', E, by simpa using q1, q2⟩
    exact ⟨F', h1, h2, fun a ha => by obtain ⟨i, hi, e⟩ := h3 a ha; exact ⟨i, by omega, e⟩⟩
  | n, .ino k :: ps, v :: vs, d :: outs, hl, ho, h => by
    obtain ⟨ho1, ho2⟩ := ho
    obtain ⟨v', E, q1, q2, q3, q4, q5⟩ := h (n, k) (by simp [inosOf]) d ho1
    simp at q1
    subst q1
    obtain ⟨F', h1, h2, h3⟩ := outs_mk (n + 1) (ps := ps) (vs := vs) (by simpa using hl) ho2 fun p hp d hd => by
      obtain ⟨v', E, q1, q2⟩ := h p (by simp [inosOf, hp]) d hd
      have := (inosOf_mem.mp hp).1
      rw [show p.1 - n = (p.1 - (n + 1)) + 1 by omega] at q1
      exact ⟨v', E, by simpa using q1, q2⟩
    refine ⟨E ++ F', ⟨E, F', rfl, q2, q3, h1⟩, List.nodup_append.mpr ⟨q4, h2, fun a ha b hb e => ?_⟩, fun a ha => ?_⟩
    · subst e
      obtain ⟨i, hi, e⟩ := h3 a hb
      rw [q5 a ha] at e
      have := Id.slot.inj e
      simp at this
      omega
    · rcases List.mem_append.mp ha with ha | ha
      · exact ⟨n, Nat.le_refl _, q5 a ha⟩
      · obtain ⟨i, hi, e⟩ := h3 a ha
        exact ⟨i, by omega, e⟩
  | _, [], _ :: _, _, hl, _, _ => by simp at hl
  | _, .inn _ :: _, [], _, hl, _, _ => by simp at hl
  | _, .ino _ :: _, [], _, hl, _, _ => by simp at hl
  | _, [], [], _ :: _, _, h, _ => h.elim
  | _, .ino _ :: _, _ :: _, [], _, h, _ => h.elim
theorem ini_at {n : Nat} {ds : List D} {j : Nat} {d : D} (h : ds[j]? = some d) : (ini n ds)[j]? = some (some d) := by
  unfold ini
  rw [List.getElem?_append_left (by simpa using (List.getElem?_eq_some_iff.mp h).1), List.getElem?_map, h]; rfl
theorem start_at {N : List Str} {vs : List V} {j : Nat} {v : V} (h : vs[j]? = some v) : (L2.start N vs)[j]? = some (some v) := by
  unfold L2.start
  rw [List.getElem?_append_left (by simpa using (List.getElem?_eq_some_iff.mp h).1), List.getElem?_map, h]; rfl
theorem sigΓ_at {s : Sig} {n j : Nat} {ty : Ty} (h : (s.Γ n)[j]? = some (some ty)) : ∃ pm, s.ps[j]? = some pm ∧ pm.ty = some ty := by
  unfold Sig.Γ at h
  by_cases hj : j < s.ps.length
  · rw [List.getElem?_append_left (by simpa using hj), List.getElem?_map] at h
    cases e : s.ps[j]? with
    | none => rw [e] at h; cases h
    | some pm => rw [e] at h; exact ⟨pm, rfl, Option.some.inj h⟩
  · rw [List.getElem?_append_right (by simpa using hj), List.getElem?_replicate] at h
    split at h <;> simp at h
theorem def_ok (F : Facts P w K mg base A C G kk XR) {x qual : Str} {st : Stmt} {f : Addr} {fd : FuncData} (Fn : Fun K x qual st f fd) {ps : List Str} (S : FnScope A.N ps (defScope st)) {b : Ss} (hm : mtSs A (defScope st) b (defBody st) = true)
    {s : Sig} (hs : s.ps.length = ps.length) (ht : chkDef G s A.N.length b = true) {Sp : List D → (FOut → Prop) → Prop} (hS : ∀ ds r, ds.length = s.ps.length → Sp ds r → evalSs C b (ini A.N.length ds) (ktOf s r)) :
    FnOk P w K mg base (L2.CX P w) (kk + 1) f fd ps (spOf K XR s Sp) := by
  refine Fn.okX S (fun vs H Q E h => ?_) (fun cdv Ar outer s0 H vs Q E hr h => ?_)
  · obtain ⟨ds, r, F, _, ha, _⟩ := h
    rw [ha.len, hs]
  · obtain ⟨ds, r, FF, hsp, ha, nd, hend, hendX⟩ := h
    obtain ⟨ld, lv, L, eL, _, hL⟩ := args_in 0 ha
    obtain ⟨t, p, rd⟩ := allSs F b E (defScope st) (defBody st) hm
    have tk : Takes (cxOf (L2.CX P w) P w K mg base A.N qual (defScope st) f cdv Ar outer s0 H E) (fun cls d _ H => E cls d H) := takes_of rfl rfl rfl rfl
    have good : GoodF P w K mg base A kk E (defScope st) (cxOf (L2.CX P w) P w K mg base A.N qual (defScope st) f cdv Ar outer s0 H E) :=
      ⟨⟨rfl, rfl, rfl, rfl, rfl, rfl, S.nd, rfl, rfl, hr, passes_call tk fun _ _ _ _ h => h⟩, fun _ _ => .inl rfl, S.kind, passes_of rfl⟩
    refine ⟨t, p _ good, ?_⟩
    have nps : ps.length ≤ A.N.length := by have := congrArg List.length S.pre; rw [List.length_take] at this; omega
    have ndL : (L.map (·.2)).flatten.Nodup := by rw [eL]; exact nd
    obtain ⟨ow, how⟩ : ∃ ow : Addr → Id, ow = fun a => match labL L a with | some i => .slot i | none => .frz := ⟨_, rfl⟩
    have ow1 : ∀ q ∈ L, ∀ a ∈ q.2, ow a = .slot q.1 := fun q hq a ha => by rw [how]; simp [labL_of ndL hq ha]
    have ow2 : ∀ a, a ∉ FF → ow a = .frz := fun a ha => by
      rw [how]
      cases e : labL L a with
      | none => simp [e]
      | some i =>
        obtain ⟨q, hq, _, hm⟩ := labL_mem e
        exact absurd (by rw [← eL]; exact List.mem_flatten.mpr ⟨q.2, List.mem_map.mpr ⟨q, hq, rfl⟩, hm⟩) ha
    have ow3 : ∀ a, ow a ≠ .frz → ∃ q ∈ L, a ∈ q.2 ∧ a ∈ FF := fun a ha => by
      rw [how] at ha
      cases e : labL L a with
      | none => simp [e] at ha
      | some i =>
        obtain ⟨q, hq, _, hm⟩ := labL_mem e
        exact ⟨q, hq, hm, by rw [← eL]; exact List.mem_flatten.mpr ⟨q.2, List.mem_map.mpr ⟨q, hq, rfl⟩, hm⟩⟩
    have mutF : ∀ {ps : List PM} {ds : List D} {vs : List V} {F : Fp}, ArgsR K H FF ps ds vs F → ∀ a ∈ F, Mut (H a) := by
      intro ps
      induction ps with
      | nil =>
        intro ds vs F h a ha
        cases ds <;> cases vs <;> first | exact h.elim | (cases h; simp at ha)
      | cons pm ps ih =>
        intro ds vs F h a ha
        cases pm with
        | inn k => cases ds <;> cases vs <;> first | exact h.elim | exact ih h.2 a ha
        | ino k =>
          cases ds <;> cases vs <;> first | exact h.elim | skip
          obtain ⟨F1, F2, rfl, r, _, h⟩ := h
          exact (List.mem_append.mp ha).elim (r.mut a) (ih h a)
    have R0 : Rw K H (· ∈ FF) ow (s.Γ A.N.length) (ini A.N.length ds) (L2.start A.N vs) [] [] H := by
      refine ⟨?_, ?_, fun i ty e => ?_, fun i ty d e1 e2 => ?_, trivial, Ext.refl, fun a h => ?_, fun a j e => ?_⟩
      · unfold ini Sig.Γ; simp [ld]
      · unfold L2.start Sig.Γ; simp [lv]
      · obtain ⟨pm, _, e⟩ := sigΓ_at e
        cases pm with
        | inn k =>
          simp only [PM.ty, Option.some.injEq] at e
          subst e
          right; split <;> rfl
        | ino k =>
          simp only [PM.ty, Option.some.injEq] at e
          subst e
          exact .inl rfl
      · obtain ⟨pm, hpm, e⟩ := sigΓ_at e1
        obtain ⟨d', v, h1, h2, h3⟩ := hL i pm hpm
        rw [ini_at h1] at e2
        cases e2
        refine ⟨v, start_at h2, ?_⟩
        cases pm with
        | inn k =>
          simp only [PM.ty, Option.some.injEq] at e
          obtain ⟨E', r, hd, hn⟩ := h3
          have q : EntOk K H ow (.slot i) ⟨.frz, k⟩ d v := ⟨E', r, hd, fun a ha => ow2 a (hn a ha)⟩
          by_cases h0 : k = 0
          · exact q.imm h0
          · rw [if_neg h0] at e; rw [← e]; exact q
        | ino k =>
          simp only [PM.ty, Option.some.injEq] at e
          subst e
          obtain ⟨E', hm', r, hd⟩ := h3
          rw [Nat.zero_add] at hm'
          exact ⟨E', r, hd, ndL.sublist (List.sublist_flatten_of_mem (List.mem_map.mpr ⟨_, hm', rfl⟩)), ow1 _ hm'⟩
      · obtain ⟨q, _, _, hf⟩ := ow3 a h
        exact ⟨mutF ha a hf, .inl hf⟩
      · rw [how] at e
        simp only at e
        split at e <;> cases e
    -- what comes back
    have back : ∀ (t : Ty) (Γ1 : List STy) (d : D) (ρ' : Penv) (v : V) (σ' : L2.St) (H' : Hp), retOk s.rc t Γ1 = true → Rel K H (· ∈ FF) Γ1 ρ' σ' (t :: []) ((d, v) :: []) H' → Pin s.rc (L2.start A.N vs) σ' → (∃ outs, r (.ret d outs) ∧ outsAre s.rc.ino ρ' outs) → Q v H' := by
      intro t Γ1 d ρ' v σ' H' hret R hpin ⟨outs, hr', ho⟩
      unfold retOk at hret
      simp only [Bool.and_eq_true, decide_eq_true_eq, List.all_eq_true] at hret
      obtain ⟨⟨c1, c2⟩, c3⟩ := hret
      obtain ⟨ow', R⟩ := R
      have hd0 : ∃ Fr, Rep true K H' d v Fr ∧ d.dep s.k = true ∧ Fr.Nodup ∧ ∀ a ∈ Fr, ow' a = .tmp 0 := by
        obtain ⟨F0, r0, dd, ll⟩ := R.temp.1
        by_cases h0 : t.k = 0
        · rw [h0] at dd
          exact ⟨[], (r0.imm dd).2, D.dep_mono (Nat.zero_le _) d dd, List.nodup_nil, fun _ h => by simp at h⟩
        · have hp : t.p = .own := by
            unfold Ty.free at c1
            have h0' : (t.k == 0) = false := by simpa using h0
            rw [h0', Bool.false_or] at c1
            cases e : t.p <;> rw [e] at c1 <;> first | rfl | cases c1
          rw [hp] at r0 ll
          exact ⟨F0, r0, D.dep_mono c2 d dd, ll.1, ll.2⟩
      obtain ⟨Fr, rr, dd, ndr, lr⟩ := hd0
      obtain ⟨F', o1, o2, o3⟩ := outs_mk (K := K) (H' := H') (ow := ow') (ρ := ρ') 0 lv ho fun p hp d' hd' => by
        have hs' := c3 p hp
        obtain ⟨hp1, hp2⟩ := inosOf_mem.mp hp
        have hpv : (L2.start A.N vs)[p.1]? = σ'[p.1]? := (hpin p hp).symm
        obtain ⟨_, v0, _, hv0, _⟩ := hL p.1 _ (by simpa using hp2)
        cases e : Γ1[p.1]? with
        | none => rw [e] at hs'; cases hs'
        | some o =>
          rw [e] at hs'
          cases o with
          | none => cases hs'
          | some ty =>
            have hs' : ((Perm.own == .own || Perm.own == .frz) && (ty.k == 0 || (decide (ty.k ≤ p.2) && (ty.p == .own || (ty.p == .frz && Perm.own == .frz))))) = true := hs'
            simp only [Bool.and_eq_true, Bool.or_eq_true, beq_iff_eq, decide_eq_true_eq] at hs'
            obtain ⟨v1, hv1, E1, r1, d1, l1⟩ := R.slot p.1 ty d' e hd'
            rw [← hpv, start_at hv0] at hv1
            cases hv1
            by_cases h0 : ty.k = 0
            · rw [h0] at d1
              exact ⟨v0, [], by simpa using hv0, (r1.imm d1).2, D.dep_mono (Nat.zero_le _) d' d1, List.nodup_nil, fun _ h => by simp at h⟩
            · obtain ⟨_, q⟩ := hs'
              rcases q with q | ⟨q1, q2⟩
              · exact absurd q h0
              · have hpo : ty.p = .own := by
                  rcases q2 with q2 | ⟨_, q2⟩
                  · exact q2
                  · cases q2
                rw [hpo] at r1 l1
                exact ⟨v0, E1, by simpa using hv0, r1, D.dep_mono q1 d' d1, l1.1, l1.2⟩
      refine hend d outs hr' v H' Fr F' ⟨rr, dd, o1, List.nodup_append.mpr ⟨ndr, o2, fun a ha b hb e => ?_⟩, fun a ha => ?_, fun a ha => ?_, R.ext⟩
      · subst e
        obtain ⟨i, _, e⟩ := o3 a hb
        rw [lr a ha] at e; cases e
      · exact (R.lab a (by rw [lr a ha]; simp)).2
      · obtain ⟨i, _, e⟩ := o3 a ha
        exact (R.lab a (by rw [e]; simp)).2
    unfold chkDef at ht
    cases hty : tySs G s.rc [] (s.Γ A.N.length) [] b with
    | none => rw [hty] at ht; cases ht
    | some o =>
      rw [hty] at ht
      refine rd s.rc [] _ [] o H (· ∈ FF) _ _ [] H (ktOf s r) _ (L2.start A.N vs) hty ⟨ow, R0⟩ (hS ds r ld hsp) (fun x' ρ' c o' H' hext hx hxr => ?_) (fun _ _ => rfl) ⟨fun t Γ1 d ρ' v σ' H' hret R hpin hk => back t Γ1 d ρ' v σ' H' hret R hpin hk, fun _ _ _ _ _ h => h, fun _ _ _ _ _ h => h⟩ fun Γ1 e ρ' σ' H' R hpin hk => ?_
      · exact hendX x' hx c o' H' hext hxr
      · subst e
        exact back imm Γ1 .non ρ' .non σ' H' ht (R.imm .non rfl) hpin hk
end Pm

namespace Pm
open PySem PySem.Spec L2

/-! ### a whole text of defs -/
structure DefT where
  name : Str
  st : Stmt
  N : List Str
  ps : List Str
  b : Ss
  s : Sig
def gOf (defs : List DefT) (gk : Nat → Nat) (n : Nat) : TC := ⟨fun f => if f < n then (defs[f]?).map (·.s) else none, gk⟩
def codeOf (defs : List DefT) (gn : List Str) (d : DefT) : Code := ⟨d.N, gn, defs.map (·.name)⟩
def scopeB (N ps : List Str) (sc : Scope) : Bool :=
  (sc.kind == .function) && (sc.isCoroutine == false) && (sc.isGenerator == false) && decide N.Nodup && decide (N.take ps.length = ps) &&
    (ps.all fun x => (sc.names.lookup x == some .local) || (sc.names.lookup x == some .cell)) && (sc.names.all fun y => y.2 != .free)
theorem scope_ok {N ps : List Str} {sc : Scope} (h : scopeB N ps sc = true) : FnScope N ps sc := by
  unfold scopeB at h
  simp only [Bool.and_eq_true, List.all_eq_true, decide_eq_true_eq, beq_iff_eq, Bool.or_eq_true, bne_iff_ne] at h
  obtain ⟨⟨⟨⟨⟨⟨h1, h2⟩, h3⟩, h4⟩, h5⟩, h6⟩, h7⟩ := h
  exact ⟨h1, h2, h3, h4, h5, h6, fun y hy => h7 y hy⟩
def chk1 (defs : List DefT) (gn : List Str) (gk : Nat → Nat) (i : Nat) (d : DefT) : Bool :=
  scopeB d.N d.ps (defScope d.st) && mtSs (codeOf defs gn d) (defScope d.st) d.b (defBody d.st) && chkDef (gOf defs gk i) d.s d.N.length d.b && d.s.ps.length == d.ps.length
def chkAll (defs : List DefT) (gn : List Str) (gk : Nat → Nat) : Bool := defs.zipIdx.all fun p => chk1 defs gn gk p.2 p.1

variable {P : Program} {w : World} {K : PySem.W.Frag} {mg : Str → Option Value} {base : Heap}
/-- what the top has left of a def -/
def Left (K : PySem.W.Frag) (mg : Str → Option Value) (d : DefT) : Prop := ∃ f fd, mg d.name = some (.ref f) ∧ Fun K d.name d.name d.st f fd ∧ Binds K fd d.ps []
structure Outer (K : PySem.W.Frag) (mg : Str → Option Value) (C : Ctx) (gn : List Str) (gk : Nat → Nat) : Prop where
  glob : ∀ g d x, C.glob g = some d → gn[g]? = some x → ∃ v u, mg x = some u ∧ RelV v u ∧ (∀ H, Rep false K H d v []) ∧ d.dep (gk g) = true
  blt : ∀ b : Bi, mg b.name = none
  tys : ∀ T ∈ ["bool", "int", "str", "list"], mg (Str.ofString T) = none
  its : mg "range" = none ∧ mg "enumerate" = none ∧ mg "zip" = none
theorem all_ok {defs : List DefT} {gn : List Str} {gk : Nat → Nat} {C : Ctx} {XR : XRel} (hc : chkAll defs gn gk = true) (hl : ∀ d ∈ defs, Left K mg d) (O : Outer K mg C gn gk)
    (hp : ∀ i d, defs[i]? = some d → ∀ ds r, ds.length = d.s.ps.length → C.spec i ds r → evalSs C d.b (ini d.N.length ds) (ktOf d.s r)) :
    ∀ n i, i < n → ∀ d, defs[i]? = some d → ∃ f fd, mg d.name = some (.ref f) ∧ PySem.W.keepIn K (.ref f) = true ∧ Binds K fd d.ps [] ∧ Fun K d.name d.name d.st f fd ∧ FnOk P w K mg base (L2.CX P w) (i + 1) f fd d.ps (spOf K XR d.s (C.spec i)) := by
  intro n
  induction n with
  | zero => intro i h; omega
  | succ n ih =>
    intro i hi d hd
    by_cases hin : i < n
    · exact ih i hin d hd
    · have e : i = n := by omega
      subst e
      obtain ⟨f, fd, h1, h2, h3⟩ := hl d (List.mem_of_getElem? hd)
      refine ⟨f, fd, h1, h2.kp, h3, h2, ?_⟩
      have hck : chk1 defs gn gk i d = true := by
        have := List.all_eq_true.mp hc (d, i) (List.mem_zipIdx_iff_getElem?.mpr (by simpa using hd))
        exact this
      unfold chk1 at hck
      simp only [Bool.and_eq_true, beq_iff_eq] at hck
      obtain ⟨⟨⟨c1, c2⟩, c3⟩, c4⟩ := hck
      refine def_ok (A := codeOf defs gn d) (C := C) (G := gOf defs gk i) (XR := XR) ⟨O.glob, O.blt, O.tys, O.its, fun f s x hs hx => ?_⟩ h2 (scope_ok c1) c2 c4 c3 (hp i d hd)
      have hs : (if f < i then (defs[f]?).map (·.s) else none) = some s := hs
      by_cases hf : f < i
      · rw [if_pos hf] at hs
        cases e : defs[f]? with
        | none => rw [e] at hs; cases hs
        | some d' =>
          rw [e] at hs
          have hs : d'.s = s := by simpa using hs
          subst hs
          obtain ⟨f', fd', q1, q2, q3, _, q4⟩ := ih f hf d' e
          have hx : (defs.map (·.name))[f]? = some x := hx
          rw [List.getElem?_map, e] at hx
          have hx : d'.name = x := by simpa using hx
          subst hx
          exact ⟨f', fd', d'.ps, q1, q2, q3, q4.mono hf⟩
      · rw [if_neg hf] at hs; cases hs

/-! ### values of the module's own -/
def relB : D → Value → Bool
  | .non, .none => true
  | .bl b, .bool c => b == c
  | .int i, .int j _ => i == j
  | .str s, .str x _ => x.cps.toList == s && s.all fun c => decide (c < 0x110000)
  | _, _ => false
def relsB : List D → List Value → Bool
  | [], [] => true
  | d :: ds, v :: vs => relB d v && relsB ds vs
  | _, _ => false
theorem rel_of {d : D} {u : Value} (h : relB d u = true) : ∃ v, RelV v u ∧ ∀ H, Rep true K H d v [] := by
  cases d <;> cases u <;> first | exact absurd h Bool.false_ne_true | skip
  · exact ⟨.non, rfl, fun _ => .non⟩
  · have h := eq_of_beq h
    subst h
    exact ⟨.bl _, rfl, fun _ => .bl _⟩
  · rename_i i j t
    have h : (i == j) = true := h
    have h := eq_of_beq h
    subst h
    exact ⟨.int _, ⟨_, rfl⟩, fun _ => .int _⟩
  · rename_i s x t
    have h : (x.cps.toList == s && s.all fun c => decide (c < 0x110000)) = true := h
    simp only [Bool.and_eq_true, beq_iff_eq, List.all_eq_true, decide_eq_true_eq] at h
    have hx : x = toStr s := by rw [← h.1]; rfl
    exact ⟨.str (toStr s), ⟨t, by rw [hx]⟩, fun _ => .str s h.2⟩
theorem rels_of : ∀ {ds : List D} {us : List Value}, relsB ds us = true → ∃ vs, Vals vs us ∧ ∀ H, Reps true K H ds vs []
  | [], [], _ => ⟨[], .nil, fun _ => .nil⟩
  | d :: ds, u :: us, h => by
    have h : (relB d u && relsB ds us) = true := h
    rw [Bool.and_eq_true] at h
    obtain ⟨v, h1, h2⟩ := rel_of (K := K) h.1
    obtain ⟨vs, h3, h4⟩ := rels_of h.2
    exact ⟨v :: vs, .cons h1 h3, fun H => .cons (F := []) (G := []) (h2 H) (h4 H)⟩
  | [], _ :: _, h => absurd h Bool.false_ne_true
  | _ :: _, [], h => absurd h Bool.false_ne_true
def GlobOk (K : PySem.W.Frag) (mg : Str → Option Value) (d : D) (x : Str) : Prop := ∃ v u, mg x = some u ∧ RelV v u ∧ ∀ H, Rep false K H d v []
theorem glob_flat {h : Heap} {x : Str} {d : D} {u : Value} (X : K.In h) (G : h.Ns mainGlobals mg) (e : PySem.W.nsIn K mainGlobals x = some (some u)) (hr : relB d u = true) : GlobOk K mg d x := by
  obtain ⟨v, h1, h2⟩ := rel_of (K := K) hr
  exact ⟨v, u, PySem.W.mg_of X G e, h1, fun H => (h2 H).weak⟩
theorem glob_tup {h : Heap} {x : Str} {ds : List D} {a : Addr} {od : Option Addr} {its : Array Value} {n : Nat} {sl : Array (Option Value)} (X : K.In h) (G : h.Ns mainGlobals mg) (e : PySem.W.nsIn K mainGlobals x = some (some (.ref a)))
    (l : K.lookup a = some ⟨.type "tuple", od, .seq its n, sl⟩) (hr : relsB ds its.toList = true) (hz : its.size ≤ sizeLine) : GlobOk K mg (.tup ds) x := by
  obtain ⟨vs, h1, h2⟩ := rels_of (K := K) hr
  exact ⟨.ref a, .ref a, PySem.W.mg_of X G e, rfl, fun H => (Rep.tup (.inr ⟨_, its, n, l, rfl, rfl, hz, h1⟩) (h2 H)).weak⟩

/-! ### the end: a law whose one argument is the script -/
def lawSpec (ns : Nat) (ds : List D) (r : FOut → Prop) : Prop := ∃ is : List Int, is.length ≤ ns ∧ ds = [.lst (is.map .int)] ∧ r (.ret (.bl true) [])
theorem ints_rep {H : Hp} : ∀ (is : List Int), Reps false K H (is.map .int) (is.map V.int) []
  | [] => .nil
  | i :: is => .cons (F := []) (G := []) (.int i) (ints_rep is)
theorem law_in {XR : XRel} {H : Hp} {a : Addr} {is : List Int} {ns : Nat} (hl : is.length ≤ ns) (h : SqL K H a (is.map V.int)) : spOf K XR ⟨[.inn 1], 0⟩ (lawSpec ns) [.ref a] H (fun v _ => v = .bl true) fun _ _ _ => False := by
  refine ⟨[.lst (is.map .int)], fun r => r = .ret (.bl true) [], [], ⟨is, hl, rfl, rfl⟩, ?_, List.nodup_nil, fun d outs e v H' Fr F' p => ?_, fun _ e => by cases e⟩
  rotate_left
  · cases e; exact p.rep.bl_inv
  have hd : D.dep 1 (.lst (is.map .int)) = true := by
    rw [dep_lst]
    exact deps_iff.mpr fun x hx => by
      obtain ⟨i, _, rfl⟩ := List.mem_map.mp hx
      rfl
  have r := ints_rep (K := K) (H := H) is
  rcases h with (h | ⟨o, h⟩) | h
  · exact ⟨⟨[a], .lst h r, hd, fun _ _ z => by simp at z⟩, rfl⟩
  · exact ⟨⟨[], .lstF rfl h r, hd, fun _ _ z => by simp at z⟩, rfl⟩
  · exact ⟨⟨[], .lstW rfl (fun _ => .inr h) r, hd, fun _ _ z => by simp at z⟩, rfl⟩
theorem no_exc {P : Program} {w : World} (H : Hp) (s : Shared) (e : Value) (s' : Shared) (h : L2.CX P w [] H s (fun _ _ _ => False) e s') : False := by
  obtain ⟨_, _, _, _, _, _, _, _, _, _, _, _, z⟩ := h
  exact z
end Pm

namespace Pm
open PySem PySem.Spec L2

/-! ### the pure layer at work: what each form comes to -/
def varK (o : Option (Option D)) (k : D → Prop) : Prop := match o with | some (some d) => k d | _ => False
def glbK (o : Option D) (k : D → Prop) : Prop := match o with | some d => k d | none => False
def cond2 (o : Option Bool) (A B : Prop) : Prop := match o with | some true => A | some false => B | none => False
def postK (K : D → Penv → Prop) (X : Exc → Penv → Prop) (os : List (Option Nat)) (ρ : Penv) (r : FOut) : Prop := match r with | .ret d outs => K d (setOuts os outs ρ) | .exc x => X x ρ
def optIntK (d : D) (k : Option Int → Prop) : Prop := match d with | .int i => k (some i) | _ => False
def itemsK (o : Option (List D)) (k : List D → Prop) : Prop := match o with | some xs => k xs | none => False
def lstK (o : Option (Option D)) (P : Prop) : Prop := match o with | some (some (.lst _)) => P | _ => False
def anyK (o : Option (Option D)) (P : Prop) : Prop := match o with | some (some _) => P | _ => False
def negK (d : D) (k : D → Prop) : Prop := match d with | .int i => k (.int (-i)) | _ => False
def notK (o : Option Bool) (k : D → Prop) : Prop := match o with | some c => k (.bl (!c)) | none => False
def bopK (o : Bool) (c : Option Bool) (A B : Prop) : Prop := match c with | some c => if c = o then A else B | none => False
def bopE (o : Bool) (x : D) (k : D → Prop) (B : Prop) : Prop := match x with | .bl c => (c = o → k (.bl o)) ∧ (c = (!o) → B) | x => bopK o x.truth (k x) B
def chnK (d : D) (A B : Prop) : Prop := match d with | .bl true => A | .bl false => B | _ => False
def boolK (o : Option Bool) (k : Bool → Prop) : Prop := match o with | some b => k b | none => False
def stepF (C : Pm.Ctx) (t : Tgt) (b : Ss) (K : Kt) (x : D) (ρ' : Penv) (k : Penv → Prop) : Prop := asgK t x ρ' fun ρ2 => evalSs C b ρ2 ⟨k, K.rt, K.nx, k, K.ex⟩
def stepC (C : Pm.Ctx) (t : Tgt) (c : OE) (e : E) (x : D) (ρ' : Penv) (k : Option D → Penv → Prop) : Prop :=
  asgK t x (wipeP t.slots ρ') fun ρ2 => evalC C c ρ2 (fun b ρ3 => if b = true then evalE C e ρ3 (fun y ρ4 => k (some y) ρ4) (fun _ _ => False) else k none ρ3) (fun _ _ => False)

variable {C : Pm.Ctx} {ρ : Penv} {K : D → Penv → Prop} {X : Exc → Penv → Prop} {Kt : Pm.Kt}
theorem v_get {i : Nat} {d : D} {k : D → Prop} : varK (some (some d)) k = k d := rfl
theorem v_glb {d : D} {k : D → Prop} : glbK (some d) k = k d := rfl
theorem c_dec {p : Prop} [Decidable p] {A B : Prop} : cond2 (some (decide p)) A B = ((p → A) ∧ (¬ p → B)) := by
  by_cases h : p <;> simp [h, cond2]
theorem c_ndec {p : Prop} [Decidable p] {A B : Prop} : cond2 (some (!decide p)) A B = ((¬ p → A) ∧ (p → B)) := by
  by_cases h : p <;> simp [h, cond2]
theorem c_bool {b : Bool} {A B : Prop} : cond2 (some b) A B = ((b = true → A) ∧ (b = false → B)) := by
  cases b <;> simp [cond2]
theorem c_true {A B : Prop} : cond2 (some true) A B = A := rfl
theorem c_false {A B : Prop} : cond2 (some false) A B = B := rfl
theorem e_var {i m} : evalE C (.var i m) ρ K X = varK (ρ[i]?) (fun d => K d ρ) := rfl
theorem e_non : evalE C .non ρ K X = K .non ρ := rfl
theorem e_bl {b} : evalE C (.bl b) ρ K X = K (.bl b) ρ := rfl
theorem e_int {b} : evalE C (.int b) ρ K X = K (.int b) ρ := rfl
theorem e_str {b} : evalE C (.str b) ρ K X = K (.str b) ρ := rfl
theorem e_glb {g} : evalE C (.glb g) ρ K X = glbK (C.glob g) (fun d => K d ρ) := rfl
theorem e_tup {es} : evalE C (.tup es) ρ K X = evalEs C es ρ (fun ds ρ' => ds.length ≤ sizeLine ∧ K (.tup ds) ρ') X := rfl
theorem e_lst {es} : evalE C (.lst es) ρ K X = evalEs C es ρ (fun ds ρ' => ds.length ≤ sizeLine ∧ K (.lst ds) ρ') X := rfl
theorem e_bin {l op a b} : evalE C (.bin l op a b) ρ K X = evalE C a ρ (fun x ρ1 => evalE C b ρ1 (fun y ρ2 => binK l op x y fun z => K z ρ2) X) X := rfl
theorem e_cmp {op a b} : evalE C (.cmp op a b) ρ K X = evalE C a ρ (fun x ρ1 => evalE C b ρ1 (fun y ρ2 => cmpK op x y fun z => K z ρ2) X) X := rfl
theorem e_chn {o1 o2 a b c} : evalE C (.chn o1 o2 a b c) ρ K X = evalE C a ρ (fun x ρ1 => evalE C b ρ1 (fun y ρ2 => cmpK o1 x y fun z => chnK z (evalE C c ρ2 (fun w ρ3 => cmpK o2 y w fun z => K z ρ3) X) (K (.bl false) ρ2)) X) X := rfl
def revK (x : D) (k : D → Prop) : Prop := match x with | .lst xs => k (.lst xs.reverse) | _ => False
theorem n_rev {xs : List D} {k} : revK (.lst xs) k = k (.lst xs.reverse) := rfl
theorem e_revl {a} : evalE C (.revl a) ρ K X = evalE C a ρ (fun x ρ1 => revK x fun z => K z ρ1) X := rfl
theorem s_dead : evalS C .dead ρ Kt = False := rfl
theorem e_neg {a} : evalE C (.neg a) ρ K X = evalE C a ρ (fun x ρ1 => negK x fun z => K z ρ1) X := rfl
theorem e_not {a} : evalE C (.not_ a) ρ K X = evalE C a ρ (fun x ρ1 => notK x.truth fun z => K z ρ1) X := rfl
theorem bop_eq {o : Bool} {x : D} {k : D → Prop} {B : Prop} : bopK o x.truth (k x) B = bopE o x k B := by
  cases x with
  | bl c => cases c <;> cases o <;> simp [bopK, bopE, D.truth]
  | _ => rfl
theorem e_bop {o a b} : evalE C (.bop o a b) ρ K X = evalE C a ρ (fun x ρ1 => bopE o x (fun x => K x ρ1) (evalE C b ρ1 K X)) X := by
  show evalE C a ρ (fun x ρ1 => bopK o x.truth (K x ρ1) (evalE C b ρ1 K X)) X = _
  congr 1
  funext x ρ1
  exact bop_eq (k := fun x => K x ρ1)
theorem n_bop {o c : Bool} {k : D → Prop} {B : Prop} : bopE o (.bl c) k B = ((c = o → k (.bl o)) ∧ (c = (!o) → B)) := rfl
theorem e_idx {h a i} : evalE C (.idx h a i) ρ K X = evalE C a ρ (fun x ρ1 => evalE C i ρ1 (fun y ρ2 => idxK h x y fun z => K z ρ2) X) X := rfl
theorem e_slc {l a lo hi} : evalE C (.slc l a lo hi) ρ K X = evalE C a ρ (fun x ρ1 => evalOE C lo ρ1 (fun lo' ρ2 => evalOE C hi ρ2 (fun hi' ρ3 => slcK l x lo' hi' fun z => K z ρ3) X) X) X := rfl
theorem e_call {f as} : evalE C (.call f as) ρ K X = evalAs C as ρ (fun ds ρ1 => C.spec f ds (postK K X as.outs ρ1)) X := rfl
theorem p_ret {os d outs} : postK K X os ρ (.ret d outs) = K d (setOuts os outs ρ) := rfl
theorem p_exc {os x} : postK K X os ρ (.exc x) = X x ρ := rfl
theorem e_bi {b es} : evalE C (.bi b es) ρ K X = evalEs C es ρ (fun ds ρ1 => biK b ds fun z => K z ρ1) X := rfl
theorem e_bm {m o es} : evalE C (.bm m o es) ρ K X = evalE C o ρ (fun x ρ1 => bmO m x = true ∧ evalEs C es ρ1 (fun ds ρ2 => bmK m x ds fun z => K z ρ2) X) X := rfl
theorem e_mu {m i es} : evalE C (.mu m i es) ρ K X = lstK (ρ[i]?) (evalEs C es ρ (fun ds ρ1 => varK (ρ1[i]?) fun x => muK m x ds fun z y => K z (ρ1.set i (some y))) X) := rfl
theorem e_comp {t it c e} : evalE C (.comp t it c e) ρ K X = evalIt C it ρ (fun xs ρ1 => xs.length ≤ sizeLine ∧ compLoop (stepC C t c e) (fun acc ρ' => K (.lst acc) (restore t.slots ρ1 ρ')) xs [] ρ1) X := rfl
theorem es_nil {K : List D → Penv → Prop} : evalEs C .nil ρ K X = K [] ρ := rfl
theorem es_cons {e es} {K : List D → Penv → Prop} : evalEs C (.cons e es) ρ K X = evalE C e ρ (fun d ρ1 => evalEs C es ρ1 (fun ds ρ2 => K (d :: ds) ρ2) X) X := rfl
theorem o_none {K : Option Int → Penv → Prop} : evalOE C .none ρ K X = K none ρ := rfl
theorem o_some {e} {K : Option Int → Penv → Prop} : evalOE C (.some e) ρ K X = evalE C e ρ (fun d ρ1 => optIntK d fun o => K o ρ1) X := rfl
theorem t_none {K : Bool → Penv → Prop} : evalC C .none ρ K X = K true ρ := rfl
theorem t_some {e} {K : Bool → Penv → Prop} : evalC C (.some e) ρ K X = evalE C e ρ (fun d ρ1 => boolK d.truth fun b => K b ρ1) X := rfl
theorem a_nil {K : List D → Penv → Prop} : evalAs C .nil ρ K X = K [] ρ := rfl
theorem a_val {e as} {K : List D → Penv → Prop} : evalAs C (.val e as) ρ K X = evalE C e ρ (fun d ρ1 => evalAs C as ρ1 (fun ds ρ2 => K (d :: ds) ρ2) X) X := rfl
theorem a_own {e as} {K : List D → Penv → Prop} : evalAs C (.own e as) ρ K X = evalE C e ρ (fun d ρ1 => evalAs C as ρ1 (fun ds ρ2 => K (d :: ds) ρ2) X) X := rfl
theorem a_ino {i as} {K : List D → Penv → Prop} : evalAs C (.ino i as) ρ K X = anyK (ρ[i]?) (evalAs C as ρ (fun ds ρ1 => varK (ρ1[i]?) fun d => K (d :: ds) ρ1) X) := rfl
theorem i_val {l e} {K : List D → Penv → Prop} : evalIt C (.val l e) ρ K X = evalE C e ρ (fun d ρ1 => itemsK (d.items l) fun xs => K xs ρ1) X := rfl
theorem i_rng {es} {K : List D → Penv → Prop} : evalIt C (.rng es) ρ K X = evalEs C es ρ (fun ds ρ1 => rngK ds fun xs => K xs ρ1) X := rfl
def zipK (a b : Option (List D)) (k : List D → Prop) : Prop := match a, b with | some xs, some ys => k ((xs.zip ys).map fun p => .tup [p.1, p.2]) | _, _ => False
theorem zp {xs ys : List D} {k} : zipK (some xs) (some ys) k = k ((xs.zip ys).map fun p => .tup [p.1, p.2]) := rfl
theorem it2_l {xs : List D} : D.items2 true (.lst xs) = some xs := rfl
theorem it2_s {s : List Nat} : D.items2 false (.str s) = some (s.map fun c => .str [c]) := rfl
theorem i_enum {l e} {K : List D → Penv → Prop} : evalIt C (.enum l e) ρ K X = evalE C e ρ (fun d ρ1 => itemsK (d.items2 l) fun xs => K (xs.zipIdx.map fun p => .tup [.int p.2, p.1]) ρ1) X := rfl
theorem i_zip {l1 l2 a b} {K : List D → Penv → Prop} : evalIt C (.zip l1 l2 a b) ρ K X = evalE C a ρ (fun x ρ1 => evalE C b ρ1 (fun y ρ2 => zipK (x.items2 l1) (y.items2 l2) fun xs => K xs ρ2) X) X := by
  rfl
theorem s_asg {t e} : evalS C (.asg t e) ρ Kt = evalE C e ρ (fun d ρ1 => asgK t d ρ1 Kt.nx) Kt.ex := rfl
theorem s_setI {i k e} : evalS C (.setI i k e) ρ Kt = evalE C e ρ (fun d ρ1 => anyK (ρ1[i]?) (evalE C k ρ1 (fun j ρ2 => varK (ρ2[i]?) fun o => setK o j d fun o' => Kt.nx (ρ2.set i (some o'))) Kt.ex)) Kt.ex := rfl
theorem s_expr {e} : evalS C (.expr e) ρ Kt = evalE C e ρ (fun _ ρ1 => Kt.nx ρ1) Kt.ex := rfl
theorem s_ret {e} : evalS C (.ret e) ρ Kt = evalE C e ρ Kt.rt Kt.ex := rfl
theorem s_retN : evalS C .retN ρ Kt = Kt.rt .non ρ := rfl
theorem s_if {c a b} : evalS C (.if_ c a b) ρ Kt = evalE C c ρ (fun d ρ1 => cond2 d.truth (evalSs C a ρ1 Kt) (evalSs C b ρ1 Kt)) Kt.ex := rfl
theorem s_for {Γ t it b} : evalS C (.for_ Γ t it b) ρ Kt = evalIt C it ρ (fun xs ρ1 => forLoop (stepF C t b Kt) Kt.nx xs ρ1) Kt.ex := rfl
theorem s_while {Γ c b} : evalS C (.while_ Γ c b) ρ Kt = ∃ n, whileN (fun ρ' k => evalE C c ρ' k Kt.ex) (fun ρ' k => evalSs C b ρ' ⟨k, Kt.rt, Kt.nx, k, Kt.ex⟩) Kt.nx n ρ := rfl
theorem s_brk : evalS C .brk ρ Kt = Kt.bk ρ := rfl
theorem s_cnt : evalS C .cnt ρ Kt = Kt.ct ρ := rfl
theorem s_pass : evalS C .pass ρ Kt = Kt.nx ρ := rfl
theorem ss_n : evalSs C .nil ρ Kt = Kt.nx ρ := rfl
theorem ss_c {s ss} : evalSs C (.cons s ss) ρ Kt = evalS C s ρ ⟨fun ρ' => evalSs C ss ρ' Kt, Kt.rt, Kt.bk, Kt.ct, Kt.ex⟩ := rfl
-- operations
theorem b_add {x y : Int} {k} : binK false .Add (.int x) (.int y) k = k (.int (x + y)) := rfl
theorem b_cat {x y} {k} : binK false .Add (.str x) (.str y) k = (x.length + y.length ≤ sizeLine ∧ k (.str (x ++ y))) := rfl
theorem b_catL {x y} {k} : binK true .Add (.lst x) (.lst y) k = (x.length + y.length ≤ sizeLine ∧ k (.lst (x ++ y))) := rfl
theorem b_catT {x y} {k} : binK false .Add (.tup x) (.tup y) k = (x ≠ [] ∧ x.length + y.length ≤ sizeLine ∧ k (.tup (x ++ y))) := rfl
theorem b_sub {x y : Int} {k} : binK false .Sub (.int x) (.int y) k = k (.int (x - y)) := rfl
theorem b_mul {x y : Int} {k} : binK false .Mult (.int x) (.int y) k = (CMul x y ∧ k (.int (x * y))) := rfl
theorem b_div {x y : Int} {k} : binK false .FloorDiv (.int x) (.int y) k = (CDiv x y ∧ k (.int (x / y))) := rfl
theorem b_mod {x y : Int} {k} : binK false .Mod (.int x) (.int y) k = (0 < y ∧ k (.int (x % y))) := rfl
theorem b_pow {x y : Int} {k} : binK false .Pow (.int x) (.int y) k = (CPow x y ∧ k (.int (x ^ y.toNat))) := rfl
theorem k_leS {x y : List Nat} {k} : cmpK .LtE (.str x) (.str y) k = k (.bl (!decide (y < x))) := rfl
theorem k_ltL {is js : List Int} {k} (h : k (.bl (listLtI is js))) : cmpK .Lt (.lst (is.map .int)) (.lst (js.map .int)) k := ⟨is, js, rfl, rfl, h⟩
theorem b_mulS {x : List Nat} {n : Int} {k} : binK false .Mult (.str x) (.int n) k = ((2 ≤ n ∧ 1 ≤ x.length ∧ x.length * n.toNat ≤ 1000000) ∧ k (.str (List.replicate n.toNat x).flatten)) := rfl
theorem k_lt {x y : Int} {k} : cmpK .Lt (.int x) (.int y) k = k (.bl (decide (x < y))) := rfl
theorem k_le {x y : Int} {k} : cmpK .LtE (.int x) (.int y) k = k (.bl (decide (x ≤ y))) := rfl
theorem k_gt {x y : Int} {k} : cmpK .Gt (.int x) (.int y) k = k (.bl (decide (y < x))) := rfl
theorem k_ge {x y : Int} {k} : cmpK .GtE (.int x) (.int y) k = k (.bl (decide (y ≤ x))) := rfl
theorem beq_dec {α : Type} [DecidableEq α] {x y : α} : (x == y) = decide (x = y) := by
  by_cases h : x = y <;> simp [h]
theorem k_eqI {x y : Int} {k} : cmpK .Eq (.int x) (.int y) k = k (.bl (decide (x = y))) := by
  have : (D.int x).eq (.int y) = decide (x = y) := by simp [D.eq, beq_dec]
  simp [cmpK, D.ht, this]
theorem k_neI {x y : Int} {k} : cmpK .NotEq (.int x) (.int y) k = k (.bl (!decide (x = y))) := by
  have : (D.int x).eq (.int y) = decide (x = y) := by simp [D.eq, beq_dec]
  simp [cmpK, D.ht, this]
theorem k_eqS {x y : List Nat} {k} : cmpK .Eq (.str x) (.str y) k = k (.bl (decide (x = y))) := by
  have : (D.str x).eq (.str y) = decide (x = y) := by by_cases h : x = y <;> simp [D.eq, h]
  simp [cmpK, D.ht, this]
theorem k_neS {x y : List Nat} {k} : cmpK .NotEq (.str x) (.str y) k = k (.bl (!decide (x = y))) := by
  have : (D.str x).eq (.str y) = decide (x = y) := by by_cases h : x = y <;> simp [D.eq, h]
  simp [cmpK, D.ht, this]
theorem k_eqB {x y : Bool} {k} : cmpK .Eq (.bl x) (.bl y) k = k (.bl (decide (x = y))) := by
  have : (D.bl x).eq (.bl y) = decide (x = y) := by simp [D.eq, beq_dec]
  simp [cmpK, D.ht, this]
theorem k_neB {x y : Bool} {k} : cmpK .NotEq (.bl x) (.bl y) k = k (.bl (!decide (x = y))) := by
  have : (D.bl x).eq (.bl y) = decide (x = y) := by simp [D.eq, beq_dec]
  simp [cmpK, D.ht, this]
theorem k_inS {c : Nat} {y : List Nat} {k} : cmpK .In (.str [c]) (.str y) k = k (.bl (decide (c ∈ y))) := by
  apply propext
  constructor
  · rintro ⟨c', e, h⟩
    cases e
    exact h
  · exact fun h => ⟨c, rfl, h⟩
theorem k_ninS {c : Nat} {y : List Nat} {k} : cmpK .NotIn (.str [c]) (.str y) k = k (.bl (!decide (c ∈ y))) := by
  apply propext
  constructor
  · rintro ⟨c', e, h⟩
    cases e
    exact h
  · exact fun h => ⟨c, rfl, h⟩
theorem any_strs {x : List Nat} : ∀ {ys : List (List Nat)}, ((ys.map D.str).any fun y => y.eq (.str x)) = decide (x ∈ ys)
  | [] => by simp
  | y :: ys => by
    have ih := @any_strs x ys
    simp only [List.map_cons, List.any_cons, ih]
    by_cases h : y = x
    · simp [D.eq, h]
    · simp [D.eq, h, Ne.symm h]
theorem any_ints {x : Int} : ∀ {ys : List Int}, ((ys.map D.int).any fun y => y.eq (.int x)) = decide (x ∈ ys)
  | [] => by simp
  | y :: ys => by
    have ih := @any_ints x ys
    simp only [List.map_cons, List.any_cons, ih]
    by_cases h : y = x
    · simp [D.eq, h]
    · simp [D.eq, h, Ne.symm h]
theorem x_lst {xs : List D} {i : Int} {k} : idxK true (.lst xs) (.int i) k = glbK (atI xs i) k := by
  show (match atI xs i with | some x => k x | none => False) = _
  cases atI xs i <;> rfl
theorem x_tup {xs : List D} {i : Int} {k} : idxK false (.tup xs) (.int i) k = glbK (atI xs i) k := by
  show (match atI xs i with | some x => k x | none => False) = _
  cases atI xs i <;> rfl
def chrK (o : Option Nat) (k : Nat → Prop) : Prop := match o with | some x => k x | none => False
theorem x_str {xs : List Nat} {i : Int} {k} : idxK false (.str xs) (.int i) k = chrK (atI xs i) (fun c => xs.length ≤ sizeLine ∧ k (.str [c])) := by
  show (match atI xs i with | some x => xs.length ≤ sizeLine ∧ k (.str [x]) | none => False) = _
  cases atI xs i <;> rfl
theorem l_lst {xs lo hi} {k} : slcK true (.lst xs) lo hi k = k (.lst (cutL xs lo hi)) := rfl
theorem l_tup {xs lo hi} {k} : slcK false (.tup xs) lo hi k = k (.tup (cutL xs lo hi)) := rfl
theorem l_str {xs lo hi} {k} : slcK false (.str xs) lo hi k = (xs.length ≤ sizeLine ∧ k (.str (cutL xs lo hi))) := rfl
theorem f_lenS {s} {k} : biK .len [.str s] k = (s.length ≤ sizeLine ∧ k (.int s.length)) := rfl
theorem f_lenL {s} {k} : biK .len [.lst s] k = k (.int s.length) := rfl
theorem f_lenT {s} {k} : biK .len [.tup s] k = k (.int s.length) := rfl
theorem f_intB {c} {k} : biK .int [.bl c] k = k (.int (if c then 1 else 0)) := rfl
theorem f_intI {c} {k} : biK .int [.int c] k = k (.int c) := rfl
theorem f_listL {xs} {k} : biK (.list true) [.lst xs] k = k (.lst xs) := rfl
theorem f_listT {xs} {k} : biK (.list false) [.tup xs] k = k (.lst xs) := rfl
theorem f_tupL {xs} {k} : biK (.tuple true) [.lst xs] k = k (.tup xs) := rfl
theorem f_tupT {xs} {k} : biK (.tuple false) [.tup xs] k = k (.tup xs) := rfl
theorem f_max {x y : Int} {k} : biK .max [.int x, .int y] k = k (.int (if y > x then y else x)) := rfl
theorem f_min {x y : Int} {k} : biK .min [.int x, .int y] k = k (.int (if y < x then y else x)) := rfl
theorem f_isb {d} {k} : biK .isbool [d] k = k (.bl (match d with | .bl _ => true | _ => false)) := rfl
theorem f_isi {d} {k} : biK .isint [d] k = k (.bl (match d with | .int _ => true | .bl _ => true | _ => false)) := rfl
theorem f_iss {d} {k} : biK .isstr [d] k = k (.bl (match d with | .str _ => true | _ => false)) := rfl
theorem f_isl {d} {k} : biK .islist [d] k = k (.bl (match d with | .lst _ => true | _ => false)) := rfl
theorem f_all {bs : List Bool} {k} (h : k (.bl (bs.all id))) : biK .all [.lst (bs.map .bl)] k := ⟨bs, rfl, h⟩
theorem f_any {bs : List Bool} {k} (h : k (.bl (bs.any id))) : biK .any [.lst (bs.map .bl)] k := ⟨bs, rfl, h⟩
theorem m_join {sep : List Nat} {ys : List (List Nat)} {k} (hz : (ys.map List.length).sum + ys.length * sep.length ≤ 16777216) (h : k (.str (joinL sep ys))) : bmK .join (.str sep) [.lst (ys.map .str)] k := by
  have : strsOf (ys.map .str) = some ys := by
    induction ys with
    | nil => rfl
    | cons y ys ih =>
      have hz' : (ys.map List.length).sum + ys.length * sep.length ≤ 16777216 := by
        simp only [List.map_cons, List.sum_cons, List.length_cons, Nat.add_mul] at hz; omega
      show (strsOf (ys.map .str)).map (y :: ·) = _
      clear h hz hz'
      have : strsOf (ys.map .str) = some ys := by
        clear ih
        induction ys with
        | nil => rfl
        | cons y ys ih => show (strsOf (ys.map .str)).map (y :: ·) = _; rw [ih]; rfl
      rw [this]; rfl
  show (match strsOf (ys.map .str) with | some ys => (ys.map List.length).sum + ys.length * sep.length ≤ 16777216 ∧ k (.str (joinL sep ys)) | none => False)
  rw [this]
  exact ⟨hz, h⟩
theorem u_app {xs d} {k : D → D → Prop} : muK .append (.lst xs) [d] k = (xs.length < sizeLine ∧ k .non (.lst (xs ++ [d]))) := rfl
theorem u_ext {xs ys} {k : D → D → Prop} : muK .extend (.lst xs) [.lst ys] k = (xs.length + ys.length ≤ sizeLine ∧ k .non (.lst (xs ++ ys))) := rfl
theorem u_clear {xs} {k : D → D → Prop} : muK .clear (.lst xs) [] k = k .non (.lst []) := rfl
theorem g_nm {i d} {k} : asgK (.nm i) d ρ k = k (ρ.set i (some d)) := rfl
theorem g_tp2 {i j d e} {k} : asgK (.tp [i, j]) (.tup [d, e]) ρ k = k ((ρ.set i (some d)).set j (some e)) := by
  show (_ ∧ _) = _
  simp
theorem g_tp3 {i j l d e f} {k} : asgK (.tp [i, j, l]) (.tup [d, e, f]) ρ k = k (((ρ.set i (some d)).set j (some e)).set l (some f)) := by
  show (_ ∧ _) = _
  simp
def someK {α : Type} (o : Option α) (k : α → Prop) : Prop := match o with | some x => k x | none => False
theorem w_set {xs : List D} {i : Int} {v} {k} : setK (.lst xs) (.int i) v k = someK (ixN xs.length i) (fun j => k (.lst (xs.set j v))) := by
  show (match ixN xs.length i with | some j => k (.lst (xs.set j v)) | none => False) = _
  cases ixN xs.length i <;> rfl
theorem r_1 {j : Int} {k} : rngK [.int j] k = (-(2 ^ 62) ≤ j ∧ j < 2 ^ 62 ∧ k ((List.range j.toNat).map fun (i : Nat) => .int (i : Int))) := rfl
theorem r_2 {i j : Int} {k} : rngK [.int i, .int j] k = ((-(2 ^ 62) ≤ i ∧ i < 2 ^ 62 ∧ -(2 ^ 62) ≤ j ∧ j < 2 ^ 62) ∧ k ((List.range (j - i).toNat).map fun (t : Nat) => .int (i + (t : Int)))) := rfl
theorem rs_nm {i : Nat} {ρ ρ' : Penv} : restore (Tgt.nm i).slots ρ ρ' = (ρ[i]?).elim ρ' (fun x => ρ'.set i x) := rfl
theorem n_neg {i : Int} {k} : negK (.int i) k = k (.int (-i)) := rfl
theorem n_not {b : Bool} {k} : notK (some b) k = k (.bl (!b)) := rfl
theorem n_bool {b : Bool} {k} : boolK (some b) k = k b := rfl
theorem n_items {xs} {k} : itemsK (some xs) k = k xs := rfl
theorem n_some {α : Type} {x : α} {k} : someK (some x) k = k x := rfl
theorem n_chr {x : Nat} {k} : chrK (some x) k = k x := rfl
theorem n_lst {xs} {P} : lstK (some (some (.lst xs))) P = P := rfl
theorem n_any {d} {P} : anyK (some (some d)) P = P := rfl
theorem n_opt {i} {k} : optIntK (.int i) k = k (some i) := rfl
theorem n_or {c : Bool} {A B : Prop} : bopK true (some c) A B = ((c = true → A) ∧ (c = false → B)) := by cases c <;> simp [bopK]
theorem n_and {c : Bool} {A B : Prop} : bopK false (some c) A B = ((c = true → B) ∧ (c = false → A)) := by cases c <;> simp [bopK]
theorem n_chn {c : Bool} {A B : Prop} : chnK (.bl c) A B = ((c = true → A) ∧ (c = false → B)) := by cases c <;> simp [chnK]
theorem tr_b {b} : D.truth (.bl b) = some b := rfl
theorem tr_i {i} : D.truth (.int i) = some (i != 0) := rfl
theorem tr_n : D.truth .non = some false := rfl
theorem tr_l {xs} : D.truth (.lst xs) = some (!xs.isEmpty) := rfl
theorem tr_t {xs} : D.truth (.tup xs) = some (!xs.isEmpty) := rfl
theorem it_l {xs} : D.items true (.lst xs) = some xs := rfl
theorem it_t {xs} : D.items false (.tup xs) = some xs := rfl
theorem it_s {s : List Nat} : D.items false (.str s) = some (s.map fun c => .str [c]) := rfl
/-! loops -/
theorem forL {step : D → Penv → (Penv → Prop) → Prop} {Kn : Penv → Prop} (Inv : Nat → Penv → Prop) : ∀ {xs : List D} {ρ : Penv}, Inv 0 ρ → (∀ i x ρ k, xs[i]? = some x → Inv i ρ → (∀ ρ', Inv (i + 1) ρ' → k ρ') → step x ρ k) → (∀ ρ, Inv xs.length ρ → Kn ρ) → forLoop step Kn xs ρ := by
  intro xs
  induction xs generalizing Inv with
  | nil => intro ρ h0 _ he; exact he ρ h0
  | cons x xs ih =>
    intro ρ h0 hs he
    refine hs 0 x ρ _ rfl h0 fun ρ' h1 => ?_
    exact ih (fun i => Inv (i + 1)) h1 (fun i y ρ k e => hs (i + 1) y ρ k (by simpa using e)) he
theorem compL {step : D → Penv → (Option D → Penv → Prop) → Prop} {Kn : List D → Penv → Prop} (Inv : Nat → List D → Penv → Prop) : ∀ {xs acc : List D} {ρ : Penv}, Inv 0 acc ρ →
    (∀ i x acc ρ k, xs[i]? = some x → Inv i acc ρ → (∀ o ρ', Inv (i + 1) (acc ++ o.toList) ρ' → k o ρ') → step x ρ k) → (∀ acc ρ, Inv xs.length acc ρ → Kn acc ρ) → compLoop step Kn xs acc ρ := by
  intro xs
  induction xs generalizing Inv with
  | nil => intro acc ρ h0 _ he; exact he acc ρ h0
  | cons x xs ih =>
    intro acc ρ h0 hs he
    refine hs 0 x acc ρ _ rfl h0 fun o ρ' h1 => ?_
    refine ih (fun i => Inv (i + 1)) ?_ (fun i y acc ρ k e => hs (i + 1) y acc ρ k (by simpa using e)) he
    cases o with
    | none => simpa using h1
    | some d => exact h1
theorem set_back {ρ : Penv} {i : Nat} {z o : Option D} (h : ρ[i]? = some o) : (ρ.set i z).set i o = ρ := by
  apply List.ext_getElem?
  intro j
  by_cases e : i = j
  · subst e
    have := (List.getElem?_eq_some_iff.mp h).1
    rw [List.getElem?_set_self (by rw [List.length_set]; exact this), h]
  · rw [List.getElem?_set_ne e, List.getElem?_set_ne e]
/-- [e for x in xs]: what the element leaves in the places hangs on a -/
theorem compT {C : Pm.Ctx} {α : Type} (R : α → Penv) (P : Nat → List D → α → Prop) {i : Nat} {o : Option D} (hR : ∀ a, (R a)[i]? = some o) {e : E} {xs : List D} {Kn : List D → Penv → Prop} (a0 : α) (h0 : P 0 [] a0)
    (hs : ∀ j x acc a (k : D → Penv → Prop), xs[j]? = some x → P j acc a → (∀ y a', P (j + 1) (acc ++ [y]) a' → k y ((R a').set i (some x))) → evalE C e ((R a).set i (some x)) k (fun _ _ => False))
    (he : ∀ acc a, P xs.length acc a → Kn acc (R a)) : compLoop (stepC C (.nm i) .none e) (fun acc ρ' => Kn acc (restore [i] (R a0) ρ')) xs [] (R a0) := by
  refine compL (fun j acc ρ => ∃ a z, ρ = (R a).set i z ∧ P j acc a) ⟨a0, o, ?_, h0⟩ (fun j x acc ρ k hx hI hk => ?_) (fun acc ρ hI => ?_)
  · have := set_back (z := o) (hR a0)
    rw [List.set_set] at this
    exact this.symm
  · obtain ⟨a, z, rfl, hP⟩ := hI
    show evalE C e ((((R a).set i z).set i none).set i (some x)) _ _
    rw [List.set_set, List.set_set]
    refine hs j x acc a _ hx hP fun y a' hP' => ?_
    exact hk (some y) _ ⟨a', some x, rfl, hP'⟩
  · obtain ⟨a, z, rfl, hP⟩ := hI
    show Kn acc (((R a0)[i]?).elim ((R a).set i z) fun x => ((R a).set i z).set i x)
    rw [hR a0]
    show Kn acc (((R a).set i z).set i o)
    rw [set_back (hR a)]
    exact he acc a hP
/-- [g x for x in xs], nothing else changed -/
theorem compP {C : Pm.Ctx} {ρ : Penv} {i : Nat} {o : Option D} (hR : ρ[i]? = some o) (g : D → D) {e : E} {xs : List D} {Kn : List D → Penv → Prop}
    (hs : ∀ x ∈ xs, ∀ (k : D → Penv → Prop), k (g x) (ρ.set i (some x)) → evalE C e (ρ.set i (some x)) k (fun _ _ => False)) (he : Kn (xs.map g) ρ) : compLoop (stepC C (.nm i) .none e) (fun acc ρ' => Kn acc (restore [i] ρ ρ')) xs [] ρ := by
  refine compT (fun _ : Unit => ρ) (fun j acc _ => acc = (xs.take j).map g) (fun _ => hR) () (by simp) (fun j x acc a k hx hP hk => ?_) (fun acc a hP => ?_)
  · refine hs x (List.mem_of_getElem? hx) k (hk _ () ?_)
    rw [hP, List.take_add_one, hx]; simp
  · rw [List.take_length] at hP; rw [hP]; exact he
theorem whileL {c : Penv → (D → Penv → Prop) → Prop} {body : Penv → (Penv → Prop) → Prop} {nx : Penv → Prop} (Inv : Nat → Penv → Prop) {n : Nat} {ρ : Penv} (h0 : Inv n ρ)
    (hs : ∀ m ρ k, Inv m ρ → (∀ m' ρ', m' < m → Inv m' ρ' → k ρ') → c ρ fun d ρ' => cond2 d.truth (body ρ' k) (nx ρ'))
    (mono : ∀ ρ Q Q', (∀ d ρ', Q d ρ' → Q' d ρ') → c ρ Q → c ρ Q') : ∃ n, whileN c body nx n ρ := by
  refine ⟨n + 1, ?_⟩
  have : ∀ n m ρ, m ≤ n → Inv m ρ → whileN c body nx (n + 1) ρ := by
    intro n
    induction n with
    | zero =>
      intro m ρ hm h
      refine mono ρ _ _ (fun d ρ' h => ?_) (hs m ρ (whileN c body nx 0) h fun m' ρ' hlt _ => by omega)
      cases e : d.truth with
      | none => rw [e] at h; exact h
      | some b => rw [e] at h; cases b <;> exact h
    | succ n ih =>
      intro m ρ hm h
      refine mono ρ _ _ (fun d ρ' h => ?_) (hs m ρ (whileN c body nx (n + 1)) h fun m' ρ' hlt hi => ih m' ρ' (by omega) hi)
      cases e : d.truth with
      | none => rw [e] at h; exact h
      | some b => rw [e] at h; cases b <;> exact h
  exact this n n ρ (Nat.le_refl _) h0
theorem hts_strs {n : Nat} : ∀ {ys : List (List Nat)}, D.hts n (ys.map D.str) = true
  | [] => by simp [D.hts]
  | y :: ys => by simp [D.hts, D.ht, hts_strs (ys := ys)]
theorem hts_ints {n : Nat} : ∀ {ys : List Int}, D.hts n (ys.map D.int) = true
  | [] => by simp [D.hts]
  | y :: ys => by simp [D.hts, D.ht, hts_ints (ys := ys)]
theorem scs_strs : ∀ {ys : List (List Nat)}, (ys.map D.str).all D.sc = true
  | [] => rfl
  | y :: ys => by simp [D.sc]
theorem scs_ints : ∀ {ys : List Int}, (ys.map D.int).all D.sc = true
  | [] => rfl
  | y :: ys => by simp [D.sc]
theorem k_inTS {x : List Nat} {ys : List (List Nat)} {k} : cmpK .In (.str x) (.tup (ys.map .str)) k = k (.bl (decide (x ∈ ys))) := by
  show (_ ∧ _ ∧ k (.bl _)) = _
  rw [any_strs, scs_strs]; simp [D.sc]
theorem k_inLS {x : List Nat} {ys : List (List Nat)} {k} : cmpK .In (.str x) (.lst (ys.map .str)) k = k (.bl (decide (x ∈ ys))) := by
  show (_ ∧ _ ∧ k (.bl _)) = _
  rw [any_strs, hts_strs]; simp [D.ht]
theorem k_inLI {x : Int} {ys : List Int} {k} : cmpK .In (.int x) (.lst (ys.map .int)) k = k (.bl (decide (x ∈ ys))) := by
  show (_ ∧ _ ∧ k (.bl _)) = _
  rw [any_ints, hts_ints]; simp [D.ht]
theorem k_ninTS {x : List Nat} {ys : List (List Nat)} {k} : cmpK .NotIn (.str x) (.tup (ys.map .str)) k = k (.bl (!decide (x ∈ ys))) := by
  show (_ ∧ _ ∧ k (.bl _)) = _
  rw [any_strs, scs_strs]; simp [D.sc]
theorem k_ninLS {x : List Nat} {ys : List (List Nat)} {k} : cmpK .NotIn (.str x) (.lst (ys.map .str)) k = k (.bl (!decide (x ∈ ys))) := by
  show (_ ∧ _ ∧ k (.bl _)) = _
  rw [any_strs, hts_strs]; simp [D.ht]
theorem k_ninLI {x : Int} {ys : List Int} {k} : cmpK .NotIn (.int x) (.lst (ys.map .int)) k = k (.bl (!decide (x ∈ ys))) := by
  show (_ ∧ _ ∧ k (.bl _)) = _
  rw [any_ints, hts_ints]; simp [D.ht]
theorem small_ok {n m : Nat} (h : n ≤ m) (hm : m ≤ 1000000 := by decide) : n ≤ sizeLine := Nat.le_trans (Nat.le_trans h hm) (by decide)
/-! ends, items -/
def Ss.drop : Nat → Ss → Ss
  | 0, b => b
  | n + 1, .cons _ b => b.drop n
  | _ + 1, .nil => .nil
/-- the body of the for that stands at the n-th place -/
def Ss.at : Nat → Ss → S
  | 0, .cons s _ => s
  | n + 1, .cons _ b => b.at n
  | _, .nil => .pass
def S.body : S → Ss
  | .for_ _ _ _ b => b
  | .while_ _ _ b => b
  | .if_ _ a _ => a
  | _ => .nil
def S.els : S → Ss
  | .if_ _ _ b => b
  | _ => .nil
theorem ixN_nn {n : Nat} {i : Int} (h : 0 ≤ i) (h2 : i < n) : ixN n i = some i.toNat := by unfold ixN; rw [if_pos h, if_pos h2]
theorem atI_nn {α : Type} {xs : List α} {i : Int} (h : 0 ≤ i) : atI xs i = xs[i.toNat]? := by
  unfold atI ixN
  rw [if_pos h]
  by_cases h2 : i < xs.length
  · rw [if_pos h2]; rfl
  · rw [if_neg h2, List.getElem?_eq_none (by omega)]; rfl
theorem at0 {α : Type} {x : α} {xs : List α} : atI (x :: xs) 0 = some x := by rw [atI_nn (by decide)]; rfl
theorem at1 {α : Type} {x y : α} {xs : List α} : atI (x :: y :: xs) 1 = some y := by rw [atI_nn (by decide)]; rfl
theorem at2 {α : Type} {x y z : α} {xs : List α} : atI (x :: y :: z :: xs) 2 = some z := by rw [atI_nn (by decide)]; rfl
theorem at3 {α : Type} {x y z u : α} {xs : List α} : atI (x :: y :: z :: u :: xs) 3 = some u := by rw [atI_nn (by decide)]; rfl
theorem ix0 {n : Nat} : ixN (n + 1) 0 = some 0 := by rw [ixN_nn (by decide) (by omega)]; rfl
theorem ix1 {n : Nat} : ixN (n + 1 + 1) 1 = some 1 := by rw [ixN_nn (by decide) (by omega)]; rfl
theorem kt_rt {s : Sig} {Post : FOut → Prop} {d : D} : (ktOf s Post).rt d ρ = ∃ outs, Post (.ret d outs) ∧ outsAre (inosOf 0 s.ps) ρ outs := rfl
theorem kt_nx {s : Sig} {Post : FOut → Prop} : (ktOf s Post).nx ρ = ∃ outs, Post (.ret .non outs) ∧ outsAre (inosOf 0 s.ps) ρ outs := rfl
theorem kt_ex {s : Sig} {Post : FOut → Prop} {x : Exc} : (ktOf s Post).ex x ρ = Post (.exc x) := rfl
theorem in_nil {n} : inosOf n [] = [] := rfl
theorem in_inn {n k ps} : inosOf n (.inn k :: ps) = inosOf (n + 1) ps := rfl
theorem in_ino {n k ps} : inosOf n (.ino k :: ps) = (n, k) :: inosOf (n + 1) ps := rfl
theorem out0 {P : List D → Prop} : (∃ outs, P outs ∧ outsAre [] ρ outs) = P [] := by
  apply propext
  constructor
  · rintro ⟨outs, h, ho⟩
    cases outs with
    | nil => exact h
    | cons _ _ => exact ho.elim
  · exact fun h => ⟨[], h, trivial⟩
theorem out1 {P : List D → Prop} {p : Nat × Nat} {is : List (Nat × Nat)} : (∃ outs, P outs ∧ outsAre (p :: is) ρ outs) = varK (ρ[p.1]?) (fun x => ∃ outs, P (x :: outs) ∧ outsAre is ρ outs) := by
  apply propext
  constructor
  · rintro ⟨outs, h, ho⟩
    cases outs with
    | nil => exact ho.elim
    | cons d outs =>
      obtain ⟨h1, h2⟩ := ho
      rw [h1]
      exact ⟨outs, h, h2⟩
  · intro h
    cases e : ρ[p.1]? with
    | none => rw [e] at h; exact h.elim
    | some o =>
      cases o with
      | none => rw [e] at h; exact h.elim
      | some d =>
        rw [e] at h
        obtain ⟨outs, h1, h2⟩ := h
        exact ⟨d :: outs, h1, e, h2⟩
end Pm

namespace Pm
open PySem PySem.Spec L2
local macro_rules | `(tactic| lt_chain) => `(tactic| try simp only [v_get, v_glb, c_bool, c_true, c_false, e_var, e_non, e_bl, e_int, e_str, e_glb, e_tup, e_lst, e_bin, e_cmp, e_chn, e_neg, e_not, e_bop, e_idx, e_slc, e_call, p_ret, p_exc, e_bi, e_bm, e_mu, e_comp, es_nil, es_cons, o_none, o_some, t_none, t_some,
  a_nil, a_val, a_own, a_ino, i_val, i_rng, i_enum, s_asg, s_setI, s_expr, s_ret, s_retN, s_if, s_for, s_brk, s_cnt, s_pass, ss_n, ss_c, b_add, b_cat, b_catL, b_catT, b_sub, b_mul, b_div, b_mod, b_pow, k_lt, k_le, k_gt, k_ge, k_eqI, k_neI, k_eqS, k_neS, k_eqB, k_neB, k_inS, k_ninS, k_inTS, k_inLS, k_inLI, k_ninTS, k_ninLS, k_ninLI,
  x_lst, x_tup, x_str, l_lst, l_tup, l_str, f_lenS, f_lenL, f_lenT, f_intB, f_intI, f_listL, f_listT, f_tupL, f_tupT, f_max, f_min, f_isb, f_isi, f_iss, f_isl, u_app, u_ext, u_clear, g_nm, g_tp2, g_tp3, w_set, r_1, r_2, n_neg, n_not, n_bool, n_items, n_some, n_chr, n_lst, n_any, n_opt, n_bop, n_chn, tr_b, tr_i, tr_n, tr_l, tr_t, it_l, it_t, it_s,
  at0, at1, at2, at3, ix0, ix1, kt_rt, kt_nx, kt_ex, rs_nm, Option.elim_some, in_nil, in_inn, in_ino, out0, out1, decide_eq_true_eq, Bool.not_eq_true', Bool.not_eq_false', Bool.not_true, Bool.not_false, decide_eq_false_iff_not, Int.not_lt, Option.map_some, As.outs, setOuts, bmO, true_and, and_true, List.getElem?_cons_zero, List.getElem?_cons_succ, List.set_cons_zero, List.set_cons_succ, List.length_cons, List.length_nil, List.map_cons, List.map_nil, not_true_eq_false, not_false_eq_true, false_implies, forall_const, decide_true, decide_false, Bool.true_eq_false, Bool.false_eq_true, reduceCtorEq])

/-! ### what all laws share: the box of draws -/
structure Box where
  a : Int
  b : Int
  h : 0 ≤ b ∧ b < 2147483630
def Box.enc (x : Box) : D := .lst [.int x.a, .int x.b]
def takeSpec (ds : List D) (Post : FOut → Prop) : Prop := ∃ (x : Box) (w : Int), (0 < w ∧ w < 1073741824) ∧ ds = [x.enc, .int w] ∧ ∀ (v : Int) (y : Box), 0 ≤ v → v < w → Post (.ret (.int v) [y.enc])
def takeB : Ss := (.cons (.if_ (.cmp .Gt (.idx true (.var 0 .bor) (.int 0)) (.int 0)) (.cons (.asg (.nm 3) (.bin false .Mod (.idx true (.var 0 .bor) (.int 0)) (.var 1 .bor))) (.cons (.setI 0 (.int 0) (.bin false .FloorDiv (.idx true (.var 0 .bor) (.int 0)) (.var 1 .bor))) (.cons (.ret (.var 3 .bor)) .nil))) .nil) (.cons (.asg (.nm 2) (.bin false .Mod (.bin false .Mult (.idx true (.var 0 .bor) (.int 1)) (.int 69623)) (.int 2147483647))) (.cons (.setI 0 (.int 1) (.bin false .Add (.bin false .Mod (.bin false .Add (.bin false .Mult (.var 2 .bor) (.int 48271)) (.int 30103)) (.int 2147483629)) (.int 1))) (.cons (.ret (.bin false .Mod (.bin false .FloorDiv (.bin false .Add (.bin false .Mult (.var 2 .bor) (.int 2147483647)) (.idx true (.var 0 .bor) (.int 1))) (.int 8191)) (.var 1 .bor))) .nil))))
def boxB : Ss := (.cons (.asg (.nm 2) (.bin false .Add (.bin false .Mult (.int 7919) (.var 1 .bor)) (.int 11))) (.cons (.if_ (.cmp .Lt (.var 1 .bor) (.bi .len (.cons (.var 0 .bor) .nil))) (.cons (.asg (.nm 2) (.idx true (.var 0 .bor) (.var 1 .bor))) .nil) (.cons (.if_ (.cmp .Gt (.bi .len (.cons (.var 0 .bor) .nil)) (.int 0)) (.cons (.asg (.nm 2) (.bin false .Add (.var 2 .bor) (.bin false .Mult (.bin false .Mod (.idx true (.var 0 .bor) (.bin false .Mod (.var 1 .bor) (.bi .len (.cons (.var 0 .bor) .nil)))) (.int 2147483629)) (.int 69623)))) .nil) .nil) .nil)) (.cons (.asg (.nm 3) (.bin false .Add (.bin false .Mod (.bin false .Add (.bin false .Mult (.bin false .Mod (.var 2 .bor) (.int 2147483629)) (.int 48271)) (.bin false .Mult (.int 40692) (.var 1 .bor))) (.int 2147483629)) (.int 1))) (.cons (.ret (.lst (.cons (.bin false .Mult (.var 2 .bor) (.bi .int (.cons (.cmp .GtE (.var 2 .bor) (.bin false .Pow (.int 10) (.int 18))) .nil))) (.cons (.var 3 .bor) .nil)))) .nil))))
theorem take_ok {C : Pm.Ctx} {ds : List D} {Post : FOut → Prop} (h : takeSpec ds Post) : evalSs C takeB (ini 4 ds) (ktOf ⟨[.ino 1, .inn 0], 0⟩ Post) := by
  obtain ⟨x, w, ⟨hw, hw2⟩, rfl, hp⟩ := h
  obtain ⟨a, b, hb⟩ := x
  show evalSs C takeB [some (Box.enc ⟨a, b, hb⟩), some (.int w), none, none] _
  unfold takeB Box.enc
  lt_chain
  refine ⟨fun h => ⟨hw, ⟨hw, hw2⟩, hp _ ⟨a / w, b, hb⟩ (Int.emod_nonneg _ (by omega)) (Int.emod_lt_of_pos _ hw)⟩, fun h => ?_⟩
  refine ⟨.inl ⟨by omega, by omega⟩, by decide, .inl ⟨by omega, by omega⟩, by decide, .inl ⟨by omega, by omega⟩, ⟨by decide, by decide⟩, hw, ?_⟩
  exact hp _ ⟨a, (b * 69623 % 2147483647 * 48271 + 30103) % 2147483629 + 1, by omega⟩ (Int.emod_nonneg _ (by omega)) (Int.emod_lt_of_pos _ hw)
def boxSpec (ds : List D) (Post : FOut → Prop) : Prop := ∃ (is : List Int) (k : Nat), (is.length ≤ 63 ∧ k ≤ 63) ∧ ds = [.lst (is.map .int), .int k] ∧ ∀ y : Box, Post (.ret y.enc [])
theorem box_ok {C : Pm.Ctx} {ds : List D} {Post : FOut → Prop} (h : boxSpec ds Post) : evalSs C boxB (ini 4 ds) (ktOf ⟨[.inn 1, .inn 0], 1⟩ Post) := by
  obtain ⟨is, k, ⟨hl, hk⟩, rfl, hp⟩ := h
  have rest : ∀ z : Int, evalSs C (boxB.drop 2) [some (.lst (is.map .int)), some (.int k), some (.int z), none] (ktOf ⟨[.inn 1, .inn 0], 1⟩ Post) := by
    intro z
    show evalSs C (.cons _ (.cons _ .nil)) _ _
    lt_chain
    refine ⟨by decide, .inl ⟨by omega, by omega⟩, .inl ⟨by omega, by omega⟩, by decide, ⟨by decide, by decide, by decide⟩, .inr ?_, by decide, ?_⟩
    · split <;> decide
    · exact hp ⟨_, (z % 2147483629 * 48271 + 40692 * k) % 2147483629 + 1, by omega⟩
  show evalSs C (.cons _ (.cons _ (boxB.drop 2))) [some (.lst (is.map .int)), some (.int k), none, none] _
  lt_chain
  refine ⟨.inl ⟨by decide, by decide⟩, fun h => ?_, fun h => ⟨fun h2 => ?_, fun h2 => rest _⟩⟩
  · have h' : k < (is.map D.int).length := by omega
    rw [atI_nn (by omega), Int.toNat_natCast, List.getElem?_map, List.getElem?_eq_getElem (by simpa using h')]
    exact rest _
  · have h3 : 0 ≤ (k : Int) % ((is.map D.int).length : Int) := Int.emod_nonneg _ (by omega)
    have h4 : (k : Int) % ((is.map D.int).length : Int) < (is.map D.int).length := Int.emod_lt_of_pos _ h2
    refine ⟨h2, ?_⟩
    rw [atI_nn h3, List.getElem?_map, List.getElem?_eq_getElem (by simp at h4 ⊢; omega)]
    lt_chain
    exact ⟨by decide, .inr ⟨by decide, by decide⟩, rest _⟩
/-! ### at work with texts, draws, loops -/
theorem sz_lb : 16777216 ≤ sizeLine := by decide
theorem str_at {s : List Nat} {v : Int} {k : Nat → Prop} (h0 : 0 ≤ v) (h1 : v < s.length) (h : ∀ c, k c) : chrK (atI s v) k := by
  rw [atI_nn h0, List.getElem?_eq_getElem (by omega)]; exact h _
theorem lst_at {s : List D} {v : Int} {k : D → Prop} (h0 : 0 ≤ v) (h1 : v < s.length) (h : ∀ c ∈ s, k c) : glbK (atI s v) k := by
  rw [atI_nn h0, List.getElem?_eq_getElem (by omega)]; exact h _ (List.getElem_mem _)
theorem cut_len {α : Type} {s : List α} {lo hi : Option Int} : (cutL s lo hi).length ≤ s.length := by
  unfold cutL; simp; omega
theorem joinL1 {s : List Nat} : joinL [] (s.map fun c => [c]) = s := by
  induction s with
  | nil => rfl
  | cons c s ih =>
    cases s with
    | nil => rfl
    | cons d s => simp only [List.map_cons, joinL] at ih ⊢; rw [ih]; rfl
theorem m_join1 {s : List Nat} {k} (hz : s.length ≤ 16777216) (h : k (.str s)) : bmK .join (.str []) [.lst (s.map fun c => .str [c])] k := by
  have e : (s.map fun c => D.str [c]) = (s.map fun c => [c]).map .str := by simp
  rw [e]
  refine m_join ?_ (by rw [joinL1]; exact h)
  have : ((s.map fun c => [c]).map List.length).sum = s.length := by
    clear hz e h
    induction s with
    | nil => rfl
    | cons c s ih => simp only [List.map_cons, List.sum_cons, List.length_cons, List.length_nil, ih]; omega
  rw [this]; simpa using hz
theorem set_self_of {ρ : Penv} {i : Nat} {o : Option D} (h : ρ[i]? = some o) : ρ.set i o = ρ := by
  apply List.ext_getElem?
  intro j
  rw [List.getElem?_set]
  split
  · next e => subst e; split
              · rw [h]
              · next hl => rw [List.getElem?_eq_none (by omega)]
  · rfl
theorem compU {C : Pm.Ctx} {α : Type} (R : α → Penv) (P : Nat → List D → α → Prop) {i : Nat} {o : Option D} {e : E} {xs : List D} {K : List D → Penv → Prop} (a0 : α) (hR : (R a0)[i]? = some o) (h0 : P 0 [] a0)
    (hs : ∀ j x acc a (k : D → Penv → Prop), xs[j]? = some x → P j acc a → (∀ y a', P (j + 1) (acc ++ [y]) a' → k y ((R a').set i (some x))) → evalE C e ((R a).set i (some x)) k (fun _ _ => False))
    (he : ∀ acc a z, P xs.length acc a → K acc ((R a).set i z)) : compLoop (stepC C (.nm i) .none e) K xs [] (R a0) := by
  refine compL (fun j acc ρ => ∃ a z, ρ = (R a).set i z ∧ P j acc a) ⟨a0, o, (set_self_of hR).symm, h0⟩ (fun j x acc ρ k hx hI hk => ?_) (fun acc ρ hI => ?_)
  · obtain ⟨a, z, rfl, hP⟩ := hI
    show evalE C e ((((R a).set i z).set i none).set i (some x)) _ _
    rw [List.set_set, List.set_set]
    exact hs j x acc a _ hx hP fun y a' hP' => hk (some y) _ ⟨a', some x, rfl, hP'⟩
  · obtain ⟨a, z, rfl, hP⟩ := hI
    exact he acc a z hP
end Pm

namespace Pm
open PySem PySem.Spec L2
local macro_rules | `(tactic| lt_chain) => `(tactic| try simp only [v_get, v_glb, c_bool, c_true, c_false, e_var, e_non, e_bl, e_int, e_str, e_glb, e_tup, e_lst, e_bin, e_cmp, e_chn, e_neg, e_not, e_bop, e_idx, e_slc, e_call, p_ret, p_exc, e_bi, e_bm, e_mu, e_comp, es_nil, es_cons, o_none, o_some, t_none, t_some,
  a_nil, a_val, a_own, a_ino, i_val, i_rng, i_enum, s_asg, s_setI, s_expr, s_ret, s_retN, s_if, s_for, s_brk, s_cnt, s_pass, ss_n, ss_c, b_add, b_cat, b_catL, b_catT, b_sub, b_mul, b_div, b_mod, b_pow, k_lt, k_le, k_gt, k_ge, k_eqI, k_neI, k_eqS, k_neS, k_eqB, k_neB, k_inS, k_ninS, k_inTS, k_inLS, k_inLI, k_ninTS, k_ninLS, k_ninLI,
  x_lst, x_tup, x_str, l_lst, l_tup, l_str, f_lenS, f_lenL, f_lenT, f_intB, f_intI, f_listL, f_listT, f_tupL, f_tupT, f_max, f_min, f_isb, f_isi, f_iss, f_isl, u_app, u_ext, u_clear, g_nm, g_tp2, g_tp3, w_set, r_1, r_2, n_neg, n_not, n_bool, n_items, n_some, n_chr, n_lst, n_any, n_opt, n_bop, n_chn, tr_b, tr_i, tr_n, tr_l, tr_t, it_l, it_t, it_s,
  at0, at1, at2, at3, ix0, ix1, kt_rt, kt_nx, kt_ex, rs_nm, Option.elim_some, in_nil, in_inn, in_ino, out0, out1, decide_eq_true_eq, Bool.not_eq_true', Bool.not_eq_false', Bool.not_true, Bool.not_false, decide_eq_false_iff_not, Int.not_lt, Option.map_some, As.outs, setOuts, bmO, true_and, and_true, List.getElem?_cons_zero, List.getElem?_cons_succ, List.set_cons_zero, List.set_cons_succ, List.length_cons, List.length_nil, List.map_cons, List.map_nil, not_true_eq_false, not_false_eq_true, false_implies, forall_const, decide_true, decide_false, Bool.true_eq_false, Bool.false_eq_true, reduceCtorEq])
local macro_rules | `(tactic| trivial) => `(tactic| omega)
local macro_rules | `(tactic| trivial) => `(tactic| (have := sz_lb; (try simp only [List.length_append, List.length_cons, List.length_nil, List.length_map, List.length_range, List.length_reverse]); omega))
theorem erase_map {α β : Type} (f : α → β) : ∀ (xs : List α) (i : Nat), (xs.map f).eraseIdx i = (xs.eraseIdx i).map f
  | [], _ => rfl
  | x :: xs, 0 => rfl
  | x :: xs, i + 1 => by
    show f x :: (xs.map f).eraseIdx i = f x :: (xs.eraseIdx i).map f
    rw [erase_map f xs i]
theorem erase_perm {α : Type} : ∀ (xs : List α) (i : Nat) (h : i < xs.length), (xs[i] :: xs.eraseIdx i).Perm xs
  | x :: xs, 0, _ => List.Perm.refl _
  | x :: xs, i + 1, h => by
    show (xs[i]'(by simpa using h) :: x :: xs.eraseIdx i).Perm (x :: xs)
    exact (List.Perm.swap _ _ _).trans ((erase_perm xs i (by simpa using h)).cons x)
theorem u_popAt {xs : List D} {i : Int} {k : D → D → Prop} {d : D} (h0 : 0 ≤ i) (h1 : i < xs.length) (hs : i < 2 ^ 63) (hd : xs[i.toNat]? = some d) (h : k d (.lst (xs.eraseIdx i.toNat))) : muK .popAt (.lst xs) [.int i] k := by
  show (match ixN xs.length i with
    | some j => match xs[j]? with
      | some y => (-(2 ^ 63) ≤ i ∧ i < 2 ^ 63) ∧ k y (.lst (xs.eraseIdx j))
      | none => False
    | none => False)
  have : ixN xs.length i = some i.toNat := by unfold ixN; rw [if_pos h0, if_pos h1]
  rw [this]
  show (match xs[i.toNat]? with
      | some y => (-(2 ^ 63) ≤ i ∧ i < 2 ^ 63) ∧ k y (.lst (xs.eraseIdx i.toNat))
      | none => False)
  rw [hd]
  exact ⟨⟨by omega, hs⟩, h⟩
def abc : List Nat := [97, 98, 99, 100, 101, 102, 103, 104, 105, 106, 107, 108, 109, 110, 111, 112, 113, 114, 115, 116, 117, 118, 119, 120, 121, 122]
def chs (s : List Nat) : List D := s.map fun c => .str [c]
/-- one to m unlike letters -/
def lettersSpec (ds : List D) (Post : FOut → Prop) : Prop := ∃ (x : Box) (m : Int), (1 ≤ m ∧ m ≤ 26) ∧ ds = [x.enc, .int m] ∧ ∀ (s : List Nat) (y : Box), 1 ≤ s.length → (s.length : Int) ≤ m → s.Nodup → (∀ c ∈ s, c ∈ abc) → Post (.ret (.str s) [y.enc])
def lettersB (t : Nat) : Ss := (.cons (.asg (.nm 2) (.bi (.list false) (.cons (.str [97, 98, 99, 100, 101, 102, 103, 104, 105, 106, 107, 108, 109, 110, 111, 112, 113, 114, 115, 116, 117, 118, 119, 120, 121, 122]) .nil))) (.cons (.asg (.nm 3) (.str [])) (.cons (.for_ [some ⟨.own, 1⟩, some ⟨.frz, 0⟩, some ⟨.own, 1⟩, some ⟨.frz, 0⟩, none] (.nm 4) (.rng (.cons (.bin false .Add (.int 1) (.call t (.ino 0 (.val (.var 1 .bor) .nil)))) .nil)) (.cons (.asg (.nm 3) (.bin false .Add (.var 3 .bor) (.mu .popAt 2 (.cons (.call t (.ino 0 (.val (.bi .len (.cons (.var 2 .bor) .nil)) .nil))) .nil)))) .nil)) (.cons (.ret (.var 3 .bor)) .nil))))
theorem f_listS {s : List Nat} {k} : biK (.list false) [.str s] k = (s.length ≤ sizeLine ∧ k (.lst (s.map fun c => .str [c]))) := rfl
theorem letters_ok {C : Pm.Ctx} {t : Nat} (hC : C.spec t = takeSpec) {ds : List D} {Post : FOut → Prop} (h : lettersSpec ds Post) : evalSs C (lettersB t) (ini 5 ds) (ktOf ⟨[.ino 1, .inn 0], 0⟩ Post) := by
  obtain ⟨x, m, ⟨hm, hm2⟩, rfl, hp⟩ := h
  show evalSs C (lettersB t) [some x.enc, some (.int m), none, none, none] _
  unfold lettersB
  lt_chain
  simp only [f_listS, hC]
  lt_chain
  refine ⟨by decide, x, m, ⟨by omega, by omega⟩, rfl, fun v y h0 h1 => ?_⟩
  lt_chain
  refine ⟨by omega, by omega, forL (fun i ρ => ∃ (b : Box) (s p : List Nat) (z : Option D), ρ = [some b.enc, some (.int m), some (.lst (p.map fun c => .str [c])), some (.str s), z] ∧ s.length = i ∧ (s ++ p).Perm abc) ⟨y, [], abc, none, rfl, rfl, List.Perm.refl _⟩ (fun i x ρ k hx hI hk => ?_) (fun ρ hI => ?_)⟩
  · obtain ⟨b, s, p, z, rfl, hs, hq⟩ := hI
    obtain ⟨j, hj, rfl⟩ := List.mem_map.mp (List.mem_of_getElem? hx)
    have hi : i < (1 + v).toNat := by
      have := (List.getElem?_eq_some_iff.mp hx).1
      simpa using this
    have hlen := hq.length_eq
    rw [List.length_append, show abc.length = 26 from rfl] at hlen
    unfold stepF
    lt_chain
    simp only [hC]
    refine ⟨b, _, ⟨by trivial, by trivial⟩, rfl, fun w b2 h2 h3 => ?_⟩
    lt_chain
    have h3' : w.toNat < p.length := by simp at h3; omega
    refine u_popAt h2 h3 (by omega) (d := .str [p[w.toNat]]) (by rw [List.getElem?_map, List.getElem?_eq_getElem h3']; rfl) ?_
    lt_chain
    refine ⟨by trivial, hk _ ⟨b2, s ++ [p[w.toNat]], p.eraseIdx w.toNat, some (.int j), ?_, by simp [hs], ?_⟩⟩
    · rw [erase_map]
    · refine List.Perm.trans ?_ hq
      rw [List.append_assoc]
      exact List.Perm.append_left _ (erase_perm _ _ h3')
  · obtain ⟨b, s, p, z, rfl, hs, hq⟩ := hI
    lt_chain
    have hi : s.length = (1 + v).toNat := by simpa using hs
    refine hp s b (by omega) (by omega) ?_ fun c hc => hq.subset (List.mem_append_left _ hc)
    have : (s ++ p).Nodup := hq.symm.nodup (by decide)
    exact (List.nodup_append.mp this).1
end Pm

set_option maxRecDepth 100000
namespace Pm
open PySem PySem.Spec L2
theorem compV {C : Pm.Ctx} {ρ : Penv} {i : Nat} {o : Option D} (g : D → D) {e : E} {xs : List D} {K : List D → Penv → Prop} (hR : ρ[i]? = some o)
    (hs : ∀ x ∈ xs, ∀ (k : D → Penv → Prop), k (g x) (ρ.set i (some x)) → evalE C e (ρ.set i (some x)) k (fun _ _ => False)) (he : ∀ z, K (xs.map g) (ρ.set i z)) : compLoop (stepC C (.nm i) .none e) K xs [] ρ := by
  refine compU (fun _ : Unit => ρ) (fun j acc _ => acc = (xs.take j).map g) () hR (by simp) (fun j x acc a k hx hP hk => ?_) (fun acc a z hP => ?_)
  · refine hs x (List.mem_of_getElem? hx) k (hk _ () ?_)
    rw [hP, List.take_add_one, hx]; simp
  · rw [List.take_length] at hP; rw [hP]; exact he z
theorem ht_strs (n : Nat) : ∀ a : List (List Nat), D.hts n (a.map .str) = true
  | [] => by simp [D.hts]
  | x :: xs => by
    have := ht_strs n xs
    simp [D.hts, D.ht, this]
theorem eqs_strs : ∀ a b : List (List Nat), D.eqs (a.map .str) (b.map .str) = decide (a = b)
  | [], [] => by simp [D.eqs]
  | [], y :: ys => by simp [D.eqs]
  | x :: xs, [] => by simp [D.eqs]
  | x :: xs, y :: ys => by
    have := eqs_strs xs ys
    simp only [List.map_cons, D.eqs, D.eq, this]
    by_cases h1 : x = y <;> by_cases h2 : xs = ys <;> simp [h1, h2]
theorem k_eqSS {a b : List (List Nat)} {k} : cmpK .Eq (.lst (a.map .str)) (.lst (b.map .str)) k = k (.bl (decide (a = b))) := by
  show (_ ∧ _ ∧ k (.bl (D.eqs (a.map .str) (b.map .str)))) = _
  rw [eqs_strs]
  simp [D.ht, ht_strs]
theorem k_neSS {a b : List (List Nat)} {k} : cmpK .NotEq (.lst (a.map .str)) (.lst (b.map .str)) k = k (.bl (decide (a ≠ b))) := by
  show (_ ∧ _ ∧ k (.bl (!D.eqs (a.map .str) (b.map .str)))) = _
  rw [eqs_strs]
  simp [D.ht, ht_strs]
theorem k_eqSSr {a : List (List Nat)} {k} : cmpK .Eq (.lst (a.map .str)) (.lst (a.map .str)) k = k (.bl true) := by rw [k_eqSS]; simp
theorem k_neSSr {a : List (List Nat)} {k} : cmpK .NotEq (.lst (a.map .str)) (.lst (a.map .str)) k = k (.bl false) := by rw [k_neSS]; simp
theorem bo_join {s} : bmO .join (.str s) = true := rfl
theorem bo_index {s} : bmO .index (.str s) = true := rfl
theorem bo_rev {s} : bmO .rev (.str s) = true := rfl
theorem m_rev {s : List Nat} {k} : bmK .rev (.str s) [] k = (s.length ≤ sizeLine ∧ k (.str s.reverse)) := rfl
end Pm

set_option maxRecDepth 100000
namespace Pm
open PySem PySem.Spec L2
local macro_rules | `(tactic| lt_chain) => `(tactic| try simp only [v_get, v_glb, c_bool, c_true, c_false, e_var, e_non, e_bl, e_int, e_str, e_glb, e_tup, e_lst, e_bin, e_cmp, e_chn, e_neg, e_not, e_bop, e_idx, e_slc, e_call, p_ret, p_exc, e_bi, e_bm, e_mu, e_comp, es_nil, es_cons, o_none, o_some, t_none, t_some,
  a_nil, a_val, a_own, a_ino, i_val, i_rng, i_enum, i_zip, zp, it2_l, it2_s, k_leS, b_mulS, s_asg, s_setI, s_expr, s_ret, s_retN, s_if, s_for, s_brk, s_cnt, s_pass, ss_n, ss_c, b_add, b_cat, b_catL, b_catT, b_sub, b_mul, b_div, b_mod, b_pow, k_lt, k_le, k_gt, k_ge, k_eqI, k_neI, k_eqS, k_neS, k_eqB, k_neB, k_inS, k_ninS, k_inTS, k_inLS, k_inLI, k_ninTS, k_ninLS, k_ninLI,
  x_lst, x_tup, x_str, l_lst, l_tup, l_str, f_lenS, f_lenL, f_lenT, f_intB, f_intI, f_listL, f_listT, f_tupL, f_tupT, f_max, f_min, f_isb, f_isi, f_iss, f_isl, u_app, u_ext, u_clear, g_nm, g_tp2, g_tp3, w_set, r_1, r_2, n_neg, n_not, n_bool, n_items, n_some, n_chr, n_lst, n_any, n_opt, n_bop, n_chn, tr_b, tr_i, tr_n, tr_l, tr_t, it_l, it_t, it_s,
  at0, at1, at2, at3, ix0, ix1, kt_rt, kt_nx, kt_ex, rs_nm, Option.elim_some, in_nil, in_inn, in_ino, out0, out1, decide_eq_true_eq, Bool.not_eq_true', Bool.not_eq_false', Bool.not_true, Bool.not_false, decide_eq_false_iff_not, Int.not_lt, Option.map_some, As.outs, setOuts, bo_join, bo_index, bo_rev, m_rev, k_eqSSr, k_neSSr, f_listS, true_and, and_true, List.getElem?_cons_zero, List.getElem?_cons_succ, List.set_cons_zero, List.set_cons_succ, List.length_cons, List.length_nil, List.map_cons, List.map_nil, not_true_eq_false, not_false_eq_true, false_implies, forall_const, decide_true, decide_false, Bool.true_eq_false, Bool.false_eq_true, reduceCtorEq])
local macro_rules | `(tactic| trivial) => `(tactic| omega)
local macro_rules | `(tactic| trivial) => `(tactic| (have := sz_lb; (try simp only [List.length_append, List.length_cons, List.length_nil, List.length_map, List.length_range, List.length_reverse]); omega))
/-! ### texts of letters drawn, places of letters -/
def textSpec (ds : List D) (Post : FOut → Prop) : Prop := ∃ (x : Box) (L : List Nat) (m : Int), (1 ≤ L.length ∧ L.length ≤ 100000 ∧ 0 ≤ m ∧ m ≤ 100000) ∧ ds = [x.enc, .str L, .int m] ∧ ∀ (s : List Nat) (y : Box), (s.length : Int) ≤ m → (∀ c ∈ s, c ∈ L) → Post (.ret (.str s) [y.enc])
def textB (t : Nat) : Ss := (.cons (.ret (.bm .join (.str []) (.cons (.comp (.nm 3) (.rng (.cons (.call t (.ino 0 (.val (.bin false .Add (.var 2 .bor) (.int 1)) .nil))) .nil)) .none (.idx false (.var 1 .bor) (.call t (.ino 0 (.val (.bi .len (.cons (.var 1 .bor) .nil)) .nil))))) .nil))) .nil)
theorem str_at2 {s : List Nat} {v : Int} {k : Nat → Prop} (h0 : 0 ≤ v) (h1 : v < s.length) (h : ∀ c ∈ s, k c) : chrK (atI s v) k := by
  rw [atI_nn h0, List.getElem?_eq_getElem (by omega)]; exact h _ (List.getElem_mem _)
theorem text_ok {C : Pm.Ctx} {t : Nat} (hC : C.spec t = takeSpec) {ds : List D} {Post : FOut → Prop} (h : textSpec ds Post) : evalSs C (textB t) (ini 4 ds) (ktOf ⟨[.ino 1, .inn 0, .inn 0], 0⟩ Post) := by
  obtain ⟨x, L, m, ⟨h1, h2, h3, h4⟩, rfl, hp⟩ := h
  show evalSs C (textB t) [some x.enc, some (.str L), some (.int m), none] _
  unfold textB
  lt_chain
  simp only [hC]
  refine ⟨x, _, ⟨by trivial, by trivial⟩, rfl, fun v y h5 h6 => ?_⟩
  lt_chain
  refine ⟨by trivial, by trivial, by trivial, ?_⟩
  refine compU (i := 3) (fun b : Box => [some b.enc, some (.str L), some (.int m), none]) (fun j acc _ => ∃ s : List Nat, s.length = j ∧ (∀ c ∈ s, c ∈ L) ∧ acc = s.map fun c => .str [c]) y rfl ⟨[], rfl, by simp, rfl⟩ (fun j x acc b k hx hP hk => ?_) (fun acc b z hP => ?_)
  · obtain ⟨u, hu, hm, rfl⟩ := hP
    lt_chain
    simp only [hC]
    refine ⟨by trivial, b, _, ⟨by trivial, by trivial⟩, rfl, fun n y5 h7 h8 => ?_⟩
    lt_chain
    refine str_at2 h7 (by simpa using h8) fun c hc => ?_
    refine ⟨by trivial, hk (.str [c]) y5 ⟨u ++ [c], by simp [hu], fun d hd => ?_, by simp⟩⟩
    simp at hd
    rcases hd with hd | rfl
    · exact hm d hd
    · exact hc
  · obtain ⟨u, hu, hm, rfl⟩ := hP
    have hu' : (u.length : Int) ≤ m := by simp at hu; omega
    lt_chain
    refine m_join1 (by omega) ?_
    exact hp _ _ hu' hm
def ix (L : List Nat) (c : Nat) : Nat := (idxOf c L).getD 0
theorem idx_mem {L : List Nat} {c : Nat} (h : c ∈ L) : ∃ i, idxOf c L = some i ∧ L[i]? = some c := by
  induction L with
  | nil => simp at h
  | cons x L ih =>
    by_cases e : x = c
    · subst e; exact ⟨0, by simp [idxOf], rfl⟩
    · have : c ∈ L := by simp at h; rcases h with h | h
                         · exact absurd h.symm e
                         · exact h
      obtain ⟨i, h1, h2⟩ := ih this
      exact ⟨i + 1, by simp [idxOf, e, h1], by simpa using h2⟩
theorem ix_at {L : List Nat} {c : Nat} (h : c ∈ L) : L[ix L c]? = some c := by
  obtain ⟨i, h1, h2⟩ := idx_mem h
  unfold ix; rw [h1]; exact h2
theorem ix_inj {L : List Nat} {c d : Nat} (hc : c ∈ L) (hd : d ∈ L) (h : ix L c = ix L d) : c = d := by
  have a := ix_at hc
  rw [h, ix_at hd] at a
  exact (Option.some.inj a).symm
theorem m_index {L : List Nat} {c : Nat} {k} (h : c ∈ L) (hk : k (.int (ix L c))) : bmK .index (.str L) [.str [c]] k := by
  obtain ⟨i, h1, h2⟩ := idx_mem h
  show (match idxOf c L with | some i => k (.int i) | none => False)
  unfold ix at hk
  rw [h1] at hk ⊢
  exact hk
theorem cut_take {α : Type} {s : List α} {i : Nat} (h : i ≤ s.length) : cutL s none (some (i : Int)) = s.take i := by
  unfold cutL
  rw [HT.sIx_nat, HT.sIx_none, Nat.min_eq_left h]
  simp
theorem lt_cons {x y : Int} {xs ys : List Int} : listLtI (x :: xs) (y :: ys) = if x = y then listLtI xs ys else decide (x < y) := rfl
theorem lt_self : ∀ xs : List Int, listLtI xs xs = false
  | [] => rfl
  | x :: xs => by rw [lt_cons, if_pos rfl, lt_self xs]
theorem lt_app {x y : Int} {xs ys : List Int} (h : x ≠ y) : ∀ p : List Int, listLtI (p ++ x :: xs) (p ++ y :: ys) = decide (x < y)
  | [] => by rw [List.nil_append, List.nil_append, lt_cons, if_neg h]
  | q :: p => by rw [List.cons_append, List.cons_append, lt_cons, if_pos rfl, lt_app h p]
end Pm

set_option maxRecDepth 100000
namespace Pm
open PySem L2
theorem whileM {c : Penv → (D → Penv → Prop) → Prop} {body : Penv → (Penv → Prop) → Prop} {nx : Penv → Prop} (Inv : Nat → Penv → Prop) {n : Nat} {ρ : Penv} (h0 : Inv n ρ)
    (hs : ∀ m ρ k, Inv m ρ → (∀ m' ρ', m' < m → Inv m' ρ' → k ρ') → c ρ fun d ρ' => cond2 d.truth (body ρ' k) (nx ρ')) : ∃ n, whileN c body nx n ρ := by
  refine ⟨n + 1, ?_⟩
  have key : ∀ (n : Nat) (ρ : Penv), (c ρ fun d ρ' => cond2 d.truth (body ρ' (whileN c body nx n)) (nx ρ')) → whileN c body nx (n + 1) ρ := by
    intro n ρ h
    have e : (fun (d : D) (ρ' : Penv) => (match d.truth with | some true => body ρ' (whileN c body nx n) | some false => nx ρ' | none => False)) = fun d ρ' => cond2 d.truth (body ρ' (whileN c body nx n)) (nx ρ') := by
      funext d ρ'
      cases d.truth with
      | none => rfl
      | some b => cases b <;> rfl
    rw [← e] at h
    exact h
  have : ∀ n m ρ, m ≤ n → Inv m ρ → whileN c body nx (n + 1) ρ := by
    intro n
    induction n with
    | zero =>
      intro m ρ hm h
      exact key 0 ρ (hs m ρ _ h fun m' ρ' hlt _ => by omega)
    | succ n ih =>
      intro m ρ hm h
      exact key (n + 1) ρ (hs m ρ _ h fun m' ρ' hlt hi => ih m' ρ' (by omega) hi)
  exact this n n ρ (Nat.le_refl _) h0
theorem u_pop {xs : List D} {d : D} {k : D → D → Prop} (h : k d (.lst xs)) : muK .pop (.lst (xs ++ [d])) [] k := by
  show (match (xs ++ [d])[(xs ++ [d]).length - 1]? with | some y => k y (.lst (xs ++ [d]).dropLast) | none => False)
  have e : (xs ++ [d])[(xs ++ [d]).length - 1]? = some d := by simp
  rw [e]
  simpa using h
theorem at_last {α : Type} {xs : List α} {d : α} : atI (xs ++ [d]) (-1) = some d := by
  unfold atI ixN
  simp
  rw [if_pos (by omega)]
  have : (-1 + ((xs.length : Int) + 1)).toNat = xs.length := by omega
  simp [this]
theorem ix_last {α : Type} {xs : List α} : atI xs (-1) = xs.getLast? := by
  cases h : xs.reverse with
  | nil => have : xs = [] := by simpa using h
           subst this; rfl
  | cons d r =>
    have : xs = r.reverse ++ [d] := by have := congrArg List.reverse h; simpa using this
    rw [this, at_last]; simp
end Pm

set_option maxRecDepth 100000
namespace Pm
open PySem PySem.Spec L2
/-! ### sayings: rows, their texts -/
inductive Row where | yes | is_ (x y : List Nat) | ahd (x y : List Nat) | not_ (i : Nat) | bin (o : Bool) (i j : Nat) | qu (o : Bool) (x : List Nat) (i : Nat)
def tYes : List Nat := [121, 101, 115]
def tIs : List Nat := [105, 115]
def tAhead : List Nat := [97, 104, 101, 97, 100]
def tNot : List Nat := [110, 111, 116]
def tBin (o : Bool) : List Nat := if o then [111, 114] else [97, 110, 100]
def tQu (o : Bool) : List Nat := if o then [101, 97, 99, 104] else [115, 111, 109, 101]
def Row.enc : Row → D
  | .yes => .tup [.str tYes]
  | .is_ x y => .tup [.str tIs, .str x, .str y]
  | .ahd x y => .tup [.str tAhead, .str x, .str y]
  | .not_ i => .tup [.str tNot, .int i]
  | .bin o i j => .tup [.str (tBin o), .int i, .int j]
  | .qu o x i => .tup [.str (tQu o), .str x, .int i]
def rowOk (k : Nat) : Row → Prop
  | .yes => True
  | .is_ x y => x.length ≤ 10 ∧ y.length = 1
  | .ahd x y => x.length ≤ 10 ∧ y.length ≤ 10
  | .not_ i => i < k
  | .bin _ i j => i < k ∧ j < k
  | .qu _ x i => x.length ≤ 10 ∧ i < k
def okRows (rs : List Row) : Prop := ∀ k r, rs[k]? = some r → rowOk k r
theorem okRows.nil : okRows [] := fun k r h => by simp at h
theorem okRows.snoc {rs : List Row} {r : Row} (h : okRows rs) (hr : rowOk rs.length r) : okRows (rs ++ [r]) := fun k q hq => by
  by_cases e : k < rs.length
  · rw [List.getElem?_append_left e] at hq; exact h k q hq
  · rw [List.getElem?_append_right (by omega)] at hq
    have e2 : k - rs.length = 0 := by
      cases n : k - rs.length with
      | zero => rfl
      | succ m => rw [n] at hq; simp at hq
    rw [e2] at hq
    cases hq
    have : k = rs.length := by omega
    rw [this]; exact hr
theorem okRows.init {rs : List Row} {r : Row} (h : okRows (rs ++ [r])) : okRows rs ∧ rowOk rs.length r :=
  ⟨fun k q hq => h k q (by rw [List.getElem?_append_left (List.getElem?_eq_some_iff.mp hq).1]; exact hq), h rs.length r (by simp)⟩
/-- what a row makes of what the rows ahead make -/
def scan {α : Type} (f : Row → List α → α) (rs : List Row) : List α := rs.foldl (fun acc r => acc ++ [f r acc]) []
theorem scan_snoc {α : Type} (f : Row → List α → α) (rs : List Row) (r : Row) : scan f (rs ++ [r]) = scan f rs ++ [f r (scan f rs)] := by
  unfold scan; rw [List.foldl_append]; rfl
theorem snoc_ind {P : List Row → Prop} (h0 : P []) (h1 : ∀ rs r, P rs → P (rs ++ [r])) (rs : List Row) : P rs := by
  have : ∀ n (rs : List Row), rs.length = n → P rs := by
    intro n
    induction n with
    | zero => intro rs h; rw [List.length_eq_zero_iff.mp h]; exact h0
    | succ n ih =>
      intro rs h
      have hne : rs ≠ [] := fun e => by rw [e] at h; simp at h
      rw [← List.dropLast_concat_getLast hne]
      exact h1 _ _ (ih _ (by rw [List.length_dropLast, h]; rfl))
  exact this _ rs rfl
theorem scan_len {α : Type} (f : Row → List α → α) (rs : List Row) : (scan f rs).length = rs.length := by
  induction rs using snoc_ind with
  | h0 => rfl
  | h1 rs r ih => rw [scan_snoc]; simp [ih]
def shown (r : Row) (acc : List (List Nat)) : List Nat := match r with
  | .yes => tYes
  | .is_ x y => x ++ [32, 105, 115, 32] ++ y
  | .ahd x y => x ++ [32, 60, 32] ++ y
  | .not_ i => [110, 111, 116, 32] ++ acc.getD i []
  | .bin o i j => [40] ++ acc.getD i [] ++ [32] ++ tBin o ++ [32] ++ acc.getD j [] ++ [41]
  | .qu o x i => tQu o ++ [32] ++ x ++ [32] ++ acc.getD i []
def texts (rs : List Row) : List (List Nat) := scan shown rs
theorem tBin_len (o : Bool) : (tBin o).length ≤ 3 ∧ 2 ≤ (tBin o).length := by cases o <;> decide
theorem tQu_len (o : Bool) : (tQu o).length = 4 := by cases o <;> rfl
theorem getD_app {α : Type} {xs ys : List α} {i : Nat} {d : α} (h : i < xs.length) : (xs ++ ys).getD i d = xs.getD i d := by
  simp [List.getElem?_append_left h]
theorem shown_app {r : Row} {acc more : List (List Nat)} (h : rowOk acc.length r) : shown r (acc ++ more) = shown r acc := by
  cases r with
  | yes => rfl
  | is_ x y => rfl
  | ahd x y => rfl
  | not_ i => unfold shown; simp only; rw [getD_app h]
  | bin o i j => unfold shown; simp only; rw [getD_app h.1, getD_app h.2]
  | qu o x i => unfold shown; simp only; rw [getD_app h.2]
/-- no text longer than B -/
def bnd (B : Nat) (acc : List (List Nat)) : Prop := ∀ i, (acc.getD i []).length ≤ B
theorem bnd.snoc {B B2 : Nat} {acc : List (List Nat)} {t : List Nat} (h : bnd B acc) (ht : t.length ≤ B2) (hB : B ≤ B2) : bnd B2 (acc ++ [t]) := fun i => by
  by_cases e : i < acc.length
  · rw [getD_app e]; exact Nat.le_trans (h i) hB
  · simp only [List.getD_eq_getElem?_getD]
    rw [List.getElem?_append_right (by omega)]
    cases n : i - acc.length with
    | zero => simpa using ht
    | succ m => simp
theorem shown_len {r : Row} {acc : List (List Nat)} {B k : Nat} (h : bnd B acc) (hr : rowOk k r) : (shown r acc).length ≤ 2 * B + 24 := by
  cases r with
  | yes => show 3 ≤ _; omega
  | is_ x y => have := hr.1; have := hr.2; simp [shown]; omega
  | ahd x y => have := hr.1; have := hr.2; simp [shown]; omega
  | not_ i => have := h i; simp [shown] at this ⊢; omega
  | bin o i j => have := h i; have := h j; have := tBin_len o; simp [shown] at *; omega
  | qu o x i => have := hr.1; have := h i; have := tQu_len o; simp [shown] at *; omega
theorem rows_bnd {rs : List Row} (h : okRows rs) : bnd (2 ^ rs.length * 24 - 24) (texts rs) := by
  induction rs using snoc_ind with
  | h0 => intro i; simp [texts, scan]
  | h1 rs r ih =>
    obtain ⟨h1, h2⟩ := h.init
    unfold texts
    rw [scan_snoc]
    have b := ih h1
    have hp : 1 ≤ 2 ^ rs.length := Nat.one_le_two_pow
    have e : 2 ^ (rs ++ [r]).length * 24 = 2 * (2 ^ rs.length * 24) := by rw [List.length_append, List.length_singleton, Nat.pow_succ]; omega
    rw [e]
    refine b.snoc ?_ (by omega)
    have := shown_len (B := 2 ^ rs.length * 24 - 24) b h2
    show (shown r (texts rs)).length ≤ _
    omega
def isChain : Row → Bool | .not_ _ => true | .qu _ _ _ => true | _ => false
theorem chain_bnd {rs : List Row} {r : Row} {B : Nat} (b : bnd B (texts rs)) (hr : rowOk rs.length r) (hc : isChain r = true) : bnd (B + 20) (texts (rs ++ [r])) := by
  unfold texts
  rw [scan_snoc]
  refine b.snoc ?_ (by omega)
  cases r with
  | not_ i => have := b i; simp [shown] at this ⊢; unfold texts at this; omega
  | qu o x i => have := hr.1; have := b i; have := tQu_len o; simp [shown] at *; unfold texts at *; omega
  | _ => cases hc
/-- how many pieces come up -/
def wRow (r : Row) (acc : List Nat) : Nat := match r with
  | .yes => 2
  | .is_ _ _ => 2
  | .ahd _ _ => 2
  | .not_ i => 2 + acc.getD i 0
  | .bin _ i j => 4 + acc.getD i 0 + acc.getD j 0
  | .qu _ _ i => 2 + acc.getD i 0
def wts (rs : List Row) : List Nat := scan wRow rs
theorem wRow_app {r : Row} {acc more : List Nat} (h : rowOk acc.length r) : wRow r (acc ++ more) = wRow r acc := by
  cases r with
  | not_ i => unfold wRow; simp only; rw [getD_app h]
  | bin o i j => unfold wRow; simp only; rw [getD_app h.1, getD_app h.2]
  | qu o x i => unfold wRow; simp only; rw [getD_app h.2]
  | _ => rfl
theorem ok_mono {r : Row} {k m : Nat} (h : rowOk k r) (e : k ≤ m) : rowOk m r := by
  cases r with
  | yes => trivial
  | is_ x y => exact h
  | ahd x y => exact h
  | not_ i => exact Nat.lt_of_lt_of_le h e
  | bin _ i j => exact ⟨Nat.lt_of_lt_of_le h.1 e, Nat.lt_of_lt_of_le h.2 e⟩
  | qu _ x i => exact ⟨h.1, Nat.lt_of_lt_of_le h.2 e⟩
theorem scan_at {α : Type} {f : Row → List α → α} {d : α} (happ : ∀ r acc more, rowOk acc.length r → f r (acc ++ more) = f r acc) {rs : List Row} (h : okRows rs) {k : Nat} {r : Row} (hk : rs[k]? = some r) : (scan f rs).getD k d = f r (scan f rs) := by
  induction rs using snoc_ind with
  | h0 => simp at hk
  | h1 rs q ih =>
    obtain ⟨h1, h2⟩ := h.init
    have hl : (scan f rs).length = rs.length := scan_len _ _
    rw [scan_snoc]
    by_cases e : k < rs.length
    · rw [List.getElem?_append_left e] at hk
      rw [getD_app (by rw [hl]; exact e), ih h1 hk, happ]
      rw [hl]
      exact ok_mono (h1 k r hk) (Nat.le_of_lt e)
    · have hk1 : k < (rs ++ [q]).length := (List.getElem?_eq_some_iff.mp hk).1
      have : k = rs.length := by simp at hk1; omega
      subst this
      have hq : q = r := by simpa using hk
      subst hq
      rw [happ _ _ _ (by rw [hl]; exact h2), ← hl]
      simp
theorem texts_at {rs : List Row} (h : okRows rs) {k : Nat} {r : Row} (hk : rs[k]? = some r) : (texts rs).getD k [] = shown r (texts rs) := scan_at (fun _ _ _ => shown_app) h hk
theorem wts_at {rs : List Row} (h : okRows rs) {k : Nat} {r : Row} (hk : rs[k]? = some r) : (wts rs).getD k 0 = wRow r (wts rs) := scan_at (fun _ _ _ => wRow_app) h hk
theorem wts_le {rs : List Row} (h : okRows rs) : ∀ i, (wts rs).getD i 0 ≤ 2 * ((texts rs).getD i []).length := by
  induction rs using snoc_ind with
  | h0 => intro i; simp [wts, scan]
  | h1 rs r ih =>
    obtain ⟨h1, h2⟩ := h.init
    intro i
    have hl : (wts rs).length = rs.length := scan_len _ _
    have hl2 : (texts rs).length = rs.length := scan_len _ _
    have e1 : wts (rs ++ [r]) = wts rs ++ [wRow r (wts rs)] := scan_snoc _ _ _
    have e2 : texts (rs ++ [r]) = texts rs ++ [shown r (texts rs)] := scan_snoc _ _ _
    rw [e1, e2]
    by_cases e : i < rs.length
    · rw [getD_app (by rw [hl]; exact e), getD_app (by rw [hl2]; exact e)]; exact ih h1 i
    · by_cases e3 : i = rs.length
      · subst e3
        have a1 : (wts rs ++ [wRow r (wts rs)]).getD rs.length 0 = wRow r (wts rs) := by rw [← hl]; simp
        have a2 : (texts rs ++ [shown r (texts rs)]).getD rs.length [] = shown r (texts rs) := by rw [← hl2]; simp
        rw [a1, a2]
        cases r with
        | yes => show 2 ≤ 2 * 3; omega
        | is_ x y => simp [wRow, shown]; omega
        | ahd x y => simp [wRow, shown]; omega
        | not_ i => have := ih h1 i; simp [wRow, shown] at *; omega
        | bin o i j => have := ih h1 i; have := ih h1 j; have := (tBin_len o).2; simp [wRow, shown] at *; omega
        | qu o x i => have := ih h1 i; have := tQu_len o; simp [wRow, shown] at *; omega
      · have : (wts rs ++ [wRow r (wts rs)]).getD i 0 = 0 := by
          simp only [List.getD_eq_getElem?_getD]
          rw [List.getElem?_eq_none (by simp [hl]; omega)]; rfl
        rw [this]; omega
end Pm

set_option maxRecDepth 100000
namespace Pm
open PySem PySem.Spec L2
local macro_rules | `(tactic| lt_chain) => `(tactic| try simp only [v_get, v_glb, c_bool, c_true, c_false, e_var, e_non, e_bl, e_int, e_str, e_glb, e_tup, e_lst, e_bin, e_cmp, e_chn, e_neg, e_revl, n_rev, s_dead, e_not, e_bop, e_idx, e_slc, e_call, p_ret, p_exc, e_bi, e_bm, e_mu, e_comp, es_nil, es_cons, o_none, o_some, t_none, t_some,
  a_nil, a_val, a_own, a_ino, i_val, i_rng, i_enum, i_zip, zp, it2_l, it2_s, k_leS, b_mulS, s_asg, s_setI, s_expr, s_ret, s_retN, s_if, s_for, s_brk, s_cnt, s_pass, ss_n, ss_c, b_add, b_cat, b_catL, b_catT, b_sub, b_mul, b_div, b_mod, b_pow, k_lt, k_le, k_gt, k_ge, k_eqI, k_neI, k_eqS, k_neS, k_eqB, k_neB, k_inS, k_ninS, k_inTS, k_inLS, k_inLI, k_ninTS, k_ninLS, k_ninLI,
  x_lst, x_tup, x_str, l_lst, l_tup, l_str, f_lenS, f_lenL, f_lenT, f_intB, f_intI, f_listL, f_listT, f_tupL, f_tupT, f_max, f_min, f_isb, f_isi, f_iss, f_isl, u_app, u_ext, u_clear, g_nm, g_tp2, g_tp3, w_set, r_1, r_2, n_neg, n_not, n_bool, n_items, n_some, n_chr, n_lst, n_any, n_opt, n_bop, n_chn, tr_b, tr_i, tr_n, tr_l, tr_t, it_l, it_t, it_s,
  at0, at1, at2, at3, ix0, ix1, kt_rt, kt_nx, kt_ex, rs_nm, Option.elim_some, in_nil, in_inn, in_ino, out0, out1, decide_eq_true_eq, Bool.not_eq_true', Bool.not_eq_false', Bool.not_true, Bool.not_false, decide_eq_false_iff_not, Int.not_lt, Option.map_some, As.outs, setOuts, bo_join, bo_index, bo_rev, m_rev, k_eqSSr, k_neSSr, f_listS, true_and, and_true, List.getElem?_cons_zero, List.getElem?_cons_succ, List.set_cons_zero, List.set_cons_succ, List.length_cons, List.length_nil, List.map_cons, List.map_nil, not_true_eq_false, not_false_eq_true, false_implies, forall_const, decide_true, decide_false, Bool.true_eq_false, Bool.false_eq_true, reduceCtorEq])
local macro_rules | `(tactic| trivial) => `(tactic| omega)
local macro_rules | `(tactic| trivial) => `(tactic| (have := sz_lb; (try simp only [List.length_append, List.length_cons, List.length_nil, List.length_map, List.length_range, List.length_reverse]); omega))
def namesB (t : Nat) : Ss := (.cons (.asg (.nm 2) (.str [97, 98, 99, 100, 101, 102, 103, 104, 105, 106, 107, 108, 109, 110, 111, 112, 113, 114, 115, 116, 117, 118, 119, 120, 121, 122])) (.cons (.asg (.nm 3) (.bin false .Add (.int 1) (.call t (.ino 0 (.val (.int 3) .nil))))) (.cons (.asg (.nm 4) (.comp (.nm 8) (.rng (.cons (.var 3 .bor) .nil)) .none (.idx false (.var 2 .bor) (.call t (.ino 0 (.val (.int 26) .nil)))))) (.cons (.asg (.nm 5) (.call t (.ino 0 (.val (.var 3 .bor) .nil)))) (.cons (.asg (.nm 6) (.call t (.ino 0 (.val (.int 26) .nil)))) (.cons (.asg (.nm 7) (.lst .nil)) (.cons (.for_ [some ⟨.own, 1⟩, some ⟨.frz, 0⟩, some ⟨.frz, 0⟩, some ⟨.frz, 0⟩, some ⟨.own, 1⟩, some ⟨.frz, 0⟩, some ⟨.frz, 0⟩, some ⟨.own, 1⟩, none, none, none, none] (.nm 8) (.rng (.cons (.var 1 .bor) .nil)) (.cons (.asg (.nm 9) (.idx false (.var 2 .bor) (.bin false .Mod (.bin false .Add (.var 6 .bor) (.bin false .Mult (.int 5) (.var 8 .bor))) (.int 26)))) (.cons (.asg (.nm 10) (.bin false .Add (.bin false .Add (.bm .join (.str []) (.cons (.slc true (.var 4 .bor) .none (.some (.var 5 .bor))) .nil)) (.var 9 .bor)) (.bm .join (.str []) (.cons (.slc true (.var 4 .bor) (.some (.bin false .Add (.var 5 .bor) (.int 1))) .none) .nil)))) (.cons (.if_ (.bop false (.cmp .Eq (.bin false .Mod (.var 8 .bor) (.int 2)) (.int 1)) (.bop false (.cmp .Lt (.var 3 .bor) (.int 3)) (.cmp .Eq (.call t (.ino 0 (.val (.int 2) .nil))) (.int 0)))) (.cons (.asg (.nm 10) (.bin false .Add (.var 10 .bor) (.str [113]))) .nil) .nil) (.cons (.if_ (.cmp .In (.var 10 .bor) (.tup (.cons (.str [121, 101, 115]) (.cons (.str [105, 115]) (.cons (.str [110, 111, 116]) (.cons (.str [97, 110, 100]) (.cons (.str [111, 114]) .nil))))))) (.cons (.asg (.nm 10) (.bin false .Add (.str [113, 113]) (.var 9 .bor))) .nil) .nil) (.cons (.expr (.mu .append 7 (.cons (.var 10 .bor) .nil))) .nil)))))) (.cons (.if_ (.cmp .Eq (.call t (.ino 0 (.val (.int 6) .nil))) (.int 0)) (.cons (.asg (.nm 11) (.idx true (.lst (.cons (.str [115, 111, 109]) (.cons (.str [101, 97, 99]) (.cons (.str [110, 111]) (.cons (.str [97, 110]) (.cons (.str [111, 114, 115]) (.cons (.str [105, 115, 115]) (.cons (.str [115, 111]) (.cons (.str [121, 101]) .nil))))))))) (.call t (.ino 0 (.val (.int 8) .nil))))) (.cons (.if_ (.cmp .NotIn (.var 11 .bor) (.var 7 .bor)) (.cons (.setI 7 (.call t (.ino 0 (.val (.var 1 .bor) .nil))) (.var 11 .bor)) .nil) .nil) .nil)) .nil) (.cons (.ret (.var 7 .mov)) .nil)))))))))
def rowAtB (t : Nat) : Ss := (.cons (.ret (.idx true (.lst (.cons (.bin false .Sub (.var 1 .bor) (.int 1)) (.cons (.call t (.ino 0 (.val (.var 1 .bor) .nil))) .nil))) (.call t (.ino 0 (.val (.int 2) .nil))))) .nil)
def sayRowsB (t ra : Nat) : Ss := (.cons (.asg (.nm 4) (.lst .nil)) (.cons (.for_ [some ⟨.own, 1⟩, some ⟨.frz, 0⟩, some ⟨.frz, 1⟩, some ⟨.frz, 0⟩, some ⟨.own, 1⟩, none, none, none, none, none] (.nm 5) (.rng (.cons (.bin false .Add (.int 1) (.call t (.ino 0 (.val (.var 3 .bor) .nil)))) .nil)) (.cons (.asg (.nm 6) (.call t (.ino 0 (.val (.int 12) .nil)))) (.cons (.asg (.nm 7) (.idx true (.var 2 .bor) (.call t (.ino 0 (.val (.bi .len (.cons (.var 2 .bor) .nil)) .nil))))) (.cons (.if_ (.bop true (.cmp .Eq (.var 5 .bor) (.int 0)) (.cmp .Lt (.var 6 .bor) (.int 4))) (.cons (.asg (.nm 8) (.idx true (.var 2 .bor) (.call t (.ino 0 (.val (.bi .len (.cons (.var 2 .bor) .nil)) .nil))))) (.cons (.asg (.nm 9) (.lst (.cons (.tup (.cons (.str [105, 115]) (.cons (.var 7 .bor) (.cons (.idx false (.var 1 .bor) (.call t (.ino 0 (.val (.bi .len (.cons (.var 1 .bor) .nil)) .nil)))) .nil)))) (.cons (.tup (.cons (.str [97, 104, 101, 97, 100]) (.cons (.var 7 .bor) (.cons (.var 8 .bor) .nil)))) (.cons (.tup (.cons (.str [121, 101, 115]) .nil)) .nil))))) (.cons (.expr (.mu .append 4 (.cons (.idx true (.var 9 .bor) (.idx true (.lst (.cons (.int 0) (.cons (.int 0) (.cons (.int 0) (.cons (.int 1) (.cons (.int 1) (.cons (.int 1) (.cons (.int 2) .nil)))))))) (.call t (.ino 0 (.val (.int 7) .nil))))) .nil))) .nil))) (.cons (.if_ (.cmp .Lt (.var 6 .bor) (.int 6)) (.cons (.expr (.mu .append 4 (.cons (.tup (.cons (.str [110, 111, 116]) (.cons (.call ra (.ino 0 (.val (.var 5 .bor) .nil))) .nil))) .nil))) .nil) (.cons (.if_ (.cmp .Lt (.var 6 .bor) (.int 9)) (.cons (.expr (.mu .append 4 (.cons (.tup (.cons (.idx true (.lst (.cons (.str [97, 110, 100]) (.cons (.str [97, 110, 100]) (.cons (.str [111, 114]) .nil)))) (.bin false .Sub (.var 6 .bor) (.int 6))) (.cons (.call ra (.ino 0 (.val (.var 5 .bor) .nil))) (.cons (.call t (.ino 0 (.val (.var 5 .bor) .nil))) .nil)))) .nil))) .nil) (.cons (.expr (.mu .append 4 (.cons (.tup (.cons (.idx true (.lst (.cons (.str [115, 111, 109, 101]) (.cons (.str [115, 111, 109, 101]) (.cons (.str [101, 97, 99, 104]) .nil)))) (.bin false .Sub (.var 6 .bor) (.int 9))) (.cons (.var 7 .bor) (.cons (.call ra (.ino 0 (.val (.var 5 .bor) .nil))) .nil)))) .nil))) .nil)) .nil)) .nil)) .nil)))) (.cons (.ret (.var 4 .mov)) .nil)))
def chainB (t : Nat) : Ss := (.cons (.asg (.nm 4) (.bi (.list true) (.cons (.var 2 .bor) .nil))) (.cons (.for_ [some ⟨.own, 1⟩, some ⟨.frz, 1⟩, some ⟨.frz, 1⟩, some ⟨.frz, 0⟩, some ⟨.own, 1⟩, none, none, none] (.nm 5) (.rng (.cons (.var 3 .bor) .nil)) (.cons (.asg (.nm 6) (.idx true (.var 1 .bor) (.call t (.ino 0 (.val (.bi .len (.cons (.var 1 .bor) .nil)) .nil))))) (.cons (.asg (.nm 7) (.idx true (.lst (.cons (.str [110, 111, 116]) (.cons (.str [115, 111, 109, 101]) (.cons (.str [101, 97, 99, 104]) .nil)))) (.call t (.ino 0 (.val (.int 3) .nil))))) (.cons (.if_ (.cmp .Eq (.var 7 .bor) (.str [110, 111, 116])) (.cons (.expr (.mu .append 4 (.cons (.tup (.cons (.str [110, 111, 116]) (.cons (.bin false .Sub (.bi .len (.cons (.var 4 .bor) .nil)) (.int 1)) .nil))) .nil))) .nil) (.cons (.expr (.mu .append 4 (.cons (.tup (.cons (.var 7 .bor) (.cons (.var 6 .bor) (.cons (.bin false .Sub (.bi .len (.cons (.var 4 .bor) .nil)) (.int 1)) .nil)))) .nil))) .nil)) .nil)))) (.cons (.ret (.bi (.tuple true) (.cons (.var 4 .bor) .nil))) .nil)))
theorem cut_map {α β : Type} (f : α → β) (xs : List α) (a b : Option Int) : cutL (xs.map f) a b = (cutL xs a b).map f := by
  unfold cutL; rw [List.length_map, ← List.map_drop, ← List.map_take]
def namesSpec (ds : List D) (Post : FOut → Prop) : Prop := ∃ (x : Box) (m : Int), (1 ≤ m ∧ m ≤ 100) ∧ ds = [x.enc, .int m] ∧ ∀ (ns : List (List Nat)) (y : Box), (ns.length : Int) = m → (∀ n ∈ ns, n.length ≤ 10) → Post (.ret (.lst (ns.map .str)) [y.enc])
def rowAtSpec (ds : List D) (Post : FOut → Prop) : Prop := ∃ (x : Box) (k : Nat), (1 ≤ k ∧ k ≤ 100000) ∧ ds = [x.enc, .int k] ∧ ∀ (v : Nat) (y : Box), v < k → Post (.ret (.int v) [y.enc])
def sayRowsSpec (ds : List D) (Post : FOut → Prop) : Prop := ∃ (x : Box) (L : List Nat) (ns : List (List Nat)) (m : Int), (1 ≤ L.length ∧ L.length ≤ 26 ∧ 1 ≤ ns.length ∧ ns.length ≤ 100 ∧ (∀ n ∈ ns, n.length ≤ 10) ∧ 1 ≤ m ∧ m ≤ 1000) ∧ ds = [x.enc, .str L, .lst (ns.map .str), .int m] ∧
  ∀ (rs : List Row) (y : Box), okRows rs → 1 ≤ rs.length → (rs.length : Int) ≤ m → Post (.ret (.lst (rs.map Row.enc)) [y.enc])
def chainSpec (ds : List D) (Post : FOut → Prop) : Prop := ∃ (x : Box) (ns : List (List Nat)) (rs : List Row) (m : Nat), (1 ≤ ns.length ∧ ns.length ≤ 100 ∧ (∀ n ∈ ns, n.length ≤ 10) ∧ okRows rs ∧ 1 ≤ rs.length ∧ rs.length ≤ 1000 ∧ m ≤ 1000) ∧ ds = [x.enc, .lst (ns.map .str), .lst (rs.map Row.enc), .int m] ∧
  ∀ (qs : List Row) (y : Box), okRows qs → qs.length = rs.length + m → (∀ B, bnd B (texts rs) → bnd (B + 20 * m) (texts qs)) → Post (.ret (.tup (qs.map Row.enc)) [y.enc])
theorem pair_at {a b v : Int} {k : D → Prop} (h0 : 0 ≤ v) (h1 : v < 2) (ha : k (.int a)) (hb : k (.int b)) : glbK (atI [D.int a, D.int b] v) k := by
  rcases (show v = 0 ∨ v = 1 by omega) with rfl | rfl
  · exact ha
  · exact hb
theorem row_at_ok {C : Pm.Ctx} {t : Nat} (hC : C.spec t = takeSpec) {ds : List D} {Post : FOut → Prop} (h : rowAtSpec ds Post) : evalSs C (rowAtB t) (ini 2 ds) (ktOf ⟨[.ino 1, .inn 0], 0⟩ Post) := by
  obtain ⟨x, k, ⟨h1, h2⟩, rfl, hp⟩ := h
  show evalSs C (rowAtB t) [some x.enc, some (.int k)] _
  unfold rowAtB
  lt_chain
  try simp only [hC]
  refine ⟨x, k, ⟨by omega, by omega⟩, rfl, fun v y h3 h4 => ?_⟩
  lt_chain
  try simp only [hC]
  refine ⟨by trivial, y, 2, ⟨by omega, by omega⟩, rfl, fun w y2 h5 h6 => ?_⟩
  lt_chain
  refine pair_at h5 h6 ?_ ?_
  · have := hp (k - 1) y2 (by omega)
    rw [show ((k - 1 : Nat) : Int) = (k : Int) - 1 by omega] at this
    exact this
  · have := hp v.toNat y2 (by omega)
    rw [show ((v.toNat : Nat) : Int) = v by omega] at this
    exact this
def resW : List (List Nat) := [[121, 101, 115], [105, 115], [110, 111, 116], [97, 110, 100], [111, 114]]
theorem odd8 {v : Int} {k : D → Prop} (h0 : 0 ≤ v) (h1 : v < 8) (h : ∀ s : List Nat, s.length ≤ 3 → k (.str s)) : glbK (atI [D.str [115, 111, 109], D.str [101, 97, 99], D.str [110, 111], D.str [97, 110], D.str [111, 114, 115], D.str [105, 115, 115], D.str [115, 111], D.str [121, 101]] v) k := by
  refine lst_at h0 (by simpa using h1) fun c hc => ?_
  simp at hc
  rcases hc with rfl | rfl | rfl | rfl | rfl | rfl | rfl | rfl <;> exact h _ (by simp)
theorem setL_at {xs : List D} {i : Int} {v : D} {k : D → Prop} (h0 : 0 ≤ i) (h1 : i < xs.length) (h : k (.lst (xs.set i.toNat v))) : someK (ixN xs.length i) (fun j => k (.lst (xs.set j v))) := by
  have : ixN xs.length i = some i.toNat := by unfold ixN; rw [if_pos h0, if_pos h1]
  rw [this]; exact h
theorem names_ok {C : Pm.Ctx} {t : Nat} (hC : C.spec t = takeSpec) {ds : List D} {Post : FOut → Prop} (h : namesSpec ds Post) : evalSs C (namesB t) (ini 12 ds) (ktOf ⟨[.ino 1, .inn 0], 1⟩ Post) := by
  obtain ⟨x, m, ⟨h1, h2⟩, rfl, hp⟩ := h
  show evalSs C (namesB t) [some x.enc, some (.int m), none, none, none, none, none, none, none, none, none, none] _
  unfold namesB
  lt_chain
  try simp only [hC]
  refine ⟨x, 3, ⟨by omega, by omega⟩, rfl, fun v y h3 h4 => ?_⟩
  lt_chain
  refine ⟨by omega, by omega, by trivial, ?_⟩
  refine compU (i := 8) (fun b : Box => [some b.enc, some (.int m), some (.str abc), some (.int (1 + v)), none, none, none, none, none, none, none, none]) (fun j acc _ => ∃ s : List Nat, s.length = j ∧ acc = s.map fun c => .str [c]) y rfl ⟨[], rfl, rfl⟩ (fun j x acc b k hx hP hk => ?_) (fun acc b z hP => ?_)
  · obtain ⟨u, hu, rfl⟩ := hP
    lt_chain
    try simp only [hC]
    refine ⟨b, _, ⟨by omega, by omega⟩, rfl, fun n y5 h7 h8 => ?_⟩
    lt_chain
    refine str_at2 h7 (by simpa [abc] using h8) fun c hc => ?_
    exact ⟨by decide, hk (.str [c]) y5 ⟨u ++ [c], by simp [hu], by simp⟩⟩
  obtain ⟨s, hs, rfl⟩ := hP
  have hs2 : s.length ≤ 3 := by simp at hs; omega
  lt_chain
  try simp only [hC]
  refine ⟨b, _, ⟨by omega, by omega⟩, rfl, fun sp y2 h5 h6 => ?_⟩
  lt_chain
  try simp only [hC]
  refine ⟨y2, _, ⟨by omega, by omega⟩, rfl, fun fi y3 h7 h8 => ?_⟩
  lt_chain
  refine ⟨by trivial, by omega, by omega, forL (fun i ρ => ∃ (b : Box) (ns : List (List Nat)) (z8 z9 z10 : Option D), ρ = [some b.enc, some (.int m), some (.str abc), some (.int (1 + v)), some (.lst (s.map fun c => .str [c])), some (.int sp), some (.int fi), some (.lst (ns.map .str)), z8, z9, z10, none] ∧ ns.length = i ∧ ∀ n ∈ ns, n.length ≤ 10) ⟨y3, [], _, _, _, rfl, rfl, by simp⟩ (fun i x ρ k hx hI hk => ?_) (fun ρ hI => ?_)⟩
  · obtain ⟨b, ns, z8, z9, z10, rfl, hn, hm⟩ := hI
    obtain ⟨j, hj, rfl⟩ := List.mem_map.mp (List.mem_of_getElem? hx)
    have hi : i < m.toNat := by
      have := (List.getElem?_eq_some_iff.mp hx).1
      simpa using this
    have c1 : (cutL s none (some sp)).length ≤ 3 := Nat.le_trans cut_len hs2
    have c2 : (cutL s (some (sp + 1)) none).length ≤ 3 := Nat.le_trans cut_len hs2
    have leaf : ∀ (b : Box) (nm : List Nat) (z9 : Option D), nm.length ≤ 10 → (ns.map D.str).length < sizeLine ∧ k [some b.enc, some (.int m), some (.str abc), some (.int (1 + v)), some (.lst (s.map fun c => .str [c])), some (.int sp), some (.int fi), some (.lst (ns.map .str ++ [.str nm])), some (.int j), z9, some (.str nm), none] := by
      intro b nm z9 hnm
      refine ⟨by have := sz_lb; simp; omega, hk _ ⟨b, ns ++ [nm], _, _, _, by simp; exact ⟨rfl, rfl, rfl⟩, by simp [hn], fun n hmem => ?_⟩⟩
      simp at hmem
      rcases hmem with hmem | rfl
      · exact hm n hmem
      · exact hnm
    unfold stepF
    lt_chain
    refine ⟨.inl ⟨by omega, by omega⟩, by decide, ?_⟩
    have e0 : 0 ≤ (fi + 5 * (j : Int)) % 26 := Int.emod_nonneg _ (by omega)
    have e1 : (fi + 5 * (j : Int)) % 26 < 26 := Int.emod_lt_of_pos _ (by omega)
    refine str_at2 e0 (by simpa [abc] using e1) fun c hc => ?_
    lt_chain
    simp only [cut_map]
    refine ⟨by trivial, m_join1 (by omega) ?_⟩
    lt_chain
    refine ⟨by trivial, m_join1 (by omega) ?_⟩
    have eW : [D.str [121, 101, 115], D.str [105, 115], D.str [110, 111, 116], D.str [97, 110, 100], D.str [111, 114]] = resW.map .str := rfl
    simp only [eW]
    lt_chain
    refine ⟨by trivial, by decide, fun _ => ⟨by trivial, fun _ => ⟨by trivial, leaf _ _ _ (by simp)⟩, fun _ => leaf _ _ _ (by simp; omega)⟩, fun _ => ⟨fun _ => ⟨by trivial, fun _ => ⟨by trivial, leaf _ _ _ (by simp)⟩, fun _ => leaf _ _ _ (by simp; omega)⟩, fun _ => ?_⟩⟩
    try simp only [hC]
    refine ⟨b, 2, ⟨by omega, by omega⟩, rfl, fun w y4 _ _ => ?_⟩
    lt_chain
    refine ⟨fun _ => ⟨by trivial, by trivial, fun _ => ⟨by trivial, leaf _ _ _ (by simp)⟩, fun _ => leaf _ _ _ (by simp; omega)⟩, fun _ => ⟨by trivial, fun _ => ⟨by trivial, leaf _ _ _ (by simp)⟩, fun _ => leaf _ _ _ (by simp; omega)⟩⟩
  · obtain ⟨b, ns, z8, z9, z10, rfl, hn, hm⟩ := hI
    have hn2 : (ns.length : Int) = m := by simp at hn; omega
    lt_chain
    try simp only [hC]
    refine ⟨b, 6, ⟨by omega, by omega⟩, rfl, fun w y4 _ _ => ?_⟩
    lt_chain
    refine ⟨fun _ => ⟨by trivial, y4, 8, ⟨by omega, by omega⟩, rfl, fun w2 y5 h9 h10 => ?_⟩, fun _ => hp ns y4 hn2 hm⟩
    lt_chain
    refine odd8 h9 h10 fun od ho => ?_
    lt_chain
    refine ⟨fun _ => ⟨y5, m, ⟨by omega, by omega⟩, rfl, fun w3 y6 h11 h12 => ?_⟩, fun _ => hp ns y5 hn2 hm⟩
    lt_chain
    refine setL_at (xs := ns.map D.str) (k := fun o => Post (FOut.ret o [y6.enc])) h11 (by rw [List.length_map]; omega) ?_
    lt_chain
    rw [← List.map_set]
    refine hp _ y6 (by simpa using hn2) fun n hmem => ?_
    rcases List.mem_or_eq_of_mem_set hmem with hmem | rfl
    · exact hm n hmem
    · omega
theorem rows3 {v : Int} {k : D → Prop} (h0 : 0 ≤ v) (h1 : v < 7) (h : ∀ w : Int, w = 0 ∨ w = 1 ∨ w = 2 → k (.int w)) : glbK (atI [D.int 0, D.int 0, D.int 0, D.int 1, D.int 1, D.int 1, D.int 2] v) k := by
  refine lst_at h0 (by simpa using h1) fun c hc => ?_
  simp at hc
  rcases hc with rfl | rfl | rfl <;> exact h _ (by simp)
theorem say_rows_ok {C : Pm.Ctx} {t ra : Nat} (hC : C.spec t = takeSpec) (hR : C.spec ra = rowAtSpec) {ds : List D} {Post : FOut → Prop} (h : sayRowsSpec ds Post) : evalSs C (sayRowsB t ra) (ini 10 ds) (ktOf ⟨[.ino 1, .inn 0, .inn 1, .inn 0], 1⟩ Post) := by
  obtain ⟨x, L, ns, m, ⟨h1, h2, h3, h4, h5, h6, h7⟩, rfl, hp⟩ := h
  show evalSs C (sayRowsB t ra) [some x.enc, some (.str L), some (.lst (ns.map .str)), some (.int m), none, none, none, none, none, none] _
  unfold sayRowsB
  lt_chain
  simp only [hC, hR]
  refine ⟨by trivial, x, m, ⟨by omega, by omega⟩, rfl, fun v y h8 h9 => ?_⟩
  lt_chain
  refine ⟨by omega, by omega, forL (fun i ρ => ∃ (b : Box) (rs : List Row) (z5 z6 z7 z8 z9 : Option D), ρ = [some b.enc, some (.str L), some (.lst (ns.map .str)), some (.int m), some (.lst (rs.map Row.enc)), z5, z6, z7, z8, z9] ∧ rs.length = i ∧ okRows rs) ⟨y, [], _, _, _, _, _, rfl, rfl, okRows.nil⟩ (fun i x ρ k hx hI hk => ?_) (fun ρ hI => ?_)⟩
  · obtain ⟨b, rs, z5, z6, z7, z8, z9, rfl, hn, ho⟩ := hI
    have hi : i < (1 + v).toNat := by
      have := (List.getElem?_eq_some_iff.mp hx).1
      simpa using this
    have ex : x = .int i := by
      rw [List.getElem?_map, List.getElem?_range (by simpa using hi)] at hx
      cases hx; rfl
    subst ex
    have leaf : ∀ (b : Box) (r : Row) (z6 z7 z8 z9 : Option D), rowOk i r → (rs.map Row.enc).length < sizeLine ∧ k [some b.enc, some (.str L), some (.lst (ns.map .str)), some (.int m), some (.lst (rs.map Row.enc ++ [r.enc])), some (.int i), z6, z7, z8, z9] := by
      intro b r z6 z7 z8 z9 hr
      refine ⟨by have := sz_lb; simp; omega, hk _ ⟨b, rs ++ [r], some (.int i), z6, z7, z8, z9, by simp, by simp [hn], ho.snoc (by rw [hn]; exact hr)⟩⟩
    unfold stepF
    lt_chain
    try simp only [hC]
    refine ⟨b, 12, ⟨by omega, by omega⟩, rfl, fun kd y2 hk1 hk2 => ?_⟩
    lt_chain
    refine ⟨y2, _, ⟨by trivial, by trivial⟩, rfl, fun a y3 h10 h11 => ?_⟩
    lt_chain
    refine lst_at h10 h11 fun nx hnx => ?_
    obtain ⟨nm, hnm, rfl⟩ := List.mem_map.mp hnx
    lt_chain
    refine ⟨fun _ => ?_, fun hi0 => ⟨fun _ => ?_, fun hk4 => ⟨fun hk6 => ?_, fun hk6 => ⟨fun hk9 => ?_, fun hk9 => ?_⟩⟩⟩⟩
    · refine ⟨y3, _, ⟨by trivial, by trivial⟩, rfl, fun a2 y4 h12 h13 => ?_⟩
      lt_chain
      refine lst_at h12 h13 fun nx2 hnx2 => ?_
      obtain ⟨nm2, hnm2, rfl⟩ := List.mem_map.mp hnx2
      lt_chain
      refine ⟨by trivial, y4, _, ⟨by trivial, by trivial⟩, rfl, fun a3 y5 h14 h15 => ?_⟩
      lt_chain
      refine str_at2 h14 h15 fun c hc => ?_
      lt_chain
      refine ⟨by trivial, by trivial, by trivial, by trivial, by trivial, by trivial, y5, 7, ⟨by trivial, by trivial⟩, rfl, fun a4 y6 h16 h17 => ?_⟩
      lt_chain
      refine rows3 h16 h17 fun w hw => ?_
      rcases hw with rfl | rfl | rfl
      · exact leaf y6 (.is_ nm [c]) _ _ _ _ ⟨h5 nm hnm, by simp⟩
      · exact leaf y6 (.ahd nm nm2) _ _ _ _ ⟨h5 nm hnm, h5 nm2 hnm2⟩
      · exact leaf y6 .yes _ _ _ _ trivial
    · refine ⟨y3, _, ⟨by trivial, by trivial⟩, rfl, fun a2 y4 h12 h13 => ?_⟩
      lt_chain
      refine lst_at h12 h13 fun nx2 hnx2 => ?_
      obtain ⟨nm2, hnm2, rfl⟩ := List.mem_map.mp hnx2
      lt_chain
      refine ⟨by trivial, y4, _, ⟨by trivial, by trivial⟩, rfl, fun a3 y5 h14 h15 => ?_⟩
      lt_chain
      refine str_at2 h14 h15 fun c hc => ?_
      lt_chain
      refine ⟨by trivial, by trivial, by trivial, by trivial, by trivial, by trivial, y5, 7, ⟨by trivial, by trivial⟩, rfl, fun a4 y6 h16 h17 => ?_⟩
      lt_chain
      refine rows3 h16 h17 fun w hw => ?_
      rcases hw with rfl | rfl | rfl
      · exact leaf y6 (.is_ nm [c]) _ _ _ _ ⟨h5 nm hnm, by simp⟩
      · exact leaf y6 (.ahd nm nm2) _ _ _ _ ⟨h5 nm hnm, h5 nm2 hnm2⟩
      · exact leaf y6 .yes _ _ _ _ trivial
    · try simp only [hR]
      refine ⟨y3, i, ⟨by omega, by omega⟩, rfl, fun v2 y4 hv => ?_⟩
      lt_chain
      refine ⟨by trivial, ?_⟩
      exact leaf y4 (.not_ v2) _ _ _ _ hv
    · refine ⟨by trivial, ?_⟩
      have hkd : kd - 6 = 0 ∨ kd - 6 = 1 ∨ kd - 6 = 2 := by omega
      rcases hkd with e | e | e
      · rw [e]
        lt_chain
        try simp only [hR]
        refine ⟨y3, i, ⟨by omega, by omega⟩, rfl, fun v2 y4 hv => ?_⟩
        lt_chain
        refine ⟨y4, i, ⟨by omega, by omega⟩, rfl, fun v3 y5 h18 h19 => ?_⟩
        lt_chain
        refine ⟨by trivial, ?_⟩
        have := leaf y5 (.bin false v2 v3.toNat) (some (.int kd)) (some (.str nm)) z8 z9 ⟨hv, by omega⟩
        rw [show Row.enc (.bin false v2 v3.toNat) = .tup [.str (tBin false), .int v2, .int v3.toNat] from rfl, show ((v3.toNat : Nat) : Int) = v3 by omega] at this
        exact this
      · rw [e]
        lt_chain
        try simp only [hR]
        refine ⟨y3, i, ⟨by omega, by omega⟩, rfl, fun v2 y4 hv => ?_⟩
        lt_chain
        refine ⟨y4, i, ⟨by omega, by omega⟩, rfl, fun v3 y5 h18 h19 => ?_⟩
        lt_chain
        refine ⟨by trivial, ?_⟩
        have := leaf y5 (.bin false v2 v3.toNat) (some (.int kd)) (some (.str nm)) z8 z9 ⟨hv, by omega⟩
        rw [show Row.enc (.bin false v2 v3.toNat) = .tup [.str (tBin false), .int v2, .int v3.toNat] from rfl, show ((v3.toNat : Nat) : Int) = v3 by omega] at this
        exact this
      · rw [e]
        lt_chain
        try simp only [hR]
        refine ⟨y3, i, ⟨by omega, by omega⟩, rfl, fun v2 y4 hv => ?_⟩
        lt_chain
        refine ⟨y4, i, ⟨by omega, by omega⟩, rfl, fun v3 y5 h18 h19 => ?_⟩
        lt_chain
        refine ⟨by trivial, ?_⟩
        have := leaf y5 (.bin true v2 v3.toNat) (some (.int kd)) (some (.str nm)) z8 z9 ⟨hv, by omega⟩
        rw [show Row.enc (.bin true v2 v3.toNat) = .tup [.str (tBin true), .int v2, .int v3.toNat] from rfl, show ((v3.toNat : Nat) : Int) = v3 by omega] at this
        exact this
    · refine ⟨by trivial, ?_⟩
      have hkd : kd - 9 = 0 ∨ kd - 9 = 1 ∨ kd - 9 = 2 := by omega
      rcases hkd with e | e | e
      · rw [e]
        lt_chain
        try simp only [hR]
        refine ⟨y3, i, ⟨by omega, by omega⟩, rfl, fun v2 y4 hv => ?_⟩
        lt_chain
        refine ⟨by trivial, ?_⟩
        exact leaf y4 (.qu false nm v2) _ _ _ _ ⟨h5 nm hnm, hv⟩
      · rw [e]
        lt_chain
        try simp only [hR]
        refine ⟨y3, i, ⟨by omega, by omega⟩, rfl, fun v2 y4 hv => ?_⟩
        lt_chain
        refine ⟨by trivial, ?_⟩
        exact leaf y4 (.qu false nm v2) _ _ _ _ ⟨h5 nm hnm, hv⟩
      · rw [e]
        lt_chain
        try simp only [hR]
        refine ⟨y3, i, ⟨by omega, by omega⟩, rfl, fun v2 y4 hv => ?_⟩
        lt_chain
        refine ⟨by trivial, ?_⟩
        exact leaf y4 (.qu true nm v2) _ _ _ _ ⟨h5 nm hnm, hv⟩
  · obtain ⟨b, rs, z5, z6, z7, z8, z9, rfl, hn, ho⟩ := hI
    lt_chain
    simp at hn
    exact hp rs b ho (by omega) (by omega)
theorem word3 {v : Int} {k : D → Prop} (h0 : 0 ≤ v) (h1 : v < 3) (ha : k (.str tNot)) (hb : ∀ o, k (.str (tQu o))) : glbK (atI [D.str [110, 111, 116], D.str [115, 111, 109, 101], D.str [101, 97, 99, 104]] v) k := by
  rcases (show v = 0 ∨ v = 1 ∨ v = 2 by omega) with rfl | rfl | rfl
  · exact ha
  · exact hb false
  · exact hb true
theorem chain_ok {C : Pm.Ctx} {t : Nat} (hC : C.spec t = takeSpec) {ds : List D} {Post : FOut → Prop} (h : chainSpec ds Post) : evalSs C (chainB t) (ini 8 ds) (ktOf ⟨[.ino 1, .inn 1, .inn 1, .inn 0], 0⟩ Post) := by
  obtain ⟨x, ns, rs, m, ⟨h1, h2, h3, h4, h5, h6, h7⟩, rfl, hp⟩ := h
  show evalSs C (chainB t) [some x.enc, some (.lst (ns.map .str)), some (.lst (rs.map Row.enc)), some (.int m), none, none, none, none] _
  unfold chainB
  lt_chain
  try simp only [hC]
  refine ⟨by omega, by omega, forL (fun i ρ => ∃ (b : Box) (qs : List Row) (z5 z6 z7 : Option D), ρ = [some b.enc, some (.lst (ns.map .str)), some (.lst (rs.map Row.enc)), some (.int m), some (.lst (qs.map Row.enc)), z5, z6, z7] ∧ qs.length = rs.length + i ∧ okRows qs ∧ ∀ B, bnd B (texts rs) → bnd (B + 20 * i) (texts qs)) ⟨x, rs, _, _, _, rfl, rfl, h4, fun B hB => hB⟩ (fun i x ρ k hx hI hk => ?_) (fun ρ hI => ?_)⟩
  · obtain ⟨b, qs, z5, z6, z7, rfl, hn, ho, hb⟩ := hI
    have hi : i < m := by
      have := (List.getElem?_eq_some_iff.mp hx).1
      simpa using this
    have leaf : ∀ (b : Box) (r : Row) (z6 z7 : Option D), rowOk qs.length r → isChain r = true → (qs.map Row.enc).length < sizeLine ∧ k [some b.enc, some (.lst (ns.map .str)), some (.lst (rs.map Row.enc)), some (.int m), some (.lst (qs.map Row.enc ++ [r.enc])), some x, z6, z7] := by
      intro b r z6 z7 hr hc
      refine ⟨by have := sz_lb; simp; omega, hk _ ⟨b, qs ++ [r], some x, z6, z7, by simp, by simp [hn]; omega, ho.snoc hr, fun B hB => ?_⟩⟩
      rw [show B + 20 * (i + 1) = B + 20 * i + 20 by omega]
      exact chain_bnd (hb B hB) hr hc
    have e1 : ((qs.map Row.enc).length : Int) - 1 = ((qs.length - 1 : Nat) : Int) := by rw [List.length_map]; omega
    unfold stepF
    lt_chain
    try simp only [hC]
    refine ⟨b, _, ⟨by trivial, by trivial⟩, rfl, fun a y3 h10 h11 => ?_⟩
    lt_chain
    refine lst_at h10 h11 fun nx hnx => ?_
    obtain ⟨nm, hnm, rfl⟩ := List.mem_map.mp hnx
    lt_chain
    refine ⟨by trivial, y3, _, ⟨by trivial, by trivial⟩, rfl, fun a2 y4 h12 h13 => ?_⟩
    lt_chain
    refine word3 h12 h13 ?_ fun o => ?_
    · unfold tNot
      lt_chain
      refine ⟨by trivial, ?_⟩
      have := leaf y4 (.not_ (qs.length - 1)) (some (.str nm)) (some (.str tNot)) (by show qs.length - 1 < qs.length; omega) rfl
      rw [show Row.enc (.not_ (qs.length - 1)) = .tup [.str tNot, .int ((qs.length - 1 : Nat) : Int)] from rfl, ← e1] at this
      exact this
    · have := leaf y4 (.qu o nm (qs.length - 1)) (some (.str nm)) (some (.str (tQu o))) ⟨h3 nm hnm, by omega⟩ rfl
      rw [show Row.enc (.qu o nm (qs.length - 1)) = .tup [.str (tQu o), .str nm, .int ((qs.length - 1 : Nat) : Int)] from rfl, ← e1] at this
      have hne : ¬ tQu o = [110, 111, 116] := by cases o <;> decide
      lt_chain
      exact ⟨fun h => absurd h hne, fun _ => ⟨by trivial, this⟩⟩
  · obtain ⟨b, qs, z5, z6, z7, rfl, hn, ho, hb⟩ := hI
    have e : (List.map (fun i => D.int (i : Nat)) (List.range (m : Int).toNat)).length = m := by simp
    rw [e] at hn hb
    lt_chain
    exact hp qs b ho hn hb
end Pm

set_option maxRecDepth 100000
namespace K42
open PySem PySem.Spec L2 Pm
def topS (i : Nat) : Stmt := PySem.Challenge.pw_calmword_k42_sayings_written.main.body.getD i (.Pass ⟨0, 0, 0, 0⟩)
/-- 0: _law_box(_law_script, _law_k); places: 0 _law_script 1 _law_k 2 _law_cell 3 _law_seed -/
def b_l_box : Ss := (.cons (.asg (.nm 2) (.bin false .Add (.bin false .Mult (.int 7919) (.var 1 .bor)) (.int 11))) (.cons (.if_ (.cmp .Lt (.var 1 .bor) (.bi .len (.cons (.var 0 .bor) .nil))) (.cons (.asg (.nm 2) (.idx true (.var 0 .bor) (.var 1 .bor))) .nil) (.cons (.if_ (.cmp .Gt (.bi .len (.cons (.var 0 .bor) .nil)) (.int 0)) (.cons (.asg (.nm 2) (.bin false .Add (.var 2 .bor) (.bin false .Mult (.bin false .Mod (.idx true (.var 0 .bor) (.bin false .Mod (.var 1 .bor) (.bi .len (.cons (.var 0 .bor) .nil)))) (.int 2147483629)) (.int 69623)))) .nil) .nil) .nil)) (.cons (.asg (.nm 3) (.bin false .Add (.bin false .Mod (.bin false .Add (.bin false .Mult (.bin false .Mod (.var 2 .bor) (.int 2147483629)) (.int 48271)) (.bin false .Mult (.int 40692) (.var 1 .bor))) (.int 2147483629)) (.int 1))) (.cons (.ret (.lst (.cons (.bin false .Mult (.var 2 .bor) (.bi .int (.cons (.cmp .GtE (.var 2 .bor) (.bin false .Pow (.int 10) (.int 18))) .nil))) (.cons (.var 3 .bor) .nil)))) .nil))))
def d_l_box : DefT := ⟨"_law_box", topS 9, ["_law_script", "_law_k", "_law_cell", "_law_seed"], ["_law_script", "_law_k"], b_l_box, ⟨[.inn 1, .inn 0], 1⟩⟩
/-- 1: _law_take(_law_box_here, _law_wide); places: 0 _law_box_here 1 _law_wide 2 _law_one 3 _law_digit -/
def b_l_take : Ss := (.cons (.if_ (.cmp .Gt (.idx true (.var 0 .bor) (.int 0)) (.int 0)) (.cons (.asg (.nm 3) (.bin false .Mod (.idx true (.var 0 .bor) (.int 0)) (.var 1 .bor))) (.cons (.setI 0 (.int 0) (.bin false .FloorDiv (.idx true (.var 0 .bor) (.int 0)) (.var 1 .bor))) (.cons (.ret (.var 3 .bor)) .nil))) .nil) (.cons (.asg (.nm 2) (.bin false .Mod (.bin false .Mult (.idx true (.var 0 .bor) (.int 1)) (.int 69623)) (.int 2147483647))) (.cons (.setI 0 (.int 1) (.bin false .Add (.bin false .Mod (.bin false .Add (.bin false .Mult (.var 2 .bor) (.int 48271)) (.int 30103)) (.int 2147483629)) (.int 1))) (.cons (.ret (.bin false .Mod (.bin false .FloorDiv (.bin false .Add (.bin false .Mult (.var 2 .bor) (.int 2147483647)) (.idx true (.var 0 .bor) (.int 1))) (.int 8191)) (.var 1 .bor))) .nil))))
def d_l_take : DefT := ⟨"_law_take", topS 10, ["_law_box_here", "_law_wide", "_law_one", "_law_digit"], ["_law_box_here", "_law_wide"], b_l_take, ⟨[.ino 1, .inn 0], 0⟩⟩
/-- 2: _law_letters(_law_box_here, _law_most); places: 0 _law_box_here 1 _law_most 2 _law_pool 3 _law_found 4 _law_k -/
def b_l_letters : Ss := (.cons (.asg (.nm 2) (.bi (.list false) (.cons (.str [97, 98, 99, 100, 101, 102, 103, 104, 105, 106, 107, 108, 109, 110, 111, 112, 113, 114, 115, 116, 117, 118, 119, 120, 121, 122]) .nil))) (.cons (.asg (.nm 3) (.str [])) (.cons (.for_ [some ⟨.own, 1⟩, some ⟨.frz, 0⟩, some ⟨.own, 1⟩, some ⟨.frz, 0⟩, none] (.nm 4) (.rng (.cons (.bin false .Add (.int 1) (.call 1 (.ino 0 (.val (.var 1 .bor) .nil)))) .nil)) (.cons (.asg (.nm 3) (.bin false .Add (.var 3 .bor) (.mu .popAt 2 (.cons (.call 1 (.ino 0 (.val (.bi .len (.cons (.var 2 .bor) .nil)) .nil))) .nil)))) .nil)) (.cons (.ret (.var 3 .bor)) .nil))))
def d_l_letters : DefT := ⟨"_law_letters", topS 11, ["_law_box_here", "_law_most", "_law_pool", "_law_found", "_law_k"], ["_law_box_here", "_law_most"], b_l_letters, ⟨[.ino 1, .inn 0], 0⟩⟩
/-- 3: _law_place_names(_law_box_here, _law_many); places: 0 _law_box_here 1 _law_many 2 _law_letters_here 3 _law_size 4 _law_signs 5 _law_spot 6 _law_first 7 _law_found 8 _law_k 9 _law_one 10 _law_name 11 _law_odd -/
def b_l_place_names : Ss := (.cons (.asg (.nm 2) (.str [97, 98, 99, 100, 101, 102, 103, 104, 105, 106, 107, 108, 109, 110, 111, 112, 113, 114, 115, 116, 117, 118, 119, 120, 121, 122])) (.cons (.asg (.nm 3) (.bin false .Add (.int 1) (.call 1 (.ino 0 (.val (.int 3) .nil))))) (.cons (.asg (.nm 4) (.comp (.nm 8) (.rng (.cons (.var 3 .bor) .nil)) .none (.idx false (.var 2 .bor) (.call 1 (.ino 0 (.val (.int 26) .nil)))))) (.cons (.asg (.nm 5) (.call 1 (.ino 0 (.val (.var 3 .bor) .nil)))) (.cons (.asg (.nm 6) (.call 1 (.ino 0 (.val (.int 26) .nil)))) (.cons (.asg (.nm 7) (.lst .nil)) (.cons (.for_ [some ⟨.own, 1⟩, some ⟨.frz, 0⟩, some ⟨.frz, 0⟩, some ⟨.frz, 0⟩, some ⟨.own, 1⟩, some ⟨.frz, 0⟩, some ⟨.frz, 0⟩, some ⟨.own, 1⟩, none, none, none, none] (.nm 8) (.rng (.cons (.var 1 .bor) .nil)) (.cons (.asg (.nm 9) (.idx false (.var 2 .bor) (.bin false .Mod (.bin false .Add (.var 6 .bor) (.bin false .Mult (.int 5) (.var 8 .bor))) (.int 26)))) (.cons (.asg (.nm 10) (.bin false .Add (.bin false .Add (.bm .join (.str []) (.cons (.slc true (.var 4 .bor) .none (.some (.var 5 .bor))) .nil)) (.var 9 .bor)) (.bm .join (.str []) (.cons (.slc true (.var 4 .bor) (.some (.bin false .Add (.var 5 .bor) (.int 1))) .none) .nil)))) (.cons (.if_ (.bop false (.cmp .Eq (.bin false .Mod (.var 8 .bor) (.int 2)) (.int 1)) (.bop false (.cmp .Lt (.var 3 .bor) (.int 3)) (.cmp .Eq (.call 1 (.ino 0 (.val (.int 2) .nil))) (.int 0)))) (.cons (.asg (.nm 10) (.bin false .Add (.var 10 .bor) (.str [113]))) .nil) .nil) (.cons (.if_ (.cmp .In (.var 10 .bor) (.tup (.cons (.str [121, 101, 115]) (.cons (.str [105, 115]) (.cons (.str [110, 111, 116]) (.cons (.str [97, 110, 100]) (.cons (.str [111, 114]) .nil))))))) (.cons (.asg (.nm 10) (.bin false .Add (.str [113, 113]) (.var 9 .bor))) .nil) .nil) (.cons (.expr (.mu .append 7 (.cons (.var 10 .bor) .nil))) .nil)))))) (.cons (.if_ (.cmp .Eq (.call 1 (.ino 0 (.val (.int 6) .nil))) (.int 0)) (.cons (.asg (.nm 11) (.idx true (.lst (.cons (.str [115, 111, 109]) (.cons (.str [101, 97, 99]) (.cons (.str [110, 111]) (.cons (.str [97, 110]) (.cons (.str [111, 114, 115]) (.cons (.str [105, 115, 115]) (.cons (.str [115, 111]) (.cons (.str [121, 101]) .nil))))))))) (.call 1 (.ino 0 (.val (.int 8) .nil))))) (.cons (.if_ (.cmp .NotIn (.var 11 .bor) (.var 7 .bor)) (.cons (.setI 7 (.call 1 (.ino 0 (.val (.var 1 .bor) .nil))) (.var 11 .bor)) .nil) .nil) .nil)) .nil) (.cons (.ret (.var 7 .mov)) .nil)))))))))
def d_l_place_names : DefT := ⟨"_law_place_names", topS 13, ["_law_box_here", "_law_many", "_law_letters_here", "_law_size", "_law_signs", "_law_spot", "_law_first", "_law_found", "_law_k", "_law_one", "_law_name", "_law_odd"], ["_law_box_here", "_law_many"], b_l_place_names, ⟨[.ino 1, .inn 0], 1⟩⟩
/-- 4: _law_row_at(_law_box_here, _law_k); places: 0 _law_box_here 1 _law_k -/
def b_l_row_at : Ss := (.cons (.ret (.idx true (.lst (.cons (.bin false .Sub (.var 1 .bor) (.int 1)) (.cons (.call 1 (.ino 0 (.val (.var 1 .bor) .nil))) .nil))) (.call 1 (.ino 0 (.val (.int 2) .nil))))) .nil)
def d_l_row_at : DefT := ⟨"_law_row_at", topS 12, ["_law_box_here", "_law_k"], ["_law_box_here", "_law_k"], b_l_row_at, ⟨[.ino 1, .inn 0], 0⟩⟩
/-- 5: _law_saying_rows(_law_box_here, _law_letters_here, _law_names, _law_most); places: 0 _law_box_here 1 _law_letters_here 2 _law_names 3 _law_most 4 _law_rows 5 _law_k 6 _law_kind 7 _law_x 8 _law_y 9 _law_base -/
def b_l_saying_rows : Ss := (.cons (.asg (.nm 4) (.lst .nil)) (.cons (.for_ [some ⟨.own, 1⟩, some ⟨.frz, 0⟩, some ⟨.frz, 1⟩, some ⟨.frz, 0⟩, some ⟨.own, 1⟩, none, none, none, none, none] (.nm 5) (.rng (.cons (.bin false .Add (.int 1) (.call 1 (.ino 0 (.val (.var 3 .bor) .nil)))) .nil)) (.cons (.asg (.nm 6) (.call 1 (.ino 0 (.val (.int 12) .nil)))) (.cons (.asg (.nm 7) (.idx true (.var 2 .bor) (.call 1 (.ino 0 (.val (.bi .len (.cons (.var 2 .bor) .nil)) .nil))))) (.cons (.if_ (.bop true (.cmp .Eq (.var 5 .bor) (.int 0)) (.cmp .Lt (.var 6 .bor) (.int 4))) (.cons (.asg (.nm 8) (.idx true (.var 2 .bor) (.call 1 (.ino 0 (.val (.bi .len (.cons (.var 2 .bor) .nil)) .nil))))) (.cons (.asg (.nm 9) (.lst (.cons (.tup (.cons (.str [105, 115]) (.cons (.var 7 .bor) (.cons (.idx false (.var 1 .bor) (.call 1 (.ino 0 (.val (.bi .len (.cons (.var 1 .bor) .nil)) .nil)))) .nil)))) (.cons (.tup (.cons (.str [97, 104, 101, 97, 100]) (.cons (.var 7 .bor) (.cons (.var 8 .bor) .nil)))) (.cons (.tup (.cons (.str [121, 101, 115]) .nil)) .nil))))) (.cons (.expr (.mu .append 4 (.cons (.idx true (.var 9 .bor) (.idx true (.lst (.cons (.int 0) (.cons (.int 0) (.cons (.int 0) (.cons (.int 1) (.cons (.int 1) (.cons (.int 1) (.cons (.int 2) .nil)))))))) (.call 1 (.ino 0 (.val (.int 7) .nil))))) .nil))) .nil))) (.cons (.if_ (.cmp .Lt (.var 6 .bor) (.int 6)) (.cons (.expr (.mu .append 4 (.cons (.tup (.cons (.str [110, 111, 116]) (.cons (.call 4 (.ino 0 (.val (.var 5 .bor) .nil))) .nil))) .nil))) .nil) (.cons (.if_ (.cmp .Lt (.var 6 .bor) (.int 9)) (.cons (.expr (.mu .append 4 (.cons (.tup (.cons (.idx true (.lst (.cons (.str [97, 110, 100]) (.cons (.str [97, 110, 100]) (.cons (.str [111, 114]) .nil)))) (.bin false .Sub (.var 6 .bor) (.int 6))) (.cons (.call 4 (.ino 0 (.val (.var 5 .bor) .nil))) (.cons (.call 1 (.ino 0 (.val (.var 5 .bor) .nil))) .nil)))) .nil))) .nil) (.cons (.expr (.mu .append 4 (.cons (.tup (.cons (.idx true (.lst (.cons (.str [115, 111, 109, 101]) (.cons (.str [115, 111, 109, 101]) (.cons (.str [101, 97, 99, 104]) .nil)))) (.bin false .Sub (.var 6 .bor) (.int 9))) (.cons (.var 7 .bor) (.cons (.call 4 (.ino 0 (.val (.var 5 .bor) .nil))) .nil)))) .nil))) .nil)) .nil)) .nil)) .nil)))) (.cons (.ret (.var 4 .mov)) .nil)))
def d_l_saying_rows : DefT := ⟨"_law_saying_rows", topS 14, ["_law_box_here", "_law_letters_here", "_law_names", "_law_most", "_law_rows", "_law_k", "_law_kind", "_law_x", "_law_y", "_law_base"], ["_law_box_here", "_law_letters_here", "_law_names", "_law_most"], b_l_saying_rows, ⟨[.ino 1, .inn 0, .inn 1, .inn 0], 1⟩⟩
/-- 6: _law_chain(_law_box_here, _law_names, _law_rows, _law_many); places: 0 _law_box_here 1 _law_names 2 _law_rows 3 _law_many 4 _law_found 5 _law_k 6 _law_name 7 _law_word -/
def b_l_chain : Ss := (.cons (.asg (.nm 4) (.bi (.list true) (.cons (.var 2 .bor) .nil))) (.cons (.for_ [some ⟨.own, 1⟩, some ⟨.frz, 1⟩, some ⟨.frz, 1⟩, some ⟨.frz, 0⟩, some ⟨.own, 1⟩, none, none, none] (.nm 5) (.rng (.cons (.var 3 .bor) .nil)) (.cons (.asg (.nm 6) (.idx true (.var 1 .bor) (.call 1 (.ino 0 (.val (.bi .len (.cons (.var 1 .bor) .nil)) .nil))))) (.cons (.asg (.nm 7) (.idx true (.lst (.cons (.str [110, 111, 116]) (.cons (.str [115, 111, 109, 101]) (.cons (.str [101, 97, 99, 104]) .nil)))) (.call 1 (.ino 0 (.val (.int 3) .nil))))) (.cons (.if_ (.cmp .Eq (.var 7 .bor) (.str [110, 111, 116])) (.cons (.expr (.mu .append 4 (.cons (.tup (.cons (.str [110, 111, 116]) (.cons (.bin false .Sub (.bi .len (.cons (.var 4 .bor) .nil)) (.int 1)) .nil))) .nil))) .nil) (.cons (.expr (.mu .append 4 (.cons (.tup (.cons (.var 7 .bor) (.cons (.var 6 .bor) (.cons (.bin false .Sub (.bi .len (.cons (.var 4 .bor) .nil)) (.int 1)) .nil)))) .nil))) .nil)) .nil)))) (.cons (.ret (.bi (.tuple true) (.cons (.var 4 .bor) .nil))) .nil)))
def d_l_chain : DefT := ⟨"_law_chain", topS 15, ["_law_box_here", "_law_names", "_law_rows", "_law_many", "_law_found", "_law_k", "_law_name", "_law_word"], ["_law_box_here", "_law_names", "_law_rows", "_law_many"], b_l_chain, ⟨[.ino 1, .inn 1, .inn 1, .inn 0], 0⟩⟩
/-- 7: length_of(row, lengths); places: 0 row 1 lengths -/
def b_length_of : Ss := (.cons (.if_ (.cmp .Eq (.idx false (.var 0 .bor) (.int 0)) (.str [121, 101, 115])) (.cons (.ret (.int 3)) .nil) .nil) (.cons (.if_ (.cmp .Eq (.idx false (.var 0 .bor) (.int 0)) (.str [105, 115])) (.cons (.ret (.bin false .Add (.bi .len (.cons (.idx false (.var 0 .bor) (.int 1)) .nil)) (.int 5))) .nil) .nil) (.cons (.if_ (.cmp .Eq (.idx false (.var 0 .bor) (.int 0)) (.str [97, 104, 101, 97, 100])) (.cons (.ret (.bin false .Add (.bin false .Add (.bi .len (.cons (.idx false (.var 0 .bor) (.int 1)) .nil)) (.int 3)) (.bi .len (.cons (.idx false (.var 0 .bor) (.int 2)) .nil)))) .nil) .nil) (.cons (.if_ (.cmp .Eq (.idx false (.var 0 .bor) (.int 0)) (.str [110, 111, 116])) (.cons (.ret (.bin false .Add (.int 4) (.idx true (.var 1 .bor) (.idx false (.var 0 .bor) (.int 1))))) .nil) .nil) (.cons (.if_ (.bop true (.cmp .Eq (.idx false (.var 0 .bor) (.int 0)) (.str [115, 111, 109, 101])) (.cmp .Eq (.idx false (.var 0 .bor) (.int 0)) (.str [101, 97, 99, 104]))) (.cons (.ret (.bin false .Add (.bin false .Add (.int 6) (.bi .len (.cons (.idx false (.var 0 .bor) (.int 1)) .nil))) (.idx true (.var 1 .bor) (.idx false (.var 0 .bor) (.int 2))))) .nil) .nil) (.cons (.ret (.bin false .Add (.bin false .Add (.bin false .Add (.int 4) (.bi .len (.cons (.idx false (.var 0 .bor) (.int 0)) .nil))) (.idx true (.var 1 .bor) (.idx false (.var 0 .bor) (.int 1)))) (.idx true (.var 1 .bor) (.idx false (.var 0 .bor) (.int 2))))) .nil))))))
def d_length_of : DefT := ⟨"length_of", topS 5, ["row", "lengths"], ["row", "lengths"], b_length_of, ⟨[.inn 0, .inn 1], 0⟩⟩
/-- 8: pieces_of(row); places: 0 row -/
def b_pieces_of : Ss := (.cons (.if_ (.cmp .Eq (.idx false (.var 0 .bor) (.int 0)) (.str [121, 101, 115])) (.cons (.ret (.lst (.cons (.str [121, 101, 115]) .nil))) .nil) .nil) (.cons (.if_ (.cmp .Eq (.idx false (.var 0 .bor) (.int 0)) (.str [105, 115])) (.cons (.ret (.lst (.cons (.bin false .Add (.bin false .Add (.idx false (.var 0 .bor) (.int 1)) (.str [32, 105, 115, 32])) (.idx false (.var 0 .bor) (.int 2))) .nil))) .nil) .nil) (.cons (.if_ (.cmp .Eq (.idx false (.var 0 .bor) (.int 0)) (.str [97, 104, 101, 97, 100])) (.cons (.ret (.lst (.cons (.bin false .Add (.bin false .Add (.idx false (.var 0 .bor) (.int 1)) (.str [32, 60, 32])) (.idx false (.var 0 .bor) (.int 2))) .nil))) .nil) .nil) (.cons (.if_ (.cmp .Eq (.idx false (.var 0 .bor) (.int 0)) (.str [110, 111, 116])) (.cons (.ret (.lst (.cons (.str [110, 111, 116, 32]) (.cons (.idx false (.var 0 .bor) (.int 1)) .nil)))) .nil) .nil) (.cons (.if_ (.bop true (.cmp .Eq (.idx false (.var 0 .bor) (.int 0)) (.str [115, 111, 109, 101])) (.cmp .Eq (.idx false (.var 0 .bor) (.int 0)) (.str [101, 97, 99, 104]))) (.cons (.ret (.lst (.cons (.bin false .Add (.bin false .Add (.bin false .Add (.idx false (.var 0 .bor) (.int 0)) (.str [32])) (.idx false (.var 0 .bor) (.int 1))) (.str [32])) (.cons (.idx false (.var 0 .bor) (.int 2)) .nil)))) .nil) .nil) (.cons (.ret (.lst (.cons (.str [40]) (.cons (.idx false (.var 0 .bor) (.int 1)) (.cons (.bin false .Add (.bin false .Add (.str [32]) (.idx false (.var 0 .bor) (.int 0))) (.str [32])) (.cons (.idx false (.var 0 .bor) (.int 2)) (.cons (.str [41]) .nil))))))) .nil))))))
def d_pieces_of : DefT := ⟨"pieces_of", topS 6, ["row"], ["row"], b_pieces_of, ⟨[.inn 0], 1⟩⟩
/-- 9: show_saying(saying); places: 0 saying 1 lengths 2 row 3 found 4 left 5 piece -/
def b_show_saying : Ss := (.cons (.asg (.nm 1) (.lst .nil)) (.cons (.for_ [some ⟨.frz, 0⟩, some ⟨.own, 1⟩, none, none, none, none] (.nm 2) (.val false (.var 0 .bor)) (.cons (.expr (.mu .append 1 (.cons (.bi .min (.cons (.call 7 (.val (.var 2 .bor) (.val (.var 1 .bor) .nil))) (.cons (.bin false .Add (.glb 0) (.int 1)) .nil))) .nil))) .nil)) (.cons (.if_ (.cmp .Gt (.idx true (.var 1 .bor) (.neg (.int 1))) (.glb 0)) (.cons .dead .nil) .nil) (.cons (.asg (.nm 3) (.lst .nil)) (.cons (.asg (.nm 4) (.lst (.cons (.bin false .Sub (.bi .len (.cons (.var 0 .bor) .nil)) (.int 1)) .nil))) (.cons (.while_ [some ⟨.frz, 0⟩, some ⟨.own, 1⟩, none, some ⟨.own, 1⟩, some ⟨.own, 1⟩, none] (.cmp .Gt (.bi .len (.cons (.var 4 .bor) .nil)) (.int 0)) (.cons (.asg (.nm 5) (.mu .pop 4 .nil)) (.cons (.if_ (.bi .isstr (.cons (.var 5 .bor) .nil)) (.cons (.expr (.mu .append 3 (.cons (.var 5 .bor) .nil))) .nil) (.cons (.expr (.mu .extend 4 (.cons (.revl (.call 8 (.val (.idx false (.var 0 .bor) (.var 5 .bor)) .nil))) .nil))) .nil)) .nil))) (.cons (.ret (.bm .join (.str []) (.cons (.var 3 .bor) .nil))) .nil)))))))
def d_show_saying : DefT := ⟨"show_saying", topS 7, ["saying", "lengths", "row", "found", "left", "piece"], ["saying"], b_show_saying, ⟨[.inn 0], 0⟩⟩
/-- 10: _law_shown(_law_saying); places: 0 _law_saying 1 _law_found 2 _law_row 3 _law_text -/
def b_l_shown : Ss := (.cons (.asg (.nm 1) (.lst .nil)) (.cons (.for_ [some ⟨.frz, 0⟩, some ⟨.own, 1⟩, none, none] (.nm 2) (.val false (.var 0 .bor)) (.cons (.if_ (.cmp .Eq (.idx false (.var 2 .bor) (.int 0)) (.str [105, 115])) (.cons (.asg (.nm 3) (.bin false .Add (.bin false .Add (.idx false (.var 2 .bor) (.int 1)) (.str [32, 105, 115, 32])) (.idx false (.var 2 .bor) (.int 2)))) .nil) (.cons (.if_ (.cmp .Eq (.idx false (.var 2 .bor) (.int 0)) (.str [97, 104, 101, 97, 100])) (.cons (.asg (.nm 3) (.bin false .Add (.bin false .Add (.idx false (.var 2 .bor) (.int 1)) (.str [32, 60, 32])) (.idx false (.var 2 .bor) (.int 2)))) .nil) (.cons (.if_ (.cmp .Eq (.idx false (.var 2 .bor) (.int 0)) (.str [110, 111, 116])) (.cons (.asg (.nm 3) (.bin false .Add (.str [110, 111, 116, 32]) (.idx true (.var 1 .bor) (.idx false (.var 2 .bor) (.int 1))))) .nil) (.cons (.if_ (.bop true (.cmp .Eq (.idx false (.var 2 .bor) (.int 0)) (.str [97, 110, 100])) (.cmp .Eq (.idx false (.var 2 .bor) (.int 0)) (.str [111, 114]))) (.cons (.asg (.nm 3) (.bin false .Add (.bin false .Add (.bin false .Add (.bin false .Add (.bin false .Add (.bin false .Add (.str [40]) (.idx true (.var 1 .bor) (.idx false (.var 2 .bor) (.int 1)))) (.str [32])) (.idx false (.var 2 .bor) (.int 0))) (.str [32])) (.idx true (.var 1 .bor) (.idx false (.var 2 .bor) (.int 2)))) (.str [41]))) .nil) (.cons (.if_ (.cmp .Eq (.idx false (.var 2 .bor) (.int 0)) (.str [121, 101, 115])) (.cons (.asg (.nm 3) (.str [121, 101, 115])) .nil) (.cons (.asg (.nm 3) (.bin false .Add (.bin false .Add (.bin false .Add (.bin false .Add (.idx false (.var 2 .bor) (.int 0)) (.str [32])) (.idx false (.var 2 .bor) (.int 1))) (.str [32])) (.idx true (.var 1 .bor) (.idx false (.var 2 .bor) (.int 2))))) .nil)) .nil)) .nil)) .nil)) .nil)) (.cons (.expr (.mu .append 1 (.cons (.var 3 .bor) .nil))) .nil))) (.cons (.ret (.idx true (.var 1 .bor) (.neg (.int 1)))) .nil)))
def d_l_shown : DefT := ⟨"_law_shown", topS 16, ["_law_saying", "_law_found", "_law_row", "_law_text"], ["_law_saying"], b_l_shown, ⟨[.inn 0], 0⟩⟩
/-- 11: law(_law_script); places: 0 _law_script 1 _law_sayings 2 _law_k 3 _law_turn 4 _law_box_here 5 _law_letters_here 6 _law_names 7 _law_rows 8 _law_many 9 _law_saying 10 _law_heard -/
def b_law : Ss := (.cons (.asg (.nm 1) (.lst .nil)) (.cons (.for_ [some ⟨.frz, 1⟩, some ⟨.own, 1⟩, none, none, none, none, none, none, none, none, none] (.nm 2) (.rng (.cons (.bi .max (.cons (.int 2) (.cons (.bi .min (.cons (.bi .len (.cons (.var 0 .bor) .nil)) (.cons (.int 8) .nil))) .nil))) .nil)) (.cons (.asg (.nm 4) (.call 0 (.val (.var 0 .bor) (.val (.var 2 .bor) .nil)))) (.cons (.asg (.nm 5) (.call 2 (.ino 4 (.val (.int 4) .nil)))) (.cons (.asg (.nm 6) (.call 3 (.ino 4 (.val (.bin false .Add (.int 1) (.call 1 (.ino 4 (.val (.int 3) .nil)))) .nil)))) (.cons (.asg (.nm 7) (.call 5 (.ino 4 (.val (.var 5 .bor) (.val (.var 6 .bor) (.val (.int 9) .nil)))))) (.cons (.asg (.nm 8) (.int 0)) (.cons (.if_ (.cmp .Eq (.call 1 (.ino 4 (.val (.int 3) .nil))) (.int 0)) (.cons (.asg (.nm 8) (.call 1 (.ino 4 (.val (.int 21) .nil)))) .nil) .nil) (.cons (.expr (.mu .append 1 (.cons (.call 6 (.ino 4 (.val (.var 6 .bor) (.val (.var 7 .bor) (.val (.var 8 .bor) .nil))))) .nil))) .nil)))))))) (.cons (.for_ [some ⟨.frz, 1⟩, some ⟨.own, 1⟩, none, none, none, none, none, none, none, none, none] (.nm 3) (.rng (.cons (.int 2) .nil)) (.cons (.for_ [some ⟨.frz, 1⟩, some ⟨.own, 1⟩, none, some ⟨.frz, 0⟩, none, none, none, none, none, none, none] (.nm 9) (.val true (.var 1 .bor)) (.cons (.asg (.nm 10) (.call 9 (.val (.var 9 .bor) .nil))) (.cons (.if_ (.bop true (.not_ (.bi .isstr (.cons (.var 10 .bor) .nil))) (.cmp .NotEq (.var 10 .bor) (.call 10 (.val (.var 9 .bor) .nil)))) (.cons (.ret (.bl false)) .nil) .nil) .nil))) .nil)) (.cons (.ret (.bl true)) .nil))))
def d_law : DefT := ⟨"law", topS 17, ["_law_script", "_law_sayings", "_law_k", "_law_turn", "_law_box_here", "_law_letters_here", "_law_names", "_law_rows", "_law_many", "_law_saying", "_law_heard"], ["_law_script"], b_law, ⟨[.inn 1], 0⟩⟩
def defs : List DefT := [d_l_box, d_l_take, d_l_letters, d_l_place_names, d_l_row_at, d_l_saying_rows, d_l_chain, d_length_of, d_pieces_of, d_show_saying, d_l_shown, d_law]
def gnames : List Str := ["LONGEST"]
def gks (i : Nat) : Nat := [0].getD i 0
def gvals : List D := [(.int 100000)]
theorem chk : chkAll defs gnames gks = true := by decide +kernel
end K42

set_option maxRecDepth 100000
namespace K42
open PySem L2 Pm
local macro_rules | `(tactic| lt_chain) => `(tactic| try simp only [v_get, v_glb, c_bool, c_true, c_false, e_var, e_non, e_bl, e_int, e_str, e_glb, e_tup, e_lst, e_bin, e_cmp, e_chn, e_neg, e_revl, n_rev, s_dead, e_not, e_bop, e_idx, e_slc, e_call, p_ret, p_exc, e_bi, e_bm, e_mu, e_comp, es_nil, es_cons, o_none, o_some, t_none, t_some,
  a_nil, a_val, a_own, a_ino, i_val, i_rng, i_enum, i_zip, zp, it2_l, it2_s, k_leS, b_mulS, s_asg, s_setI, s_expr, s_ret, s_retN, s_if, s_for, s_brk, s_cnt, s_pass, ss_n, ss_c, b_add, b_cat, b_catL, b_catT, b_sub, b_mul, b_div, b_mod, b_pow, k_lt, k_le, k_gt, k_ge, k_eqI, k_neI, k_eqS, k_neS, k_eqB, k_neB, k_inS, k_ninS, k_inTS, k_inLS, k_inLI, k_ninTS, k_ninLS, k_ninLI,
  x_lst, x_tup, x_str, l_lst, l_tup, l_str, f_lenS, f_lenL, f_lenT, f_intB, f_intI, f_listL, f_listT, f_tupL, f_tupT, f_max, f_min, f_isb, f_isi, f_iss, f_isl, u_app, u_ext, u_clear, g_nm, g_tp2, g_tp3, w_set, r_1, r_2, n_neg, n_not, n_bool, n_items, n_some, n_chr, n_lst, n_any, n_opt, n_bop, n_chn, tr_b, tr_i, tr_n, tr_l, tr_t, it_l, it_t, it_s,
  at0, at1, at2, at3, ix0, ix1, kt_rt, kt_nx, kt_ex, rs_nm, Option.elim_some, in_nil, in_inn, in_ino, out0, out1, decide_eq_true_eq, Bool.not_eq_true', Bool.not_eq_false', Bool.not_true, Bool.not_false, decide_eq_false_iff_not, Int.not_lt, Option.map_some, As.outs, setOuts, bo_join, bo_index, bo_rev, m_rev, k_eqSSr, k_neSSr, f_listS, true_and, and_true, List.getElem?_cons_zero, List.getElem?_cons_succ, List.set_cons_zero, List.set_cons_succ, List.length_cons, List.length_nil, List.map_cons, List.map_nil, not_true_eq_false, not_false_eq_true, false_implies, forall_const, decide_true, decide_false, Bool.true_eq_false, Bool.false_eq_true, reduceCtorEq])
local macro_rules | `(tactic| trivial) => `(tactic| omega)
local macro_rules | `(tactic| trivial) => `(tactic| (have := sz_lb; (try simp only [List.length_append, List.length_cons, List.length_nil, List.length_map, List.length_range, List.length_reverse]); omega))
def lenSpec (ds : List D) (Post : FOut → Prop) : Prop := ∃ (r : Row) (acc : List (List Nat)), (rowOk acc.length r ∧ bnd 60000 acc) ∧ ds = [r.enc, .lst ((acc.map fun s => (s.length : Int)).map .int)] ∧ Post (.ret (.int (shown r acc).length) [])
inductive Pc where | t (s : List Nat) | r (i : Nat)
def Pc.enc : Pc → D | .t s => .str s | .r i => .int i
def pcs : Row → List Pc
  | .yes => [.t Pm.tYes]
  | .is_ x y => [.t (x ++ [32, 105, 115, 32] ++ y)]
  | .ahd x y => [.t (x ++ [32, 60, 32] ++ y)]
  | .not_ i => [.t [110, 111, 116, 32], .r i]
  | .bin o i j => [.t [40], .r i, .t ([32] ++ tBin o ++ [32]), .r j, .t [41]]
  | .qu o x i => [.t (tQu o ++ [32] ++ x ++ [32]), .r i]
def pcsSpec (ds : List D) (Post : FOut → Prop) : Prop := ∃ (r : Row) (k : Nat), rowOk k r ∧ ds = [r.enc] ∧ Post (.ret (.lst ((pcs r).map Pc.enc)) [])
def sayOk (rs : List Row) : Prop := okRows rs ∧ 1 ≤ rs.length ∧ rs.length ≤ 1000 ∧ bnd 50000 (texts rs)
def final (rs : List Row) : List Nat := (texts rs).getD (rs.length - 1) []
def showSpec (ds : List D) (Post : FOut → Prop) : Prop := ∃ rs : List Row, sayOk rs ∧ ds = [.tup (rs.map Row.enc)] ∧ Post (.ret (.str (final rs)) [])
def spec (f : Nat) : List D → (FOut → Prop) → Prop := match f with
  | 0 => boxSpec
  | 1 => takeSpec
  | 2 => lettersSpec
  | 3 => namesSpec
  | 4 => rowAtSpec
  | 5 => sayRowsSpec
  | 6 => chainSpec
  | 7 => lenSpec
  | 8 => pcsSpec
  | 9 => showSpec
  | 10 => showSpec
  | 11 => lawSpec 63
  | _ => fun _ _ => False
def ctx : Pm.Ctx := ⟨spec, fun g => gvals[g]?⟩
def XR : XRel := fun _ _ _ _ => False
theorem g0 : ctx.glob 0 = some (.int 100000) := rfl
theorem lens_at {acc : List (List Nat)} {i : Nat} {k : D → Prop} (h : i < acc.length) (hk : k (.int (acc.getD i []).length)) : glbK (atI ((acc.map fun s => (s.length : Int)).map D.int) i) k := by
  rw [atI_nn (by omega), Int.toNat_natCast, List.getElem?_map, List.getElem?_map, List.getElem?_eq_getElem h]
  have e : acc.getD i [] = acc[i] := by simp [List.getElem?_eq_getElem h]
  rw [e] at hk
  exact hk
theorem post_i {Post : FOut → Prop} {a b : Int} (hp : Post (.ret (.int a) [])) (h : a = b) : Post (.ret (.int b) []) := by rw [← h]; exact hp
theorem len_ok {ds : List D} {Post : FOut → Prop} (h : lenSpec ds Post) : evalSs ctx b_length_of (ini 2 ds) (ktOf ⟨[.inn 0, .inn 1], 0⟩ Post) := by
  obtain ⟨r, acc, ⟨h1, h2⟩, rfl, hp⟩ := h
  show evalSs ctx b_length_of [some r.enc, some (.lst ((acc.map fun s => (s.length : Int)).map .int))] _
  unfold b_length_of
  cases r with
  | yes =>
    unfold Row.enc Pm.tYes
    lt_chain
    exact hp
  | is_ x y =>
    have a1 := h1.1
    have a2 := h1.2
    unfold Row.enc tIs
    lt_chain
    simp +decide only [false_implies, not_true_eq_false, not_false_eq_true, forall_const, true_and, and_true]
    exact ⟨by trivial, post_i hp (by simp [shown, a2])⟩
  | ahd x y =>
    have a1 := h1.1
    have a2 := h1.2
    unfold Row.enc tAhead
    lt_chain
    simp +decide only [false_implies, not_true_eq_false, not_false_eq_true, forall_const, true_and, and_true]
    exact ⟨by trivial, by trivial, post_i hp (by simp [shown]; omega)⟩
  | not_ i =>
    unfold Row.enc Pm.tNot
    lt_chain
    simp +decide only [false_implies, not_true_eq_false, not_false_eq_true, forall_const, true_and, and_true]
    refine lens_at h1 ?_
    lt_chain
    exact post_i hp (by simp [shown]; omega)
  | bin o i j =>
    cases o
    all_goals
      unfold Row.enc
      simp only [tBin, Bool.false_eq_true, if_false, if_true]
      lt_chain
      simp +decide only [false_implies, not_true_eq_false, not_false_eq_true, forall_const, true_and, and_true]
      refine lens_at h1.1 ?_
      lt_chain
      refine lens_at h1.2 ?_
      lt_chain
      exact post_i hp (by simp [shown, tBin]; omega)
  | qu o x i =>
    have a1 := h1.1
    cases o
    all_goals
      unfold Row.enc
      simp only [tQu, Bool.false_eq_true, if_false, if_true]
      lt_chain
      simp +decide only [false_implies, not_true_eq_false, not_false_eq_true, forall_const, true_and, and_true]
      refine ⟨by trivial, lens_at h1.2 ?_⟩
      lt_chain
      exact post_i hp (by simp [shown, tQu]; omega)
theorem pcs_ok {ds : List D} {Post : FOut → Prop} (h : pcsSpec ds Post) : evalSs ctx b_pieces_of (ini 1 ds) (ktOf ⟨[.inn 0], 1⟩ Post) := by
  obtain ⟨r, k, h1, rfl, hp⟩ := h
  show evalSs ctx b_pieces_of [some r.enc] _
  unfold b_pieces_of
  cases r with
  | yes =>
    unfold Row.enc Pm.tYes
    lt_chain
    exact ⟨by trivial, hp⟩
  | is_ x y =>
    have a1 := h1.1
    have a2 := h1.2
    unfold Row.enc tIs
    lt_chain
    simp +decide only [false_implies, not_true_eq_false, not_false_eq_true, forall_const, true_and, and_true]
    first | exact ⟨by trivial, by trivial, hp⟩ | exact ⟨by trivial, hp⟩
  | ahd x y =>
    have a1 := h1.1
    have a2 := h1.2
    unfold Row.enc tAhead
    lt_chain
    simp +decide only [false_implies, not_true_eq_false, not_false_eq_true, forall_const, true_and, and_true]
    first | exact ⟨by trivial, by trivial, hp⟩ | exact ⟨by trivial, hp⟩
  | not_ i =>
    unfold Row.enc Pm.tNot
    lt_chain
    simp +decide only [false_implies, not_true_eq_false, not_false_eq_true, forall_const, true_and, and_true]
    exact hp
  | bin o i j =>
    cases o
    all_goals
      unfold Row.enc
      simp only [tBin, Bool.false_eq_true, if_false, if_true]
      lt_chain
      simp +decide only [false_implies, not_true_eq_false, not_false_eq_true, forall_const, true_and, and_true]
      exact hp
  | qu o x i =>
    have a1 := h1.1
    cases o
    all_goals
      unfold Row.enc
      simp only [tQu, Bool.false_eq_true, if_false, if_true]
      lt_chain
      simp +decide only [false_implies, not_true_eq_false, not_false_eq_true, forall_const, true_and, and_true]
      first | exact ⟨by trivial, by trivial, hp⟩ | exact ⟨by trivial, hp⟩
end K42

set_option maxRecDepth 100000
namespace K42
open PySem L2 Pm
local macro_rules | `(tactic| lt_chain) => `(tactic| try simp only [v_get, v_glb, c_bool, c_true, c_false, e_var, e_non, e_bl, e_int, e_str, e_glb, e_tup, e_lst, e_bin, e_cmp, e_chn, e_neg, e_revl, n_rev, s_dead, e_not, e_bop, e_idx, e_slc, e_call, p_ret, p_exc, e_bi, e_bm, e_mu, e_comp, es_nil, es_cons, o_none, o_some, t_none, t_some,
  a_nil, a_val, a_own, a_ino, i_val, i_rng, i_enum, i_zip, zp, it2_l, it2_s, k_leS, b_mulS, s_asg, s_setI, s_expr, s_ret, s_retN, s_if, s_for, s_brk, s_cnt, s_pass, ss_n, ss_c, b_add, b_cat, b_catL, b_catT, b_sub, b_mul, b_div, b_mod, b_pow, k_lt, k_le, k_gt, k_ge, k_eqI, k_neI, k_eqS, k_neS, k_eqB, k_neB, k_inS, k_ninS, k_inTS, k_inLS, k_inLI, k_ninTS, k_ninLS, k_ninLI,
  x_lst, x_tup, x_str, l_lst, l_tup, l_str, f_lenS, f_lenL, f_lenT, f_intB, f_intI, f_listL, f_listT, f_tupL, f_tupT, f_max, f_min, f_isb, f_isi, f_iss, f_isl, u_app, u_ext, u_clear, g_nm, g_tp2, g_tp3, w_set, r_1, r_2, n_neg, n_not, n_bool, n_items, n_some, n_chr, n_lst, n_any, n_opt, n_bop, n_chn, tr_b, tr_i, tr_n, tr_l, tr_t, it_l, it_t, it_s,
  at0, at1, at2, at3, ix0, ix1, kt_rt, kt_nx, kt_ex, rs_nm, Option.elim_some, in_nil, in_inn, in_ino, out0, out1, decide_eq_true_eq, Bool.not_eq_true', Bool.not_eq_false', Bool.not_true, Bool.not_false, decide_eq_false_iff_not, Int.not_lt, Option.map_some, As.outs, setOuts, bo_join, bo_index, bo_rev, m_rev, k_eqSSr, k_neSSr, f_listS, true_and, and_true, List.getElem?_cons_zero, List.getElem?_cons_succ, List.set_cons_zero, List.set_cons_succ, List.length_cons, List.length_nil, List.map_cons, List.map_nil, not_true_eq_false, not_false_eq_true, false_implies, forall_const, decide_true, decide_false, Bool.true_eq_false, Bool.false_eq_true, reduceCtorEq])
local macro_rules | `(tactic| trivial) => `(tactic| omega)
local macro_rules | `(tactic| trivial) => `(tactic| (have := sz_lb; (try simp only [List.length_append, List.length_cons, List.length_nil, List.length_map, List.length_range, List.length_reverse]); omega))
theorem texts_pre (rs qs : List Row) : ∃ m, texts (rs ++ qs) = texts rs ++ m := by
  induction qs using snoc_ind with
  | h0 => exact ⟨[], by simp⟩
  | h1 qs r ih =>
    obtain ⟨m, hm⟩ := ih
    unfold texts at hm ⊢
    rw [← List.append_assoc, scan_snoc, hm, List.append_assoc]
    exact ⟨_, rfl⟩
theorem bnd_pre {rs qs : List Row} {B : Nat} (h : bnd B (texts (rs ++ qs))) : bnd B (texts rs) := fun i => by
  obtain ⟨m, hm⟩ := texts_pre rs qs
  by_cases e : i < (texts rs).length
  · have := h i
    rw [hm, getD_app e] at this
    exact this
  · have : (texts rs).getD i [] = [] := by
      simp only [List.getD_eq_getElem?_getD]; rw [List.getElem?_eq_none (by omega)]; rfl
    rw [this]; simp
theorem texts_len (rs : List Row) : (texts rs).length = rs.length := scan_len _ _
theorem okRows.pre {rs qs : List Row} (h : okRows (rs ++ qs)) : okRows rs := fun k r hk => h k r (by rw [List.getElem?_append_left (List.getElem?_eq_some_iff.mp hk).1]; exact hk)
def ptx (rs : List Row) : Pc → List Nat | .t s => s | .r i => (texts rs).getD i []
def pw (rs : List Row) : Pc → Nat | .t _ => 1 | .r i => (wts rs).getD i 0
def pok (rs : List Row) : Pc → Prop | .t s => s.length ≤ 60 | .r i => i < rs.length
theorem pcs_txt (rs : List Row) (r : Row) : ((pcs r).map (ptx rs)).flatten = shown r (texts rs) := by
  cases r <;> simp [pcs, ptx, shown]
theorem pcs_w (rs : List Row) (r : Row) : ((pcs r).map (pw rs)).sum + 1 = wRow r (wts rs) := by
  cases r <;> simp [pcs, pw, wRow] <;> omega
theorem pcs_pok (rs : List Row) (r : Row) (h : rowOk rs.length r) : ∀ p ∈ pcs r, pok rs p := by
  cases r with
  | yes => intro p hp; simp [pcs] at hp; subst hp; show Pm.tYes.length ≤ 60; decide
  | is_ x y => intro p hp; simp [pcs] at hp; subst hp; have := h.1; have := h.2; simp [pok]; omega
  | ahd x y => intro p hp; simp [pcs] at hp; subst hp; have := h.1; have := h.2; simp [pok]; omega
  | not_ i => intro p hp; simp [pcs] at hp; rcases hp with rfl | rfl; · simp [pok]
              · exact h
  | bin o i j => intro p hp; simp [pcs] at hp; rcases hp with rfl | rfl | rfl | rfl | rfl; · simp [pok]
                 · exact h.1
                 · have := tBin_len o; simp [pok]; omega
                 · exact h.2
                 · simp [pok]
  | qu o x i => intro p hp; simp [pcs] at hp; rcases hp with rfl | rfl; · have := tQu_len o; have := h.1; simp [pok]; omega
                · exact h.2
theorem pcs_few (r : Row) : (pcs r).length ≤ 5 := by cases r <;> simp [pcs]
theorem joinL_nil : ∀ ys : List (List Nat), joinL [] ys = ys.flatten
  | [] => rfl
  | [x] => by simp [joinL]
  | x :: y :: r => by
    have := joinL_nil (y :: r)
    simp only [joinL, this]
    simp
theorem len_flat : ∀ ys : List (List Nat), (ys.map List.length).sum = ys.flatten.length
  | [] => rfl
  | x :: r => by simp
theorem show_ok {ds : List D} {Post : FOut → Prop} (h : showSpec ds Post) : evalSs ctx b_show_saying (ini 6 ds) (ktOf ⟨[.inn 0], 0⟩ Post) := by
  obtain ⟨rs, ⟨h1, h2, h3, h4⟩, rfl, hp⟩ := h
  show evalSs ctx b_show_saying [some (.tup (rs.map Row.enc)), none, none, none, none, none] _
  -- behind the lengths
  have rest : ∀ z2 : Option D, evalSs ctx (b_show_saying.drop 2) [some (.tup (rs.map Row.enc)), some (.lst (((texts rs).map fun s => (s.length : Int)).map .int)), z2, none, none, none] (ktOf ⟨[.inn 0], 0⟩ Post) := by
    intro z2
    show evalSs ctx (.cons _ (.cons _ (.cons _ (.cons _ (.cons _ .nil))))) _ _
    lt_chain
    rw [ix_last]
    have hne : texts rs ≠ [] := fun e => by have := texts_len rs; rw [e] at this; simp at this; omega
    have hlast : (texts rs).getLast? = some (final rs) := by
      rw [List.getLast?_eq_getElem?, texts_len]
      unfold final
      have hl : rs.length - 1 < (texts rs).length := by rw [texts_len]; omega
      rw [List.getElem?_eq_getElem hl]
      simp [List.getElem?_eq_getElem hl]
    have hf : (final rs).length ≤ 50000 := h4 _
    have hl2 : ((((texts rs).map fun s => (s.length : Int)).map D.int).getLast?) = some (.int (final rs).length) := by
      rw [List.getLast?_map, List.getLast?_map, hlast]; rfl
    rw [hl2]
    lt_chain
    simp only [g0]
    lt_chain
    refine ⟨fun h => by omega, fun _ => ⟨by trivial, by trivial, ?_⟩⟩
    rw [s_while]
    have hw : (wts rs).getD (rs.length - 1) 0 ≤ 100000 := Nat.le_trans (wts_le h1 _) (by unfold final at hf; omega)
    refine whileM (fun n ρ => ∃ (fs : List (List Nat)) (ps : List Pc) (z5 : Option D), ρ = [some (.tup (rs.map Row.enc)), some (.lst (((texts rs).map fun s => (s.length : Int)).map .int)), z2, some (.lst (fs.map .str)), some (.lst (ps.map Pc.enc)), z5] ∧
      fs.flatten ++ (ps.reverse.map (ptx rs)).flatten = final rs ∧ (∀ p ∈ ps, pok rs p) ∧ n = (ps.map (pw rs)).sum ∧ fs.length + n ≤ 100000 ∧ ps.length ≤ 5 * (100001 - n)) (n := (wts rs).getD (rs.length - 1) 0) ⟨[], [.r (rs.length - 1)], none, ?_, ?_, ?_, ?_, ?_, ?_⟩ (fun m ρ k hI hk => ?_)
    · have e : (((rs.map Row.enc).length : Int) - 1) = ((rs.length - 1 : Nat) : Int) := by rw [List.length_map]; omega
      rw [e]; rfl
    · simp [ptx, final]
    · intro p hp2; simp at hp2; subst hp2; show rs.length - 1 < rs.length; omega
    · simp [pw]
    · simpa using hw
    · show 1 ≤ 5 * (100001 - (wts rs).getD (rs.length - 1) 0)
      omega
    · obtain ⟨fs, ps, z5, rfl, ht, hok, hn, hsz, hps⟩ := hI
      lt_chain
      refine ⟨fun hpos => ?_, fun hz => ?_⟩
      · have hne2 : ps ≠ [] := fun e => by subst e; simp at hpos
        obtain ⟨qs, p, rfl⟩ : ∃ qs p, ps = qs ++ [p] := ⟨ps.dropLast, ps.getLast hne2, (List.dropLast_concat_getLast hne2).symm⟩
        simp only [List.map_append, List.map_cons, List.map_nil]
        refine u_pop ?_
        have hokp : pok rs p := hok p (by simp)
        have hoks : ∀ q ∈ qs, pok rs q := fun q hq => hok q (by simp [hq])
        simp only [List.map_append, List.map_cons, List.map_nil, List.sum_append, List.sum_cons, List.sum_nil, Nat.add_zero] at hn
        simp only [List.length_append, List.length_cons, List.length_nil] at hps
        have hql : qs.length ≤ 500005 := by omega
        cases p with
        | t s =>
          have hw1 : pw rs (.t s) = 1 := rfl
          refine ⟨fun _ => ⟨by have := sz_lb; rw [List.length_map]; omega, hk (m - 1) _ (by omega) ⟨fs ++ [s], qs, some (.str s), ?_, ?_, hoks, by omega, by simp; omega, by omega⟩⟩, fun h => by cases h⟩
          · simp [Pc.enc]
          · rw [← ht]; simp [ptx]
        | r i =>
          refine ⟨fun h => (by cases h), fun _ => ?_⟩
          have hi : i < rs.length := hokp
          have hr : rs[i]? = some rs[i] := List.getElem?_eq_getElem hi
          show idxK false (D.tup (rs.map Row.enc)) (.int i) _
          lt_chain
          rw [atI_nn (by omega), Int.toNat_natCast, List.getElem?_map, hr]
          lt_chain
          have hro := h1 i _ hr
          refine ⟨rs[i], i, hro, rfl, ?_⟩
          lt_chain
          have few := pcs_few rs[i]
          have hwi : pw rs (.r i) = wRow rs[i] (wts rs) := wts_at h1 hr
          have hsum := pcs_w rs rs[i]
          have hrs : (((pcs rs[i]).reverse.map (pw rs)).sum) = ((pcs rs[i]).map (pw rs)).sum := by rw [List.map_reverse, List.sum_reverse]
          refine ⟨by have := sz_lb; simp only [List.length_map, List.length_reverse]; omega, hk (m - 1) _ (by omega) ⟨fs, qs ++ (pcs rs[i]).reverse, some (.int i), ?_, ?_, ?_, ?_, by omega, ?_⟩⟩
          · simp [List.map_reverse]; rfl
          · rw [← ht]
            simp [ptx, pcs_txt]
            exact (texts_at h1 hr).symm
          · intro q hq
            simp at hq
            rcases hq with hq | hq
            · exact hoks q hq
            · exact pcs_pok rs _ (ok_mono hro (Nat.le_of_lt hi)) q hq
          · rw [List.map_append, List.sum_append, hrs]; omega
          · simp; omega
      · have hps0 : ps = [] := by
          have : (ps.map Pc.enc).length = 0 := by omega
          simpa using this
        subst hps0
        simp at ht
        refine m_join ?_ ?_
        · rw [len_flat, ht]; simp; omega
        · rw [joinL_nil, ht]; exact hp
  show evalSs ctx (.cons _ (.cons _ (b_show_saying.drop 2))) _ _
  lt_chain
  refine ⟨by trivial, forL (fun i ρ => ∃ z2, ρ = [some (.tup (rs.map Row.enc)), some (.lst (((texts (rs.take i)).map fun s => (s.length : Int)).map .int)), z2, none, none, none]) ⟨_, rfl⟩ (fun i x ρ k hx hI hk => ?_) (fun ρ hI => ?_)⟩
  · obtain ⟨z2, rfl⟩ := hI
    rw [List.getElem?_map] at hx
    cases e : rs[i]? with
    | none => rw [e] at hx; cases hx
    | some r =>
      rw [e] at hx
      cases hx
      obtain ⟨hi, er⟩ := List.getElem?_eq_some_iff.mp e
      have et : rs = rs.take i ++ rs.drop i := (List.take_append_drop i rs).symm
      have hb : bnd 50000 (texts (rs.take i)) := bnd_pre (qs := rs.drop i) (by rw [← et]; exact h4)
      have hl : (texts (rs.take i)).length = i := by rw [texts_len, List.length_take]; omega
      have hs : texts (rs.take (i + 1)) = texts (rs.take i) ++ [shown r (texts (rs.take i))] := by
        rw [List.take_add_one, e]
        exact scan_snoc _ _ _
      have hb2 : bnd 50000 (texts (rs.take (i + 1))) := bnd_pre (qs := rs.drop (i + 1)) (by rw [List.take_append_drop]; exact h4)
      have hsl : (shown r (texts (rs.take i))).length ≤ 50000 := by
        have := hb2 i
        rw [hs] at this
        have e2 : (texts (rs.take i) ++ [shown r (texts (rs.take i))]).getD i [] = shown r (texts (rs.take i)) := by
          conv => lhs; arg 2; rw [← hl]
          simp
        rw [e2] at this
        exact this
      unfold stepF
      lt_chain
      refine ⟨r, texts (rs.take i), ⟨by rw [hl]; exact h1 i r e, fun j => Nat.le_trans (hb j) (by omega)⟩, rfl, ?_⟩
      lt_chain
      simp only [g0]
      lt_chain
      rw [if_neg (by omega)]
      refine ⟨by have := sz_lb; simp only [List.length_map, hl]; omega, hk _ ⟨some r.enc, ?_⟩⟩
      rw [hs]
      simp
  · obtain ⟨z2, rfl⟩ := hI
    rw [List.length_map, List.take_length]
    exact rest _
end K42

set_option maxRecDepth 100000
namespace K42
open PySem L2 Pm
local macro_rules | `(tactic| lt_chain) => `(tactic| try simp only [v_get, v_glb, c_bool, c_true, c_false, e_var, e_non, e_bl, e_int, e_str, e_glb, e_tup, e_lst, e_bin, e_cmp, e_chn, e_neg, e_revl, n_rev, s_dead, e_not, e_bop, e_idx, e_slc, e_call, p_ret, p_exc, e_bi, e_bm, e_mu, e_comp, es_nil, es_cons, o_none, o_some, t_none, t_some,
  a_nil, a_val, a_own, a_ino, i_val, i_rng, i_enum, i_zip, zp, it2_l, it2_s, k_leS, b_mulS, s_asg, s_setI, s_expr, s_ret, s_retN, s_if, s_for, s_brk, s_cnt, s_pass, ss_n, ss_c, b_add, b_cat, b_catL, b_catT, b_sub, b_mul, b_div, b_mod, b_pow, k_lt, k_le, k_gt, k_ge, k_eqI, k_neI, k_eqS, k_neS, k_eqB, k_neB, k_inS, k_ninS, k_inTS, k_inLS, k_inLI, k_ninTS, k_ninLS, k_ninLI,
  x_lst, x_tup, x_str, l_lst, l_tup, l_str, f_lenS, f_lenL, f_lenT, f_intB, f_intI, f_listL, f_listT, f_tupL, f_tupT, f_max, f_min, f_isb, f_isi, f_iss, f_isl, u_app, u_ext, u_clear, g_nm, g_tp2, g_tp3, w_set, r_1, r_2, n_neg, n_not, n_bool, n_items, n_some, n_chr, n_lst, n_any, n_opt, n_bop, n_chn, tr_b, tr_i, tr_n, tr_l, tr_t, it_l, it_t, it_s,
  at0, at1, at2, at3, ix0, ix1, kt_rt, kt_nx, kt_ex, rs_nm, Option.elim_some, in_nil, in_inn, in_ino, out0, out1, decide_eq_true_eq, Bool.not_eq_true', Bool.not_eq_false', Bool.not_true, Bool.not_false, decide_eq_false_iff_not, Int.not_lt, Option.map_some, As.outs, setOuts, bo_join, bo_index, bo_rev, m_rev, k_eqSSr, k_neSSr, f_listS, true_and, and_true, List.getElem?_cons_zero, List.getElem?_cons_succ, List.set_cons_zero, List.set_cons_succ, List.length_cons, List.length_nil, List.map_cons, List.map_nil, not_true_eq_false, not_false_eq_true, false_implies, forall_const, decide_true, decide_false, Bool.true_eq_false, Bool.false_eq_true, reduceCtorEq])
local macro_rules | `(tactic| trivial) => `(tactic| omega)
local macro_rules | `(tactic| trivial) => `(tactic| (have := sz_lb; (try simp only [List.length_append, List.length_cons, List.length_nil, List.length_map, List.length_range, List.length_reverse]); omega))
theorem txt_at {acc : List (List Nat)} {i : Nat} {k : D → Prop} (h : i < acc.length) (hk : k (.str (acc.getD i []))) : glbK (atI (acc.map D.str) i) k := by
  rw [atI_nn (by omega), Int.toNat_natCast, List.getElem?_map, List.getElem?_eq_getElem h]
  have e : acc.getD i [] = acc[i] := by simp [List.getElem?_eq_getElem h]
  rw [e] at hk
  exact hk
theorem l_shown_ok {ds : List D} {Post : FOut → Prop} (h : showSpec ds Post) : evalSs ctx b_l_shown (ini 4 ds) (ktOf ⟨[.inn 0], 0⟩ Post) := by
  obtain ⟨rs, ⟨h1, h2, h3, h4⟩, rfl, hp⟩ := h
  show evalSs ctx b_l_shown [some (.tup (rs.map Row.enc)), none, none, none] _
  unfold b_l_shown
  lt_chain
  refine ⟨by trivial, forL (fun i ρ => ∃ z2 z3, ρ = [some (.tup (rs.map Row.enc)), some (.lst ((texts (rs.take i)).map .str)), z2, z3]) ⟨_, _, rfl⟩ (fun i x ρ k hx hI hk => ?_) (fun ρ hI => ?_)⟩
  · obtain ⟨z2, z3, rfl⟩ := hI
    rw [List.getElem?_map] at hx
    cases e : rs[i]? with
    | none => rw [e] at hx; cases hx
    | some r =>
      rw [e] at hx
      cases hx
      obtain ⟨hi, er⟩ := List.getElem?_eq_some_iff.mp e
      have et : rs = rs.take i ++ rs.drop i := (List.take_append_drop i rs).symm
      have hb : bnd 50000 (texts (rs.take i)) := bnd_pre (qs := rs.drop i) (by rw [← et]; exact h4)
      have hl : (texts (rs.take i)).length = i := by rw [texts_len, List.length_take]; omega
      have hs : texts (rs.take (i + 1)) = texts (rs.take i) ++ [shown r (texts (rs.take i))] := by
        rw [List.take_add_one, e]
        exact scan_snoc _ _ _
      have hr : rowOk i r := h1 i r e
      generalize ha : texts (rs.take i) = acc at *
      have leaf : ∀ t : List Nat, t = shown r acc → (acc.map D.str).length < sizeLine ∧ k [some (.tup (rs.map Row.enc)), some (.lst (acc.map .str ++ [.str t])), some r.enc, some (.str t)] := by
        intro t ht
        refine ⟨by have := sz_lb; rw [List.length_map, hl]; omega, hk _ ⟨some r.enc, some (.str t), ?_⟩⟩
        rw [hs, ht]; simp
      unfold stepF
      cases r with
      | yes =>
        unfold Row.enc Pm.tYes at *
        lt_chain
        simp +decide only [false_implies, not_true_eq_false, not_false_eq_true, forall_const, true_and, and_true]
        exact leaf _ rfl
      | is_ x y =>
        have a1 := hr.1
        have a2 := hr.2
        unfold Row.enc tIs at *
        lt_chain
        first | exact ⟨by trivial, by trivial, leaf _ rfl⟩ | (simp +decide only [false_implies, not_true_eq_false, not_false_eq_true, forall_const, true_and, and_true]; exact ⟨by trivial, by trivial, leaf _ rfl⟩)
      | ahd x y =>
        have a1 := hr.1
        have a2 := hr.2
        unfold Row.enc tAhead at *
        lt_chain
        simp +decide only [false_implies, not_true_eq_false, not_false_eq_true, forall_const, true_and, and_true]
        exact ⟨by trivial, by trivial, leaf _ rfl⟩
      | not_ i =>
        unfold Row.enc Pm.tNot at *
        lt_chain
        simp +decide only [false_implies, not_true_eq_false, not_false_eq_true, forall_const, true_and, and_true]
        have b1 := hb i
        refine txt_at (by rw [hl]; exact hr) ?_
        lt_chain
        exact ⟨by trivial, leaf _ rfl⟩
      | bin o i j =>
        have b1 := hb i
        have b2 := hb j
        cases o
        all_goals
          unfold Row.enc at *
          simp only [tBin, Bool.false_eq_true, if_false, if_true] at *
          lt_chain
          simp +decide only [false_implies, not_true_eq_false, not_false_eq_true, forall_const, true_and, and_true]
          refine txt_at (by rw [hl]; exact hr.1) ?_
          lt_chain
          refine ⟨by trivial, by trivial, by trivial, by trivial, txt_at (by rw [hl]; exact hr.2) ?_⟩
          lt_chain
          exact ⟨by trivial, by trivial, leaf _ rfl⟩
      | qu o x i =>
        have a1 := hr.1
        have b1 := hb i
        cases o
        all_goals
          unfold Row.enc at *
          simp only [tQu, Bool.false_eq_true, if_false, if_true] at *
          lt_chain
          simp +decide only [false_implies, not_true_eq_false, not_false_eq_true, forall_const, true_and, and_true]
          refine ⟨by trivial, by trivial, txt_at (by rw [hl]; exact hr.2) ?_⟩
          lt_chain
          exact ⟨by trivial, leaf _ rfl⟩
  · obtain ⟨z2, z3, rfl⟩ := hI
    lt_chain
    rw [ix_last, List.length_map, List.take_length]
    have hlast : (texts rs).getLast? = some (final rs) := by
      rw [List.getLast?_eq_getElem?, texts_len]
      unfold final
      have hl : rs.length - 1 < (texts rs).length := by rw [texts_len]; omega
      rw [List.getElem?_eq_getElem hl]
      simp [List.getElem?_eq_getElem hl]
    rw [List.getLast?_map, hlast]
    exact hp
end K42

set_option maxRecDepth 100000
namespace K42
open PySem L2 Pm
local macro_rules | `(tactic| lt_chain) => `(tactic| try simp only [v_get, v_glb, c_bool, c_true, c_false, e_var, e_non, e_bl, e_int, e_str, e_glb, e_tup, e_lst, e_bin, e_cmp, e_chn, e_neg, e_revl, n_rev, s_dead, e_not, e_bop, e_idx, e_slc, e_call, p_ret, p_exc, e_bi, e_bm, e_mu, e_comp, es_nil, es_cons, o_none, o_some, t_none, t_some,
  a_nil, a_val, a_own, a_ino, i_val, i_rng, i_enum, i_zip, zp, it2_l, it2_s, k_leS, b_mulS, s_asg, s_setI, s_expr, s_ret, s_retN, s_if, s_for, s_brk, s_cnt, s_pass, ss_n, ss_c, b_add, b_cat, b_catL, b_catT, b_sub, b_mul, b_div, b_mod, b_pow, k_lt, k_le, k_gt, k_ge, k_eqI, k_neI, k_eqS, k_neS, k_eqB, k_neB, k_inS, k_ninS, k_inTS, k_inLS, k_inLI, k_ninTS, k_ninLS, k_ninLI,
  x_lst, x_tup, x_str, l_lst, l_tup, l_str, f_lenS, f_lenL, f_lenT, f_intB, f_intI, f_listL, f_listT, f_tupL, f_tupT, f_max, f_min, f_isb, f_isi, f_iss, f_isl, u_app, u_ext, u_clear, g_nm, g_tp2, g_tp3, w_set, r_1, r_2, n_neg, n_not, n_bool, n_items, n_some, n_chr, n_lst, n_any, n_opt, n_bop, n_chn, tr_b, tr_i, tr_n, tr_l, tr_t, it_l, it_t, it_s,
  at0, at1, at2, at3, ix0, ix1, kt_rt, kt_nx, kt_ex, rs_nm, Option.elim_some, in_nil, in_inn, in_ino, out0, out1, decide_eq_true_eq, Bool.not_eq_true', Bool.not_eq_false', Bool.not_true, Bool.not_false, decide_eq_false_iff_not, Int.not_lt, Option.map_some, As.outs, setOuts, bo_join, bo_index, bo_rev, m_rev, k_eqSSr, k_neSSr, f_listS, true_and, and_true, List.getElem?_cons_zero, List.getElem?_cons_succ, List.set_cons_zero, List.set_cons_succ, List.length_cons, List.length_nil, List.map_cons, List.map_nil, not_true_eq_false, not_false_eq_true, false_implies, forall_const, decide_true, decide_false, Bool.true_eq_false, Bool.false_eq_true, reduceCtorEq])
local macro_rules | `(tactic| trivial) => `(tactic| omega)
local macro_rules | `(tactic| trivial) => `(tactic| (have := sz_lb; (try simp only [List.length_append, List.length_cons, List.length_nil, List.length_map, List.length_range, List.length_reverse]); omega))
theorem law_ok {ds : List D} {Post : FOut → Prop} (h : lawSpec 63 ds Post) : evalSs ctx b_law (ini 11 ds) (ktOf ⟨[.inn 1], 0⟩ Post) := by
  obtain ⟨is, hl, rfl, hp⟩ := h
  show evalSs ctx b_law [some (.lst (is.map .int)), none, none, none, none, none, none, none, none, none, none] _
  unfold b_law
  lt_chain
  generalize hn : (if (if (8 : Int) < ((is.map D.int).length : Int) then (8 : Int) else ((is.map D.int).length : Int)) > 2 then (if (8 : Int) < ((is.map D.int).length : Int) then (8 : Int) else ((is.map D.int).length : Int)) else 2) = n
  have hn2 : 2 ≤ n ∧ n ≤ 8 := by rw [← hn]; split <;> split <;> omega
  refine ⟨by trivial, by omega, by omega, forL (fun i ρ => ∃ (ss : List (List Row)) (z2 z4 z5 z6 z7 z8 : Option D), ρ = [some (.lst (is.map .int)), some (.lst (ss.map fun rs => .tup (rs.map Row.enc))), z2, none, z4, z5, z6, z7, z8, none, none] ∧ ss.length = i ∧ ∀ rs ∈ ss, sayOk rs) ⟨[], _, _, _, _, _, _, rfl, rfl, by simp⟩ (fun i x ρ k hx hI hk => ?_) (fun ρ hI => ?_)⟩
  · obtain ⟨ss, z2, z4, z5, z6, z7, z8, rfl, hss, hok⟩ := hI
    obtain ⟨j, hj, rfl⟩ := List.mem_map.mp (List.mem_of_getElem? hx)
    have hj2 : j < 8 := by have := List.mem_range.mp hj; omega
    have hi : i < n.toNat := by
      have := (List.getElem?_eq_some_iff.mp hx).1
      simpa using this
    unfold stepF
    lt_chain
    refine ⟨is, j, ⟨hl, by omega⟩, rfl, fun y => ?_⟩
    lt_chain
    refine ⟨y, 4, ⟨by omega, by omega⟩, rfl, fun L y2 hL1 hL2 _ _ => ?_⟩
    lt_chain
    refine ⟨y2, 3, ⟨by omega, by omega⟩, rfl, fun v y3 h0 h1 => ?_⟩
    lt_chain
    refine ⟨y3, _, ⟨by omega, by omega⟩, rfl, fun ns y4 hns hnl => ?_⟩
    lt_chain
    refine ⟨y4, L, ns, 9, ⟨hL1, by omega, by omega, by omega, hnl, by omega, by omega⟩, rfl, fun rs y5 hro hr1 hr2 => ?_⟩
    lt_chain
    have say : ∀ (qs : List Row) (m : Nat), m ≤ 20 → okRows qs → qs.length = rs.length + m → (∀ B, bnd B (texts rs) → bnd (B + 20 * m) (texts qs)) → sayOk qs := by
      intro qs m hm h1 h2 h3
      refine ⟨h1, by omega, by omega, fun i => ?_⟩
      have := h3 _ (rows_bnd hro) i
      have hp : 2 ^ rs.length ≤ 2 ^ 9 := Nat.pow_le_pow_right (by decide) (by omega)
      omega
    have leaf : ∀ (qs : List Row) (y' : Box) (m : Int), sayOk qs → (ss.map fun rs => D.tup (rs.map Row.enc)).length < sizeLine ∧ k [some (.lst (is.map .int)), some (.lst ((ss.map fun rs => D.tup (rs.map Row.enc)) ++ [.tup (qs.map Row.enc)])), some (.int j), none, some y'.enc, some (.str L), some (.lst (ns.map .str)), some (.lst (rs.map Row.enc)), some (.int m), none, none] := by
      intro qs y' m hq
      refine ⟨by have := sz_lb; rw [List.length_map]; omega, hk _ ⟨ss ++ [qs], some (.int j), some y'.enc, some (.str L), some (.lst (ns.map .str)), some (.lst (rs.map Row.enc)), some (.int m), by simp, by simp [hss], fun r hr => ?_⟩⟩
      simp at hr
      rcases hr with hr | rfl
      · exact hok r hr
      · exact hq
    refine ⟨y5, 3, ⟨by omega, by omega⟩, rfl, fun w y6 _ _ => ?_⟩
    lt_chain
    refine ⟨fun _ => ?_, fun _ => ?_⟩
    · refine ⟨y6, 21, ⟨by omega, by omega⟩, rfl, fun m y7 h2 h3 => ?_⟩
      lt_chain
      refine ⟨y7, ns, rs, m.toNat, ⟨by omega, by omega, hnl, hro, hr1, by omega, by omega⟩, by rw [show ((m.toNat : Nat) : Int) = m by omega], fun qs y8 q1 q2 q3 => ?_⟩
      lt_chain
      exact leaf qs y8 m (say qs m.toNat (by omega) q1 q2 q3)
    · refine ⟨y6, ns, rs, 0, ⟨by omega, by omega, hnl, hro, hr1, by omega, by omega⟩, rfl, fun qs y8 q1 q2 q3 => ?_⟩
      lt_chain
      exact leaf qs y8 0 (say qs 0 (by omega) q1 q2 q3)
  · obtain ⟨ss, z2, z4, z5, z6, z7, z8, rfl, hss, hok⟩ := hI
    lt_chain
    refine ⟨by trivial, by trivial, forL (fun i ρ => ∃ z3 z9 z10, ρ = [some (.lst (is.map .int)), some (.lst (ss.map fun rs => .tup (rs.map Row.enc))), z2, z3, z4, z5, z6, z7, z8, z9, z10]) ⟨_, _, _, rfl⟩ (fun i x ρ k hx hI hk => ?_) (fun ρ hI => hp)⟩
    obtain ⟨z3, z9, z10, rfl⟩ := hI
    unfold stepF
    lt_chain
    refine forL (fun i ρ => ∃ z9 z10, ρ = [some (.lst (is.map .int)), some (.lst (ss.map fun rs => .tup (rs.map Row.enc))), z2, some x, z4, z5, z6, z7, z8, z9, z10]) ⟨_, _, rfl⟩ (fun i y ρ k2 hy hI hk2 => ?_) (fun ρ hI => ?_)
    · obtain ⟨z9, z10, rfl⟩ := hI
      obtain ⟨rs, hrs, rfl⟩ := List.mem_map.mp (List.mem_of_getElem? hy)
      unfold stepF
      lt_chain
      refine ⟨rs, hok rs hrs, rfl, ?_⟩
      lt_chain
      refine ⟨rs, hok rs hrs, rfl, ?_⟩
      lt_chain
      exact hk2 _ ⟨_, _, rfl⟩
    · obtain ⟨z9, z10, rfl⟩ := hI
      exact hk _ ⟨_, _, _, rfl⟩
theorem pure (i : Nat) (d : DefT) (h : defs[i]? = some d) (ds : List D) (Post : FOut → Prop) (hl : ds.length = d.s.ps.length) (hs : ctx.spec i ds Post) : evalSs ctx d.b (ini d.N.length ds) (ktOf d.s Post) := by
  match i, h with
  | 0, h => cases h; exact box_ok hs
  | 1, h => cases h; exact take_ok hs
  | 2, h => cases h; exact letters_ok (t := 1) rfl hs
  | 3, h => cases h; exact names_ok (t := 1) rfl hs
  | 4, h => cases h; exact row_at_ok (t := 1) rfl hs
  | 5, h => cases h; exact say_rows_ok (t := 1) (ra := 4) rfl rfl hs
  | 6, h => cases h; exact chain_ok (t := 1) rfl hs
  | 7, h => cases h; exact len_ok hs
  | 8, h => cases h; exact pcs_ok hs
  | 9, h => cases h; exact show_ok hs
  | 10, h => cases h; exact l_shown_ok hs
  | 11, h => cases h; exact law_ok hs
  | (n + 12), h => cases h
end K42

set_option maxRecDepth 100000
namespace K42
open PySem PySem.Spec L2 Pm
theorem all_mk {l : PySem.W.OpenLaw} {w : World} {K : PySem.W.Frag} {h : Heap} {mg : Str → Option Value} {fa : Addr} (X : K.In h) (G : h.Ns mainGlobals mg) (hfa : mg "law" = some (.ref fa))
    {f0 : Addr} {od0 an0 : Option Addr} {sl0 : Array (Option Value)} {oc0 kV0 dc0 pm0 cd0 ct0 : Value}
    {f1 : Addr} {od1 an1 : Option Addr} {sl1 : Array (Option Value)} {oc1 kV1 dc1 pm1 cd1 ct1 : Value}
    {f2 : Addr} {od2 an2 : Option Addr} {sl2 : Array (Option Value)} {oc2 kV2 dc2 pm2 cd2 ct2 : Value}
    {f3 : Addr} {od3 an3 : Option Addr} {sl3 : Array (Option Value)} {oc3 kV3 dc3 pm3 cd3 ct3 : Value}
    {f4 : Addr} {od4 an4 : Option Addr} {sl4 : Array (Option Value)} {oc4 kV4 dc4 pm4 cd4 ct4 : Value}
    {f5 : Addr} {od5 an5 : Option Addr} {sl5 : Array (Option Value)} {oc5 kV5 dc5 pm5 cd5 ct5 : Value}
    {f6 : Addr} {od6 an6 : Option Addr} {sl6 : Array (Option Value)} {oc6 kV6 dc6 pm6 cd6 ct6 : Value}
    {f7 : Addr} {od7 an7 : Option Addr} {sl7 : Array (Option Value)} {oc7 kV7 dc7 pm7 cd7 ct7 : Value}
    {f8 : Addr} {od8 an8 : Option Addr} {sl8 : Array (Option Value)} {oc8 kV8 dc8 pm8 cd8 ct8 : Value}
    {f9 : Addr} {od9 an9 : Option Addr} {sl9 : Array (Option Value)} {oc9 kV9 dc9 pm9 cd9 ct9 : Value}
    {f10 : Addr} {od10 an10 : Option Addr} {sl10 : Array (Option Value)} {oc10 kV10 dc10 pm10 cd10 ct10 : Value}
    {f11 : Addr} {od11 an11 : Option Addr} {sl11 : Array (Option Value)} {oc11 kV11 dc11 pm11 cd11 ct11 : Value}
    {gu0 : Value}
    (a0 : PySem.W.nsIn K mainGlobals "_law_box" = some (some (.ref f0))) (l0 : K.lookup f0 = some ⟨oc0, od0, .func (PySem.W.fnOf "_law_box" "_law_box" (defArgs (topS 9)) (defBody (topS 9)) (defScope (topS 9)) .none kV0 dc0 pm0 an0 cd0 ct0), sl0⟩) (c0 : PySem.W.codeIn K cd0 "_law_box" = true) (k0 : PySem.W.keepIn K (.ref f0) = true)
    (a1 : PySem.W.nsIn K mainGlobals "_law_take" = some (some (.ref f1))) (l1 : K.lookup f1 = some ⟨oc1, od1, .func (PySem.W.fnOf "_law_take" "_law_take" (defArgs (topS 10)) (defBody (topS 10)) (defScope (topS 10)) .none kV1 dc1 pm1 an1 cd1 ct1), sl1⟩) (c1 : PySem.W.codeIn K cd1 "_law_take" = true) (k1 : PySem.W.keepIn K (.ref f1) = true)
    (a2 : PySem.W.nsIn K mainGlobals "_law_letters" = some (some (.ref f2))) (l2 : K.lookup f2 = some ⟨oc2, od2, .func (PySem.W.fnOf "_law_letters" "_law_letters" (defArgs (topS 11)) (defBody (topS 11)) (defScope (topS 11)) .none kV2 dc2 pm2 an2 cd2 ct2), sl2⟩) (c2 : PySem.W.codeIn K cd2 "_law_letters" = true) (k2 : PySem.W.keepIn K (.ref f2) = true)
    (a3 : PySem.W.nsIn K mainGlobals "_law_place_names" = some (some (.ref f3))) (l3 : K.lookup f3 = some ⟨oc3, od3, .func (PySem.W.fnOf "_law_place_names" "_law_place_names" (defArgs (topS 13)) (defBody (topS 13)) (defScope (topS 13)) .none kV3 dc3 pm3 an3 cd3 ct3), sl3⟩) (c3 : PySem.W.codeIn K cd3 "_law_place_names" = true) (k3 : PySem.W.keepIn K (.ref f3) = true)
    (a4 : PySem.W.nsIn K mainGlobals "_law_row_at" = some (some (.ref f4))) (l4 : K.lookup f4 = some ⟨oc4, od4, .func (PySem.W.fnOf "_law_row_at" "_law_row_at" (defArgs (topS 12)) (defBody (topS 12)) (defScope (topS 12)) .none kV4 dc4 pm4 an4 cd4 ct4), sl4⟩) (c4 : PySem.W.codeIn K cd4 "_law_row_at" = true) (k4 : PySem.W.keepIn K (.ref f4) = true)
    (a5 : PySem.W.nsIn K mainGlobals "_law_saying_rows" = some (some (.ref f5))) (l5 : K.lookup f5 = some ⟨oc5, od5, .func (PySem.W.fnOf "_law_saying_rows" "_law_saying_rows" (defArgs (topS 14)) (defBody (topS 14)) (defScope (topS 14)) .none kV5 dc5 pm5 an5 cd5 ct5), sl5⟩) (c5 : PySem.W.codeIn K cd5 "_law_saying_rows" = true) (k5 : PySem.W.keepIn K (.ref f5) = true)
    (a6 : PySem.W.nsIn K mainGlobals "_law_chain" = some (some (.ref f6))) (l6 : K.lookup f6 = some ⟨oc6, od6, .func (PySem.W.fnOf "_law_chain" "_law_chain" (defArgs (topS 15)) (defBody (topS 15)) (defScope (topS 15)) .none kV6 dc6 pm6 an6 cd6 ct6), sl6⟩) (c6 : PySem.W.codeIn K cd6 "_law_chain" = true) (k6 : PySem.W.keepIn K (.ref f6) = true)
    (a7 : PySem.W.nsIn K mainGlobals "length_of" = some (some (.ref f7))) (l7 : K.lookup f7 = some ⟨oc7, od7, .func (PySem.W.fnOf "length_of" "length_of" (defArgs (topS 5)) (defBody (topS 5)) (defScope (topS 5)) .none kV7 dc7 pm7 an7 cd7 ct7), sl7⟩) (c7 : PySem.W.codeIn K cd7 "length_of" = true) (k7 : PySem.W.keepIn K (.ref f7) = true)
    (a8 : PySem.W.nsIn K mainGlobals "pieces_of" = some (some (.ref f8))) (l8 : K.lookup f8 = some ⟨oc8, od8, .func (PySem.W.fnOf "pieces_of" "pieces_of" (defArgs (topS 6)) (defBody (topS 6)) (defScope (topS 6)) .none kV8 dc8 pm8 an8 cd8 ct8), sl8⟩) (c8 : PySem.W.codeIn K cd8 "pieces_of" = true) (k8 : PySem.W.keepIn K (.ref f8) = true)
    (a9 : PySem.W.nsIn K mainGlobals "show_saying" = some (some (.ref f9))) (l9 : K.lookup f9 = some ⟨oc9, od9, .func (PySem.W.fnOf "show_saying" "show_saying" (defArgs (topS 7)) (defBody (topS 7)) (defScope (topS 7)) .none kV9 dc9 pm9 an9 cd9 ct9), sl9⟩) (c9 : PySem.W.codeIn K cd9 "show_saying" = true) (k9 : PySem.W.keepIn K (.ref f9) = true)
    (a10 : PySem.W.nsIn K mainGlobals "_law_shown" = some (some (.ref f10))) (l10 : K.lookup f10 = some ⟨oc10, od10, .func (PySem.W.fnOf "_law_shown" "_law_shown" (defArgs (topS 16)) (defBody (topS 16)) (defScope (topS 16)) .none kV10 dc10 pm10 an10 cd10 ct10), sl10⟩) (c10 : PySem.W.codeIn K cd10 "_law_shown" = true) (k10 : PySem.W.keepIn K (.ref f10) = true)
    (a11 : PySem.W.nsIn K mainGlobals "law" = some (some (.ref f11))) (l11 : K.lookup f11 = some ⟨oc11, od11, .func (PySem.W.fnOf "law" "law" (defArgs (topS 17)) (defBody (topS 17)) (defScope (topS 17)) .none kV11 dc11 pm11 an11 cd11 ct11), sl11⟩) (c11 : PySem.W.codeIn K cd11 "law" = true) (k11 : PySem.W.keepIn K (.ref f11) = true)
    (z0 : PySem.W.nsIn K mainGlobals "len" = some none)
    (z1 : PySem.W.nsIn K mainGlobals "int" = some none)
    (z2 : PySem.W.nsIn K mainGlobals "str" = some none)
    (z3 : PySem.W.nsIn K mainGlobals "list" = some none)
    (z4 : PySem.W.nsIn K mainGlobals "tuple" = some none)
    (z5 : PySem.W.nsIn K mainGlobals "max" = some none)
    (z6 : PySem.W.nsIn K mainGlobals "min" = some none)
    (z7 : PySem.W.nsIn K mainGlobals "sum" = some none)
    (z8 : PySem.W.nsIn K mainGlobals "all" = some none)
    (z9 : PySem.W.nsIn K mainGlobals "any" = some none)
    (z10 : PySem.W.nsIn K mainGlobals "isinstance" = some none)
    (z11 : PySem.W.nsIn K mainGlobals "bool" = some none)
    (z12 : PySem.W.nsIn K mainGlobals "range" = some none)
    (z13 : PySem.W.nsIn K mainGlobals "enumerate" = some none)
    (z14 : PySem.W.nsIn K mainGlobals "zip" = some none)
    (yg0 : PySem.W.nsIn K mainGlobals "LONGEST" = some (some gu0)) (ye0 : relB (.int 100000) gu0 = true) :
    ∃ fd : FuncData, (∀ (s : Shared) (v : Value), BindsTo s fd ⟨[v], []⟩ [("_law_script", v)]) ∧ ∀ base : Heap, K.In base → base.Ns mainGlobals mg → FnOk l.prog w K mg base (L2.CX l.prog w) 12 fa fd ["_law_script"] (spOf K XR ⟨[.inn 1], 0⟩ (spec 11)) := by
  have e := hfa.symm.trans (PySem.W.mg_of X G a11)
  cases e
  have F0 := fun_mk (st := topS 9) l0 c0 k0
  have B0 := F0.binds (ps := d_l_box.ps) fun _ _ _ _ _ _ us hl => match us, hl with | [_, _], _ => rfl
  have F1 := fun_mk (st := topS 10) l1 c1 k1
  have B1 := F1.binds (ps := d_l_take.ps) fun _ _ _ _ _ _ us hl => match us, hl with | [_, _], _ => rfl
  have F2 := fun_mk (st := topS 11) l2 c2 k2
  have B2 := F2.binds (ps := d_l_letters.ps) fun _ _ _ _ _ _ us hl => match us, hl with | [_, _], _ => rfl
  have F3 := fun_mk (st := topS 13) l3 c3 k3
  have B3 := F3.binds (ps := d_l_place_names.ps) fun _ _ _ _ _ _ us hl => match us, hl with | [_, _], _ => rfl
  have F4 := fun_mk (st := topS 12) l4 c4 k4
  have B4 := F4.binds (ps := d_l_row_at.ps) fun _ _ _ _ _ _ us hl => match us, hl with | [_, _], _ => rfl
  have F5 := fun_mk (st := topS 14) l5 c5 k5
  have B5 := F5.binds (ps := d_l_saying_rows.ps) fun _ _ _ _ _ _ us hl => match us, hl with | [_, _, _, _], _ => rfl
  have F6 := fun_mk (st := topS 15) l6 c6 k6
  have B6 := F6.binds (ps := d_l_chain.ps) fun _ _ _ _ _ _ us hl => match us, hl with | [_, _, _, _], _ => rfl
  have F7 := fun_mk (st := topS 5) l7 c7 k7
  have B7 := F7.binds (ps := d_length_of.ps) fun _ _ _ _ _ _ us hl => match us, hl with | [_, _], _ => rfl
  have F8 := fun_mk (st := topS 6) l8 c8 k8
  have B8 := F8.binds (ps := d_pieces_of.ps) fun _ _ _ _ _ _ us hl => match us, hl with | [_], _ => rfl
  have F9 := fun_mk (st := topS 7) l9 c9 k9
  have B9 := F9.binds (ps := d_show_saying.ps) fun _ _ _ _ _ _ us hl => match us, hl with | [_], _ => rfl
  have F10 := fun_mk (st := topS 16) l10 c10 k10
  have B10 := F10.binds (ps := d_l_shown.ps) fun _ _ _ _ _ _ us hl => match us, hl with | [_], _ => rfl
  have F11 := fun_mk (st := topS 17) l11 c11 k11
  have B11 := F11.binds (ps := d_law.ps) fun _ _ _ _ _ _ us hl => match us, hl with | [_], _ => rfl
  have left : ∀ d ∈ defs, Left K mg d := by
    intro d hd
    simp only [defs, List.mem_cons, List.not_mem_nil, or_false] at hd
    rcases hd with rfl | rfl | rfl | rfl | rfl | rfl | rfl | rfl | rfl | rfl | rfl | rfl
    · exact ⟨_, _, PySem.W.mg_of X G a0, F0, B0⟩
    · exact ⟨_, _, PySem.W.mg_of X G a1, F1, B1⟩
    · exact ⟨_, _, PySem.W.mg_of X G a2, F2, B2⟩
    · exact ⟨_, _, PySem.W.mg_of X G a3, F3, B3⟩
    · exact ⟨_, _, PySem.W.mg_of X G a4, F4, B4⟩
    · exact ⟨_, _, PySem.W.mg_of X G a5, F5, B5⟩
    · exact ⟨_, _, PySem.W.mg_of X G a6, F6, B6⟩
    · exact ⟨_, _, PySem.W.mg_of X G a7, F7, B7⟩
    · exact ⟨_, _, PySem.W.mg_of X G a8, F8, B8⟩
    · exact ⟨_, _, PySem.W.mg_of X G a9, F9, B9⟩
    · exact ⟨_, _, PySem.W.mg_of X G a10, F10, B10⟩
    · exact ⟨_, _, PySem.W.mg_of X G a11, F11, B11⟩
  have outer : Outer K mg ctx gnames gks := by
    refine ⟨fun g d x h1 h2 => ?_, fun b => ?_, fun T hT => ?_, PySem.W.mg_none_of X G z12, PySem.W.mg_none_of X G z13, PySem.W.mg_none_of X G z14⟩
    · have hg : g < 1 := by
        have := (List.getElem?_eq_some_iff.mp h2).1
        simpa [gnames] using this
      have hall : ∀ i, i < 1 → ∀ d x, gvals[i]? = some d → gnames[i]? = some x → GlobOk K mg d x ∧ d.dep (gks i) = true := by
        intro i hi d x e1 e2
        match i, hi with
        | 0, _ => cases e1; cases e2; exact ⟨glob_flat X G yg0 ye0, by decide⟩
      obtain ⟨⟨v, u, q1, q2, q3⟩, q4⟩ := hall g hg d x h1 h2
      exact ⟨v, u, q1, q2, q3, q4⟩
    · cases b with
      | len => exact PySem.W.mg_none_of X G z0
      | int => exact PySem.W.mg_none_of X G z1
      | str => exact PySem.W.mg_none_of X G z2
      | list _ => exact PySem.W.mg_none_of X G z3
      | tuple _ => exact PySem.W.mg_none_of X G z4
      | max => exact PySem.W.mg_none_of X G z5
      | min => exact PySem.W.mg_none_of X G z6
      | sum => exact PySem.W.mg_none_of X G z7
      | all => exact PySem.W.mg_none_of X G z8
      | any => exact PySem.W.mg_none_of X G z9
      | _ => exact PySem.W.mg_none_of X G z10
    · simp only [List.mem_cons, List.not_mem_nil, or_false] at hT
      rcases hT with rfl | rfl | rfl | rfl
      · exact PySem.W.mg_none_of X G z11
      · exact PySem.W.mg_none_of X G z1
      · exact PySem.W.mg_none_of X G z2
      · exact PySem.W.mg_none_of X G z3
  refine ⟨PySem.W.fnOf "law" "law" (defArgs (topS 17)) (defBody (topS 17)) (defScope (topS 17)) .none kV11 dc11 pm11 an11 cd11 ct11, fun s v => .of_eq rfl, fun base _ _ => ?_⟩
  obtain ⟨f, fd, h1, _, _, h2, h3⟩ := all_ok (P := l.prog) (w := w) (base := base) (XR := XR) chk left outer pure 12 11 (by decide) d_law rfl
  have h1 : mg "law" = some (.ref f) := h1
  rw [hfa] at h1
  cases h1
  obtain ⟨_, _, _, _, _, _, _, _, _, rfl, lk, _⟩ := h2.ex
  rw [l11] at lk
  cases lk
  exact h3
theorem walk {l : PySem.W.OpenLaw} {q : Program} {loose : List Str} {XP : (Str → Option Value) → Heap → Prop} {YP : World → Heap → Prop} {d : DefRec} {K : Params → PySem.W.Frag} (hn : l.most = some 63) (hdf : d.params.defaults = [])
    (hY : ∀ (w : World) (h : Heap), YP w h → (K w.params).In h)
    (F : ∀ (w : World) (mg : Str → Option Value) (fa : Addr) (h : Heap), (K w.params).In h → h.Ns mainGlobals mg → mg d.name = some (.ref fa) →
      ∃ fd : FuncData, (∀ (s : Shared) (u : Value), BindsTo s fd ⟨[u], []⟩ [("_law_script", u)]) ∧ ∀ base : Heap, (K w.params).In base → base.Ns mainGlobals mg → FnOk l.prog w (K w.params) mg base (L2.CX l.prog w) 12 fa fd ["_law_script"] (spOf (K w.params) XR ⟨[.inn 1], 0⟩ (spec 11))) :
    PySem.W.WalkO q loose XP YP l.row.toRowW d [] (fun f vs => PySem.call f vs) :=
  L2.walk_of (n := 63) (k := 12) (x := "_law_script") (CX := fun w => L2.CX l.prog w) (sp := fun w => spOf (K w.params) XR ⟨[.inn 1], 0⟩ (spec 11)) hn (by decide) hdf ⟨rfl, by decide, by decide⟩ hY F (fun _ _ a ns hl _ hS => law_in hl hS) fun _ _ _ _ _ z => no_exc _ _ _ _ z
end K42
open PySem PySem.W PyProof.Rows
set_option maxRecDepth 100000 in
set_option maxHeartbeats 0 in
theorem PySem.Challenge.cw_calmword_k42_sayings_written_holds : PySem.Challenge.rw_calmword_k42_sayings_written.Holds := by
  w_on; o_law; k_head; (case hw => w_witness2)
  k_fill
  refine K42.walk (l := PySem.Challenge.rw_calmword_k42_sayings_written) rfl rfl (fun w h Y => PySem.W.kIn_of Y) ?F
  case F =>
    intro w mg fa h KX G hmg
    refine' K42.all_mk KX G hmg ?a0 ?l0 ?c0 ?k0 ?a1 ?l1 ?c1 ?k1 ?a2 ?l2 ?c2 ?k2 ?a3 ?l3 ?c3 ?k3 ?a4 ?l4 ?c4 ?k4 ?a5 ?l5 ?c5 ?k5 ?a6 ?l6 ?c6 ?k6 ?a7 ?l7 ?c7 ?k7 ?a8 ?l8 ?c8 ?k8 ?a9 ?l9 ?c9 ?k9 ?a10 ?l10 ?c10 ?k10 ?a11 ?l11 ?c11 ?k11 ?z0 ?z1 ?z2 ?z3 ?z4 ?z5 ?z6 ?z7 ?z8 ?z9 ?z10 ?z11 ?z12 ?z13 ?z14 ?yg0 ?ye0
    (case a0 => k_is)
    (case l0 => k_is)
    (case c0 => k_is)
    (case k0 => k_is)
    (case a1 => k_is)
    (case l1 => k_is)
    (case c1 => k_is)
    (case k1 => k_is)
    (case a2 => k_is)
    (case l2 => k_is)
    (case c2 => k_is)
    (case k2 => k_is)
    (case a3 => k_is)
    (case l3 => k_is)
    (case c3 => k_is)
    (case k3 => k_is)
    (case a4 => k_is)
    (case l4 => k_is)
    (case c4 => k_is)
    (case k4 => k_is)
    (case a5 => k_is)
    (case l5 => k_is)
    (case c5 => k_is)
    (case k5 => k_is)
    (case a6 => k_is)
    (case l6 => k_is)
    (case c6 => k_is)
    (case k6 => k_is)
    (case a7 => k_is)
    (case l7 => k_is)
    (case c7 => k_is)
    (case k7 => k_is)
    (case a8 => k_is)
    (case l8 => k_is)
    (case c8 => k_is)
    (case k8 => k_is)
    (case a9 => k_is)
    (case l9 => k_is)
    (case c9 => k_is)
    (case k9 => k_is)
    (case a10 => k_is)
    (case l10 => k_is)
    (case c10 => k_is)
    (case k10 => k_is)
    (case a11 => k_is)
    (case l11 => k_is)
    (case c11 => k_is)
    (case k11 => k_is)
    (case z0 => k_is)
    (case z1 => k_is)
    (case z2 => k_is)
    (case z3 => k_is)
    (case z4 => k_is)
    (case z5 => k_is)
    (case z6 => k_is)
    (case z7 => k_is)
    (case z8 => k_is)
    (case z9 => k_is)
    (case z10 => k_is)
    (case z11 => k_is)
    (case z12 => k_is)
    (case z13 => k_is)
    (case z14 => k_is)
    (case yg0 => k_is)
    (case ye0 => decide +kernel)