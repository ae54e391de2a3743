import PyProof.Rows.All
import HandS.ForMost
import HandS.ForExc
import HandS.Conv
import HandS.Wide
import HandS.DeepEq
import HandS.TupAny
import HandS.Style
import HandS.More
import HandS.SortKw
import PyProof.ListStr
import KE.KeyNested
import KE.KDictKeyed
import KE.DatumOrd
import PyProof.AutoSeq1
import KE.SortData
import PyProof.Rows.TupTab
import KE.KDictWalk
import PyProof.DictWalks
import KE.KDictPairs
import HandS.Deep
import HandS.WideBits
import HandS.IsInst
import HandS.Replace
import HandS.TupLen
import KE.KDictCopyH
import PyProof.Rows.SortWalk
import HandS.Flow
import HandS.SetFor
import HandS.TupSets
import KE.GoesEnum
import HandS.Ends
import PySem.Challenge.RW_calmword_k33_free_names_and_depths
set_option linter.all false
namespace Pm
open PySem L2

/-- the world the data are told in: the program, its own classes by number -/
class Wd where
  P : Program
  w : World
  cls : Nat → Addr
  fld : Nat → List Str

/-! ### data -/
inductive D where
  | non | bl (b : Bool) | int (i : Int) | str (s : List Nat)
  | tup (xs : List D) | lst (xs : List D)
  | dic (ep : Nat) (ks vs : List D) | ins (c : Nat) (vs : List D) | clo (f : Nat) (cs : List D)

mutual
def D.dep : Nat → D → Bool
  | _, .non => true
  | _, .bl _ => true
  | _, .int _ => true
  | _, .str _ => true
  | k, .tup xs => D.deps k xs
  | k, .clo _ xs => D.deps k xs
  | 0, .lst _ => false
  | k + 1, .lst xs => D.deps k xs
  | 0, .dic _ _ _ => false
  | k + 1, .dic _ ks vs => D.deps 0 ks && D.deps k vs
  | 0, .ins _ _ => false
  | k + 1, .ins _ vs => D.deps k vs
def D.deps : Nat → List D → Bool
  | _, [] => true
  | k, x :: xs => D.dep k x && D.deps k xs
end

theorem deps_iff {k : Nat} {xs : List D} : D.deps k xs = true ↔ ∀ x ∈ xs, D.dep k x = true := by
  induction xs with
  | nil => simp [D.deps]
  | cons x xs ih => simp [D.deps, ih]

mutual
theorem D.dep_mono {j k : Nat} (h : j ≤ k) : ∀ (d : D), d.dep j = true → d.dep k = true
  | .non, _ => by simp [D.dep]
  | .bl _, _ => by simp [D.dep]
  | .int _, _ => by simp [D.dep]
  | .str _, _ => by simp [D.dep]
  | .tup xs, e => by
    simp only [D.dep] at e ⊢
    exact D.deps_mono h xs e
  | .clo _ xs, e => by
    simp only [D.dep] at e ⊢
    exact D.deps_mono h xs e
  | .lst xs, e => by
    cases j with
    | zero => simp [D.dep] at e
    | succ j => cases k with
      | zero => omega
      | succ k => simp only [D.dep] at e ⊢; exact D.deps_mono (by omega) xs e
  | .dic _ ks vs, e => by
    cases j with
    | zero => simp [D.dep] at e
    | succ j => cases k with
      | zero => omega
      | succ k =>
        simp only [D.dep, Bool.and_eq_true] at e ⊢
        exact ⟨e.1, D.deps_mono (by omega) vs e.2⟩
  | .ins _ xs, e => by
    cases j with
    | zero => simp [D.dep] at e
    | succ j => cases k with
      | zero => omega
      | succ k => simp only [D.dep] at e ⊢; exact D.deps_mono (by omega) xs e
theorem D.deps_mono {j k : Nat} (h : j ≤ k) : ∀ (xs : List D), D.deps j xs = true → D.deps k xs = true
  | [], _ => by simp [D.deps]
  | x :: xs, e => by
    simp only [D.deps, Bool.and_eq_true] at e ⊢
    exact ⟨D.dep_mono h x e.1, D.deps_mono h xs e.2⟩
end

/-! ### keys -/
mutual
def D.nk : D → Option NestedKey
  | .non => some .none
  | .bl b => some (.num (if b then 1 else 0))
  | .int i => some (.num i)
  | .str s => some (.text ⟨s.toArray⟩)
  | .tup xs => (D.nks xs).map .tup
  | _ => none
def D.nks : List D → Option (List NestedKey)
  | [] => some []
  | x :: xs => match D.nk x, D.nks xs with
    | some k, some ks => some (k :: ks)
    | _, _ => none
end
/-- a key that is carried by its value: a whole number or a text -/
def D.flatKey : D → Bool
  | .int _ => true
  | .str _ => true
  | _ => false
def D.tupKey : D → Bool
  | .tup xs => match D.nk (.tup xs) with
    | some k => decide (k.depth ≤ 8)
    | none => false
  | _ => false
/-- the keys of one dict: all flat, or all tuples -/
def keysOk (ks : List D) : Bool := ks.all D.flatKey || ks.all D.tupKey

/-! ### a value in the heap is a datum; Z: what is frozen; F: what is its own -/
abbrev Fp := List Addr
def toStr (l : List Nat) : Str := ⟨l.toArray⟩
/-- the dict at a, by its entries -/
def rawD (a : Addr) (ep : Nat) (es : List DictEntry) : HO := .ext fun h => ∃ o, h.get? a = some o ∧ o.ExactDict ∧ o.data = .dict es.toArray ep
/-- .. that no call changes: laid by the top -/
def KDict (K : PySem.W.Frag) (a : Addr) (ep : Nat) (es : List DictEntry) : Prop := ∃ o, K.lookup a = some o ∧ o.ExactDict ∧ o.data = .dict es.toArray ep
inductive Ents (w : World) : List D → List V → List V → List DictEntry → Prop
  | nil : Ents w [] [] [] []
  | cons {d : D} {k v : V} {e : DictEntry} {n : NestedKey} {ds : List D} {ks vs : List V} {es : List DictEntry} : d.nk = some n → e.hash = n.hash w → RelV k e.key → RelV v e.val → Ents w ds ks vs es → Ents w (d :: ds) (k :: ks) (v :: vs) (e :: es)
structure DicOk [W : Wd] (ks : List D) (kv vv : List V) (a : Addr) (es : List DictEntry) : Prop where
  ents : Ents W.w ks kv vv es
  ok : keysOk ks = true
  nd : (ks.map D.nk).Nodup
  big : ks.length ≤ sizeLine
  sys : (a == sysModules) = false
variable [W : Wd]
mutual
inductive Rep (K : PySem.W.Frag) (H : Hp) (Z : Option Addr → Prop) : Nat → D → V → Fp → Prop
  | non {n : Nat} : Rep K H Z n .non .non []
  | bl {n : Nat} (b : Bool) : Rep K H Z n (.bl b) (.bl b) []
  | int {n : Nat} (i : Int) : Rep K H Z n (.int i) (.int i) []
  | str {n : Nat} (s : List Nat) : (∀ c ∈ s, c < 0x110000) → Rep K H Z n (.str s) (.str (toStr s)) []
  | tup {n : Nat} {a : Addr} {vs : List V} {ds : List D} {F : Fp} : SqT K H a vs → Reps K H Z n ds vs F → Rep K H Z n (.tup ds) (.ref a) F
  | lst {n : Nat} {a : Addr} {vs : List V} {ds : List D} {F : Fp} : H a = some (.lst vs) → Reps K H Z n ds vs F → Rep K H Z (n + 1) (.lst ds) (.ref a) (a :: F)
  | lst0 {a : Addr} {vs : List V} {ds : List D} : Z (some a) → H a = some (.lst vs) → Reps K H Z 0 ds vs [] → Rep K H Z 0 (.lst ds) (.ref a) []
  | lstF {a : Addr} {o : Obj} {vs : List V} {ds : List D} : H a = some (.frz o (.lst vs)) → Reps K H Z 0 ds vs [] → Rep K H Z 0 (.lst ds) (.ref a) []
  | lstW {a : Addr} {vs : List V} {ds : List D} : Z none → (∀ H, SqL K H a vs) → Reps K H Z 0 ds vs [] → Rep K H Z 0 (.lst ds) (.ref a) []
  | dic {n ep : Nat} {a : Addr} {es : List DictEntry} {ks vs : List D} {kv vv : List V} {F : Fp} : H a = some (rawD a ep es) → DicOk ks kv vv a es → D.deps 0 ks = true → Reps K H Z 0 ks kv [] → Reps K H Z n vs vv F → Rep K H Z (n + 1) (.dic ep ks vs) (.ref a) (a :: F)
  | dic0 {ep : Nat} {a : Addr} {es : List DictEntry} {ks vs : List D} {kv vv : List V} : Z (some a) → H a = some (rawD a ep es) → DicOk ks kv vv a es → D.deps 0 ks = true → Reps K H Z 0 ks kv [] → Reps K H Z 0 vs vv [] → Rep K H Z 0 (.dic ep ks vs) (.ref a) []
  | dicW {ep : Nat} {a : Addr} {es : List DictEntry} {ks vs : List D} {kv vv : List V} : KDict K a ep es → DicOk ks kv vv a es → D.deps 0 ks = true → Reps K H Z 0 ks kv [] → Reps K H Z 0 vs vv [] → Rep K H Z 0 (.dic ep ks vs) (.ref a) []
  | ins {n : Nat} {a dx : Addr} {c : Nat} {vs : List D} {vv : List V} {F : Fp} : H a = some (.ins (W.cls c) dx ((W.fld c).zip vv)) → H dx = some (.own a) → vv.length ≤ (W.fld c).length → Reps K H Z n vs vv F → Rep K H Z (n + 1) (.ins c vs) (.ref a) (a :: F)
  | ins0 {a dx : Addr} {c : Nat} {vs : List D} {vv : List V} : Z (some a) → H a = some (.ins (W.cls c) dx ((W.fld c).zip vv)) → H dx = some (.own a) → vv.length ≤ (W.fld c).length → Reps K H Z 0 vs vv [] → Rep K H Z 0 (.ins c vs) (.ref a) []
inductive Reps (K : PySem.W.Frag) (H : Hp) (Z : Option Addr → Prop) : Nat → List D → List V → Fp → Prop
  | nil {n : Nat} : Reps K H Z n [] [] []
  | cons {n : Nat} {d : D} {v : V} {ds : List D} {vs : List V} {F G : Fp} : Rep K H Z n d v F → Reps K H Z n ds vs G → Reps K H Z n (d :: ds) (v :: vs) (F ++ G)
end

/-- all but M stays as it was -/
structure Ext (M : Addr → Prop) (H H' : Hp) : Prop where
  keep : ∀ a, H a ≠ none → ¬ M a → H' a = H a
  there : ∀ a, H a ≠ none → H' a ≠ none
theorem Ext.refl {M : Addr → Prop} {H : Hp} : Ext M H H := ⟨fun _ _ _ => rfl, fun _ h => h⟩
theorem Ext.trans {M : Addr → Prop} {H H1 H2 : Hp} (a : Ext M H H1) (b : Ext M H1 H2) : Ext M H H2 :=
  ⟨fun x h m => (b.keep x (a.there x h) m).trans (a.keep x h m), fun x h => b.there x (a.there x h)⟩
theorem Ext.mono {M M' : Addr → Prop} {H H' : Hp} (a : Ext M H H') (h : ∀ x, M x → M' x) : Ext M' H H' :=
  ⟨fun x q m => a.keep x q fun z => m (h x z), a.there⟩
theorem Ext.upd {M : Addr → Prop} {H : Hp} {p : Addr} {o : HO} (h : H p = none ∨ M p) : Ext M H (upd H p o) := by
  refine ⟨fun a q m => ?_, fun a q => ?_⟩
  · have ne : a ≠ p := fun e => by
      subst e
      rcases h with h | h
      · exact q h
      · exact m h
    exact upd_ne ne
  · by_cases e : a = p
    · subst e; rw [upd_same]; simp
    · rw [upd_ne e]; exact q

theorem mut_ne {H : Hp} {a : Addr} (h : Mut (H a)) : H a ≠ none := fun e => by rw [e] at h; exact h
theorem sqT_nm {K : PySem.W.Frag} {H H' : Hp} {M : Addr → Prop} {a : Addr} {vs : List V} (h : SqT K H a vs) (x : Ext M H H') (hm : ∀ a, M a → Mut (H a)) : SqT K H' a vs := by
  rcases h with (h | ⟨o, h⟩) | h
  · refine .inl (.inl ?_)
    rw [x.keep a (by rw [h]; simp) fun z => by have := hm a z; rw [h] at this; exact this]; exact h
  · refine .inl (.inr ⟨o, ?_⟩)
    rw [x.keep a (by rw [h]; simp) fun z => by have := hm a z; rw [h] at this; exact this]; exact h
  · exact .inr h

mutual
theorem Rep.ext {K : PySem.W.Frag} {H H' : Hp} {Z Z' : Option Addr → Prop} {M : Addr → Prop} (x : Ext M H H') (hm : ∀ a, M a → Mut (H a)) (hz : ∀ a, Z (some a) → ¬ M a) (zz : ∀ a, Z a → Z' a) :
    ∀ {n : Nat} {d : D} {v : V} {F : Fp}, Rep K H Z n d v F → (∀ a ∈ F, ¬ M a) → Rep K H' Z' n d v F
  | _, _, _, _, .non, _ => .non
  | _, _, _, _, .bl b, _ => .bl b
  | _, _, _, _, .int i, _ => .int i
  | _, _, _, _, .str s h, _ => .str s h
  | _, _, _, _, .tup h r, hf => .tup (sqT_nm h x hm) (Reps.ext x hm hz zz r hf)
  | _, _, _, _, .lst h r, hf => .lst (by rw [x.keep _ (by rw [h]; simp) (hf _ List.mem_cons_self)]; exact h) (Reps.ext x hm hz zz r fun a ha => hf a (List.mem_cons_of_mem _ ha))
  | _, _, _, _, .lst0 z h r, hf => .lst0 (zz _ z) (by rw [x.keep _ (by rw [h]; simp) (hz _ z)]; exact h) (Reps.ext x hm hz zz r hf)
  | _, _, _, _, .lstF h r, hf => .lstF (by rw [x.keep _ (by rw [h]; simp) fun z => by have := hm _ z; rw [h] at this; exact this]; exact h) (Reps.ext x hm hz zz r hf)
  | _, _, _, _, .lstW z h r, hf => .lstW (zz _ z) h (Reps.ext x hm hz zz r hf)
  | _, _, _, _, .dic h o dk k r, hf => .dic (by rw [x.keep _ (by rw [h]; simp) (hf _ List.mem_cons_self)]; exact h) o dk (Reps.ext x hm hz zz k fun _ ha => by simp at ha) (Reps.ext x hm hz zz r fun a ha => hf a (List.mem_cons_of_mem _ ha))
  | _, _, _, _, .dic0 z h o dk k r, hf => .dic0 (zz _ z) (by rw [x.keep _ (by rw [h]; simp) (hz _ z)]; exact h) o dk (Reps.ext x hm hz zz k hf) (Reps.ext x hm hz zz r hf)
  | _, _, _, _, .dicW h o dk k r, hf => .dicW h o dk (Reps.ext x hm hz zz k hf) (Reps.ext x hm hz zz r hf)
  | _, _, _, _, .ins h g l r, hf => .ins (by rw [x.keep _ (by rw [h]; simp) (hf _ List.mem_cons_self)]; exact h) (by rw [x.keep _ (by rw [g]; simp) fun z => by have := hm _ z; rw [g] at this; exact this]; exact g) l (Reps.ext x hm hz zz r fun a ha => hf a (List.mem_cons_of_mem _ ha))
  | _, _, _, _, .ins0 z h g l r, hf => .ins0 (zz _ z) (by rw [x.keep _ (by rw [h]; simp) (hz _ z)]; exact h) (by rw [x.keep _ (by rw [g]; simp) fun z => by have := hm _ z; rw [g] at this; exact this]; exact g) l (Reps.ext x hm hz zz r hf)
theorem Reps.ext {K : PySem.W.Frag} {H H' : Hp} {Z Z' : Option Addr → Prop} {M : Addr → Prop} (x : Ext M H H') (hm : ∀ a, M a → Mut (H a)) (hz : ∀ a, Z (some a) → ¬ M a) (zz : ∀ a, Z a → Z' a) :
    ∀ {n : Nat} {ds : List D} {vs : List V} {F : Fp}, Reps K H Z n ds vs F → (∀ a ∈ F, ¬ M a) → Reps K H' Z' n ds vs F
  | _, _, _, _, .nil, _ => .nil
  | _, _, _, _, .cons h r, hf => .cons (Rep.ext x hm hz zz h fun a ha => hf a (List.mem_append_left _ ha)) (Reps.ext x hm hz zz r fun a ha => hf a (List.mem_append_right _ ha))
end
section
variable {K : PySem.W.Frag} {H : Hp} {Z Z' : Option Addr → Prop}
theorem Rep.z {n : Nat} {d : D} {v : V} {F : Fp} (r : Rep K H Z n d v F) (zz : ∀ a, Z a → Z' a) : Rep K H Z' n d v F := r.ext (M := fun _ => False) Ext.refl (fun _ h => h.elim) (fun _ _ => id) zz fun _ _ => id
theorem Reps.z {n : Nat} {d : List D} {v : List V} {F : Fp} (r : Reps K H Z n d v F) (zz : ∀ a, Z a → Z' a) : Reps K H Z' n d v F := r.ext (M := fun _ => False) Ext.refl (fun _ h => h.elim) (fun _ _ => id) zz fun _ _ => id
theorem rawD_mut {a : Addr} {ep : Nat} {es : List DictEntry} (h : H a = some (rawD a ep es)) : Mut (H a) := by rw [h]; trivial
mutual
theorem Rep.mut : ∀ {n : Nat} {d : D} {v : V} {F : Fp}, Rep K H Z n d v F → ∀ a ∈ F, Mut (H a)
  | _, _, _, _, .non, _, h => by simp at h
  | _, _, _, _, .bl _, _, h => by simp at h
  | _, _, _, _, .int _, _, h => by simp at h
  | _, _, _, _, .str _ _, _, h => by simp at h
  | _, _, _, _, .tup _ r, a, h => Reps.mut r a h
  | _, _, _, _, .lst h r, a, hm => by
    rcases List.mem_cons.mp hm with rfl | hm
    · rw [h]; trivial
    · exact Reps.mut r a hm
  | _, _, _, _, .lst0 _ _ _, a, h => by simp at h
  | _, _, _, _, .lstF _ _, a, h => by simp at h
  | _, _, _, _, .lstW _ _ _, a, h => by simp at h
  | _, _, _, _, .dic h _ _ _ r, a, hm => by
    rcases List.mem_cons.mp hm with rfl | hm
    · exact rawD_mut h
    · exact Reps.mut r a hm
  | _, _, _, _, .dic0 _ _ _ _ _ _, a, h => by simp at h
  | _, _, _, _, .dicW _ _ _ _ _, a, h => by simp at h
  | _, _, _, _, .ins h _ _ r, a, hm => by
    rcases List.mem_cons.mp hm with rfl | hm
    · rw [h]; trivial
    · exact Reps.mut r a hm
  | _, _, _, _, .ins0 _ _ _ _ _, a, h => by simp at h
theorem Reps.mut : ∀ {n : Nat} {ds : List D} {vs : List V} {F : Fp}, Reps K H Z n ds vs F → ∀ a ∈ F, Mut (H a)
  | _, _, _, _, .nil, _, h => by simp at h
  | _, _, _, _, .cons h r, a, hm => (List.mem_append.mp hm).elim (Rep.mut h a) (Reps.mut r a)
end
mutual
theorem Rep.nil0 : ∀ {d : D} {v : V} {F : Fp}, Rep K H Z 0 d v F → F = []
  | _, _, _, .non => rfl
  | _, _, _, .bl _ => rfl
  | _, _, _, .int _ => rfl
  | _, _, _, .str _ _ => rfl
  | _, _, _, .tup _ r => Reps.nil0 r
  | _, _, _, .lst0 _ _ _ => rfl
  | _, _, _, .lstF _ _ => rfl
  | _, _, _, .lstW _ _ _ => rfl
  | _, _, _, .dic0 _ _ _ _ _ _ => rfl
  | _, _, _, .dicW _ _ _ _ _ => rfl
  | _, _, _, .ins0 _ _ _ _ _ => rfl
theorem Reps.nil0 : ∀ {ds : List D} {vs : List V} {F : Fp}, Reps K H Z 0 ds vs F → F = []
  | _, _, _, .nil => rfl
  | _, _, _, .cons h r => by rw [Rep.nil0 h, Reps.nil0 r]; rfl
end
/-! fewer levels are its own: the others (not in F') are frozen -/
theorem app_low {F G F' G' : Fp} (s1 : F'.Sublist F) (s2 : G'.Sublist G) (nd : (F ++ G).Nodup) {Z : Addr → Prop} (h : ∀ a ∈ F ++ G, a ∉ F' ++ G' → Z a) : (∀ a ∈ F, a ∉ F' → Z a) ∧ ∀ a ∈ G, a ∉ G' → Z a := by
  obtain ⟨_, _, dj⟩ := List.nodup_append.mp nd
  refine ⟨fun a h1 h2 => h a (List.mem_append_left _ h1) fun z => ?_, fun a h1 h2 => h a (List.mem_append_right _ h1) fun z => ?_⟩
  · rcases List.mem_append.mp z with z | z
    · exact h2 z
    · exact dj a h1 a (s2.subset z) rfl
  · rcases List.mem_append.mp z with z | z
    · exact dj a (s1.subset z) a h1 rfl
    · exact h2 z
theorem cons_low {F F' : Fp} {a : Addr} (nd : (a :: F).Nodup) {Z : Addr → Prop} (h : ∀ b ∈ a :: F, b ∉ a :: F' → Z b) : ∀ b ∈ F, b ∉ F' → Z b := fun b h1 h2 =>
  h b (List.mem_cons_of_mem _ h1) fun z => (List.mem_cons.mp z).elim (fun e => (List.nodup_cons.mp nd).1 (e ▸ h1)) h2
mutual
theorem Rep.low : ∀ {n : Nat} {d : D} {v : V} {F : Fp} (m : Nat), Rep K H Z n d v F → F.Nodup → m ≤ n → ∃ F' : Fp, F'.Sublist F ∧ ∀ Z' : Option Addr → Prop, (∀ a, Z a → Z' a) → (∀ a ∈ F, a ∉ F' → Z' (some a)) → Rep K H Z' m d v F'
  | _, _, _, _, _, .non, _, _ => ⟨[], List.Sublist.refl _, fun _ _ _ => .non⟩
  | _, _, _, _, _, .bl b, _, _ => ⟨[], List.Sublist.refl _, fun _ _ _ => .bl b⟩
  | _, _, _, _, _, .int i, _, _ => ⟨[], List.Sublist.refl _, fun _ _ _ => .int i⟩
  | _, _, _, _, _, .str s h, _, _ => ⟨[], List.Sublist.refl _, fun _ _ _ => .str s h⟩
  | _, _, _, _, m, .tup h r, nd, hm => by
    obtain ⟨F', s, q⟩ := Reps.low m r nd hm
    exact ⟨F', s, fun Z' zz zf => .tup h (q Z' zz zf)⟩
  | _, _, _, _, 0, .lst h r, nd, hm => by
    obtain ⟨F', s, q⟩ := Reps.low 0 r (List.nodup_cons.mp nd).2 (Nat.zero_le _)
    refine ⟨[], List.nil_sublist _, fun Z' zz zf => ?_⟩
    have q' := q Z' zz fun a ha _ => zf a (List.mem_cons_of_mem _ ha) (by simp)
    have e := q'.nil0
    subst e
    exact .lst0 (zf _ List.mem_cons_self (by simp)) h q'
  | _, _, _, _, m + 1, .lst (a := a) h r, nd, hm => by
    obtain ⟨F', s, q⟩ := Reps.low m r (List.nodup_cons.mp nd).2 (by omega)
    exact ⟨a :: F', s.cons_cons _, fun Z' zz zf => .lst h (q Z' zz (cons_low nd zf))⟩
  | _, _, _, _, m, .lst0 z h r, _, hm => by
    have e : m = 0 := by omega
    subst e
    exact ⟨[], List.Sublist.refl _, fun Z' zz _ => .lst0 (zz _ z) h (r.z zz)⟩
  | _, _, _, _, m, .lstF h r, _, hm => by
    have e : m = 0 := by omega
    subst e
    exact ⟨[], List.Sublist.refl _, fun Z' zz _ => .lstF h (r.z zz)⟩
  | _, _, _, _, m, .lstW z h r, _, hm => by
    have e : m = 0 := by omega
    subst e
    exact ⟨[], List.Sublist.refl _, fun Z' zz _ => .lstW (zz _ z) h (r.z zz)⟩
  | _, _, _, _, 0, .dic h o dk k r, nd, hm => by
    obtain ⟨F', s, q⟩ := Reps.low 0 r (List.nodup_cons.mp nd).2 (Nat.zero_le _)
    refine ⟨[], List.nil_sublist _, fun Z' zz zf => ?_⟩
    have q' := q Z' zz fun a ha _ => zf a (List.mem_cons_of_mem _ ha) (by simp)
    have e := q'.nil0
    subst e
    exact .dic0 (zf _ List.mem_cons_self (by simp)) h o dk (k.z zz) q'
  | _, _, _, _, m + 1, .dic (a := a) h o dk k r, nd, hm => by
    obtain ⟨F', s, q⟩ := Reps.low m r (List.nodup_cons.mp nd).2 (by omega)
    exact ⟨a :: F', s.cons_cons _, fun Z' zz zf => .dic h o dk (k.z zz) (q Z' zz (cons_low nd zf))⟩
  | _, _, _, _, m, .dic0 z h o dk k r, _, hm => by
    have e : m = 0 := by omega
    subst e
    exact ⟨[], List.Sublist.refl _, fun Z' zz _ => .dic0 (zz _ z) h o dk (k.z zz) (r.z zz)⟩
  | _, _, _, _, m, .dicW h o dk k r, _, hm => by
    have e : m = 0 := by omega
    subst e
    exact ⟨[], List.Sublist.refl _, fun Z' zz _ => .dicW h o dk (k.z zz) (r.z zz)⟩
  | _, _, _, _, 0, .ins h g l r, nd, hm => by
    obtain ⟨F', s, q⟩ := Reps.low 0 r (List.nodup_cons.mp nd).2 (Nat.zero_le _)
    refine ⟨[], List.nil_sublist _, fun Z' zz zf => ?_⟩
    have q' := q Z' zz fun a ha _ => zf a (List.mem_cons_of_mem _ ha) (by simp)
    have e := q'.nil0
    subst e
    exact .ins0 (zf _ List.mem_cons_self (by simp)) h g l q'
  | _, _, _, _, m + 1, .ins (a := a) h g l r, nd, hm => by
    obtain ⟨F', s, q⟩ := Reps.low m r (List.nodup_cons.mp nd).2 (by omega)
    exact ⟨a :: F', s.cons_cons _, fun Z' zz zf => .ins h g l (q Z' zz (cons_low nd zf))⟩
  | _, _, _, _, m, .ins0 z h g l r, _, hm => by
    have e : m = 0 := by omega
    subst e
    exact ⟨[], List.Sublist.refl _, fun Z' zz _ => .ins0 (zz _ z) h g l (r.z zz)⟩
theorem Reps.low : ∀ {n : Nat} {d : List D} {v : List V} {F : Fp} (m : Nat), Reps K H Z n d v F → F.Nodup → m ≤ n → ∃ F' : Fp, F'.Sublist F ∧ ∀ Z' : Option Addr → Prop, (∀ a, Z a → Z' a) → (∀ a ∈ F, a ∉ F' → Z' (some a)) → Reps K H Z' m d v F'
  | _, _, _, _, _, .nil, _, _ => ⟨[], List.Sublist.refl _, fun _ _ _ => .nil⟩
  | _, _, _, _, m, .cons h r, nd, hm => by
    obtain ⟨n1, n2, dj⟩ := List.nodup_append.mp nd
    obtain ⟨F', s, q⟩ := Rep.low m h n1 hm
    obtain ⟨G', s', q'⟩ := Reps.low m r n2 hm
    refine ⟨F' ++ G', s.append s', fun Z' zz zf => ?_⟩
    obtain ⟨z1, z2⟩ := app_low s s' nd zf
    exact .cons (q Z' zz z1) (q' Z' zz z2)
end
/-! all of it is frozen -/
mutual
theorem Rep.fz (zz : ∀ a, Z a → Z' a) : ∀ {n : Nat} {d : D} {v : V} {F : Fp}, Rep K H Z n d v F → (∀ a ∈ F, Z' (some a)) → Rep K H Z' 0 d v []
  | _, _, _, _, .non, _ => .non
  | _, _, _, _, .bl b, _ => .bl b
  | _, _, _, _, .int i, _ => .int i
  | _, _, _, _, .str s h, _ => .str s h
  | _, _, _, _, .tup h r, hf => .tup h (Reps.fz zz r hf)
  | _, _, _, _, .lst h r, hf => .lst0 (hf _ List.mem_cons_self) h (Reps.fz zz r fun a ha => hf a (List.mem_cons_of_mem _ ha))
  | _, _, _, _, .lst0 z h r, hf => .lst0 (zz _ z) h (r.z zz)
  | _, _, _, _, .lstF h r, hf => .lstF h (r.z zz)
  | _, _, _, _, .lstW z h r, hf => .lstW (zz _ z) h (r.z zz)
  | _, _, _, _, .dic h o dk k r, hf => .dic0 (hf _ List.mem_cons_self) h o dk (k.z zz) (Reps.fz zz r fun a ha => hf a (List.mem_cons_of_mem _ ha))
  | _, _, _, _, .dic0 z h o dk k r, hf => .dic0 (zz _ z) h o dk (k.z zz) (r.z zz)
  | _, _, _, _, .dicW h o dk k r, hf => .dicW h o dk (k.z zz) (r.z zz)
  | _, _, _, _, .ins h g l r, hf => .ins0 (hf _ List.mem_cons_self) h g l (Reps.fz zz r fun a ha => hf a (List.mem_cons_of_mem _ ha))
  | _, _, _, _, .ins0 z h g l r, hf => .ins0 (zz _ z) h g l (r.z zz)
theorem Reps.fz (zz : ∀ a, Z a → Z' a) : ∀ {n : Nat} {ds : List D} {vs : List V} {F : Fp}, Reps K H Z n ds vs F → (∀ a ∈ F, Z' (some a)) → Reps K H Z' 0 ds vs []
  | _, _, _, _, .nil, _ => .nil
  | _, _, _, _, .cons h r, hf => .cons (F := []) (G := []) (Rep.fz zz h fun a ha => hf a (List.mem_append_left _ ha)) (Reps.fz zz r fun a ha => hf a (List.mem_append_right _ ha))
end
/-! what holds nothing that changes -/
mutual
theorem Rep.imm (Z' : Option Addr → Prop) (m : Nat) : ∀ {n : Nat} {d : D} {v : V} {F : Fp}, Rep K H Z n d v F → d.dep 0 = true → F = [] ∧ Rep K H Z' m d v []
  | _, _, _, _, .non, _ => ⟨rfl, .non⟩
  | _, _, _, _, .bl b, _ => ⟨rfl, .bl b⟩
  | _, _, _, _, .int i, _ => ⟨rfl, .int i⟩
  | _, _, _, _, .str s h, _ => ⟨rfl, .str s h⟩
  | _, _, _, _, .tup h r, e => by
    simp only [D.dep] at e
    obtain ⟨rfl, q⟩ := Reps.imm Z' m r e
    exact ⟨rfl, .tup h q⟩
  | _, _, _, _, .lst _ _, e => by simp [D.dep] at e
  | _, _, _, _, .lst0 _ _ _, e => by simp [D.dep] at e
  | _, _, _, _, .lstF _ _, e => by simp [D.dep] at e
  | _, _, _, _, .lstW _ _ _, e => by simp [D.dep] at e
  | _, _, _, _, .dic _ _ _ _ _, e => by simp [D.dep] at e
  | _, _, _, _, .dic0 _ _ _ _ _ _, e => by simp [D.dep] at e
  | _, _, _, _, .dicW _ _ _ _ _, e => by simp [D.dep] at e
  | _, _, _, _, .ins _ _ _ _, e => by simp [D.dep] at e
  | _, _, _, _, .ins0 _ _ _ _ _, e => by simp [D.dep] at e
theorem Reps.imm (Z' : Option Addr → Prop) (m : Nat) : ∀ {n : Nat} {ds : List D} {vs : List V} {F : Fp}, Reps K H Z n ds vs F → D.deps 0 ds = true → F = [] ∧ Reps K H Z' m ds vs []
  | _, _, _, _, .nil, _ => ⟨rfl, .nil⟩
  | _, _, _, _, .cons h r, e => by
    simp only [D.deps, Bool.and_eq_true] at e
    obtain ⟨rfl, q1⟩ := Rep.imm Z' m h e.1
    obtain ⟨rfl, q2⟩ := Reps.imm Z' m r e.2
    exact ⟨rfl, .cons (F := []) (G := []) q1 q2⟩
end
theorem Reps.len : ∀ {n : Nat} {ds : List D} {vs : List V} {F : Fp}, Reps K H Z n ds vs F → ds.length = vs.length
  | _, _, _, _, .nil => rfl
  | _, _, _, _, .cons _ r => by simp [Reps.len r]
theorem Reps.app : ∀ {n : Nat} {ds es : List D} {vs us : List V} {F G : Fp}, Reps K H Z n ds vs F → Reps K H Z n es us G → Reps K H Z n (ds ++ es) (vs ++ us) (F ++ G)
  | _, _, _, _, _, _, _, .nil, s => s
  | _, _, _, _, _, _, _, .cons h r, s => by
    have := Reps.app r s
    simp only [List.cons_append, List.append_assoc]
    exact .cons h this
theorem Reps.get : ∀ {n : Nat} {ds : List D} {vs : List V} {F : Fp} {i : Nat} {d : D}, Reps K H Z n ds vs F → ds[i]? = some d → ∃ v G, vs[i]? = some v ∧ Rep K H Z n d v G ∧ G.Sublist F
  | _, _, _, _, _, _, .nil, e => by simp at e
  | _, _, _, _, 0, _, .cons h _, e => by
    simp at e; subst e
    exact ⟨_, _, rfl, h, List.sublist_append_left _ _⟩
  | _, _, _, _, i + 1, d, .cons _ r, e => by
    obtain ⟨v, G, e1, h, m⟩ := Reps.get (i := i) (d := d) r (by simpa using e)
    exact ⟨v, G, by simpa using e1, h, m.trans (List.sublist_append_right _ _)⟩
theorem Reps.one {n : Nat} {d : D} {vs : List V} {F : Fp} (r : Reps K H Z n [d] vs F) : ∃ v, vs = [v] ∧ Rep K H Z n d v F := by
  cases r with
  | cons h t => cases t; exact ⟨_, rfl, by simpa using h⟩
theorem Reps.two {n : Nat} {d e : D} {vs : List V} {F : Fp} (r : Reps K H Z n [d, e] vs F) : ∃ v u F1 F2, vs = [v, u] ∧ F = F1 ++ F2 ∧ Rep K H Z n d v F1 ∧ Rep K H Z n e u F2 := by
  cases r with
  | cons h t =>
    obtain ⟨u, rfl, q⟩ := t.one
    exact ⟨_, _, _, _, rfl, rfl, h, q⟩
end
end Pm

namespace Pm
open PySem PySem.Spec PyProof.Rows L2
variable {X : Cx}
def rLeS : R2 := fun x y H Q => ∃ i j, x = .str i ∧ y = .str j ∧ Q (.bl (!decide (j.cps.toList < i.cps.toList))) H
theorem op_le_str : OpR X (compareOp .LtE) rLeS := by
  intro pins s σ H x y v u Q I rx ry h
  obtain ⟨i, j, rfl, rfl, q⟩ := h
  obtain ⟨t, rfl⟩ := rx
  obtain ⟨t', rfl⟩ := ry
  exact P.le_str (fin_bl I q rfl)
def rMulS : R2 := fun x y H Q => ∃ i n, x = .str i ∧ y = .int n ∧ (2 ≤ n ∧ 1 ≤ i.length ∧ i.length * n.toNat ≤ 1000000) ∧ Q (.str ⟨(List.replicate n.toNat i.cps).foldl (· ++ ·) #[]⟩) H
theorem op_mul_str : OpR X (binaryOp .Mult) rMulS := by
  intro pins s σ H x y v u Q I rx ry h
  obtain ⟨i, n, rfl, rfl, ⟨h1, h2, h3⟩, q⟩ := h
  obtain ⟨t, rfl⟩ := rx
  obtain ⟨t', rfl⟩ := ry
  have hn : n.toNat ≤ 1000000 := Nat.le_trans (Nat.le_mul_of_pos_left _ h2) h3
  have hi : i.length ≤ 1000000 := Nat.le_trans (Nat.le_mul_of_pos_right _ (by omega)) h3
  have hc : (n == 1 || i.length == 0) = false := by
    have a : (n == 1) = false := by simp; omega
    have b : (i.length == 0) = false := by simp; omega
    rw [a, b]; rfl
  refine P.mul_str ?_ (fun _ _ => ?_) (fun _ _ => ?_) ?_
  · have a : decide (n < -(2 ^ 63 : Int)) = false := decide_eq_false (by omega)
    have b : decide (n ≥ 2 ^ 63) = false := decide_eq_false (by omega)
    rw [a, b]; rfl
  · have hm : (i.length : Int) * n ≤ 1000000 := by
      have e : n = (n.toNat : Int) := by omega
      rw [e, ← Int.natCast_mul]
      omega
    intro hgt
    have := Int.lt_mul_of_ediv_lt (a := 2 ^ 63 - 1) (c := n) (b := (i.length : Int)) (by omega) hgt
    have c := Int.mul_comm n (i.length : Int)
    omega
  · unfold Builtin.Str.tooLong
    simp
    have := sizeLine_eq
    omega
  · rw [if_neg (by omega), hc, if_neg Bool.false_ne_true]
    refine ⟨?_, .str _, H, I.tok _, ⟨_, rfl⟩, q⟩
    have gen : ∀ (m : Nat) (acc : Array Nat), ((List.replicate m i.cps).foldl (· ++ ·) acc).size = acc.size + m * i.cps.size := by
      intro m
      induction m with
      | zero => intro acc; simp
      | succ m ih => intro acc; rw [List.replicate_succ, List.foldl_cons, ih, Array.size_append, Nat.add_mul]; omega
    show ((List.replicate n.toNat i.cps).foldl (· ++ ·) #[]).size ≤ sizeLine
    rw [gen]
    have h3' : i.cps.size * n.toNat ≤ 1000000 := h3
    have := sizeLine_eq
    rw [Nat.mul_comm] at h3'
    simp
    omega
def listLtI (is js : List Int) : Bool := PySem.W.listLt is js
def rLtL (K : PySem.W.Frag) : R2 := fun x y H Q => ∃ p q, ∃ is js : List Int, x = .ref p ∧ y = .ref q ∧ SqL K H p (is.map .int) ∧ SqL K H q (js.map .int) ∧ Q (.bl (listLtI is js)) H
theorem hold_ints {h : Heap} : ∀ {is : List Int} {us : List Value}, Vals (is.map V.int) us → PySem.W.HoldAll h us is
  | [], _, .nil => PySem.W.HoldAll.nil
  | i :: is, _, .cons r rs => by
    obtain ⟨t, rfl⟩ := r
    exact PySem.W.HoldAll.cons ⟨_, .int _ _⟩ (hold_ints rs)
theorem op_lt_ints (hu : X.A.units + 65 < cLine) : OpR X (compareOp .Lt) (rLtL X.K) := by
  intro pins s σ H x y v u Q I rx ry h
  obtain ⟨p, q', is, js, rfl, rfl, h1, h2, q⟩ := h
  cases rx
  cases ry
  obtain ⟨its, rv, pl, hz⟩ := I.list h1
  obtain ⟨its2, rv2, pl2, hz2⟩ := I.list h2
  refine PySem.W.lt_datum (x := is) (y := js) ?_ ?_ ?_ (fin_bl I q rfl)
  · exact PySem.W.holds_list pl.isList (by simpa using hold_ints (h := s.heap) rv)
  · exact PySem.W.holds_list pl2.isList (by simpa using hold_ints (h := s.heap) rv2)
  · show X.A.units + PySem.W.Datum.depth (List Int) < cLine
    have : PySem.W.Datum.depth (List Int) ≤ 10 := by decide
    omega
end Pm

namespace Pm
open PySem PySem.Spec PyProof.Rows L2

/-! ### list + list, list * int, extend: of lists that are only read -/
theorem add_any (l : Addr) (items : Array Value) (n : Nat) (b : Addr) (items2 : Array Value) (n2 : Nat) (sl sl2 : Array (Option Value)) (hc0 : items.size + items2.size ≤ sizeLine) :
    Meets (Builtin.«list.__add__» ⟨[.ref l, .ref b], []⟩) (fun _ R s => s.heap.get? l = some { cls := .type "list", dict := none, data := .seq items n, slots := sl } ∧ s.heap.get? b = some { cls := .type "list", dict := none, data := .seq items2 n2, slots := sl2 } ∧ R (.ok (.ret (Value.ref s.heap.objs.size))) { s with heap := s.heap.push { cls := Value.type "list", data := Data.seq (items ++ items2) }, toks := s.toks }) :=
  .of_wp fun prog w A R s h => by obtain ⟨hp, g, d, tk, os⟩ := s; obtain ⟨hl, hb, h⟩ := h; have f1 := AutoSeq1.idx_int; have f2 := AutoSeq1.sub_tuple_tuple; have f3 := AutoSeq1.sub_list_list; have f4 := AutoSeq1.sub_tuple_list; have f5 := AutoSeq1.sub_list_tuple; wp_walk using wpAny_loadPart' hl, wpAny_loadPart' hb; exact ⟨_, rfl, h⟩
theorem extend_any (l : Addr) (items : Array Value) (n : Nat) (b : Addr) (items2 : Array Value) (n2 : Nat) (sl2 : Array (Option Value)) (hc0 : ¬(!items.isEmpty && Builtin.List.listTooLong (items.size + items2.size)) = true) (hc1 : items.size ≤ sizeLine) (hs2 : items.size + items2.size ≤ sizeLine + 1 := by seq_fits) :
    Meets (Builtin.«list.extend» ⟨[.ref l, .ref b], []⟩) (fun _ R s => s.heap.get? l = some { cls := .type "list", dict := none, data := .seq items n, slots := #[] } ∧ s.heap.get? b = some { cls := .type "list", dict := none, data := .seq items2 n2, slots := sl2 } ∧ R (.ok (.ret Value.none)) { s with heap := s.heap.update l (Obj.mapSeq fun x => x ++ items2), toks := s.toks }) :=
  .of_wp fun prog w A R s h => by
    obtain ⟨hp, g, d, tk, os⟩ := s; obtain ⟨hl, hb, h⟩ := h; have f1 := AutoSeq1.idx_int; have f2 := AutoSeq1.sub_tuple_tuple; have f3 := AutoSeq1.sub_list_list; have f4 := AutoSeq1.sub_tuple_list; have f5 := AutoSeq1.sub_list_tuple;
    have hz' : (items ++ items2).size ≤ sizeLine + 1 := by rw [Array.size_append]; exact hs2
    wp_walk using (wpAny_updateSeq hl rfl (hz := hc1) (_hz' := hz')), wpAny_loadPart' hl, wpAny_loadPart' hb; exact ⟨_, rfl, h⟩
section
variable {X : Cx}
theorem Inv.lstS {pins : List (Addr × Obj)} {σ : L2.St} {H : Hp} {s : Shared} {l : Addr} {xs : List V} (I : Inv X pins σ H s) (h : SqL X.K H l xs) : ∃ (its : List Value) (n : Nat) (sl : Array (Option Value)), Vals xs its ∧ xs.length ≤ sizeLine ∧ s.heap.get? l = some { cls := .type "list", dict := none, data := .seq its.toArray n, slots := sl } := by
  obtain ⟨its, r, ⟨o, n, e, h1, h2, h3⟩, z⟩ := I.list h
  obtain ⟨c, d, dt, sl⟩ := o
  cases h1; cases h2; cases h3
  exact ⟨its, n, sl, r, z, e⟩
def rCatS (K : PySem.W.Frag) : R2 := fun x y H Q => ∃ l b xs zs, x = .ref l ∧ y = .ref b ∧ SqL K H l xs ∧ SqL K H b zs ∧ xs.length + zs.length ≤ sizeLine ∧ ∀ p, H p = none → Q (.ref p) (upd H p (.lst (xs ++ zs)))
theorem op_catS : OpR X (binaryOp .Add) (rCatS X.K) := by
  intro pins s σ H x y v u Q I rx ry h
  obtain ⟨l, b, xs, zs, rfl, rfl, hH, hB, hz, q⟩ := h
  cases rx
  cases ry
  obtain ⟨its, n, sl, r, z, e⟩ := Inv.lstS I hH
  obtain ⟨its2, n2, sl2, r2, z2, e2⟩ := Inv.lstS I hB
  have l1 := r.length
  have l2 := r2.length
  refine concat_meets ⟨_, e, rfl⟩ ⟨_, e2, rfl⟩ noFill_list_add seq_list_add F.slot_list_add F.entry_list_add (F.args_list_add_2 _ _) (add_any l its.toArray n b its2.toArray n2 sl sl2 (by rw [List.size_toArray, List.size_toArray]; omega)) ⟨e, e2, ?_⟩
  have ea : its.toArray ++ its2.toArray = (its ++ its2).toArray := by simp
  rw [ea]
  exact ⟨.ref _, _, I.lnew (t' := s.toks) (r.append r2) (by rw [List.length_append]; omega), rfl, q _ I.fresh⟩
def rExtS (K : PySem.W.Frag) : V → List V → Hp → VK → Prop := fun x vs H Q => ∃ l b xs zs, x = .ref l ∧ vs = [.ref b] ∧ H l = some (.lst xs) ∧ SqL K H b zs ∧ xs.length + zs.length ≤ sizeLine ∧ Q .non (upd H l (.lst (xs ++ zs)))
theorem mt_extS : MtM X "list.extend" (rExtS X.K) := by
  intro pins s σ H x vs v us Q I rx rv h
  obtain ⟨l, b, xs, zs, rfl, rfl, hH, hB, hz, q⟩ := h
  cases rx
  obtain ⟨u, rfl, ru⟩ := rv.one
  cases ru
  obtain ⟨z, its, n, r, hl, e⟩ := I.lstM hH
  obtain ⟨its2, n2, sl2, r2, z2, e2⟩ := Inv.lstS I hB
  have hl2 := r2.length
  have hsz : its.toArray.size + its2.toArray.size ≤ sizeLine := by rw [List.size_toArray, List.size_toArray]; omega
  have hlong : ¬ (!its.toArray.isEmpty && Builtin.List.listTooLong (its.toArray.size + its2.toArray.size)) = true := by
    rw [notLongL hsz, Bool.and_false]
    exact Bool.false_ne_true
  refine call_meets F.slot_list_extend ⟨_, e, rfl⟩ F.entry_list_extend (F.args_list_extend_2 _ _)
    (extend_any l its.toArray n b its2.toArray n2 sl2 hlong (by rw [List.size_toArray]; omega) (by omega)) ⟨e, e2, ?_⟩
  refine ⟨.non, _, I.lset (its' := its ++ its2) hH e (by simp) (r.append r2) ?_, rfl, q⟩
  rw [List.length_append]
  omega
def rRepR : R2 := fun x y H Q => ∃ l k xs, x = .ref l ∧ y = .int k ∧ Rd H l (.lst xs) ∧ -(2 ^ 63) ≤ k ∧ k < 2 ^ 63 ∧ xs.length * k.toNat ≤ sizeLine ∧
  ∀ p, H p = none → Q (.ref p) (upd H p (.lst (List.replicate k.toNat xs).flatten))
theorem op_repR : OpR X (binaryOp .Mult) rRepR := by
  intro pins s σ H x y v u Q I rx ry h
  obtain ⟨l, k, xs, rfl, rfl, hH, h1, h2, hz, q⟩ := h
  cases rx
  obtain ⟨t, rfl⟩ := ry
  obtain ⟨z, its, n, r, e⟩ := hH.ok I.hok
  have hl := r.length
  have hlen : its.toArray.size * k.toNat ≤ sizeLine := by rw [List.size_toArray, ← hl]; exact hz
  have hcap : ¬ its.toArray.size * k.toNat > (2 ^ 63 - 1) / 8 := by
    have : (sizeLine : Nat) ≤ (2 ^ 63 - 1) / 8 := by decide
    omega
  have hfit : ¬ (!Builtin.List.listFitsIndex k) = true := by
    rw [fitsIndex_both h1 h2]
    exact Bool.false_ne_true
  have hlong : ¬ Builtin.List.listTooLong (its.toArray.size * k.toNat) = true := by
    rw [notLongL hlen]
    exact Bool.false_ne_true
  have hnew : List.foldl (fun x1 x2 => x1 ++ x2) #[] (List.replicate (if its.toArray.isEmpty = true then 0 else k.toNat) its.toArray) = (List.replicate k.toNat its).flatten.toArray := by
    have f0 : ∀ m : Nat, List.foldl (fun x1 x2 => x1 ++ x2) #[] (List.replicate m its.toArray) = (List.replicate m its).flatten.toArray := fun m => by
      have := foldl_rep its m []
      rw [List.nil_append] at this
      exact this
    rw [f0]
    cases its with
    | nil => simp
    | cons a r' => rw [if_neg (by simp)]
  refine wpAny_binaryOp_repeat_ref (T := "list") (U := "int") (by decide) ⟨_, e, rfl⟩ (fun s' => typeIs_int s' k t) noFill_list_mul F.fills_int_mul F.slot_int_rmul repeat_list F.slot_int_index.lookup
    (call_meets F.slot_int_rmul (typeIs_int s k t) F.entry_int_rmul (F.args_int_rmul_2 _ _) (int___rmul___int_list k t l its.toArray n)
      ⟨e, rfl, ⟨_, e, rfl⟩, call_meets F.slot_list_mul ⟨_, e, rfl⟩ F.entry_list_mul (F.args_list_mul_2 _ _) (AutoListH.list___mul___list_int_3 l its.toArray n k t hfit hcap hlong) ⟨e, ?_⟩⟩)
  rw [hnew]
  exact ⟨.ref _, _, I.lnew (t' := s.toks) (r.rep k.toNat) (by rw [PyProof.Rows.lm_len_rep_flat, Nat.mul_comm]; exact hz), rfl, q _ I.fresh⟩
end
end Pm

namespace Pm
open PySem L2

inductive Id where | frz | rd | slot (i : Nat) | tmp (j : Nat)
  deriving DecidableEq
/-- own n: n levels below the top are its own, too; rd: read for the length of the call; bor: borrowed of slots -/
inductive Perm where | own (n : Nat) | frz | rd | bor (n : Nat) (xs : List Nat)
  deriving DecidableEq
structure Ty where
  p : Perm
  k : Nat
  deriving DecidableEq
abbrev STy := Option Ty
abbrev Penv := List (Option D)
def Perm.isOwn : Perm → Bool | .own _ => true | _ => false
def Perm.lv : Perm → Nat | .own n => n + 1 | .bor n _ => n + 1 | _ => 0
def Id.hot : Id → Bool | .slot _ => true | .tmp _ => true | _ => false
def zOf (ow : Addr → Id) (H : Hp) : Perm → Option Addr → Prop
  | .rd => fun o => match o with | some a => (ow a = .frz ∨ ow a = .rd) ∧ H a ≠ none | none => True
  | _ => fun o => match o with | some a => ow a = .frz ∧ H a ≠ none | none => False
def LabOk (ow : Addr → Id) (id : Id) (F : Fp) : Perm → Prop
  | .own _ => F.Nodup ∧ ∀ a ∈ F, ow a = id
  | .frz => True
  | .rd => True
  | .bor _ xs => ∀ a ∈ F, ow a = .frz ∨ ∃ i ∈ xs, ow a = .slot i
variable [W : Wd]
def EntOk (K : PySem.W.Frag) (H : Hp) (ow : Addr → Id) (id : Id) (ty : Ty) (d : D) (v : V) : Prop :=
  ∃ F, Rep K H (zOf ow H ty.p) ty.p.lv d v F ∧ d.dep ty.k = true ∧ LabOk ow id F ty.p

theorem LabOk.nil {ow : Addr → Id} {id : Id} {p : Perm} : LabOk ow id [] p := by cases p <;> simp [LabOk]
theorem EntOk.imm {K : PySem.W.Frag} {H : Hp} {ow : Addr → Id} {id : Id} {ty ty' : Ty} {d : D} {v : V} {id' : Id} {ow' : Addr → Id} (h : EntOk K H ow id ty d v) (e : ty.k = 0) : EntOk K H ow' id' ty' d v := by
  obtain ⟨F, r, hd, _⟩ := h
  rw [e] at hd
  exact ⟨[], (r.imm _ _ hd).2, D.dep_mono (Nat.zero_le _) d hd, LabOk.nil⟩

/-- one entry's permission leans on the labels in T not at all -/
def Perm.off (T : Id → Prop) (id : Id) : Perm → Prop
  | .own _ => ¬ T id
  | .frz => True
  | .rd => True
  | .bor _ xs => ∀ i ∈ xs, ¬ T (.slot i)

/-- a step that touches what is labelled in T alone -/
structure Step (T : Id → Prop) (ow ow' : Addr → Id) (H H' : Hp) : Prop where
  ext : Ext (fun a => T (ow a)) H H'
  lab : ∀ a, H a ≠ none → ¬ T (ow a) → ow' a = ow a
  mt : ∀ a, T (ow a) → Mut (H a)
  nf : ¬ T .frz
  nr : ¬ T .rd
theorem zOf.step {H H' : Hp} {ow ow' : Addr → Id} {T : Id → Prop} (s : Step T ow ow' H H') {p : Perm} {o : Option Addr} (h : zOf ow H p o) : (∀ a, o = some a → ¬ T (ow a)) ∧ zOf ow' H' p o := by
  cases o with
  | none => exact ⟨fun a e => (by cases e), (by cases p <;> exact h)⟩
  | some a =>
    have key : (ow a = .frz ∨ ow a = .rd) → H a ≠ none → ¬ T (ow a) ∧ ow' a = ow a ∧ H' a ≠ none := fun e h => by
      have n : ¬ T (ow a) := by rcases e with e | e <;> rw [e] <;> first | exact s.nf | exact s.nr
      exact ⟨n, s.lab a h n, s.ext.there a h⟩
    have go : ∀ {q : Prop}, (ow a = .frz ∨ ow a = .rd) → H a ≠ none → ((ow' a = ow a) → H' a ≠ none → q) → (∀ b, some a = some b → ¬ T (ow b)) ∧ q := fun e hn f => ⟨fun b eb => by cases eb; exact (key e hn).1, f (key e hn).2.1 (key e hn).2.2⟩
    cases p with
    | rd => exact go h.1 h.2 fun e hn => ⟨by rw [e]; exact h.1, hn⟩
    | own n => exact go (.inl h.1) h.2 fun e hn => ⟨e.trans h.1, hn⟩
    | frz => exact go (.inl h.1) h.2 fun e hn => ⟨e.trans h.1, hn⟩
    | bor n xs => exact go (.inl h.1) h.2 fun e hn => ⟨e.trans h.1, hn⟩

theorem EntOk.step {K : PySem.W.Frag} {H H' : Hp} {ow ow' : Addr → Id} {id : Id} {ty : Ty} {d : D} {v : V} {T : Id → Prop} (h : EntOk K H ow id ty d v) (s : Step T ow ow' H H') (o : ty.p.off T id) : EntOk K H' ow' id ty d v := by
  obtain ⟨F, r, hd, hl⟩ := h
  have hF : ∀ a ∈ F, ¬ T (ow a) := fun a ha => by
    cases hp : ty.p with
    | own n => rw [hp] at hl o; rw [hl.2 a ha]; exact o
    | frz => rw [hp] at r; rw [r.nil0] at ha; simp at ha
    | rd => rw [hp] at r; rw [r.nil0] at ha; simp at ha
    | bor n xs =>
      rw [hp] at hl o
      rcases hl a ha with e | ⟨i, hi, e⟩
      · rw [e]; exact s.nf
      · rw [e]; exact o i hi
  have hL : ∀ a ∈ F, ow' a = ow a := fun a ha => s.lab a (mut_ne (r.mut a ha)) (hF a ha)
  refine ⟨F, r.ext s.ext s.mt (fun a z => (zOf.step s z).1 a rfl) (fun a z => (zOf.step s z).2) hF, hd, ?_⟩
  cases hp : ty.p with
  | own n => rw [hp] at hl; exact ⟨hl.1, fun a ha => (hL a ha).trans (hl.2 a ha)⟩
  | frz => trivial
  | rd => trivial
  | bor n xs => rw [hp] at hl; exact fun a ha => by rw [hL a ha]; exact hl a ha

def TempOk (K : PySem.W.Frag) (H : Hp) (ow : Addr → Id) : List Ty → List (D × V) → Prop
  | [], [] => True
  | ty :: Θ, (d, v) :: θ => EntOk K H ow (.tmp Θ.length) ty d v ∧ TempOk K H ow Θ θ
  | _, _ => False
def Perm.inSlot : Perm → Bool | .bor _ _ => false | _ => true

/-- what may be changed, what may be frozen, of what stood there -/
structure Mz where
  m : Addr → Prop
  z : Addr → Prop
  sub : ∀ a, m a → z a
/-- the state of the pure layer is held by the slots and the heap -/
structure Rw (K : PySem.W.Frag) (H0 : Hp) (M : Mz) (ow : Addr → Id) (Γ : List STy) (ρ : Penv) (σ : St) (Θ : List Ty) (θ : List (D × V)) (H : Hp) : Prop where
  lρ : ρ.length = Γ.length
  lσ : σ.length = Γ.length
  nb : ∀ (i : Nat) (ty : Ty), Γ[i]? = some (some ty) → ty.p.inSlot = true
  slot : ∀ (i : Nat) (ty : Ty) (d : D), Γ[i]? = some (some ty) → ρ[i]? = some (some d) → ∃ v, σ[i]? = some (some v) ∧ EntOk K H ow (.slot i) ty d v
  temp : TempOk K H ow Θ θ
  ext : Ext M.m H0 H
  mt : ∀ a, (ow a).hot = true → Mut (H a)
  hm : ∀ a, (ow a).hot = true → M.m a ∨ H0 a = none
  old : ∀ a, H a ≠ none → ow a ≠ .rd → M.z a ∨ H0 a = none
  hiT : ∀ a j, ow a = .tmp j → j < Θ.length
def Rel (K : PySem.W.Frag) (H0 : Hp) (M : Mz) (Γ : List STy) (ρ : Penv) (σ : St) (Θ : List Ty) (θ : List (D × V)) (H : Hp) : Prop := ∃ ow, Rw K H0 M ow Γ ρ σ Θ θ H

/-- which labels are free of live entries -/
def slotsOff (T : Id → Prop) (Γ : List STy) : Prop := ∀ (i : Nat) (ty : Ty), Γ[i]? = some (some ty) → ty.p.off T (.slot i)
def tempsOff (T : Id → Prop) : List Ty → Prop
  | [] => True
  | ty :: Θ => ty.p.off T (.tmp Θ.length) ∧ tempsOff T Θ
theorem TempOk.step {K : PySem.W.Frag} {H H' : Hp} {ow ow' : Addr → Id} {T : Id → Prop} (s : Step T ow ow' H H') : ∀ {Θ : List Ty} {θ : List (D × V)}, TempOk K H ow Θ θ → tempsOff T Θ → TempOk K H' ow' Θ θ
  | [], [], _, _ => trivial
  | ty :: Θ, (d, v) :: θ, h, o => ⟨h.1.step s o.1, TempOk.step s h.2 o.2⟩
  | [], _ :: _, h, _ => h.elim
  | _ :: _, [], h, _ => h.elim
theorem TempOk.len {K : PySem.W.Frag} {H : Hp} {ow : Addr → Id} : ∀ {Θ : List Ty} {θ : List (D × V)}, TempOk K H ow Θ θ → θ.length = Θ.length
  | [], [], _ => rfl
  | ty :: Θ, (d, v) :: θ, h => by simp [TempOk.len h.2]
  | [], _ :: _, h => h.elim
  | _ :: _, [], h => h.elim
/-- the slots' permissions lean on T where T holds slots of S alone, none of which has a claim -/
theorem off_slots {T : Id → Prop} {Γ : List STy} (nb : ∀ (i : Nat) (ty : Ty), Γ[i]? = some (some ty) → ty.p.inSlot = true) (h : ∀ (i : Nat) (ty : Ty), Γ[i]? = some (some ty) → ty.p.isOwn = true → ¬ T (.slot i)) : slotsOff T Γ := fun i ty e => by
  cases hp : ty.p with
  | own n => exact h i ty e (by rw [hp]; rfl)
  | frz => trivial
  | rd => trivial
  | bor n xs => have := nb i ty e; rw [hp] at this; cases this
theorem Perm.off_of {T : Id → Prop} {id : Id} {p : Perm} (h1 : ¬ T id) (h2 : ∀ i, ¬ T (.slot i)) : p.off T id := by
  cases p with
  | own n => exact h1
  | frz => trivial
  | rd => trivial
  | bor n xs => exact fun i _ => h2 i
theorem tempsOff_of {T : Id → Prop} (h2 : ∀ i, ¬ T (.slot i)) : ∀ {Θ : List Ty}, (∀ j, j < Θ.length → ¬ T (.tmp j)) → tempsOff T Θ
  | [], _ => trivial
  | ty :: Θ, h => ⟨Perm.off_of (h _ (by simp)) h2, tempsOff_of h2 fun j hj => h j (by simp; omega)⟩

section
variable {K : PySem.W.Frag} {H0 H H' : Hp} {M : Mz} {ow ow' : Addr → Id} {Γ Γ' : List STy} {ρ : Penv} {σ : St} {Θ : List Ty} {θ : List (D × V)} {T : Id → Prop}
theorem Step.hot {T : Id → Prop} (s : Step T ow ow' H H') {a : Addr} (h : T (ow a)) : (ow a).hot = true := by
  cases e : ow a with
  | frz => rw [e] at h; exact (s.nf h).elim
  | rd => rw [e] at h; exact (s.nr h).elim
  | slot i => rfl
  | tmp j => rfl
/-- what stays behind a step -/
theorem Rw.stays (R : Rw K H0 M ow Γ ρ σ Θ θ H) (s : Step T ow ow' H H') : Ext M.m H0 H' := by
  refine ⟨fun a h m => ?_, fun a h => s.ext.there a (R.ext.there a h)⟩
  rw [s.ext.keep a (R.ext.there a h) fun z => ?_]
  · exact R.ext.keep a h m
  · rcases R.hm a (s.hot z) with q | q
    · exact m q
    · exact h q
theorem Rw.step (R : Rw K H0 M ow Γ ρ σ Θ θ H) (s : Step T ow ow' H H') (hs : slotsOff T Γ) (ht : tempsOff T Θ)
    (mt : ∀ a, (ow' a).hot = true → Mut (H' a)) (hm : ∀ a, (ow' a).hot = true → M.m a ∨ H0 a = none) (old : ∀ a, H' a ≠ none → ow' a ≠ .rd → M.z a ∨ H0 a = none) (hi : ∀ a j, ow' a = .tmp j → j < Θ.length) : Rw K H0 M ow' Γ ρ σ Θ θ H' where
  lρ := R.lρ
  lσ := R.lσ
  nb := R.nb
  slot := fun i ty d h1 h2 => by
    obtain ⟨v, e, q⟩ := R.slot i ty d h1 h2
    exact ⟨v, e, q.step s (hs i ty h1)⟩
  temp := R.temp.step s ht
  ext := R.stays s
  mt := mt
  hm := hm
  old := old
  hiT := hi

/-- a slot's claim is given up -/
theorem Rw.kill (R : Rw K H0 M ow Γ ρ σ Θ θ H) (i : Nat) : Rw K H0 M ow (Γ.set i none) ρ σ Θ θ H where
  lρ := by rw [List.length_set]; exact R.lρ
  lσ := by rw [List.length_set]; exact R.lσ
  nb := fun j ty h => R.nb j ty (by
    by_cases e : i = j
    · subst e
      rw [List.getElem?_set, if_pos rfl] at h
      split at h <;> cases h
    · rwa [List.getElem?_set_ne e] at h)
  slot := fun j ty d h1 h2 => R.slot j ty d (by
    by_cases e : i = j
    · subst e
      rw [List.getElem?_set, if_pos rfl] at h1
      split at h1 <;> cases h1
    · rwa [List.getElem?_set_ne e] at h1) h2
  temp := R.temp
  ext := R.ext
  mt := R.mt
  hm := R.hm
  old := R.old
  hiT := R.hiT
/-- a slot gets a claim -/
theorem Rw.put (R : Rw K H0 M ow Γ ρ σ Θ θ H) {i : Nat} {ty : Ty} {d : D} {v : V} (hi : i < Γ.length) (hp : ty.p.inSlot = true) (h : EntOk K H ow (.slot i) ty d v) :
    Rw K H0 M ow (Γ.set i (some ty)) (ρ.set i (some d)) (σ.set i (some v)) Θ θ H where
  lρ := by rw [List.length_set, List.length_set]; exact R.lρ
  lσ := by rw [List.length_set, List.length_set]; exact R.lσ
  nb := fun j ty' h => by
    by_cases e : i = j
    · subst e
      rw [List.getElem?_set_self hi] at h; cases h; exact hp
    · rw [List.getElem?_set_ne e] at h; exact R.nb j ty' h
  slot := fun j ty' d' h1 h2 => by
    by_cases e : i = j
    · subst e
      rw [List.getElem?_set_self hi] at h1
      rw [List.getElem?_set_self (by rw [R.lρ]; exact hi)] at h2
      cases h1; cases h2
      exact ⟨v, List.getElem?_set_self (by rw [R.lσ]; exact hi), h⟩
    · rw [List.getElem?_set_ne e] at h1 h2
      obtain ⟨v', e1, q⟩ := R.slot j ty' d' h1 h2
      exact ⟨v', by rw [List.getElem?_set_ne e]; exact e1, q⟩
  temp := R.temp
  ext := R.ext
  mt := R.mt
  hm := R.hm
  old := R.old
  hiT := R.hiT
theorem Rw.push (R : Rw K H0 M ow Γ ρ σ Θ θ H) {ty : Ty} {d : D} {v : V} (h : EntOk K H ow (.tmp Θ.length) ty d v) : Rw K H0 M ow Γ ρ σ (ty :: Θ) ((d, v) :: θ) H where
  lρ := R.lρ
  lσ := R.lσ
  nb := R.nb
  slot := R.slot
  temp := ⟨h, R.temp⟩
  ext := R.ext
  mt := R.mt
  hm := R.hm
  old := R.old
  hiT := fun a j e => Nat.lt_succ_of_lt (R.hiT a j e)
open Classical in
/-- the labels in T are given up to frz, but those of the addresses in S, which get id -/
noncomputable def relab (T : Id → Prop) (S : Fp) (to : Id) (ow : Addr → Id) : Addr → Id := fun a => if a ∈ S then to else if T (ow a) then .frz else ow a
theorem relab_in {T : Id → Prop} {S : Fp} {to : Id} {a : Addr} (h : a ∈ S) : relab T S to ow a = to := by unfold relab; rw [if_pos h]
theorem relab_frz {T : Id → Prop} {S : Fp} {to : Id} {a : Addr} (h : a ∉ S) (t : T (ow a)) : relab T S to ow a = .frz := by unfold relab; rw [if_neg h, if_pos t]
theorem relab_out {T : Id → Prop} {S : Fp} {to : Id} {a : Addr} (h : a ∉ S) (t : ¬ T (ow a)) : relab T S to ow a = ow a := by unfold relab; rw [if_neg h, if_neg t]
theorem step_relab {S : Fp} {to : Id} (hS : ∀ a ∈ S, H a = none ∨ T (ow a)) (hm : ∀ a, T (ow a) → Mut (H a)) (x : Ext (fun a => T (ow a)) H H') (nf : ¬ T .frz) (nr : ¬ T .rd) : Step T ow (relab T S to ow) H H' :=
  ⟨x, fun a h1 h2 => relab_out (fun z => (hS a z).elim h1 h2) h2, hm, nf, nr⟩
end
theorem zOf.frz {ow : Addr → Id} {H : Hp} {p : Perm} {a : Option Addr} (h : zOf ow H .frz a) : zOf ow H p a := by
  cases a with
  | none => exact h.elim
  | some a =>
    cases p with
    | rd => exact ⟨.inl h.1, h.2⟩
    | own n => exact h
    | frz => exact h
    | bor n xs => exact h
theorem zOf.of {ow : Addr → Id} {H : Hp} {p : Perm} {a : Option Addr} (hp : p ≠ .rd) (h : zOf ow H p a) : zOf ow H .frz a := by
  cases p with
  | rd => exact absurd rfl hp
  | own n => exact h
  | frz => exact h
  | bor n xs => exact h
end Pm

namespace Pm
open PySem L2

/-! ### the language -/
inductive UM where | bor | frz | mov | shl deriving DecidableEq
/-- tpo: each name with how deep its part is at most -/
inductive Tgt where | nm (i : Nat) | tp (ts : List Nat) | tpo (ps : List (Nat × Nat)) deriving DecidableEq
/-- built-in functions -/
inductive Bi where | len | int | str | list (l : Bool) | tuple (l : Bool) | max | min | sum | all | any | repr | dict | sorted | isbool | isint | isstr | islist | istup deriving DecidableEq
/-- methods that change nothing -/
inductive Bm where | join | index | rev deriving DecidableEq
/-- methods that change their list -/
inductive Mu where | append | extend | pop | popAt | clear deriving DecidableEq
mutual
inductive E where
  | var (i : Nat) (m : UM) | non | bl (b : Bool) | int (i : Int) | str (s : List Nat) | glb (g : Nat)
  | tup (es : Es) | lst (es : Es)
  | bin (l : Bool) (op : Operator) (a b : E) | cmp (op : CmpOp) (a b : E) | chn (o1 o2 : CmpOp) (a b c : E)
  | neg (a : E) | not_ (a : E) | bop (isOr : Bool) (a b : E)
  | dnew | done (a b : E) | dp (k : Nat) (a : E) | ife (c a b : E)
  | idx (h : Bool) (a i : E) | slc (l : Bool) (a : E) (lo hi : OE) | revl (a : E) | maxd (a : E) | sset (a : E) | lset (a : E) | lrng (es : Es)
  | call (f : Nat) (as : As) | bi (b : Bi) (es : Es) | bm (m : Bm) (o : E) (es : Es) | mu (m : Mu) (i : Nat) (es : Es)
  | comp (t : Tgt) (it : It) (c : OE) (e : E)
inductive Es where | nil | cons (e : E) (es : Es)
inductive OE where | none | some (e : E)
inductive As where | nil | val (e : E) (as : As) | ino (i : Nat) (as : As) | own (e : E) (as : As)
inductive It where | low (i : Nat) (it : It) | val (l : Bool) (e : E) | rng (es : Es) | enum (l : Bool) (e : E) | zip (l1 l2 : Bool) (a b : E) | zip3 (l1 l2 l3 : Bool) (a b c : E)
end
mutual
inductive S where
  | asg (t : Tgt) (e : E) | setI (i : Nat) (k e : E) | expr (e : E) | ret (e : E) | retN
  | if_ (c : E) (a b : Ss) | for_ (Γ : List STy) (t : Tgt) (it : It) (b : Ss) | while_ (Γ : List STy) (c : E) (b : Ss) | brk | cnt | pass | dead
inductive Ss where | nil | cons (s : S) (ss : Ss)
end

/-! ### what an operation of data gives -/
structure Exc where
  c : Nat
  as : List D
inductive FOut where | ret (d : D) (outs : List D) | exc (x : Exc)

def D.truth : D → Option Bool
  | .non => some false
  | .bl b => some b
  | .int i => some (i != 0)
  | .tup xs => some (!xs.isEmpty)
  | .lst xs => some (!xs.isEmpty)
  | _ => none
/-- the items of what a for walks -/
def D.items : Bool → D → Option (List D)
  | false, .tup xs => some xs
  | true, .lst xs => some xs
  | true, .dic _ ks _ => some ks
  | true, .tup xs => if D.deps 0 xs = true then some xs else none
  | false, .str s => some (s.map fun c => .str [c])
  | _, _ => none
/-- the items of what zip walks -/
def D.itz : Bool → D → Option (List D)
  | false, .tup xs => some xs
  | true, .lst xs => some xs
  | false, .str s => some (s.map fun c => .str [c])
  | _, _ => none
/-- the items of what enumerate walks -/
def D.items2 : Bool → D → Option (List D)
  | true, .lst xs => some xs
  | false, .str s => some (s.map fun c => .str [c])
  | _, _ => none
/-! equality of data: bools and ints as in Python; D.ht: plain data of at most this height -/
mutual
def D.eq : D → D → Bool
  | .non, .non => true
  | .bl a, .bl b => a == b
  | .bl a, .int j => (if a then 1 else 0) == j
  | .int i, .bl b => i == (if b then 1 else 0)
  | .int i, .int j => i == j
  | .str x, .str y => x == y
  | .lst xs, .lst ys => D.eqs xs ys
  | .tup xs, .tup ys => D.eqs xs ys
  | _, _ => false
def D.eqs : List D → List D → Bool
  | [], [] => true
  | x :: xs, y :: ys => D.eq x y && D.eqs xs ys
  | _, _ => false
end
mutual
def D.ht : Nat → D → Bool
  | _, .non => true
  | _, .bl _ => true
  | _, .int _ => true
  | _, .str _ => true
  | n + 1, .tup xs => D.hts n xs
  | n + 1, .lst xs => D.hts n xs
  | _, _ => false
def D.hts : Nat → List D → Bool
  | _, [] => true
  | n, x :: xs => D.ht n x && D.hts n xs
end
def D.sc : D → Bool
  | .non => true
  | .int _ => true
  | .str _ => true
  | _ => false

/-- a binary operation (a continuation takes the value) -/
def binK (l : Bool) (op : Operator) (a b : D) (k : D → Prop) : Prop :=
  match l, op, a, b with
  | false, .Add, .int x, .int y => k (.int (x + y))
  | false, .Add, .str x, .str y => x.length + y.length ≤ sizeLine ∧ k (.str (x ++ y))
  | true, .Add, .lst x, .lst y => x.length + y.length ≤ sizeLine ∧ k (.lst (x ++ y))
  | true, .Mult, .lst x, .int n => (-(2 ^ 63) ≤ n ∧ n < 2 ^ 63 ∧ x.length * n.toNat ≤ sizeLine) ∧ k (.lst (List.replicate n.toNat x).flatten)
  | false, .Add, .tup x, .tup y => x.length + y.length ≤ sizeLine ∧ k (.tup (x ++ y))
  | false, .Sub, .int x, .int y => k (.int (x - y))
  | false, .Mult, .int x, .int y => CMul x y ∧ k (.int (x * y))
  | false, .Mult, .str x, .int n => (2 ≤ n ∧ 1 ≤ x.length ∧ x.length * n.toNat ≤ 1000000) ∧ k (.str (List.replicate n.toNat x).flatten)
  | false, .FloorDiv, .int x, .int y => CDiv x y ∧ k (.int (x / y))
  | false, .Mod, .int x, .int y => 0 < y ∧ k (.int (x % y))
  | false, .Pow, .int x, .int y => CPow x y ∧ k (.int (x ^ y.toNat))
  | false, .BitAnd, .int x, .int y => (0 ≤ x ∧ y = 1) ∧ k (.int (x % 2))
  | false, .LShift, .int x, .int y => CPow x y ∧ k (.int (x * 2 ^ y.toNat))
  | false, .RShift, .int x, .int y => 0 ≤ y ∧ k (.int (x / 2 ^ y.toNat))
  | _, _, _, _ => False
/-- the key fits the dict's keys -/
def fitsD (ks : List D) (y : D) : Bool := (ks.all D.flatKey && y.flatKey) || (ks.all D.tupKey && y.tupKey)
def keyAt (ks : List D) (y : D) : Option Nat := ks.findIdx? fun k => decide (k.nk = y.nk)
def cmpK (op : CmpOp) (a b : D) (k : D → Prop) : Prop :=
  match op, a, b with
  | .Lt, .int x, .int y => k (.bl (decide (x < y)))
  | .Lt, .lst xs, .lst ys => ∃ is js : List Int, xs = is.map .int ∧ ys = js.map .int ∧ k (.bl (listLtI is js))
  | .LtE, .int x, .int y => k (.bl (decide (x ≤ y)))
  | .LtE, .str x, .str y => k (.bl (!decide (y < x)))
  | .Gt, .int x, .int y => k (.bl (decide (y < x)))
  | .GtE, .int x, .int y => k (.bl (decide (y ≤ x)))
  | .Eq, x, y => x.ht 60 = true ∧ y.ht 60 = true ∧ k (.bl (x.eq y))
  | .NotEq, x, y => x.ht 60 = true ∧ y.ht 60 = true ∧ k (.bl (!x.eq y))
  | .In, .str x, .str y => ∃ c, x = [c] ∧ k (.bl (decide (c ∈ y)))
  | .NotIn, .str x, .str y => ∃ c, x = [c] ∧ k (.bl (!decide (c ∈ y)))
  | .In, x, .tup ys => x.sc = true ∧ ys.all D.sc = true ∧ k (.bl (ys.any fun y => y.eq x))
  | .NotIn, x, .tup ys => x.sc = true ∧ ys.all D.sc = true ∧ k (.bl (!ys.any fun y => y.eq x))
  | .In, x, .lst ys => x.ht 60 = true ∧ D.hts 59 ys = true ∧ k (.bl (ys.any fun y => y.eq x))
  | .NotIn, x, .lst ys => x.ht 60 = true ∧ D.hts 59 ys = true ∧ k (.bl (!ys.any fun y => y.eq x))
  | .In, x, .dic _ ks _ => fitsD ks x = true ∧ k (.bl (keyAt ks x).isSome)
  | .NotIn, x, .dic _ ks _ => fitsD ks x = true ∧ k (.bl (!(keyAt ks x).isSome))
  | .Is, x, .non => k (.bl (match x with | .non => true | _ => false))
  | .IsNot, x, .non => k (.bl (match x with | .non => false | _ => true))
  | _, _, _ => False
def idxK (h : Bool) (a i : D) (k : D → Prop) : Prop :=
  match h, a, i with
  | true, .lst xs, .int i => match atI xs i with
    | some x => k x
    | none => False
  | true, .dic _ ks vs, y => fitsD ks y = true ∧ match keyAt ks y with
    | some j => match vs[j]? with
      | some x => k x
      | none => False
    | none => False
  | false, .tup xs, .int i => match atI xs i with
    | some x => k x
    | none => False
  | false, .str xs, .int i => match atI xs i with
    | some x => xs.length ≤ sizeLine ∧ k (.str [x])
    | none => False
  | _, _, _ => False
def cutL {α : Type} (xs : List α) (lo hi : Option Int) : List α := (xs.drop (HT.sIx xs.length 0 lo)).take (HT.sIx xs.length xs.length hi - HT.sIx xs.length 0 lo)
def slcK (l : Bool) (a : D) (lo hi : Option Int) (k : D → Prop) : Prop :=
  match l, a with
  | true, .lst xs => k (.lst (cutL xs lo hi))
  | true, .tup xs => D.deps 0 xs = true ∧ k (.tup (cutL xs lo hi))
  | false, .tup xs => k (.tup (cutL xs lo hi))
  | false, .str xs => xs.length ≤ sizeLine ∧ k (.str (cutL xs lo hi))
  | _, _ => False
/-- max(xs, default=-1) -/
def maxD : List Int → Int
  | [] => -1
  | x :: xs => PySem.W.maxOf x xs
/-- sorted(set(xs)), len(set(xs)): whole numbers, or texts -/
def ssetL (xs : List D) (k : D → Prop) : Prop := xs.length < 4096 ∧ ((∃ is : List Int, xs = is.map .int ∧ ∀ js : List Int, js.Pairwise (· < ·) → (∀ j, j ∈ js ↔ j ∈ is) → k (.lst (js.map .int))) ∨
  (∃ ss : List (List Nat), xs = ss.map .str ∧ ∀ ts : List (List Nat), ts.Pairwise (· < ·) → (∀ t, t ∈ ts ↔ t ∈ ss) → k (.lst (ts.map .str))))
def lsetL (xs : List D) (k : D → Prop) : Prop := xs.length < 4096 ∧ ((∃ is : List Int, xs = is.map .int ∧ ∀ js : List Int, js.Nodup → (∀ j, j ∈ js ↔ j ∈ is) → k (.int js.length)) ∨
  (∃ ss : List (List Nat), xs = ss.map .str ∧ ∀ ts : List (List Nat), ts.Nodup → (∀ t, t ∈ ts ↔ t ∈ ss) → k (.int ts.length)))
def ssetK (x : D) (k : D → Prop) : Prop := match x with
  | .lst xs => ssetL xs k
  | .tup xs => ssetL xs k
  | _ => False
def lsetK (x : D) (k : D → Prop) : Prop := match x with
  | .lst xs => lsetL xs k
  | .tup xs => lsetL xs k
  | _ => False
/-- text of a whole number -/
def intTxt (i : Int) : List Nat := (Str.ofString (toString i)).cps.toList
def strsOf : List D → Option (List (List Nat))
  | [] => some []
  | .str x :: r => (strsOf r).map (x :: ·)
  | _ => none
def joinL (sep : List Nat) : List (List Nat) → List Nat
  | [] => []
  | [x] => x
  | x :: y :: r => x ++ sep ++ joinL sep (y :: r)
/-- no dict, no object, no def -/
def D.pl : D → Bool
  | .dic _ _ _ => false
  | .ins _ _ => false
  | .clo _ _ => false
  | _ => true
/-! one by one into a list of keyed things -/
inductive All2 {α β : Type} (R : α → β → Prop) : List α → List β → Prop
  | nil : All2 R [] []
  | cons {a : α} {b : β} {as : List α} {bs : List β} : R a b → All2 R as bs → All2 R (a :: as) (b :: bs)
def putL {α κ : Type} [DecidableEq κ] (key : α → κ) (st : α → α → α) (l : List α) (x : α) : List α := if (l.any fun y => decide (key y = key x)) = true then l.map fun y => if key y = key x then st y x else y else l ++ [x]
def mergeL {α κ : Type} [DecidableEq κ] (key : α → κ) (st : α → α → α) (xs : List α) : List α := xs.foldl (putL key st) []
def pairsOf : List D → Option (List (D × D))
  | [] => some []
  | .tup [k, v] :: xs => (pairsOf xs).map ((k, v) :: ·)
  | _ :: _ => none
def mergeD (ps : List (D × D)) : List (D × D) := mergeL (fun p => p.1.nk) (fun y x => (y.1, x.2)) ps
/-! data as the kit reads it -/
mutual
def D.py : D → PyData
  | .bl b => .bool b
  | .int i => .int i
  | .str s => .str (toStr s)
  | .tup xs => .tuple (D.pys xs)
  | .lst xs => .list (D.pys xs)
  | _ => .none
def D.pys : List D → List PyData
  | [] => []
  | x :: xs => D.py x :: D.pys xs
end
def dictK (xs : List D) (k : D → Prop) : Prop := match pairsOf xs with
  | some ps => keysOk (ps.map Prod.fst) = true ∧ ps.length ≤ sizeLine ∧ ∀ ep, k (.dic ep ((mergeD ps).map Prod.fst) ((mergeD ps).map Prod.snd))
  | none => False
def sortK (xs : List D) (k : D → Prop) : Prop := (PySem.W.AllAlike (xs.map D.py) ∧ PySem.W.Sortable (xs.map D.py)) ∧ (D.hts 60 xs = true ∧ xs.length ≤ sizeLine) ∧ k (.lst (xs.mergeSort (PySem.W.dataLe false D.py)))
def biK (b : Bi) (ds : List D) (k : D → Prop) : Prop :=
  match b, ds with
  | .len, [.str s] => s.length ≤ sizeLine ∧ k (.int s.length)
  | .len, [.lst s] => k (.int s.length)
  | .len, [.tup s] => k (.int s.length)
  | .len, [.dic _ ks _] => k (.int ks.length)
  | .dict, [.lst xs] => dictK xs k
  | .sorted, [.lst xs] => sortK xs k
  | .int, [.bl c] => k (.int (if c then 1 else 0))
  | .int, [.int i] => k (.int i)
  | .list true, [.lst xs] => k (.lst xs)
  | .list false, [.tup xs] => k (.lst xs)
  | .list false, [.str s] => s.length ≤ sizeLine ∧ k (.lst (s.map fun c => .str [c]))
  | .tuple true, [.lst xs] => k (.tup xs)
  | .tuple true, [.tup xs] => D.deps 0 xs = true ∧ k (.tup xs)
  | .tuple false, [.tup xs] => k (.tup xs)
  | .str, [.int i] => i.natAbs.log2 < 1920 ∧ k (.str (intTxt i))
  | .repr, [.int i] => i.natAbs.log2 < 1920 ∧ k (.str (intTxt i))
  | .repr, [.str s] => (s.all (fun c => decide (97 ≤ c ∧ c ≤ 122)) = true ∧ s.length ≤ 100000) ∧ k (.str (39 :: (s ++ [39])))
  | .repr, [.non] => k (.str [78, 111, 110, 101])
  | .repr, [.bl b] => k (.str (if b then [84, 114, 117, 101] else [70, 97, 108, 115, 101]))
  | .max, [.lst xs] => ∃ is : List Int, xs = is.map .int ∧ 0 < is.length ∧ ∀ m ∈ is, (∀ y ∈ is, y ≤ m) → k (.int m)
  | .max, [.int x, .int y] => k (.int (if y > x then y else x))
  | .min, [.lst xs] => ∃ is : List Int, xs = is.map .int ∧ 0 < is.length ∧ ∀ m ∈ is, (∀ y ∈ is, m ≤ y) → k (.int m)
  | .min, [.int x, .int y] => k (.int (if y < x then y else x))
  | .all, [.lst xs] => ∃ bs : List Bool, xs = bs.map .bl ∧ k (.bl (bs.all id))
  | .any, [.lst xs] => ∃ bs : List Bool, xs = bs.map .bl ∧ k (.bl (bs.any id))
  | .sum, [.lst xs] => ∃ is : List Int, xs = is.map .int ∧ k (.int is.sum)
  | .isbool, [d] => d.pl = true ∧ k (.bl (match d with | .bl _ => true | _ => false))
  | .isint, [d] => d.pl = true ∧ k (.bl (match d with | .int _ => true | .bl _ => true | _ => false))
  | .isstr, [d] => d.pl = true ∧ k (.bl (match d with | .str _ => true | _ => false))
  | .istup, [d] => d.pl = true ∧ k (.bl (match d with | .tup _ => true | _ => false))
  | .islist, [d] => d.pl = true ∧ k (.bl (match d with | .lst _ => true | _ => false))
  | _, _ => False
def idxOf (c : Nat) : List Nat → Option Nat
  | [] => none
  | x :: xs => if x = c then some 0 else (idxOf c xs).map (· + 1)
def bmO : Bm → D → Bool
  | .join, .str _ => true
  | .index, .str _ => true
  | .rev, .str _ => true
  | _, _ => false
def bmK (m : Bm) (o : D) (ds : List D) (k : D → Prop) : Prop :=
  match m, o, ds with
  | .join, .str sep, [.lst xs] => match strsOf xs with
    | some ys => (ys.map List.length).sum + ys.length * sep.length ≤ 16777216 ∧ k (.str (joinL sep ys))
    | none => False
  | .index, .str s, [.str [c]] => match idxOf c s with
    | some i => k (.int i)
    | none => False
  | .rev, .str s, [] => s.length ≤ sizeLine ∧ k (.str s.reverse)
  | _, _, _ => False
/-- a method that changes the list: its answer, the list behind it -/
def muK (m : Mu) (o : D) (ds : List D) (k : D → D → Prop) : Prop :=
  match m, o, ds with
  | .append, .lst xs, [d] => xs.length < sizeLine ∧ k .non (.lst (xs ++ [d]))
  | .extend, .lst xs, [.lst ys] => xs.length + ys.length ≤ sizeLine ∧ k .non (.lst (xs ++ ys))
  | .pop, .lst xs, [] => match xs[xs.length - 1]? with
    | some y => k y (.lst xs.dropLast)
    | none => False
  | .popAt, .lst xs, [.int i] => match ixN xs.length i with
    | some j => match xs[j]? with
      | some y => (-(2 ^ 63) ≤ i ∧ i < 2 ^ 63) ∧ k y (.lst (xs.eraseIdx j))
      | none => False
    | none => False
  | .clear, .lst xs, [] => k .non (.lst [])
  | _, _, _ => False
def setK (o i v : D) (k : D → Prop) : Prop :=
  match o, i with
  | .lst xs, .int i => match ixN xs.length i with
    | some j => k (.lst (xs.set j v))
    | none => False
  | .dic _ ks vs, y => fitsD ks y = true ∧ match keyAt ks y with
    | some j => ∀ ep, k (.dic ep ks (vs.set j v))
    | none => ks.length < sizeLine ∧ ∀ ep, k (.dic ep (ks ++ [y]) (vs ++ [v]))
  | _, _ => False
def rngK (ds : List D) (k : List D → Prop) : Prop :=
  match ds with
  | [.int j] => -(2 ^ 62) ≤ j ∧ j < 2 ^ 62 ∧ k ((List.range j.toNat).map fun (i : Nat) => .int (i : Int))
  | [.int i, .int j] => (-(2 ^ 62) ≤ i ∧ i < 2 ^ 62 ∧ -(2 ^ 62) ≤ j ∧ j < 2 ^ 62) ∧ k ((List.range (j - i).toNat).map fun (t : Nat) => .int (i + (t : Int)))
  | _ => False
def depsOk : List Nat → List D → Bool
  | k :: ks, x :: xs => x.dep k && depsOk ks xs
  | _, _ => true
def asgK (t : Tgt) (d : D) (ρ : Penv) (k : Penv → Prop) : Prop :=
  match t, d with
  | .nm i, d => k (ρ.set i (some d))
  | .tp is, .tup xs => xs.length = is.length ∧ k ((is.zip xs).foldl (fun ρ p => ρ.set p.1 (some p.2)) ρ)
  | .tpo ps, .tup xs => xs.length = ps.length ∧ depsOk (ps.map (·.2)) xs = true ∧ k (((ps.map (·.1)).zip xs).foldl (fun ρ p => ρ.set p.1 (some p.2)) ρ)
  | _, _ => False

/-! ### what is wanted -/
structure Kt where
  nx : Penv → Prop
  rt : D → Penv → Prop
  bk : Penv → Prop
  ct : Penv → Prop
  ex : Exc → Penv → Prop
structure Ctx where
  spec : Nat → List D → (FOut → Prop) → Prop
  glob : Nat → Option D

def forLoop (step : D → Penv → (Penv → Prop) → Prop) (K : Penv → Prop) : List D → Penv → Prop
  | [], ρ => K ρ
  | x :: xs, ρ => step x ρ (forLoop step K xs)
def compLoop (step : D → Penv → (Option D → Penv → Prop) → Prop) (K : List D → Penv → Prop) : List D → List D → Penv → Prop
  | [], acc, ρ => K acc ρ
  | x :: xs, acc, ρ => step x ρ fun o ρ' => compLoop step K xs (match o with | some d => acc ++ [d] | none => acc) ρ'
def whileN (c : Penv → (D → Penv → Prop) → Prop) (body : Penv → (Penv → Prop) → Prop) (nx : Penv → Prop) : Nat → Penv → Prop
  | 0, _ => False
  | n + 1, ρ => c ρ fun d ρ' => match d.truth with
    | some true => body ρ' (whileN c body nx n)
    | some false => nx ρ'
    | none => False
def Tgt.slots : Tgt → List Nat
  | .nm i => [i]
  | .tp is => is
  | .tpo ps => ps.map (·.1)
/-- the slots vs as they were -/
def restore (vs : List Nat) (ρ ρ' : Penv) : Penv := vs.foldl (fun r v => (ρ[v]?).elim r fun x => r.set v x) ρ'
def wipeP (vs : List Nat) (ρ : Penv) : Penv := vs.foldl (fun r v => r.set v none) ρ
def As.inos : As → List Nat
  | .nil => []
  | .val _ as => as.inos
  | .own _ as => as.inos
  | .ino i as => i :: as.inos
def As.outs : As → List (Option Nat)
  | .nil => []
  | .val _ as => as.outs
  | .own _ as => none :: as.outs
  | .ino i as => some i :: as.outs
def setOuts : List (Option Nat) → List D → Penv → Penv
  | some i :: is, d :: ds, ρ => setOuts is ds (ρ.set i (some d))
  | none :: is, _ :: ds, ρ => setOuts is ds ρ
  | _, _, ρ => ρ

mutual
def evalE (C : Ctx) : E → Penv → (D → Penv → Prop) → (Exc → Penv → Prop) → Prop
  | .var i _, ρ, K, _ => match ρ[i]? with
    | some (some d) => K d ρ
    | _ => False
  | .non, ρ, K, _ => K .non ρ
  | .bl b, ρ, K, _ => K (.bl b) ρ
  | .int i, ρ, K, _ => K (.int i) ρ
  | .str s, ρ, K, _ => K (.str s) ρ
  | .glb g, ρ, K, _ => match C.glob g with
    | some d => K d ρ
    | none => False
  | .tup es, ρ, K, X => evalEs C es ρ (fun ds ρ' => ds.length ≤ sizeLine ∧ K (.tup ds) ρ') X
  | .lst es, ρ, K, X => evalEs C es ρ (fun ds ρ' => ds.length ≤ sizeLine ∧ K (.lst ds) ρ') X
  | .bin l op a b, ρ, K, X => evalE C a ρ (fun x ρ1 => evalE C b ρ1 (fun y ρ2 => binK l op x y fun z => K z ρ2) X) X
  | .cmp op a b, ρ, K, X => evalE C a ρ (fun x ρ1 => evalE C b ρ1 (fun y ρ2 => cmpK op x y fun z => K z ρ2) X) X
  | .chn o1 o2 a b c, ρ, K, X => evalE C a ρ (fun x ρ1 => evalE C b ρ1 (fun y ρ2 => cmpK o1 x y fun z =>
      match z with
      | .bl true => evalE C c ρ2 (fun w ρ3 => cmpK o2 y w fun z => K z ρ3) X
      | .bl false => K (.bl false) ρ2
      | _ => False) X) X
  | .dnew, ρ, K, X => K (.dic 0 [] []) ρ
  | .done a b, ρ, K, X => evalE C a ρ (fun x ρ1 => evalE C b ρ1 (fun y ρ2 => fitsD [] x = true ∧ ∀ ep, K (.dic ep [x] [y]) ρ2) X) X
  | .dp k a, ρ, K, X => evalE C a ρ (fun x ρ1 => x.dep k = true ∧ K x ρ1) X
  | .ife c a b, ρ, K, X => evalE C c ρ (fun x ρ1 => match x.truth with
      | some true => evalE C a ρ1 K X
      | some false => evalE C b ρ1 K X
      | none => False) X
  | .lrng es, ρ, K, X => evalEs C es ρ (fun ds ρ1 => rngK ds fun xs => xs.length ≤ 2 ^ 24 ∧ K (.lst xs) ρ1) X
  | .maxd a, ρ, K, X => evalE C a ρ (fun x ρ1 => match x with
      | .lst xs => ∃ is : List Int, xs = is.map .int ∧ K (.int (maxD is)) ρ1
      | _ => False) X
  | .sset a, ρ, K, X => evalE C a ρ (fun x ρ1 => ssetK x fun z => K z ρ1) X
  | .lset a, ρ, K, X => evalE C a ρ (fun x ρ1 => lsetK x fun z => K z ρ1) X
  | .revl a, ρ, K, X => evalE C a ρ (fun x ρ1 => match x with
      | .lst xs => K (.lst xs.reverse) ρ1
      | _ => False) X
  | .neg a, ρ, K, X => evalE C a ρ (fun x ρ1 => match x with
      | .int i => K (.int (-i)) ρ1
      | _ => False) X
  | .not_ a, ρ, K, X => evalE C a ρ (fun x ρ1 => match x.truth with
      | some c => K (.bl (!c)) ρ1
      | none => False) X
  | .bop o a b, ρ, K, X => evalE C a ρ (fun x ρ1 => match x.truth with
      | some c => if c = o then K x ρ1 else evalE C b ρ1 K X
      | none => False) X
  | .idx h a i, ρ, K, X => evalE C a ρ (fun x ρ1 => evalE C i ρ1 (fun y ρ2 => idxK h x y fun z => K z ρ2) X) X
  | .slc l a lo hi, ρ, K, X => evalE C a ρ (fun x ρ1 => evalOE C lo ρ1 (fun lo' ρ2 => evalOE C hi ρ2 (fun hi' ρ3 => slcK l x lo' hi' fun z => K z ρ3) X) X) X
  | .call f as, ρ, K, X => evalAs C as ρ (fun ds ρ1 => C.spec f ds fun r => match r with
      | .ret d outs => K d (setOuts as.outs outs ρ1)
      | .exc x => X x ρ1) X
  | .bi b es, ρ, K, X => evalEs C es ρ (fun ds ρ1 => biK b ds fun z => K z ρ1) X
  | .bm m o es, ρ, K, X => evalE C o ρ (fun x ρ1 => bmO m x = true ∧ evalEs C es ρ1 (fun ds ρ2 => bmK m x ds fun z => K z ρ2) X) X
  | .mu m i es, ρ, K, X => match ρ[i]? with
    | some (some (.lst _)) => evalEs C es ρ (fun ds ρ1 => match ρ1[i]? with
      | some (some x) => muK m x ds fun z y => K z (ρ1.set i (some y))
      | _ => False) X
    | _ => False
  | .comp t it c e, ρ, K, X => evalIt C it ρ (fun xs ρ1 => xs.length ≤ sizeLine ∧ compLoop (fun x ρ' k => asgK t x (wipeP t.slots ρ') fun ρ2 => evalC C c ρ2 (fun b ρ3 => if b = true then evalE C e ρ3 (fun y ρ4 => k (some y) ρ4) (fun _ _ => False) else k none ρ3) (fun _ _ => False))
      (fun acc ρ' => K (.lst acc) (restore t.slots ρ1 ρ')) xs [] ρ1) X
def evalEs (C : Ctx) : Es → Penv → (List D → Penv → Prop) → (Exc → Penv → Prop) → Prop
  | .nil, ρ, K, _ => K [] ρ
  | .cons e es, ρ, K, X => evalE C e ρ (fun d ρ1 => evalEs C es ρ1 (fun ds ρ2 => K (d :: ds) ρ2) X) X
/-- a slice's part -/
def evalOE (C : Ctx) : OE → Penv → (Option Int → Penv → Prop) → (Exc → Penv → Prop) → Prop
  | .none, ρ, K, _ => K none ρ
  | .some e, ρ, K, X => evalE C e ρ (fun d ρ1 => match d with
      | .int i => K (some i) ρ1
      | _ => False) X
/-- a comprehension's test -/
def evalC (C : Ctx) : OE → Penv → (Bool → Penv → Prop) → (Exc → Penv → Prop) → Prop
  | .none, ρ, K, _ => K true ρ
  | .some e, ρ, K, X => evalE C e ρ (fun d ρ1 => match d.truth with
      | some b => K b ρ1
      | none => False) X
def evalAs (C : Ctx) : As → Penv → (List D → Penv → Prop) → (Exc → Penv → Prop) → Prop
  | .nil, ρ, K, _ => K [] ρ
  | .val e as, ρ, K, X => evalE C e ρ (fun d ρ1 => evalAs C as ρ1 (fun ds ρ2 => K (d :: ds) ρ2) X) X
  | .own e as, ρ, K, X => evalE C e ρ (fun d ρ1 => evalAs C as ρ1 (fun ds ρ2 => K (d :: ds) ρ2) X) X
  | .ino i as, ρ, K, X => match ρ[i]? with
    | some (some _) => evalAs C as ρ (fun ds ρ1 => match ρ1[i]? with
      | some (some d) => K (d :: ds) ρ1
      | _ => False) X
    | _ => False
def evalIt (C : Ctx) : It → Penv → (List D → Penv → Prop) → (Exc → Penv → Prop) → Prop
  | .low _ it, ρ, K, X => evalIt C it ρ K X
  | .val l e, ρ, K, X => evalE C e ρ (fun d ρ1 => match d.items l with
      | some xs => K xs ρ1
      | none => False) X
  | .rng es, ρ, K, X => evalEs C es ρ (fun ds ρ1 => rngK ds fun xs => K xs ρ1) X
  | .enum l e, ρ, K, X => evalE C e ρ (fun d ρ1 => match d.items2 l with
      | some xs => K (xs.zipIdx.map fun p => .tup [.int p.2, p.1]) ρ1
      | none => False) X
  | .zip l1 l2 a b, ρ, K, X => evalE C a ρ (fun x ρ1 => evalE C b ρ1 (fun y ρ2 => match x.itz l1, y.itz l2 with
      | some xs, some ys => K ((xs.zip ys).map fun p => .tup [p.1, p.2]) ρ2
      | _, _ => False) X) X
  | .zip3 l1 l2 l3 a b c, ρ, K, X => evalE C a ρ (fun x ρ1 => evalE C b ρ1 (fun y ρ2 => evalE C c ρ2 (fun z ρ3 => match x.itz l1, y.itz l2, z.itz l3 with
      | some xs, some ys, some zs => K ((xs.zip (ys.zip zs)).map fun p => .tup [p.1, p.2.1, p.2.2]) ρ3
      | _, _, _ => False) X) X) X
end
mutual
def evalS (C : Ctx) : S → Penv → Kt → Prop
  | .asg t e, ρ, K => evalE C e ρ (fun d ρ1 => asgK t d ρ1 K.nx) K.ex
  | .setI i k e, ρ, K => evalE C e ρ (fun d ρ1 => match ρ1[i]? with
      | some (some _) => evalE C k ρ1 (fun j ρ2 => match ρ2[i]? with
        | some (some o) => setK o j d fun o' => K.nx (ρ2.set i (some o'))
        | _ => False) K.ex
      | _ => False) K.ex
  | .expr e, ρ, K => evalE C e ρ (fun _ ρ1 => K.nx ρ1) K.ex
  | .ret e, ρ, K => evalE C e ρ K.rt K.ex
  | .retN, ρ, K => K.rt .non ρ
  | .if_ c a b, ρ, K => evalE C c ρ (fun d ρ1 => match d.truth with
      | some true => evalSs C a ρ1 K
      | some false => evalSs C b ρ1 K
      | none => False) K.ex
  | .for_ _ t it b, ρ, K => evalIt C it ρ (fun xs ρ1 => forLoop (fun x ρ' k => asgK t x ρ' fun ρ2 => evalSs C b ρ2 ⟨k, K.rt, K.nx, k, K.ex⟩) K.nx xs ρ1) K.ex
  | .while_ _ c b, ρ, K => ∃ n, whileN (fun ρ' k => evalE C c ρ' k K.ex) (fun ρ' k => evalSs C b ρ' ⟨k, K.rt, K.nx, k, K.ex⟩) K.nx n ρ
  | .brk, ρ, K => K.bk ρ
  | .cnt, ρ, K => K.ct ρ
  | .pass, ρ, K => K.nx ρ
  | .dead, _, _ => False
def evalSs (C : Ctx) : Ss → Penv → Kt → Prop
  | .nil, ρ, K => K.nx ρ
  | .cons s ss, ρ, K => evalS C s ρ { K with nx := fun ρ' => evalSs C ss ρ' K }
end
end Pm

namespace Pm
open PySem L2

/-! ### the ownership checker -/
inductive PM where | inn (k : Nat) | ino (n k : Nat) deriving DecidableEq
structure Sig where
  ps : List PM
  p : Perm
  k : Nat
structure TC where
  sig : Nat → Option Sig
  gk : Nat → Nat
def imm : Ty := ⟨.frz, 0⟩
def mkT (p : Perm) (k : Nat) : Ty := if k = 0 then imm else ⟨p, k⟩
/-- a fresh value of depth k -/
def fresh (k : Nat) : Ty := mkT (.own 0) k
/-- what may go into an own container: own, frozen, or what never changes -/
def Ty.free (t : Ty) : Bool := t.k == 0 || (match t.p with | .own _ => true | .frz => true | _ => false)
/-- how many levels of it may be its own within a container -/
def Ty.lev (t : Ty) : Nat := if t.k = 0 then 9 else match t.p with
  | .own n => if t.k ≤ n + 1 then 9 else n + 1
  | _ => 0
def levs (ts : List Ty) : Nat := ts.foldl (fun m t => min m t.lev) 8
def maxk (ts : List Ty) : Nat := ts.foldl (fun k t => max k t.k) 0
def noBor (i : Nat) (Θ : List Ty) : Bool := Θ.all fun t => match t.p with | .bor _ xs => !xs.contains i | _ => true
/-- own n of depth k serves as own m -/
def lowOk (k n m : Nat) : Bool := decide (m ≤ n) || decide (k ≤ n + 1)
def subTy : STy → STy → Bool
  | _, none => true
  | none, some _ => false
  | some t, some u => u.p.inSlot && (t.k == 0 || (decide (t.k ≤ u.k) && (match t.p, u.p with
    | .own n, .own m => lowOk t.k n m
    | .own _, _ => true
    | .frz, .own _ => false
    | .frz, _ => true
    | .rd, .rd => true
    | _, _ => false)))
def subΓ : List STy → List STy → Bool
  | [], [] => true
  | a :: Γ, b :: Δ => subTy a b && subΓ Γ Δ
  | _, _ => false
def joinTy : STy → STy → STy
  | some t, some u => if t.k == 0 then some u else if u.k == 0 then some t else match t.p, u.p with
    | .own n, .own m => some ⟨.own (if t.k ≤ n + 1 then m else if u.k ≤ m + 1 then n else min n m), max t.k u.k⟩
    | .rd, _ => some ⟨.rd, max t.k u.k⟩
    | _, .rd => some ⟨.rd, max t.k u.k⟩
    | _, _ => some ⟨.frz, max t.k u.k⟩
  | _, _ => none
def joinΓ : List STy → List STy → List STy
  | a :: Γ, b :: Δ => joinTy a b :: joinΓ Γ Δ
  | _, _ => []
def setTs (is : List Nat) (t : Ty) (Γ : List STy) : List STy := is.foldl (fun Γ i => Γ.set i (some t)) Γ
/-- what each name of a target is, of a thing u -/
def Tgt.tys (t : Tgt) (u : Ty) : List (Nat × Ty) := match t with
  | .nm i => [(i, if u.k = 0 then imm else u)]
  | .tp is => is.map fun i => (i, imm)
  | .tpo ps => ps.map fun p => (p.1, mkT u.p p.2)
def bindT (ps : List (Nat × Ty)) (Γ : List STy) : List STy := ps.foldl (fun Γ p => Γ.set p.1 (some p.2)) Γ
def elemOk (t : Tgt) (u : Ty) : Bool := match t with | .nm _ => true | .tp _ => u.k == 0 | .tpo _ => true
/-- read in passing: what is its own below the top is frozen -/
def Ty.rd (t : Ty) : Ty := match t.p with | .own (_ + 1) => ⟨.own 0, t.k⟩ | _ => t
/-- an item of it (of a list: one level down) -/
def Ty.item (t : Ty) : Option Ty := match t.p with
  | .own 0 => some (mkT .frz (t.k - 1))
  | .own _ => none
  | .frz => some (mkT .frz (t.k - 1))
  | .rd => some (mkT .rd (t.k - 1))
  | .bor 0 _ => some (mkT .frz (t.k - 1))
  | .bor (n + 1) xs => some (mkT (.bor n xs) (t.k - 1))
/-- a part of it (of a tuple: the same level) -/
def Ty.part (t : Ty) : Option Ty := if t.k = 0 then some imm else match t.p with
  | .own _ => none
  | p => some ⟨p, t.k⟩
/-- its items, or parts, may go into a new own container -/
def Ty.copy (t : Ty) : Bool := decide (t.k ≤ 1) || (match t.p with | .own _ => true | .frz => true | .bor 0 _ => true | _ => false)
mutual
def tyE (G : TC) (Γ : List STy) (Θ : List Ty) : E → Option (Ty × List STy)
  | .var i m => match Γ[i]? with
    | some (some t) => if t.k = 0 then some (imm, Γ) else match m, t.p with
      | .bor, .own n => some (⟨.bor n [i], t.k⟩, Γ)
      | .frz, .own _ => some (⟨.frz, t.k⟩, Γ.set i (some ⟨.frz, t.k⟩))
      | .shl, .own _ => some (⟨.bor 0 [i], t.k⟩, Γ.set i (some ⟨.own 0, t.k⟩))
      | .mov, .own n => if noBor i Θ then some (⟨.own n, t.k⟩, Γ.set i none) else none
      | _, .frz => some (⟨.frz, t.k⟩, Γ)
      | _, .rd => some (⟨.rd, t.k⟩, Γ)
      | _, _ => none
    | _ => none
  | .non => some (imm, Γ)
  | .bl _ => some (imm, Γ)
  | .int _ => some (imm, Γ)
  | .str _ => some (imm, Γ)
  | .glb g => some (mkT .frz (G.gk g), Γ)
  | .tup es => match tyEs G Γ Θ es with
    | some (ts, Γ') => if ts.all Ty.free then (if maxk ts = 0 then some (imm, Γ') else if levs ts = 0 then some (⟨.frz, maxk ts⟩, Γ') else some (⟨.own (levs ts - 1), maxk ts⟩, Γ')) else none
    | none => none
  | .lst es => match tyEs G Γ Θ es with
    | some (ts, Γ') => if ts.all Ty.free then some (⟨.own (levs ts), maxk ts + 1⟩, Γ') else none
    | none => none
  | .bin l op a b => match tyE G Γ Θ a with
    | some (t, Γ1) => match tyE G Γ1 (t :: Θ) b with
      | some (u, Γ2) => if l then (if t.copy ∧ u.copy ∧ 1 ≤ t.k ∧ (op = .Mult → t.p ≠ .rd) then some (⟨.own 0, max t.k u.k⟩, Γ2) else none) else (if t.k = 0 ∧ u.k = 0 then some (imm, Γ2) else none)
      | none => none
    | none => none
  | .cmp _ a b => match tyE G Γ Θ a with
    | some (t, Γ1) => match tyE G Γ1 (t :: Θ) b with
      | some (u, Γ2) => some (imm, Γ2)
      | none => none
    | none => none
  | .chn _ _ a b c => match tyE G Γ Θ a with
    | some (t, Γ1) => match tyE G Γ1 (t :: Θ) b with
      | some (u, Γ2) => match tyE G Γ2 (u :: t :: Θ) c with
        | some (w, Γ3) => if Γ3 = Γ2 then some (imm, Γ2) else none
        | none => none
      | none => none
    | none => none
  | .dnew => some (⟨.own 8, 1⟩, Γ)
  | .done a b => match tyE G Γ (⟨.own 0, 1⟩ :: Θ) a with
    | some (t, Γ1) => match tyE G Γ1 (t :: ⟨.own 0, 1⟩ :: Θ) b with
      | some (u, Γ2) => if t.k = 0 ∧ u.free = true then some (⟨.own (levs [u]), u.k + 1⟩, Γ2) else none
      | none => none
    | none => none
  | .dp k a => match tyE G Γ Θ a with
    | some (t, Γ1) => some (mkT t.p k, Γ1)
    | none => none
  | .ife c a b => match tyE G Γ Θ c with
    | some (_, Γ1) => match tyE G Γ1 Θ a, tyE G Γ1 Θ b with
      | some (t, Γ2), some (u, Γ3) => if t.k = 0 ∧ u.k = 0 ∧ Γ2 = Γ3 then some (imm, Γ2) else none
      | _, _ => none
    | none => none
  | .lrng es => match tyEs G Γ Θ es with
    | some (ts, Γ1) => if ts.all (fun t => t.k == 0) then some (⟨.own 0, 1⟩, Γ1) else none
    | none => none
  | .maxd a => match tyE G Γ Θ a with
    | some (_, Γ1) => some (imm, Γ1)
    | none => none
  | .sset a => match tyE G Γ Θ a with
    | some (_, Γ1) => some (⟨.own 0, 1⟩, Γ1)
    | none => none
  | .lset a => match tyE G Γ Θ a with
    | some (_, Γ1) => some (imm, Γ1)
    | none => none
  | .revl a => match tyE G Γ Θ a with
    | some (t, Γ1) => if t.copy ∧ 1 ≤ t.k then some (⟨.own 0, t.k⟩, Γ1) else none
    | none => none
  | .neg a => match tyE G Γ Θ a with
    | some (t, Γ1) => some (imm, Γ1)
    | none => none
  | .not_ a => match tyE G Γ Θ a with
    | some (t, Γ1) => some (imm, Γ1)
    | none => none
  | .bop _ a b => match tyE G Γ Θ a with
    | some (t, Γ1) => match tyE G Γ1 Θ b with
      | some (u, Γ2) => if t.k = 0 ∧ u.k = 0 ∧ Γ2 = Γ1 then some (imm, Γ1) else none
      | none => none
    | none => none
  | .idx h a i => match tyE G Γ Θ a with
    | some (t, Γ1) => match tyE G Γ1 (t.rd :: Θ) i with
      | some (u, Γ2) => match (if h then (if t.k = 0 then none else t.rd.item) else t.rd.part) with
        | some r => if u.k = 0 then some (r, Γ2) else none
        | none => none
      | none => none
    | none => none
  | .slc l a lo hi => match tyE G Γ Θ a with
    | some (t, Γ1) => match tyOE G Γ1 (t :: Θ) lo with
      | some Γ2 => match tyOE G Γ2 (t :: Θ) hi with
        | some Γ3 => if l then (if t.copy ∧ 1 ≤ t.k then some (⟨.own 0, t.k⟩, Γ3) else none) else (if t.k = 0 then some (imm, Γ3) else none)
        | none => none
      | none => none
    | none => none
  | .call f as => match G.sig f with
    | some s => match tyAs G Γ Θ s.ps as with
      | some (_, Γ') => some (mkT s.p s.k, Γ')
      | none => none
    | none => none
  | .bi b es => match tyEs G Γ Θ es with
    | some (ts, Γ') => match b with
      | .list l => if ts.all fun t => decide (t.k ≤ 1) && (l || t.k == 0) then some (⟨.own 0, 1⟩, Γ') else none
      | .tuple l => if ts.all fun t => decide (t.k ≤ 1) && (l || t.k == 0) then some (imm, Γ') else none
      | .dict => if ts.all fun t => decide (t.k ≤ 1) then some (⟨.own 0, 1⟩, Γ') else none
      | .sorted => if ts.all fun t => decide (t.k ≤ 1) then some (⟨.own 0, 1⟩, Γ') else none
      | _ => some (imm, Γ')
    | none => none
  | .bm _ o es => match tyE G Γ Θ o with
    | some (t, Γ1) => match tyEs G Γ1 (t :: Θ) es with
      | some (ts, Γ2) => some (imm, Γ2)
      | none => none
    | none => none
  | .mu m i es => if (Γ[i]?.join).isNone then none else match tyEs G Γ Θ es with
    | some (ts, Γ') => match Γ'[i]? with
      | some (some t) => match t.p with
        | .own n => if 1 ≤ t.k ∧ noBor i Θ ∧ noBor i ts then (match m with
          | .append => if ts.all Ty.free then some (imm, Γ'.set i (some ⟨.own (min t.lev (levs ts + 1) - 1), max t.k (maxk ts + 1)⟩)) else none
          | .extend => if ts.all fun u => u.copy && decide (1 ≤ u.k) then some (imm, Γ'.set i (some ⟨.own 0, max t.k (maxk ts)⟩)) else none
          | .clear => some (imm, Γ')
          | _ => some (mkT .frz (t.k - 1), Γ'.set i (some ⟨.own 0, t.k⟩))) else none
        | _ => none
      | _ => none
    | none => none
  | .comp t it c e => match tyIt G Γ Θ it with
    | some (us, u, Γ1) => match tyE G (bindT (t.tys u) Γ1) (⟨.own 0, 1⟩ :: us ++ Θ) e with
      | some (w0, _) => match tyOE G (bindT (t.tys u) Γ1) (⟨.own w0.lev, w0.k + 1⟩ :: us ++ Θ) c with
        | some Γ2 => match tyE G Γ2 (⟨.own w0.lev, w0.k + 1⟩ :: us ++ Θ) e with
          | some (w, Γ3) => if w.free ∧ w = w0 ∧ elemOk t u = true ∧ u.p.inSlot = true ∧ Γ2 = bindT (t.tys u) Γ1 ∧ Γ3 = Γ2 ∧ t.slots.all (fun i => match Γ1[i]? with | some (some t) => t.k == 0 | some none => true | none => false) ∧ t.slots.all (fun i => noBor i (us ++ Θ)) ∧ t.slots.Nodup then some (⟨.own w0.lev, w0.k + 1⟩, Γ1) else none
          | none => none
        | none => none
      | none => none
    | none => none
def tyEs (G : TC) (Γ : List STy) (Θ : List Ty) : Es → Option (List Ty × List STy)
  | .nil => some ([], Γ)
  | .cons e es => match tyE G Γ Θ e with
    | some (t, Γ1) => match tyEs G Γ1 (t :: Θ) es with
      | some (ts, Γ2) => some (t :: ts, Γ2)
      | none => none
    | none => none
def tyOE (G : TC) (Γ : List STy) (Θ : List Ty) : OE → Option (List STy)
  | .none => some Γ
  | .some e => match tyE G Γ Θ e with
    | some (_, Γ1) => some Γ1
    | none => none
/-- the arguments by the parameters' modes; the places that are handed on come last -/
def tyAs (G : TC) (Γ : List STy) (Θ : List Ty) : List PM → As → Option (List Ty × List STy)
  | [], .nil => some ([], Γ)
  | .inn k :: ps, .val e as => match tyE G Γ Θ e with
    | some (t, Γ1) => if t.k ≤ k then (match tyAs G Γ1 (t :: Θ) ps as with
      | some (ts, Γ2) => some (t :: ts, Γ2)
      | none => none) else none
    | none => none
  | .ino n k :: ps, .own e as => match tyE G Γ Θ e with
    | some (t, Γ1) => match t.p with
      | .own m => if t.k ≤ k ∧ lowOk t.k m n then (match tyAs G Γ1 (t :: Θ) ps as with
        | some (ts, Γ2) => some (t :: ts, Γ2)
        | none => none) else none
      | _ => none
    | none => none
  | .ino n k :: ps, .ino i as => match Γ[i]? with
    | some (some _) => match tyAs G Γ (imm :: Θ) ps as with
      | some (ts, Γ2) => match Γ2[i]? with
        | some (some u) => match u.p with
          | .own m => if u.k ≤ k ∧ lowOk u.k m n ∧ noBor i Θ ∧ noBor i ts ∧ as.inos.contains i = false then some (imm :: ts, Γ2.set i (some ⟨.own n, k⟩)) else none
          | _ => none
        | _ => none
      | none => none
    | _ => none
  | _, _ => none
def tyIt (G : TC) (Γ : List STy) (Θ : List Ty) : It → Option (List Ty × Ty × List STy)
  | .low i it => match tyIt G Γ Θ it with
    | some (us, u, Γ1) => match Γ1[i]? with
      | some (some t) => match t.p with
        | .own _ => some (us, u, Γ1.set i (some ⟨.own 0, t.k⟩))
        | _ => none
      | _ => none
    | none => none
  | .val l e => match tyE G Γ Θ e with
    | some (t, Γ1) => match (if l then (if t.k = 0 then none else t.rd.item) else t.rd.part) with
      | some u => if u.p.inSlot then some ([t.rd], u, Γ1) else none
      | none => none
    | none => none
  | .rng es => match tyEs G Γ Θ es with
    | some (ts, Γ1) => if ts.all (fun t => t.k == 0) then some ([], imm, Γ1) else none
    | none => none
  | .enum l e => match tyE G Γ Θ e with
    | some (t, Γ1) => if t.k ≤ 1 ∧ (l = true ∨ t.k = 0) then some ([t], imm, Γ1) else none
    | none => none
  | .zip l1 l2 a b => match tyE G Γ Θ a with
    | some (t, Γ1) => match tyE G Γ1 (t :: Θ) b with
      | some (u, Γ2) => if t.k ≤ 1 ∧ (l1 = true ∨ t.k = 0) ∧ u.k ≤ 1 ∧ (l2 = true ∨ u.k = 0) then some ([u, t], imm, Γ2) else none
      | none => none
    | none => none
  | .zip3 l1 l2 l3 a b c => match tyE G Γ Θ a with
    | some (t, Γ1) => match tyE G Γ1 (t :: Θ) b with
      | some (u, Γ2) => match tyE G Γ2 (u :: t :: Θ) c with
        | some (r, Γ3) => if (t.k ≤ 1 ∧ (l1 = true ∨ t.k = 0)) ∧ (u.k ≤ 1 ∧ (l2 = true ∨ u.k = 0)) ∧ r.k ≤ 1 ∧ (l3 = true ∨ r.k = 0) then some ([r, u, t], imm, Γ3) else none
        | none => none
      | none => none
    | none => none
end
/-- what a statement is checked by: the promise of the def; B: what holds where a loop is left or goes on -/
structure RC where
  ino : List (Nat × Nat × Nat)
  p : Perm
  k : Nat
/-- not a place that is handed on -/
def RC.free (R : RC) (i : Nat) : Bool := R.ino.all fun p => p.1 != i
def retOk (R : RC) (t : Ty) (Γ : List STy) : Bool := t.free && subTy (some t) (some ⟨R.p, R.k⟩) && R.ino.all fun p => subTy (Γ[p.1]?.join) (some ⟨.own p.2.1, p.2.2⟩)
abbrev SRes := Option (Option (List STy))
def joinR : Option (List STy) → Option (List STy) → Option (List STy)
  | none, b => b
  | a, none => a
  | some a, some b => some (joinΓ a b)
mutual
def tyS (G : TC) (R : RC) (B : List STy) (Γ : List STy) (Θ : List Ty) : S → SRes
  | .asg t e => match tyE G Γ Θ e with
    | some (u, Γ1) => if elemOk t u ∧ u.p.inSlot = true ∧ t.slots.all (fun i => decide (i < Γ1.length) && noBor i Θ && R.free i) ∧ t.slots.Nodup then some (some (bindT (t.tys u) Γ1)) else none
    | none => none
  | .setI i k e => match tyE G Γ Θ e with
    | some (u, Γ1) => if (Γ1[i]?.join).isNone then none else match tyE G Γ1 (u :: Θ) k with
      | some (w, Γ2) => match Γ2[i]? with
        | some (some t) => match t.p with
          | .own n => if noBor i Θ ∧ noBor i [u] ∧ u.free ∧ 1 ≤ t.k ∧ w.k = 0 then some (some (Γ2.set i (some ⟨.own (min t.lev (u.lev + 1) - 1), max t.k (u.k + 1)⟩))) else none
          | _ => none
        | _ => none
      | none => none
    | none => none
  | .expr e => match tyE G Γ Θ e with
    | some (_, Γ1) => some (some Γ1)
    | none => none
  | .ret e => match tyE G Γ Θ e with
    | some (t, Γ1) => if retOk R t Γ1 then some none else none
    | none => none
  | .retN => if retOk R imm Γ then some none else none
  | .if_ c a b => match tyE G Γ Θ c with
    | some (_, Γ1) => match tySs G R B Γ1 Θ a, tySs G R B Γ1 Θ b with
      | some x, some y => match joinR x y with
        | some Δ => if (match x with | some Γ => subΓ Γ Δ | none => true) && (match y with | some Γ => subΓ Γ Δ | none => true) then some (some Δ) else none
        | none => some none
      | _, _ => none
    | none => none
  | .for_ Δ t it b => match tyIt G Γ Θ it with
    | some (us, u, Γ1) => if subΓ Γ1 Δ && elemOk t u && decide t.slots.Nodup && t.slots.all (fun i => decide (i < Δ.length) && noBor i (us ++ Θ) && R.free i) then
        (match tySs G R Δ (bindT (t.tys u) Δ) (us ++ Θ) b with
          | some (some Γ2) => if subΓ Γ2 Δ then some (some Δ) else none
          | some none => some (some Δ)
          | none => none) else none
    | none => none
  | .while_ Δ c b => if subΓ Γ Δ then
      (match tyE G Δ Θ c with
        | some (_, Γ1) => if subΓ Γ1 Δ then (match tySs G R Δ Γ1 Θ b with
          | some (some Γ2) => if subΓ Γ2 Δ then some (some Δ) else none
          | some none => some (some Δ)
          | none => none) else none
        | none => none) else none
  | .brk => if subΓ Γ B then some none else none
  | .cnt => if subΓ Γ B then some none else none
  | .pass => some (some Γ)
  | .dead => some none
def tySs (G : TC) (R : RC) (B : List STy) (Γ : List STy) (Θ : List Ty) : Ss → SRes
  | .nil => some (some Γ)
  | .cons s ss => match tyS G R B Γ Θ s with
    | some (some Γ1) => tySs G R B Γ1 Θ ss
    | some none => some none
    | none => none
end
end Pm

namespace Pm
open PySem L2
variable [W : Wd]

mutual
/-- own down to where nothing changes: any more levels -/
theorem Rep.up {K : PySem.W.Frag} {H : Hp} {Z : Option Addr → Prop} (m : Nat) : ∀ {n : Nat} {d : D} {v : V} {F : Fp}, Rep K H Z n d v F → d.dep n = true → n ≤ m → Rep K H Z m d v F
  | _, _, _, _, .non, _, _ => .non
  | _, _, _, _, .bl b, _, _ => .bl b
  | _, _, _, _, .int i, _, _ => .int i
  | _, _, _, _, .str s h, _, _ => .str s h
  | _, _, _, _, .tup h r, e, hm => .tup h (Reps.up m r (by simpa [D.dep] using e) hm)
  | n + 1, _, _, _, .lst h r, e, hm => match m, hm with
    | m + 1, hm => .lst h (Reps.up m r (by simpa [D.dep] using e) (by omega))
    | 0, hm => absurd hm (by omega)
  | _, _, _, _, .lst0 _ _ _, e, _ => by simp [D.dep] at e
  | _, _, _, _, .lstF _ _, e, _ => by simp [D.dep] at e
  | _, _, _, _, .lstW _ _ _, e, _ => by simp [D.dep] at e
  | n + 1, _, _, _, .dic h o dk k r, e, hm => match m, hm with
    | m + 1, hm => .dic h o dk k (Reps.up m r (by simp [D.dep] at e; exact e.2) (by omega))
    | 0, hm => absurd hm (by omega)
  | _, _, _, _, .dic0 _ _ _ _ _ _, e, _ => by simp [D.dep] at e
  | _, _, _, _, .dicW _ _ _ _ _, e, _ => by simp [D.dep] at e
  | n + 1, _, _, _, .ins h g l r, e, hm => match m, hm with
    | m + 1, hm => .ins h g l (Reps.up m r (by simpa [D.dep] using e) (by omega))
    | 0, hm => absurd hm (by omega)
  | _, _, _, _, .ins0 _ _ _ _ _, e, _ => by simp [D.dep] at e
theorem Reps.up {K : PySem.W.Frag} {H : Hp} {Z : Option Addr → Prop} (m : Nat) : ∀ {n : Nat} {ds : List D} {vs : List V} {F : Fp}, Reps K H Z n ds vs F → D.deps n ds = true → n ≤ m → Reps K H Z m ds vs F
  | _, _, _, _, .nil, _, _ => .nil
  | _, _, _, _, .cons h r, e, hm => by
    simp only [D.deps, Bool.and_eq_true] at e
    exact .cons (Rep.up m h e.1 hm) (Reps.up m r e.2 hm)
end
/-- to any number of levels that lowOk allows: what is no more its own is frozen -/
theorem Rep.to {K : PySem.W.Frag} {H : Hp} {Z : Option Addr → Prop} {n m : Nat} {d : D} {v : V} {F : Fp} (r : Rep K H Z n d v F) (nd : F.Nodup) (h : m ≤ n ∨ d.dep n = true) :
    ∃ F' : Fp, F'.Sublist F ∧ ∀ Z' : Option Addr → Prop, (∀ a, Z a → Z' a) → (∀ a ∈ F, a ∉ F' → Z' (some a)) → Rep K H Z' m d v F' := by
  by_cases e : m ≤ n
  · exact r.low m nd e
  · have hd : d.dep n = true := h.elim (fun z => absurd z e) id
    exact ⟨F, List.Sublist.refl _, fun Z' zz _ => (r.up m hd (by omega)).z zz⟩
theorem Reps.to {K : PySem.W.Frag} {H : Hp} {Z : Option Addr → Prop} {n m : Nat} {d : List D} {v : List V} {F : Fp} (r : Reps K H Z n d v F) (nd : F.Nodup) (h : m ≤ n ∨ D.deps n d = true) :
    ∃ F' : Fp, F'.Sublist F ∧ ∀ Z' : Option Addr → Prop, (∀ a, Z a → Z' a) → (∀ a ∈ F, a ∉ F' → Z' (some a)) → Reps K H Z' m d v F' := by
  by_cases e : m ≤ n
  · exact r.low m nd e
  · have hd : D.deps n d = true := h.elim (fun z => absurd z e) id
    exact ⟨F, List.Sublist.refl _, fun Z' zz _ => (r.up m hd (by omega)).z zz⟩

def hiTmp (n : Nat) : Id → Prop | .tmp j => n ≤ j | _ => False
/-- the labels that a change of the slots is and of the temporaries above takes -/
def touch (is : List Nat) (n : Nat) : Id → Prop
  | .slot i => i ∈ is
  | .tmp j => n ≤ j
  | _ => False
theorem touch_hot {is : List Nat} {n : Nat} {i : Id} (h : touch is n i) : i.hot = true := by cases i <;> first | rfl | exact h.elim
theorem tempsOff_touch {is : List Nat} {n : Nat} : ∀ {Θ : List Ty}, Θ.length ≤ n → (∀ i ∈ is, Pm.noBor i Θ = true) → tempsOff (touch is n) Θ
  | [], _, _ => trivial
  | ty :: Θ, h, hb => by
    have h' : Θ.length < n := by simp at h; omega
    have hb' : ∀ i ∈ is, (match ty.p with | .bor _ xs => !xs.contains i | _ => true) = true ∧ Pm.noBor i Θ = true := fun i hi => by
      have := hb i hi
      unfold Pm.noBor at this
      rw [List.all_cons, Bool.and_eq_true] at this
      exact this
    refine ⟨?_, tempsOff_touch (Nat.le_of_lt h') fun i hi => (hb' i hi).2⟩
    cases hp : ty.p with
    | own m => exact fun z => absurd (show n ≤ Θ.length from z) (by omega)
    | frz => trivial
    | rd => trivial
    | bor m xs =>
      intro j hj z
      have := (hb' j z).1
      rw [hp] at this
      simp [hj] at this
theorem TempOk.drop {K : PySem.W.Frag} {H : Hp} {ow : Addr → Id} {Θ : List Ty} {θ : List (D × V)} : ∀ {Θs : List Ty} {θs : List (D × V)}, TempOk K H ow (Θs ++ Θ) (θs ++ θ) → Θs.length = θs.length → TempOk K H ow Θ θ
  | [], [], h, _ => h
  | _ :: Θs, (_, _) :: θs, h, e => TempOk.drop (Θs := Θs) (θs := θs) h.2 (by simpa using e)
  | [], _ :: _, _, e => by simp at e
  | _ :: _, [], _, e => by simp at e
def labL : List (Nat × Fp) → Addr → Option Nat
  | [], _ => none
  | p :: L, a => if a ∈ p.2 then some p.1 else labL L a
def allL (L : List (Nat × Fp)) : Fp := (L.map (·.2)).flatten
theorem mem_allL {L : List (Nat × Fp)} {a : Addr} : a ∈ allL L ↔ ∃ p ∈ L, a ∈ p.2 := by
  unfold allL
  rw [List.mem_flatten]
  constructor
  · rintro ⟨l, hl, ha⟩
    obtain ⟨p, hp, rfl⟩ := List.mem_map.mp hl
    exact ⟨p, hp, ha⟩
  · rintro ⟨p, hp, ha⟩
    exact ⟨p.2, List.mem_map.mpr ⟨p, hp, rfl⟩, ha⟩
theorem labL_mem : ∀ {L : List (Nat × Fp)} {a : Addr} {i : Nat}, labL L a = some i → ∃ p ∈ L, p.1 = i ∧ a ∈ p.2
  | [], _, _, h => by cases h
  | p :: L, a, i, h => by
    unfold labL at h
    by_cases e : a ∈ p.2
    · rw [if_pos e] at h; cases h; exact ⟨p, List.mem_cons_self, rfl, e⟩
    · rw [if_neg e] at h
      obtain ⟨q, hq, z⟩ := labL_mem h
      exact ⟨q, List.mem_cons_of_mem _ hq, z⟩
theorem labL_none : ∀ {L : List (Nat × Fp)} {a : Addr}, a ∉ allL L → labL L a = none := fun {L a} h => by
  cases e : labL L a with
  | none => rfl
  | some i =>
    obtain ⟨p, hp, _, ha⟩ := labL_mem e
    exact absurd (mem_allL.mpr ⟨p, hp, ha⟩) h
theorem labL_of : ∀ {L : List (Nat × Fp)} {a : Addr} {p : Nat × Fp}, (allL L).Nodup → p ∈ L → a ∈ p.2 → labL L a = some p.1
  | q :: L, a, p, nd, hp, ha => by
    simp only [allL, List.map_cons, List.flatten_cons] at nd
    obtain ⟨_, nd2, dj⟩ := List.nodup_append.mp nd
    unfold labL
    rcases List.mem_cons.mp hp with rfl | hp
    · rw [if_pos ha]
    · rw [if_neg fun e => ?_]
      · exact labL_of nd2 hp ha
      · exact dj a e a (mem_allL.mpr ⟨p, hp, ha⟩) rfl
open Classical in
/-- the labels behind a change: the new temporary's, the slots', the frozen ones -/
noncomputable def trOw (H : Hp) (is : List Nat) (n : Nat) (Fr : Fp) (L : List (Nat × Fp)) (ow : Addr → Id) : Addr → Id := fun a =>
  if a ∈ Fr then .tmp n else match labL L a with
    | some i => .slot i
    | none => if touch is n (ow a) ∨ H a = none then .frz else ow a
/-- .. what is frozen then, for certain -/
def zN (H H' : Hp) (is : List Nat) (n : Nat) (Fr : Fp) (L : List (Nat × Fp)) (ow : Addr → Id) : Option Addr → Prop
  | none => False
  | some a => H' a ≠ none ∧ a ∉ Fr ∧ a ∉ allL L ∧ (ow a = .frz ∨ touch is n (ow a) ∨ H a = none)
section
variable {K : PySem.W.Frag} {H0 H H' : Hp} {M : Mz} {ow ow' : Addr → Id} {Γ Γ' : List STy} {ρ ρ' : Penv} {σ σ' : St} {Θ Θs : List Ty} {θ θs : List (D × V)} {is : List Nat} {n : Nat} {Fr : Fp} {L : List (Nat × Fp)}
theorem zN.out {o : Option Addr} {p : Perm} (h : zN H H' is n Fr L ow o) : zOf (trOw H is n Fr L ow) H' p o := by
  cases o with
  | none => exact h.elim
  | some a =>
    obtain ⟨h1, h2, h3, h4⟩ := h
    have e : trOw H is n Fr L ow a = .frz := by
      unfold trOw
      rw [if_neg h2, labL_none h3]
      rcases h4 with h4 | h4
      · by_cases z : touch is n (ow a) ∨ H a = none
        · simp [z]
        · simp [z, h4]
      · simp [h4]
    have q : zOf (trOw H is n Fr L ow) H' .frz (some a) := ⟨e, h1⟩
    exact q.frz
theorem zN.of {o : Option Addr} {p : Perm} (hp : p ≠ .rd) (z : zOf ow H p o) (x : Ext (fun a => touch is n (ow a)) H H') (h1 : ∀ a, o = some a → a ∉ Fr) (h2 : ∀ a, o = some a → a ∉ allL L) : zN H H' is n Fr L ow o := by
  have q := zOf.of hp z
  cases o with
  | none => exact q.elim
  | some a => exact ⟨x.there a q.2, h1 a rfl, h2 a rfl, .inl q.1⟩
/-- .. or was so before, by a permission -/
def zT (H H' : Hp) (is : List Nat) (n : Nat) (Fr : Fp) (L : List (Nat × Fp)) (ow : Addr → Id) (p : Perm) : Option Addr → Prop := fun o => zN H H' is n Fr L ow o ∨ zOf ow H p o
/-- the slots in is are changed; a new temporary is told; those above are taken -/
theorem Rw.tr (R : Rw K H0 M ow Γ ρ σ (Θs ++ Θ) (θs ++ θ) H) (hl : Θs.length = θs.length) {ty : Ty} {d : D} {v : V}
    (hn : ∀ i ∈ is, Pm.noBor i Θ = true) (hL : ∀ p ∈ L, p.1 ∈ is) (x : Ext (fun a => touch is Θ.length (ow a)) H H')
    (nd : (Fr ++ allL L).Nodup) (hFr : ∀ a ∈ Fr, H a = none ∨ touch is Θ.length (ow a)) (hFs : ∀ a ∈ allL L, H a = none ∨ touch is Θ.length (ow a))
    (r : Rep K H' (zT H H' is Θ.length Fr L ow ty.p) ty.p.lv d v Fr) (hd : d.dep ty.k = true) (ho : ty.p.isOwn = true ∨ (Fr = [] ∧ ty.p.inSlot = true))
    (eΓ : Γ'.length = Γ.length) (eρ : ρ'.length = ρ.length) (eσ : σ'.length = σ.length)
    (hS : ∀ i ∈ is, ∀ ty', Γ'[i]? = some (some ty') → ty'.p.inSlot = true ∧ ∀ d', ρ'[i]? = some (some d') → ∃ v' F, σ'[i]? = some (some v') ∧ Rep K H' (zT H H' is Θ.length Fr L ow ty'.p) ty'.p.lv d' v' F ∧ d'.dep ty'.k = true ∧ (F = [] ∨ ((i, F) ∈ L ∧ ty'.p.isOwn = true)))
    (mL : ∀ a ∈ allL L, Mut (H' a))
    (hO : ∀ i, i ∉ is → Γ'[i]? = Γ[i]? ∧ ρ'[i]? = ρ[i]? ∧ σ'[i]? = σ[i]?) : Rw K H0 M (trOw H is Θ.length Fr L ow) Γ' ρ' σ' (ty :: Θ) ((d, v) :: θ) H' := by
  obtain ⟨T, hTd⟩ : ∃ T : Id → Prop, T = touch is Θ.length := ⟨_, rfl⟩
  obtain ⟨nd1, nd2, dj⟩ := List.nodup_append.mp nd
  obtain ⟨w, hw⟩ : ∃ w : Addr → Id, w = trOw H is Θ.length Fr L ow := ⟨_, rfl⟩
  have w1 : ∀ a ∈ Fr, w a = .tmp Θ.length := fun a ha => by rw [hw]; unfold trOw; simp [ha]
  have w2 : ∀ p ∈ L, ∀ a ∈ p.2, w a = .slot p.1 := fun p hp a ha => by
    have n : a ∉ Fr := fun z => dj a z a (mem_allL.mpr ⟨p, hp, ha⟩) rfl
    rw [hw]; unfold trOw; simp [n, labL_of nd2 hp ha]
  have w3 : ∀ a, w a = .tmp Θ.length ∧ a ∈ Fr ∨ (∃ p ∈ L, w a = .slot p.1 ∧ a ∈ p.2) ∨ (w a = .frz ∧ (touch is Θ.length (ow a) ∨ H a = none)) ∨ (w a = ow a ∧ ¬ touch is Θ.length (ow a) ∧ H a ≠ none) := fun a => by
    by_cases h1 : a ∈ Fr
    · exact .inl ⟨w1 a h1, h1⟩
    · cases h2 : labL L a with
      | some i =>
        obtain ⟨p, hp, e, ha⟩ := labL_mem h2
        exact .inr (.inl ⟨p, hp, w2 p hp a ha, ha⟩)
      | none =>
        by_cases h3 : touch is Θ.length (ow a) ∨ H a = none
        · exact .inr (.inr (.inl ⟨by rw [hw]; unfold trOw; simp [h1, h2, h3], h3⟩))
        · exact .inr (.inr (.inr ⟨by rw [hw]; unfold trOw; simp [h1, h2, h3], fun z => h3 (.inl z), fun z => h3 (.inr z)⟩))
  have tm : ∀ a, touch is Θ.length (ow a) → Mut (H a) := fun a h => R.mt a (touch_hot h)
  have s : Step (touch is Θ.length) ow w H H' := by
    refine ⟨x, fun a h1 h2 => ?_, tm, id, id⟩
    rcases w3 a with ⟨_, z⟩ | ⟨p, hp, _, z⟩ | ⟨_, z⟩ | ⟨z, _⟩
    · exact ((hFr a z).elim h1 h2).elim
    · exact ((hFs a (mem_allL.mpr ⟨p, hp, z⟩)).elim h1 h2).elim
    · exact (z.elim h2 h1).elim
    · exact z
  have zz : ∀ {p : Perm} a, zT H H' is Θ.length Fr L ow p a → zOf w H' p a := fun {p} a h => by
    rcases h with h | h
    · rw [hw]; exact h.out
    · exact (zOf.step s h).2
  rw [← hw]
  refine { lρ := by rw [eρ, eΓ]; exact R.lρ, lσ := by rw [eσ, eΓ]; exact R.lσ, nb := fun i ty' h => ?_, slot := fun i ty' d' h1 h2 => ?_, temp := ⟨⟨Fr, r.z fun a => zz a, hd, ?_⟩, (R.temp.drop hl).step s (tempsOff_touch (Nat.le_refl _) hn)⟩, ext := R.stays s, mt := fun a h => ?_, hm := fun a h => ?_, old := fun a h1 h2 => ?_, hiT := fun a j h => ?_ }
  · by_cases hi : i ∈ is
    · exact (hS i hi ty' h).1
    · rw [(hO i hi).1] at h; exact R.nb i ty' h
  · by_cases hi : i ∈ is
    · obtain ⟨v', F, g2, g4, g5, g6⟩ := (hS i hi ty' h1).2 d' h2
      refine ⟨v', g2, F, g4.z fun a => zz a, g5, ?_⟩
      rcases g6 with rfl | ⟨g6, g7⟩
      · exact LabOk.nil
      · cases hp : ty'.p with
        | own m => exact ⟨nd2.sublist (List.sublist_flatten_of_mem (List.mem_map.mpr ⟨(i, F), g6, rfl⟩)), w2 (i, F) g6⟩
        | frz => trivial
        | rd => trivial
        | bor m xs => rw [hp] at g7; cases g7
    · obtain ⟨e1, e2, e3⟩ := hO i hi
      rw [e1] at h1; rw [e2] at h2
      obtain ⟨v', e, q⟩ := R.slot i ty' d' h1 h2
      refine ⟨v', by rw [e3]; exact e, q.step s ?_⟩
      cases hp : ty'.p with
      | own m => exact hi
      | frz => trivial
      | rd => trivial
      | bor m xs => have := R.nb i ty' h1; rw [hp] at this; cases this
  · cases hp : ty.p with
    | own m => exact ⟨nd1, w1⟩
    | frz => trivial
    | rd => trivial
    | bor m xs =>
      rcases ho with ho | ⟨_, ho⟩
      · rw [hp] at ho; cases ho
      · rw [hp] at ho; cases ho
  · rcases w3 a with ⟨_, z⟩ | ⟨p, hp, _, z⟩ | ⟨e, _⟩ | ⟨e, z, _⟩
    · exact r.mut a z
    · exact mL a (mem_allL.mpr ⟨p, hp, z⟩)
    · rw [e] at h; cases h
    · rw [e] at h
      have m1 := R.mt a h
      rw [x.keep a (mut_ne m1) z]; exact m1
  · have nw : ∀ b, H b = none → M.m b ∨ H0 b = none := fun b hb => .inr (Classical.byContradiction fun z => (R.ext.there b z) hb)
    rcases w3 a with ⟨_, z⟩ | ⟨p, hp, _, z⟩ | ⟨e, _⟩ | ⟨e, z, _⟩
    · exact (hFr a z).elim (nw a) fun q => R.hm a (touch_hot q)
    · exact (hFs a (mem_allL.mpr ⟨p, hp, z⟩)).elim (nw a) fun q => R.hm a (touch_hot q)
    · rw [e] at h; cases h
    · rw [e] at h; exact R.hm a h
  · by_cases hne : H a = none
    · exact .inr (Classical.byContradiction fun z => (R.ext.there a z) hne)
    · have go : ow a ≠ .rd → M.z a ∨ H0 a = none := R.old a hne
      rcases w3 a with ⟨_, z⟩ | ⟨p, hp, _, z⟩ | ⟨_, z⟩ | ⟨e, _⟩
      · exact go fun e => by
          rcases hFr a z with q | q
          · exact hne q
          · rw [e] at q; exact q
      · exact go fun e => by
          rcases hFs a (mem_allL.mpr ⟨p, hp, z⟩) with q | q
          · exact hne q
          · rw [e] at q; exact q
      · exact go fun e => by
          rcases z with q | q
          · rw [e] at q; exact q
          · exact hne q
      · exact go (by rw [← e]; exact h2)
  · rcases w3 a with ⟨e, _⟩ | ⟨p, hp, e, _⟩ | ⟨e, _⟩ | ⟨e, z, _⟩
    · rw [e] at h; cases h; simp
    · rw [e] at h; cases h
    · rw [e] at h; cases h
    · rw [e] at h
      rw [h] at z
      simp only [List.length_cons]
      exact Nat.lt_succ_of_lt (Nat.lt_of_not_le z)
/-- the topmost temporary is let go -/
theorem Rw.pop1 {ty : Ty} {p : D × V} (R : Rw K H0 M ow Γ ρ σ (ty :: Θ) (p :: θ) H) : Rel K H0 M Γ ρ σ Θ θ H := by
  obtain ⟨d, v⟩ := p
  have hT : ∀ i, ¬ (fun j => j = Id.tmp Θ.length) (Id.slot i) := fun i z => by cases z
  have s : Step (fun j => j = .tmp Θ.length) ow (fun a => if ow a = .tmp Θ.length then .frz else ow a) H H :=
    ⟨Ext.refl, fun a _ h => if_neg h, fun a h => R.mt a (by rw [h]; rfl), (fun z => by cases z), (fun z => by cases z)⟩
  refine ⟨fun a => if ow a = .tmp Θ.length then .frz else ow a, { lρ := R.lρ, lσ := R.lσ, nb := R.nb, slot := fun i ty d h1 h2 => ?_, temp := R.temp.2.step s (tempsOff_of hT fun j hj z => by have := Id.tmp.inj z; omega), ext := R.ext, mt := fun a h => ?_, hm := fun a h => ?_, old := fun a h1 h2 => ?_, hiT := fun a j h => ?_ }⟩
  · obtain ⟨v', e, q'⟩ := R.slot i ty d h1 h2
    exact ⟨v', e, q'.step s (off_slots R.nb (fun i _ _ _ => hT i) i ty h1)⟩
  · by_cases z : ow a = .tmp Θ.length
    · simp [z, Id.hot] at h
    · simp only [z, if_false] at h; exact R.mt a h
  · by_cases z : ow a = .tmp Θ.length
    · simp [z, Id.hot] at h
    · simp only [z, if_false] at h; exact R.hm a h
  · by_cases z : ow a = .tmp Θ.length
    · exact R.old a h1 (by rw [z]; simp)
    · simp only [z, if_false] at h2; exact R.old a h1 h2
  · by_cases z : ow a = .tmp Θ.length
    · simp [z] at h
    · simp only [z, if_false] at h
      have := R.hiT a j h
      simp at this
      have : j ≠ Θ.length := fun e => z (by rw [h, e])
      omega
theorem Rel.pop {ty : Ty} {p : D × V} (R : Rel K H0 M Γ ρ σ (ty :: Θ) (p :: θ) H) : Rel K H0 M Γ ρ σ Θ θ H := R.elim fun _ r => r.pop1
theorem Rel.drop : ∀ {Θs : List Ty} {θs : List (D × V)}, Θs.length = θs.length → Rel K H0 M Γ ρ σ (Θs ++ Θ) (θs ++ θ) H → Rel K H0 M Γ ρ σ Θ θ H
  | [], [], _, R => R
  | _ :: Θs, _ :: θs, e, R => Rel.drop (Θs := Θs) (θs := θs) (by simpa using e) (Rel.pop R)
  | [], _ :: _, e, _ => by simp at e
  | _ :: _, [], e, _ => by simp at e
/-- a value is told in the place of temporaries; nothing else is changed -/
theorem Rw.res (R : Rw K H0 M ow Γ ρ σ (Θs ++ Θ) (θs ++ θ) H) (hl : Θs.length = θs.length) {ty : Ty} {d : D} {v : V} {F : Fp}
    (r : Rep K H' (zT H H' [] Θ.length F [] ow ty.p) ty.p.lv d v F) (hd : d.dep ty.k = true) (ho : ty.p.isOwn = true ∨ (F = [] ∧ ty.p.inSlot = true)) (nd : F.Nodup)
    (hF : ∀ a ∈ F, H a = none ∨ hiTmp Θ.length (ow a)) (x : Ext (fun a => hiTmp Θ.length (ow a)) H H') : Rel K H0 M Γ ρ σ (ty :: Θ) ((d, v) :: θ) H' := by
  have ht : ∀ i, hiTmp Θ.length i → touch [] Θ.length i := fun i h => by cases i <;> first | exact h | exact h.elim
  exact ⟨_, R.tr hl (is := []) (L := []) (Fr := F) (fun _ h => by simp at h) (fun _ h => by simp at h) (x.mono fun a h => ht _ h) (by simpa [allL] using nd) (fun a ha => (hF a ha).imp id (ht _)) (fun _ h => by simp [allL] at h) r hd ho rfl rfl rfl (fun _ h => by simp at h) (fun _ h => by simp [allL] at h) fun _ _ => ⟨rfl, rfl, rfl⟩⟩
/-- .. a value without lists -/
theorem Rw.resI (R : Rw K H0 M ow Γ ρ σ (Θs ++ Θ) (θs ++ θ) H) (hl : Θs.length = θs.length) {d : D} {v : V} {Z : Option Addr → Prop} {n : Nat} {F : Fp} (r : Rep K H' Z n d v F) (hd : d.dep 0 = true)
    (x : Ext (fun a => hiTmp Θ.length (ow a)) H H') : Rel K H0 M Γ ρ σ (imm :: Θ) ((d, v) :: θ) H' :=
  R.res hl (F := []) (r.imm _ _ hd).2 hd (.inr ⟨rfl, rfl⟩) List.nodup_nil (fun a h => by simp at h) x
theorem Rel.imm (R : Rel K H0 M Γ ρ σ Θ θ H) {d : D} {v : V} {Z : Option Addr → Prop} {n : Nat} {F : Fp} (r : Rep K H Z n d v F) (hd : d.dep 0 = true) : Rel K H0 M Γ ρ σ (imm :: Θ) ((d, v) :: θ) H := by
  obtain ⟨ow, R⟩ := R
  exact R.resI (Θs := []) (θs := []) rfl r hd Ext.refl
/-- the heap has grown -/
theorem Rel.ext' (x : Ext (fun _ => False) H H') (R : Rel K H0 M Γ ρ σ Θ θ H) : Rel K H0 M Γ ρ σ Θ θ H' := by
  obtain ⟨ow, R⟩ := R
  exact Rel.pop (R.res (Θs := []) (θs := []) (ty := Pm.imm) (d := .non) (v := .non) (F := []) rfl .non rfl (.inr ⟨rfl, rfl⟩) List.nodup_nil (fun _ h => by simp at h) (x.mono fun _ h => h.elim))

/-! ### some labels are given up to frz: what is borrowed of them may stay -/
open Classical in
noncomputable def cool (S : Fp) (ow : Addr → Id) : Addr → Id := fun a => if a ∈ S then .frz else ow a
theorem cool_in {S : Fp} {a : Addr} (h : a ∈ S) : cool S ow a = .frz := by unfold cool; rw [if_pos h]
theorem cool_out {S : Fp} {a : Addr} (h : a ∉ S) : cool S ow a = ow a := by unfold cool; rw [if_neg h]
theorem zOf.cool {S : Fp} {p : Perm} {o : Option Addr} (h : zOf ow H p o) : zOf (Pm.cool S ow) H p o := by
  cases o with
  | none => cases p <;> exact h
  | some a =>
    by_cases e : a ∈ S
    · have q : zOf (Pm.cool S ow) H .frz (some a) := ⟨cool_in e, by cases p <;> exact h.2⟩
      exact q.frz
    · cases p <;> simpa [zOf, cool_out e] using h
theorem EntOk.cool {S : Fp} {id : Id} {ty : Ty} {d : D} {v : V} (h : EntOk K H ow id ty d v) (hn : ty.p.isOwn = true → ∀ a ∈ S, ow a ≠ id) : EntOk K H (Pm.cool S ow) id ty d v := by
  obtain ⟨F, r, hd, hl⟩ := h
  refine ⟨F, r.z fun a => zOf.cool, hd, ?_⟩
  cases hp : ty.p with
  | own n =>
    rw [hp] at hl
    refine ⟨hl.1, fun a ha => ?_⟩
    rw [cool_out fun z => hn (by rw [hp]; rfl) a z (hl.2 a ha)]; exact hl.2 a ha
  | frz => trivial
  | rd => trivial
  | bor n xs =>
    rw [hp] at hl
    intro a ha
    by_cases e : a ∈ S
    · exact .inl (cool_in e)
    · rw [cool_out e]; exact hl a ha
theorem TempOk.cool {S : Fp} : ∀ {Θ : List Ty} {θ : List (D × V)}, TempOk K H ow Θ θ → (∀ a ∈ S, ∀ j, j < Θ.length → ow a ≠ .tmp j) → TempOk K H (Pm.cool S ow) Θ θ
  | [], [], _, _ => trivial
  | _ :: Θ, (_, _) :: θ, h, hS => ⟨h.1.cool fun _ a ha => hS a ha _ (by simp), TempOk.cool h.2 fun a ha j hj => hS a ha j (by simp; omega)⟩
  | [], _ :: _, h, _ => h.elim
  | _ :: _, [], h, _ => h.elim
/-- a slot has fewer levels of its own, or none -/
theorem Rw.lower (R : Rw K H0 M ow Γ ρ σ Θ θ H) {i : Nat} {n : Nat} {k : Nat} (h1 : Γ[i]? = some (some ⟨.own n, k⟩)) {d : D} (h2 : ρ[i]? = some (some d)) {p : Perm} {k' : Nat} (hk : k ≤ k')
    (hp : (∃ m, p = .own m ∧ lowOk k n m = true) ∨ p = .frz ∨ p = .rd) : ∃ S, Rw K H0 M (cool S ow) (Γ.set i (some ⟨p, k'⟩)) ρ σ Θ θ H := by
  obtain ⟨v, e, F, r, hd, hl⟩ := R.slot i _ d h1 h2
  have hl : F.Nodup ∧ ∀ a ∈ F, ow a = .slot i := hl
  have hi := (List.getElem?_eq_some_iff.mp h1).1
  have q : ∃ F', F'.Sublist F ∧ ∀ Z' : Option Addr → Prop, (∀ a, zOf ow H .frz a → Z' a) → (∀ a ∈ F, a ∉ F' → Z' (some a)) → Rep K H Z' p.lv d v F' := by
    rcases hp with ⟨m, rfl, hm⟩ | rfl | rfl
    · refine r.to hl.1 ?_
      unfold lowOk at hm
      rw [Bool.or_eq_true, decide_eq_true_eq, decide_eq_true_eq] at hm
      rcases hm with hm | hm
      · exact .inl (Nat.succ_le_succ hm)
      · exact .inr (D.dep_mono hm d hd)
    · exact ⟨[], List.nil_sublist _, fun Z' zz zf => r.fz zz fun a ha => zf a ha (by simp)⟩
    · exact ⟨[], List.nil_sublist _, fun Z' zz zf => r.fz zz fun a ha => zf a ha (by simp)⟩
  obtain ⟨F', sub, q⟩ := q
  have hS : ∀ a ∈ F.filter (· ∉ F'), ow a = .slot i := fun a ha => hl.2 a (List.mem_filter.mp ha).1
  refine ⟨F.filter (· ∉ F'), { lρ := by rw [List.length_set]; exact R.lρ, lσ := by rw [List.length_set]; exact R.lσ, nb := fun j ty' h => ?_, slot := fun j ty' d' h h2' => ?_, temp := R.temp.cool (fun a ha j _ z => by rw [hS a ha] at z; cases z), ext := R.ext, mt := fun a h => ?_, hm := fun a h => ?_, old := fun a g1 g2 => ?_, hiT := fun a j h => ?_ }⟩
  · by_cases e : i = j
    · subst e
      rw [List.getElem?_set_self hi] at h; cases h
      rcases hp with ⟨m, rfl, _⟩ | rfl | rfl <;> rfl
    · rw [List.getElem?_set_ne e] at h; exact R.nb j ty' h
  · by_cases e' : i = j
    · subst e'
      rw [List.getElem?_set_self hi] at h; cases h
      rw [h2] at h2'; cases h2'
      refine ⟨v, e, F', q _ (fun a z => (zOf.cool z).frz) (fun a ha hn => ?_), D.dep_mono hk d hd, ?_⟩
      · have : zOf (Pm.cool (F.filter (· ∉ F')) ow) H .frz (some a) := ⟨cool_in (by simp [ha, hn]), mut_ne (r.mut a ha)⟩
        exact this.frz
      · rcases hp with ⟨m, rfl, _⟩ | rfl | rfl
        · exact ⟨hl.1.sublist sub, fun a ha => by rw [cool_out (by simp [ha])]; exact hl.2 a (sub.subset ha)⟩
        · trivial
        · trivial
    · rw [List.getElem?_set_ne e'] at h
      obtain ⟨v', e1, q'⟩ := R.slot j ty' d' h h2'
      exact ⟨v', e1, q'.cool fun _ a ha z => by rw [hS a ha] at z; exact e' (Id.slot.inj z)⟩
  · by_cases e : a ∈ F.filter (· ∉ F')
    · rw [cool_in e] at h; cases h
    · rw [cool_out e] at h; exact R.mt a h
  · by_cases e : a ∈ F.filter (· ∉ F')
    · rw [cool_in e] at h; cases h
    · rw [cool_out e] at h; exact R.hm a h
  · by_cases e : a ∈ F.filter (· ∉ F')
    · exact R.old a g1 (by rw [hS a e]; simp)
    · rw [cool_out e] at g2; exact R.old a g1 g2
  · by_cases e : a ∈ F.filter (· ∉ F')
    · rw [cool_in e] at h; cases h
    · rw [cool_out e] at h; exact R.hiT a j h
/-- .. the topmost temporary -/
theorem Rw.lowTop {n k : Nat} {d : D} {v : V} (R : Rw K H0 M ow Γ ρ σ (⟨.own n, k⟩ :: Θ) ((d, v) :: θ) H) {p : Perm} {k' : Nat} (hk : k ≤ k')
    (hp : (∃ m, p = .own m ∧ lowOk k n m = true) ∨ p = .frz ∨ p = .rd) : Rel K H0 M Γ ρ σ (⟨p, k'⟩ :: Θ) ((d, v) :: θ) H := by
  obtain ⟨F, r, hd, hl⟩ := R.temp.1
  have hl : F.Nodup ∧ ∀ a ∈ F, ow a = .tmp Θ.length := hl
  have q : ∃ F', F'.Sublist F ∧ ∀ Z' : Option Addr → Prop, (∀ a, zOf ow H .frz a → Z' a) → (∀ a ∈ F, a ∉ F' → Z' (some a)) → Rep K H Z' p.lv d v F' := by
    rcases hp with ⟨m, rfl, hm⟩ | rfl | rfl
    · refine r.to hl.1 ?_
      unfold lowOk at hm
      rw [Bool.or_eq_true, decide_eq_true_eq, decide_eq_true_eq] at hm
      rcases hm with hm | hm
      · exact .inl (Nat.succ_le_succ hm)
      · exact .inr (D.dep_mono hm d hd)
    · exact ⟨[], List.nil_sublist _, fun Z' zz zf => r.fz zz fun a ha => zf a ha (by simp)⟩
    · exact ⟨[], List.nil_sublist _, fun Z' zz zf => r.fz zz fun a ha => zf a ha (by simp)⟩
  obtain ⟨F', sub, q⟩ := q
  have hu : ∀ a ∈ F, hiTmp Θ.length (ow a) := fun a ha => by rw [hl.2 a ha]; exact Nat.le_refl _
  refine R.res (Θs := [_]) (θs := [_]) rfl (F := F') (q _ (fun o z => .inr z.frz) fun a ha hn => .inl ⟨mut_ne (r.mut a ha), hn, by simp [allL], .inr (.inl ?_)⟩) (D.dep_mono hk d hd) ?_ (hl.1.sublist sub) (fun a ha => .inr (hu a (sub.subset ha))) Ext.refl
  · rw [hl.2 a ha]; exact Nat.le_refl _
  · rcases hp with ⟨m, rfl, _⟩ | rfl | rfl
    · exact .inl rfl
    · exact .inr ⟨(q (fun _ => True) (fun _ _ => trivial) fun _ _ _ => trivial).nil0, rfl⟩
    · exact .inr ⟨(q (fun _ => True) (fun _ _ => trivial) fun _ _ _ => trivial).nil0, rfl⟩
theorem Rel.rd {t : Ty} {d : D} {v : V} (R : Rel K H0 M Γ ρ σ (t :: Θ) ((d, v) :: θ) H) : Rel K H0 M Γ ρ σ (t.rd :: Θ) ((d, v) :: θ) H := by
  unfold Ty.rd
  split
  · next n e =>
    obtain ⟨p, k⟩ := t
    cases e
    obtain ⟨ow, R⟩ := R
    exact R.lowTop (Nat.le_refl _) (.inl ⟨0, rfl, by simp [lowOk]⟩)
  · exact R
end
end Pm

namespace Pm
open PySem L2
variable [W : Wd]

/-! ### places -/
theorem set_at {α : Type} {l : List α} {i j : Nat} {x : α} : (l.set i x)[j]? = if i = j ∧ j < l.length then some x else l[j]? := by
  by_cases e : i = j
  · subst e
    by_cases h : i < l.length
    · rw [List.getElem?_set_self h, if_pos ⟨rfl, h⟩]
    · rw [if_neg (fun z => h z.2), List.getElem?_eq_none (by simpa using h), List.getElem?_eq_none (by simpa using h)]
  · rw [List.getElem?_set_ne e, if_neg (fun z => e z.1)]
def sets {α : Type} (ps : List (Nat × α)) (l : List α) : List α := ps.foldl (fun l p => l.set p.1 p.2) l
theorem sets_len {α : Type} : ∀ {ps : List (Nat × α)} {l : List α}, (sets ps l).length = l.length
  | [], l => rfl
  | p :: ps, l => by unfold sets; rw [List.foldl_cons]; exact (sets_len (ps := ps)).trans List.length_set
theorem sets_out {α : Type} : ∀ {ps : List (Nat × α)} {l : List α} {i : Nat}, i ∉ ps.map (·.1) → (sets ps l)[i]? = l[i]?
  | [], l, i, _ => rfl
  | p :: ps, l, i, h => by
    simp only [List.map_cons, List.mem_cons, not_or] at h
    unfold sets
    rw [List.foldl_cons]
    exact (sets_out (ps := ps) h.2).trans (List.getElem?_set_ne fun e => h.1 e.symm)
theorem sets_in {α : Type} : ∀ {ps : List (Nat × α)} {l : List α} {i : Nat} {x : α}, (ps.map (·.1)).Nodup → (i, x) ∈ ps → i < l.length → (sets ps l)[i]? = some x
  | p :: ps, l, i, x, nd, hm, hi => by
    simp only [List.map_cons, List.nodup_cons] at nd
    unfold sets
    rw [List.foldl_cons]
    rcases List.mem_cons.mp hm with rfl | hm
    · exact (sets_out (ps := ps) nd.1).trans (List.getElem?_set_self hi)
    · exact sets_in (ps := ps) nd.2 hm (by rw [List.length_set]; exact hi)
theorem bindT_eq {ps : List (Nat × Ty)} {Γ : List STy} : bindT ps Γ = sets (ps.map fun p => (p.1, some p.2)) Γ := by
  unfold bindT sets
  rw [List.foldl_map]
theorem bindT_len {ps : List (Nat × Ty)} {Γ : List STy} : (bindT ps Γ).length = Γ.length := by rw [bindT_eq, sets_len]
theorem fst_some {α : Type} {ps : List (Nat × α)} : (ps.map fun p => (p.1, some p.2)).map (·.1) = ps.map (·.1) := by simp
theorem bindT_out {ps : List (Nat × Ty)} {Γ : List STy} {i : Nat} (h : i ∉ ps.map (·.1)) : (bindT ps Γ)[i]? = Γ[i]? := by
  rw [bindT_eq]; exact sets_out (by rw [fst_some]; exact h)
theorem bindT_in {ps : List (Nat × Ty)} {Γ : List STy} {i : Nat} {t : Ty} (nd : (ps.map (·.1)).Nodup) (h : (i, t) ∈ ps) (hi : i < Γ.length) : (bindT ps Γ)[i]? = some (some t) := by
  rw [bindT_eq]; exact sets_in (by rw [fst_some]; exact nd) (List.mem_map.mpr ⟨_, h, rfl⟩) hi
theorem tys_slots {t : Tgt} {u : Ty} : (t.tys u).map (·.1) = t.slots := by
  cases t with
  | nm i => rfl
  | tp is => simp [Tgt.tys, Tgt.slots, Function.comp_def]
  | tpo ps => simp [Tgt.tys, Tgt.slots, Function.comp_def]

section
variable {K : PySem.W.Frag} {H0 H H' : Hp} {M : Mz} {ow ow' : Addr → Id} {Γ Γ' : List STy} {ρ : Penv} {σ : St} {Θ Θs : List Ty} {θ θs : List (D × V)}
/-- as it is read -/
theorem Rep.vw {Z : Option Addr → Prop} {n : Nat} {d : D} {v : V} {F : Fp} (r : Rep K H Z n d v F) : Rep K H (fun _ => True) 0 d v [] := r.fz (fun _ _ => trivial) fun _ _ => trivial
theorem Reps.vw {Z : Option Addr → Prop} {n : Nat} {d : List D} {v : List V} {F : Fp} (r : Reps K H Z n d v F) : Reps K H (fun _ => True) 0 d v [] := r.fz (fun _ _ => trivial) fun _ _ => trivial
theorem EntOk.vw {id : Id} {ty : Ty} {d : D} {v : V} (h : EntOk K H ow id ty d v) : Rep K H (fun _ => True) 0 d v [] ∧ d.dep ty.k = true := let ⟨_, r, hd, _⟩ := h; ⟨r.vw, hd⟩

/-! ### a slot is read -/
theorem Rw.borrow (R : Rw K H0 M ow Γ ρ σ Θ θ H) {i : Nat} {ty : Ty} {d : D} (h1 : Γ[i]? = some (some ty)) (h2 : ρ[i]? = some (some d)) {ty' : Ty} (hk : ty'.k = ty.k)
    (hp : ty'.k = 0 ∨ (∃ n, ty.p = .own n ∧ ty'.p = .bor n [i]) ∨ (ty.p = .frz ∧ ty'.p = .frz) ∨ (ty.p = .rd ∧ ty'.p = .rd)) : ∃ v, σ[i]? = some (some v) ∧ Rw K H0 M ow Γ ρ σ (ty' :: Θ) ((d, v) :: θ) H := by
  obtain ⟨v, e, q⟩ := R.slot i ty d h1 h2
  refine ⟨v, e, R.push ?_⟩
  rcases hp with z | ⟨n, z1, z2⟩ | ⟨z1, z2⟩ | ⟨z1, z2⟩
  · exact q.imm (by rw [← hk]; exact z)
  · obtain ⟨F, r, hd, hl⟩ := q
    rw [z1] at hl r
    exact ⟨F, by rw [z2]; exact r, by rw [hk]; exact hd, by rw [z2]; exact fun a ha => .inr ⟨i, by simp, hl.2 a ha⟩⟩
  · obtain ⟨F, r, hd, hl⟩ := q
    rw [z1] at r
    exact ⟨F, by rw [z2]; exact r, by rw [hk]; exact hd, by rw [z2]; trivial⟩
  · obtain ⟨F, r, hd, hl⟩ := q
    rw [z1] at r
    exact ⟨F, by rw [z2]; exact r, by rw [hk]; exact hd, by rw [z2]; trivial⟩
/-- a slot's labels go over to a new temporary -/
theorem Rw.move (R : Rw K H0 M ow Γ ρ σ Θ θ H) {i : Nat} {n k : Nat} {d : D} (h1 : Γ[i]? = some (some ⟨.own n, k⟩)) (h2 : ρ[i]? = some (some d)) (hn : Pm.noBor i Θ = true) :
    ∃ v ow', σ[i]? = some (some v) ∧ Rw K H0 M ow' (Γ.set i none) ρ σ (⟨.own n, k⟩ :: Θ) ((d, v) :: θ) H := by
  obtain ⟨v, e, F, r, hd, hl⟩ := R.slot i _ d h1 h2
  have hl : F.Nodup ∧ ∀ a ∈ F, ow a = .slot i := hl
  have hT : ∀ a ∈ F, touch [i] Θ.length (ow a) := fun a ha => by rw [hl.2 a ha]; exact List.mem_singleton.mpr rfl
  refine ⟨v, _, e, R.tr (Θs := []) (θs := []) rfl (is := [i]) (L := []) (Fr := F) (fun j hj => by simp at hj; subst hj; exact hn) (fun _ h => by simp at h) Ext.refl (by simpa [allL] using hl.1) (fun a ha => .inr (hT a ha)) (fun _ h => by simp [allL] at h)
    (r.z fun _ h => .inr h) hd (.inl rfl) List.length_set rfl rfl (fun j hj ty' h => ?_) (fun _ h => by simp [allL] at h) fun j hj => ⟨List.getElem?_set_ne fun e => hj (by simp [e]), rfl, rfl⟩⟩
  simp at hj; subst hj
  rw [List.getElem?_set] at h
  simp only [if_true] at h
  split at h <;> cases h

/-! ### the topmost temporary goes to slots -/
theorem Reps.split {Z : Option Addr → Prop} : ∀ {n : Nat} {ds : List D} {vs : List V} {F : Fp}, Reps K H Z n ds vs F → ∃ Fs : List Fp, Fs.flatten = F ∧ Fs.length = ds.length ∧ ∀ (j : Nat) (d : D), ds[j]? = some d → ∃ v G, vs[j]? = some v ∧ Fs[j]? = some G ∧ Rep K H Z n d v G
  | _, _, _, _, .nil => ⟨[], rfl, rfl, fun _ _ h => by simp at h⟩
  | _, _, _, _, .cons (v := v) (F := F) r rs => by
    obtain ⟨Fs, h1, h2, h3⟩ := Reps.split rs
    refine ⟨F :: Fs, by simp [h1], by simp [h2], fun j d h => ?_⟩
    cases j with
    | zero => simp at h; subst h; exact ⟨v, F, rfl, rfl, r⟩
    | succ j => exact h3 j d (by simpa using h)
theorem zip_get {α β : Type} {as : List α} {bs : List β} {a : α} {b : β} : (a, b) ∈ as.zip bs ↔ ∃ j : Nat, as[j]? = some a ∧ bs[j]? = some b := by
  constructor
  · intro h
    obtain ⟨j, hj⟩ := List.mem_iff_getElem?.mp h
    exact ⟨j, List.getElem?_zip_eq_some.mp hj⟩
  · rintro ⟨j, h⟩
    exact List.mem_of_getElem? (List.getElem?_zip_eq_some.mpr h)
theorem zip_map {α β : Type} : ∀ {as : List α} {bs : List β}, as.length = bs.length → (as.zip bs).map (·.1) = as
  | [], [], _ => rfl
  | a :: as, b :: bs, h => by simp at h; simp [zip_map h]
  | [], _ :: _, h => by simp at h
  | _ :: _, [], h => by simp at h
theorem zip_map2 {α β : Type} : ∀ {as : List α} {bs : List β}, as.length = bs.length → (as.zip bs).map (·.2) = bs
  | [], [], _ => rfl
  | a :: as, b :: bs, h => by simp at h; simp [zip_map2 h]
  | [], _ :: _, h => by simp at h
  | _ :: _, [], h => by simp at h
theorem mem_tys {ks : List (Nat × Nat)} {p : Perm} {i : Nat} {t : Ty} : (i, t) ∈ ks.map (fun q => (q.1, mkT p q.2)) ↔ ∃ k, (i, k) ∈ ks ∧ t = mkT p k := by
  rw [List.mem_map]
  constructor
  · rintro ⟨q, h, e⟩; cases e; exact ⟨q.2, h, rfl⟩
  · rintro ⟨k, h, rfl⟩; exact ⟨_, h, rfl⟩
theorem inSlot_mkT {p : Perm} {k : Nat} (h : p.inSlot = true) : (mkT p k).p.inSlot = true := by
  unfold mkT; split
  · rfl
  · exact h
theorem depsOk_at : ∀ {ks : List Nat} {xs : List D} {j k : Nat} {x : D}, depsOk ks xs = true → ks[j]? = some k → xs[j]? = some x → x.dep k = true
  | k :: ks, x :: xs, 0, _, _, h, e1, e2 => by
    simp at e1 e2; subst e1 e2
    rw [depsOk, Bool.and_eq_true] at h; exact h.1
  | k :: ks, x :: xs, j + 1, _, _, h, e1, e2 => by
    rw [depsOk, Bool.and_eq_true] at h
    exact depsOk_at h.2 (by simpa using e1) (by simpa using e2)
  | [], _, _, _, _, _, e, _ => by simp at e
  | _ :: _, [], _, _, _, _, _, e => by simp at e
/-- a tuple's parts, each to its slot -/
theorem Rw.unpack {p : Perm} {k0 : Nat} {xs : List D} {v : V} (R : Rw K H0 M ow Γ ρ σ (⟨p, k0⟩ :: Θ) ((.tup xs, v) :: θ) H) (hp : p.inSlot = true) {ks : List (Nat × Nat)} (nd : (ks.map (·.1)).Nodup) (hi : ∀ i ∈ ks.map (·.1), i < Γ.length ∧ Pm.noBor i Θ = true) (hl : xs.length = ks.length)
    (hk : depsOk (ks.map (·.2)) xs = true) : ∃ a vs, v = .ref a ∧ SqT K H a vs ∧ vs.length = ks.length ∧
    Rel K H0 M (bindT (ks.map fun q => (q.1, mkT p q.2)) Γ) (sets (((ks.map (·.1)).zip xs).map fun q => (q.1, some q.2)) ρ) (sets (((ks.map (·.1)).zip vs).map fun q => (q.1, some q.2)) σ) Θ θ H := by
  obtain ⟨F, r, hd, hL⟩ := R.temp.1
  obtain ⟨a, vs, rfl, s, rs⟩ : ∃ a vs, v = .ref a ∧ SqT K H a vs ∧ Reps K H (zOf ow H p) p.lv xs vs F := by
    have go : ∀ {n : Nat}, Rep K H (zOf ow H p) n (.tup xs) v F → ∃ a vs, v = .ref a ∧ SqT K H a vs ∧ Reps K H (zOf ow H p) n xs vs F := fun q => by
      cases q; exact ⟨_, _, rfl, by assumption, by assumption⟩
    exact go r
  obtain ⟨Fs, f1, f2, f3⟩ := rs.split
  have lv : vs.length = ks.length := by rw [← rs.len, hl]
  refine ⟨a, vs, rfl, s, lv, ?_⟩
  have hFt : ∀ b ∈ F, ow b = .tmp Θ.length ∧ F.Nodup := fun b hb => by
    cases p with
    | own n => exact ⟨hL.2 b hb, hL.1⟩
    | frz => rw [r.nil0] at hb; simp at hb
    | rd => rw [r.nil0] at hb; simp at hb
    | bor n xs => cases hp
  have hF0 : p.isOwn = false → F = [] := fun e => by
    cases p with
    | own n => cases e
    | frz => exact r.nil0
    | rd => exact r.nil0
    | bor n xs => cases hp
  have ndF : F.Nodup := by
    cases hF : F with
    | nil => exact List.nodup_nil
    | cons b F' => rw [← hF]; exact (hFt b (by rw [hF]; exact List.mem_cons_self)).2
  obtain ⟨is, his⟩ : ∃ is, is = ks.map (·.1) := ⟨_, rfl⟩
  have li : is.length = ks.length := by rw [his]; simp
  have eL : allL (is.zip Fs) = F := by
    unfold allL
    rw [zip_map2 (by rw [li, f2, hl]), f1]
  have T := R.tr (Θs := [_]) (θs := [_]) rfl (ty := Pm.imm) (d := .non) (v := .non) (is := is) (L := is.zip Fs) (Fr := []) (H' := H) (Γ' := bindT (ks.map fun q => (q.1, mkT p q.2)) Γ) (ρ' := sets ((is.zip xs).map fun q => (q.1, some q.2)) ρ) (σ' := sets ((is.zip vs).map fun q => (q.1, some q.2)) σ)
    (fun i h => (hi i (his ▸ h)).2) (fun q hq => (List.of_mem_zip hq).1) Ext.refl (by rw [eL]; simpa using ndF) (fun _ h => by simp at h) (fun b hb => by rw [eL] at hb; right; rw [(hFt b hb).1]; exact Nat.le_refl _)
    .non rfl (.inr ⟨rfl, rfl⟩) bindT_len sets_len sets_len ?_ (fun b hb => by rw [eL] at hb; exact r.mut b hb) fun i h => ?_
  · exact ⟨_, T⟩ |> fun (q : Rel K H0 M _ _ _ _ _ H) => by rw [← his]; exact q.pop
  · intro i hm ty' h
    obtain ⟨j, hj⟩ := List.mem_iff_getElem?.mp hm
    have hj2 : j < ks.length := by rw [← li]; exact (List.getElem?_eq_some_iff.mp hj).1
    have hki : (i, ks[j].2) ∈ ks := by
      have : i = ks[j].1 := by
        rw [his, List.getElem?_map, List.getElem?_eq_getElem hj2] at hj
        exact (Option.some.inj hj).symm
      rw [this]; exact List.getElem_mem hj2
    have hil := (hi i (his ▸ hm)).1
    have e1 : (bindT (ks.map fun q => (q.1, mkT p q.2)) Γ)[i]? = some (some (mkT p ks[j].2)) := bindT_in (by simpa [Function.comp_def] using nd) (mem_tys.mpr ⟨_, hki, rfl⟩) hil
    rw [e1] at h
    cases h
    refine ⟨inSlot_mkT hp, fun d' h2 => ?_⟩
    have hx : j < xs.length := by omega
    obtain ⟨v', G, g1, g2, g3⟩ := f3 j xs[j] (List.getElem?_eq_getElem hx)
    have e2 : (sets ((is.zip xs).map fun q => (q.1, some q.2)) ρ)[i]? = some (some xs[j]) := sets_in (by rw [fst_some, zip_map (by omega), his]; exact nd) (List.mem_map.mpr ⟨(i, xs[j]), zip_get.mpr ⟨j, hj, List.getElem?_eq_getElem hx⟩, rfl⟩) (by rw [R.lρ]; exact hil)
    rw [e2] at h2
    cases h2
    have dj : (xs[j]).dep ks[j].2 = true := depsOk_at (j := j) hk (by rw [List.getElem?_map, List.getElem?_eq_getElem hj2]; rfl) (List.getElem?_eq_getElem hx)
    refine ⟨v', if ks[j].2 = 0 then [] else G, sets_in (by rw [fst_some, zip_map (by omega), his]; exact nd) (List.mem_map.mpr ⟨(i, v'), zip_get.mpr ⟨j, hj, g1⟩, rfl⟩) (by rw [R.lσ]; exact hil), ?_, ?_, ?_⟩
    · unfold mkT
      by_cases h0 : ks[j].2 = 0
      · rw [if_pos h0, if_pos h0]
        rw [h0] at dj
        exact (g3.imm _ _ dj).2
      · rw [if_neg h0, if_neg h0]
        exact g3.z fun _ z => .inr z
    · unfold mkT
      by_cases h0 : ks[j].2 = 0
      · rw [if_pos h0]; rw [h0] at dj; exact dj
      · rw [if_neg h0]; exact dj
    · unfold mkT
      by_cases h0 : ks[j].2 = 0
      · rw [if_pos h0]; exact .inl rfl
      · rw [if_neg h0, if_neg h0]
        by_cases ho : p.isOwn = true
        · exact .inr ⟨zip_get.mpr ⟨j, hj, g2⟩, ho⟩
        · left
          have eF := hF0 (by simpa using ho)
          have : G ∈ Fs := List.mem_of_getElem? g2
          cases hG : G with
          | nil => rfl
          | cons b G' =>
            have : b ∈ Fs.flatten := List.mem_flatten.mpr ⟨G, this, by rw [hG]; exact List.mem_cons_self⟩
            rw [f1, eF] at this; simp at this
  · refine ⟨bindT_out (by simp only [List.map_map]; rw [his] at h; exact h), sets_out ?_, sets_out ?_⟩
    · rw [fst_some, zip_map (by omega)]; exact h
    · rw [fst_some, zip_map (by omega)]; exact h
/-- one slot -/
theorem Rw.store {ty : Ty} {d : D} {v : V} (R : Rw K H0 M ow Γ ρ σ (ty :: Θ) ((d, v) :: θ) H) {i : Nat} (hi : i < Γ.length) (hb : Pm.noBor i Θ = true) (hp : ty.p.inSlot = true) :
    Rel K H0 M (Γ.set i (some (if ty.k = 0 then imm else ty))) (ρ.set i (some d)) (σ.set i (some v)) Θ θ H := by
  obtain ⟨F, r, hd, hL⟩ := R.temp.1
  have hF : ∀ b ∈ F, ow b = .tmp Θ.length := fun b hb => by
    cases e : ty.p with
    | own n => rw [e] at hL; exact hL.2 b hb
    | frz => rw [e] at r; rw [r.nil0] at hb; simp at hb
    | rd => rw [e] at r; rw [r.nil0] at hb; simp at hb
    | bor n xs => rw [e] at hp; cases hp
  have ndF : F.Nodup ∧ (ty.p.isOwn = false → F = []) := by
    cases e : ty.p with
    | own n => rw [e] at hL; exact ⟨hL.1, fun z => by cases z⟩
    | frz => rw [e] at r; rw [r.nil0]; exact ⟨List.nodup_nil, fun _ => rfl⟩
    | rd => rw [e] at r; rw [r.nil0]; exact ⟨List.nodup_nil, fun _ => rfl⟩
    | bor n xs => rw [e] at hp; cases hp
  have T := R.tr (Θs := [_]) (θs := [_]) rfl (ty := Pm.imm) (d := .non) (v := .non) (is := [i]) (L := [(i, F)]) (Fr := []) (H' := H) (Γ' := Γ.set i (some (if ty.k = 0 then imm else ty))) (ρ' := ρ.set i (some d)) (σ' := σ.set i (some v))
    (fun j h => by simp at h; subst h; exact hb) (fun q hq => by simp at hq; subst hq; exact List.mem_singleton.mpr rfl) Ext.refl (by simpa [allL] using ndF.1) (fun _ h => by simp at h) (fun b hb => by simp [allL] at hb; right; rw [hF b hb]; exact Nat.le_refl _)
    .non rfl (.inr ⟨rfl, rfl⟩) List.length_set List.length_set List.length_set ?_ (fun b hb => by simp [allL] at hb; exact r.mut b hb) fun j h => ?_
  · have q : Rel K H0 M _ _ _ _ _ H := ⟨_, T⟩
    exact q.pop
  · intro j hj ty' h
    simp at hj; subst hj
    rw [List.getElem?_set_self hi] at h
    cases h
    refine ⟨by split; rfl; exact hp, fun d' h2 => ?_⟩
    rw [List.getElem?_set_self (by rw [R.lρ]; exact hi)] at h2
    cases h2
    refine ⟨v, if ty.k = 0 then [] else F, List.getElem?_set_self (by rw [R.lσ]; exact hi), ?_, ?_, ?_⟩
    · by_cases h0 : ty.k = 0
      · rw [if_pos h0, if_pos h0]
        rw [h0] at hd
        exact (r.imm _ _ hd).2
      · rw [if_neg h0, if_neg h0]; exact r.z fun _ z => .inr z
    · by_cases h0 : ty.k = 0
      · rw [if_pos h0]; rw [h0] at hd; exact hd
      · rw [if_neg h0]; exact hd
    · by_cases h0 : ty.k = 0
      · rw [if_pos h0]; exact .inl rfl
      · rw [if_neg h0, if_neg h0]
        by_cases ho : ty.p.isOwn = true
        · exact .inr ⟨List.mem_singleton.mpr rfl, ho⟩
        · exact .inl (ndF.2 (by simpa using ho))
  · simp at h
    exact ⟨List.getElem?_set_ne (Ne.symm h), List.getElem?_set_ne (Ne.symm h), List.getElem?_set_ne (Ne.symm h)⟩

/-! ### several temporaries -/
theorem TempOk.at {Θs : List Ty} {θs : List (D × V)} {ty : Ty} {d : D} {v : V} {Θ : List Ty} {θ : List (D × V)} (h : TempOk K H ow (Θs ++ ty :: Θ) (θs ++ (d, v) :: θ)) (e : Θs.length = θs.length) : EntOk K H ow (.tmp Θ.length) ty d v :=
  (TempOk.drop h e).1
theorem stack_cons {t : Ty} {ts Θ : List Ty} : (t :: ts).reverse ++ Θ = ts.reverse ++ (t :: Θ) := by simp
theorem zip_cons {d : D} {v : V} {ds : List D} {vs : List V} {θ : List (D × V)} : ((d :: ds).zip (v :: vs)).reverse ++ θ = (ds.zip vs).reverse ++ ((d, v) :: θ) := by simp
theorem zlen {ts : List Ty} {ds : List D} {vs : List V} (h1 : ds.length = ts.length) (h2 : vs.length = ts.length) : ts.reverse.length = (ds.zip vs).reverse.length := by
  simp [List.length_zip, h1, h2]
/-- as they are read -/
theorem TempOk.reps : ∀ {ts : List Ty} {ds : List D} {vs : List V} {Θ : List Ty} {θ : List (D × V)}, TempOk K H ow (ts.reverse ++ Θ) ((ds.zip vs).reverse ++ θ) → ds.length = ts.length → vs.length = ts.length →
    Reps K H (fun _ => True) 0 ds vs [] ∧ ∀ k, (∀ t ∈ ts, t.k ≤ k) → D.deps k ds = true
  | [], [], [], _, _, _, _, _ => ⟨.nil, fun _ _ => by simp [D.deps]⟩
  | t :: ts, d :: ds, v :: vs, Θ, θ, h, e1, e2 => by
    rw [stack_cons, zip_cons] at h
    simp at e1 e2
    obtain ⟨r, hd⟩ := TempOk.reps h e1 e2
    obtain ⟨rr, hg⟩ := (h.at (zlen e1 e2)).vw
    exact ⟨.cons (F := []) (G := []) rr r, fun k hk => by simp only [D.deps, hd k fun t ht => hk t (List.mem_cons_of_mem _ ht), D.dep_mono (hk t List.mem_cons_self) d hg, Bool.and_self]⟩
  | [], _ :: _, _, _, _, _, e, _ => by simp at e
  | [], [], _ :: _, _, _, _, _, e => by simp at e
  | _ :: _, [], _, _, _, _, e, _ => by simp at e
  | _ :: _, _ :: _, [], _, _, _, _, e => by simp at e
/-- what may be frozen: what is so, and what is labelled in T but F -/
def zC (T : Id → Prop) (ow : Addr → Id) (H : Hp) (F : Fp) : Option Addr → Prop
  | none => False
  | some a => H a ≠ none ∧ a ∉ F ∧ (ow a = .frz ∨ T (ow a))
theorem zC.mono {T T' : Id → Prop} {F G : Fp} {o : Option Addr} (h : zC T ow H F o) (ht : ∀ i, T i → T' i) (hg : ∀ a, a ∉ F → (ow a = .frz ∨ T (ow a)) → a ∉ G) : zC T' ow H G o := by
  cases o with
  | none => exact h
  | some a => exact ⟨h.1, hg a h.2.1 h.2.2, h.2.2.imp id (ht _)⟩
theorem hi_hot {n : Nat} {i : Id} (h : hiTmp n i) : i.hot = true := by cases i <;> first | rfl | exact h.elim
theorem hi_mono {n m : Nat} {i : Id} (h : hiTmp n i) (hn : m ≤ n) : hiTmp m i := by cases i <;> first | exact Nat.le_trans hn h | exact h.elim
theorem hi_touch {is : List Nat} {n : Nat} {i : Id} (h : hiTmp n i) : touch is n i := by cases i <;> first | exact h | exact h.elim
theorem zC.out {T : Id → Prop} {n : Nat} {F Fr : Fp} {is : List Nat} {L : List (Nat × Fp)} {p : Perm} {o : Option Addr} (h : zC T ow H F o) (ht : ∀ i, T i → touch is n i) (x : Ext (fun a => touch is n (ow a)) H H') (hF : ∀ a, H a ≠ none → a ∉ F → ow a = .frz ∨ T (ow a) → a ∉ Fr ∧ a ∉ allL L) : zT H H' is n Fr L ow p o := by
  cases o with
  | none => exact h.elim
  | some a =>
    obtain ⟨h1, h2, h3⟩ := h
    obtain ⟨g1, g2⟩ := hF a h1 h2 h3
    exact .inl ⟨x.there a h1, g1, g2, h3.elim .inl fun z => .inr (.inl (ht _ z))⟩
/-- one that may go into a container -/
theorem EntOk.give {id : Id} {m : Nat} {ty : Ty} {d : D} {v : V} (h : EntOk K H ow id ty d v) (hid : id.hot = true) (hf : ty.free = true) (hm : m ≤ ty.lev) : ∃ F, F.Nodup ∧ (∀ a ∈ F, ow a = id ∧ H a ≠ none) ∧ Rep K H (zC (· = id) ow H F) m d v F := by
  obtain ⟨F, r, hd, hl⟩ := h
  by_cases h0 : ty.k = 0
  · rw [h0] at hd
    exact ⟨[], List.nodup_nil, fun _ h => by simp at h, (r.imm _ _ hd).2⟩
  · unfold Ty.free at hf
    have h0' : (ty.k == 0) = false := by simpa using h0
    rw [h0', Bool.false_or] at hf
    unfold Ty.lev at hm
    rw [if_neg h0] at hm
    cases hp : ty.p with
    | own j =>
      rw [hp] at hl r hm
      simp only at hm
      obtain ⟨F', s, q⟩ := r.to (m := m) hl.1 (by
        by_cases hk : ty.k ≤ j + 1
        · exact .inr (D.dep_mono hk d hd)
        · rw [if_neg hk] at hm; exact .inl hm)
      refine ⟨F', hl.1.sublist s, fun a ha => ⟨hl.2 a (s.subset ha), mut_ne (r.mut a (s.subset ha))⟩, q _ (fun o z => ?_) fun a ha hn => ⟨mut_ne (r.mut a ha), hn, .inr (hl.2 a ha)⟩⟩
      cases o with
      | none => exact z.elim
      | some a =>
        refine ⟨z.2, fun hm' => ?_, .inl z.1⟩
        have := hl.2 a (s.subset hm')
        rw [z.1] at this
        subst this
        cases hid
    | frz =>
      rw [hp] at hl r hm
      have e : m = 0 := by simp only at hm; omega
      subst e
      have e := r.nil0
      subst e
      refine ⟨[], List.nodup_nil, fun _ h => by simp at h, r.z fun o z => ?_⟩
      cases o with
      | none => exact z.elim
      | some a => exact ⟨z.2, by simp, .inl z.1⟩
    | rd => rw [hp] at hf; cases hf
    | bor n xs => rw [hp] at hf; cases hf
theorem TempOk.repsO : ∀ {ts : List Ty} {ds : List D} {vs : List V} {Θ : List Ty} {θ : List (D × V)} {m : Nat}, TempOk K H ow (ts.reverse ++ Θ) ((ds.zip vs).reverse ++ θ) → ds.length = ts.length → vs.length = ts.length → ts.all Ty.free = true → (∀ t ∈ ts, m ≤ t.lev) →
    ∃ F, Reps K H (zC (hiTmp Θ.length) ow H F) m ds vs F ∧ F.Nodup ∧ ∀ a ∈ F, hiTmp Θ.length (ow a) ∧ H a ≠ none
  | [], [], [], _, _, _, _, _, _, _, _ => ⟨[], .nil, List.nodup_nil, fun _ h => by simp at h⟩
  | t :: ts, d :: ds, v :: vs, Θ, θ, m, h, e1, e2, hf, hm => by
    rw [stack_cons, zip_cons] at h
    simp at e1 e2
    rw [List.all_cons, Bool.and_eq_true] at hf
    obtain ⟨F, r, nd, hl⟩ := TempOk.repsO h e1 e2 hf.2 fun t ht => hm t (List.mem_cons_of_mem _ ht)
    obtain ⟨G, nd1, hl1, rr⟩ := (h.at (zlen e1 e2)).give rfl hf.1 (hm t List.mem_cons_self)
    have dl : ∀ a ∈ F, ow a ≠ .tmp Θ.length := fun a hb e => by
      have := (hl a hb).1
      rw [e] at this
      exact absurd (show (t :: Θ).length ≤ Θ.length from this) (by simp)
    have dh : ∀ a ∈ F, ow a ≠ .frz := fun a hb e => by
      have := (hl a hb).1
      rw [e] at this; exact this
    refine ⟨G ++ F, .cons (rr.z fun o z => z.mono (fun i e => ?_) fun a h1 h2 hg => ?_) (r.z fun o z => z.mono (fun i e => hi_mono e (by simp)) fun a h1 h2 hg => ?_), List.nodup_append.mpr ⟨nd1, nd, fun a ha b hb e => ?_⟩, fun a ha => ?_⟩
    · subst e; exact Nat.le_refl _
    · rcases List.mem_append.mp hg with hg | hg
      · exact h1 hg
      · rcases h2 with h2 | h2
        · exact dh a hg h2
        · exact dl a hg h2
    · rcases List.mem_append.mp hg with hg | hg
      · have e := (hl1 a hg).1
        rw [e] at h2
        rcases h2 with h2 | h2
        · cases h2
        · exact absurd (show (t :: Θ).length ≤ Θ.length from h2) (by simp)
      · exact h1 hg
    · subst e; exact dl a hb (hl1 a ha).1
    · rcases List.mem_append.mp ha with ha | ha
      · exact ⟨by rw [(hl1 a ha).1]; exact Nat.le_refl _, (hl1 a ha).2⟩
      · exact ⟨hi_mono (hl a ha).1 (by simp), (hl a ha).2⟩
  | [], _ :: _, _, _, _, _, _, e, _, _, _ => by simp at e
  | [], [], _ :: _, _, _, _, _, _, e, _, _ => by simp at e
  | _ :: _, [], _, _, _, _, _, e, _, _, _ => by simp at e
  | _ :: _, _ :: _, [], _, _, _, _, _, e, _, _ => by simp at e
theorem foldl_max {ts : List Ty} : ∀ {n : Nat}, n ≤ ts.foldl (fun k t => max k t.k) n ∧ ∀ t ∈ ts, t.k ≤ ts.foldl (fun k t => max k t.k) n := by
  induction ts with
  | nil => intro n; simp
  | cons t ts ih =>
    intro n
    rw [List.foldl_cons]
    obtain ⟨h1, h2⟩ := ih (n := max n t.k)
    refine ⟨by omega, fun u hu => ?_⟩
    rcases List.mem_cons.mp hu with rfl | hu
    · omega
    · exact h2 u hu
theorem maxk_le {ts : List Ty} : ∀ t ∈ ts, t.k ≤ maxk ts := (foldl_max (n := 0)).2
theorem foldl_min {ts : List Ty} : ∀ {n : Nat}, ts.foldl (fun m t => min m t.lev) n ≤ n ∧ ∀ t ∈ ts, ts.foldl (fun m t => min m t.lev) n ≤ t.lev := by
  induction ts with
  | nil => intro n; simp
  | cons t ts ih =>
    intro n
    rw [List.foldl_cons]
    obtain ⟨h1, h2⟩ := ih (n := min n t.lev)
    refine ⟨by omega, fun u hu => ?_⟩
    rcases List.mem_cons.mp hu with rfl | hu
    · omega
    · exact h2 u hu
theorem levs_le {ts : List Ty} : ∀ t ∈ ts, levs ts ≤ t.lev := (foldl_min (n := 8)).2

/-! ### new values in the place of temporaries -/
theorem ext_new {T : Addr → Prop} {p : Addr} {o : HO} (h : H p = none) : Ext T H (upd H p o) := Ext.upd (.inl h)
theorem Reps.new {Z : Option Addr → Prop} {n : Nat} {p : Addr} {o : HO} {ds : List D} {vs : List V} {F : Fp} (r : Reps K H Z n ds vs F) (h : H p = none) : Reps K (upd H p o) Z n ds vs F :=
  r.ext (M := fun _ => False) (ext_new h) (fun _ h => h.elim) (fun _ _ h => h) (fun _ z => z) fun _ _ h => h
theorem Rep.new {Z : Option Addr → Prop} {n : Nat} {p : Addr} {o : HO} {d : D} {v : V} {F : Fp} (r : Rep K H Z n d v F) (h : H p = none) : Rep K (upd H p o) Z n d v F :=
  r.ext (M := fun _ => False) (ext_new h) (fun _ h => h.elim) (fun _ _ h => h) (fun _ z => z) fun _ _ h => h
/-- a value of nothing that changes, told in the place of temporaries -/
structure New0 (K : PySem.W.Frag) (H H' : Hp) (d : D) (v : V) : Prop where
  rep : Rep K H' (fun _ => True) 0 d v []
  dep : d.dep 0 = true
  ext : Ext (fun _ => False) H H'
theorem Rel.new0 (R : Rel K H0 M Γ ρ σ (Θs ++ Θ) (θs ++ θ) H) (hl : Θs.length = θs.length) {d : D} {v : V} (n : New0 K H H' d v) : Rel K H0 M Γ ρ σ (Pm.imm :: Θ) ((d, v) :: θ) H' := by
  obtain ⟨ow, R⟩ := R
  exact R.resI hl n.rep n.dep (n.ext.mono fun _ h => h.elim)
/-- a new container at p over items that are frozen, or temporaries' own -/
theorem Rw.newC (R : Rw K H0 M ow Γ ρ σ (Θs ++ Θ) (θs ++ θ) H) (hl : Θs.length = θs.length) {d : D} {p : Addr} {F : Fp} {m k : Nat} {o : HO} (hp : H p = none)
    (r : ∀ Z' : Option Addr → Prop, (∀ q, zC (hiTmp Θ.length) ow H F q → Z' q) → Rep K (upd H p o) Z' (m + 1) d (.ref p) (p :: F)) (hd : d.dep k = true) (nd : F.Nodup) (hF : ∀ a ∈ F, hiTmp Θ.length (ow a) ∧ H a ≠ none) :
    Rel K H0 M Γ ρ σ (⟨.own m, k⟩ :: Θ) ((d, .ref p) :: θ) (upd H p o) := by
  have hpF : p ∉ F := fun h => (hF p h).2 hp
  refine R.res hl (ty := ⟨.own m, k⟩) (F := p :: F) (r _ fun q z => z.out (fun i h => hi_touch h) (Ext.upd (.inl hp)) fun a h1 h2 _ => ⟨?_, by simp [allL]⟩) hd (.inl rfl) (List.nodup_cons.mpr ⟨hpF, nd⟩) (fun a ha => ?_) (Ext.upd (.inl hp))
  · intro h
    rcases List.mem_cons.mp h with rfl | h
    · exact h1 hp
    · exact h2 h
  · rcases List.mem_cons.mp ha with rfl | ha
    · exact .inl hp
    · exact .inr (hF a ha).1
theorem Rel.len1 {ty : Ty} {Θ : List Ty} {p : D × V} {θ : List (D × V)} (R : Rel K H0 M Γ ρ σ (ty :: Θ) (p :: θ) H) : Rep K H (fun _ => True) 0 p.1 p.2 [] ∧ p.1.dep ty.k = true := by
  obtain ⟨ow, R⟩ := R
  exact R.temp.1.vw
theorem Rel.len2 {ty ty' : Ty} {Θ : List Ty} {p q : D × V} {θ : List (D × V)} (R : Rel K H0 M Γ ρ σ (ty' :: ty :: Θ) (q :: p :: θ) H) : Rep K H (fun _ => True) 0 p.1 p.2 [] ∧ p.1.dep ty.k = true := by
  obtain ⟨ow, R⟩ := R
  exact R.temp.2.1.vw
open Classical in
/-- what is borrowed, or read, stands alone on top -/
theorem Rw.squash {ty : Ty} {d : D} {v : V} (R : Rw K H0 M ow Γ ρ σ (Θs ++ Θ) (θs ++ θ) H) (hl : Θs.length = θs.length) (h : ∃ F, Rep K H (zOf ow H ty.p) ty.p.lv d v F ∧ d.dep ty.k = true ∧ ty.p.isOwn = false ∧ LabOk ow (.tmp 0) F ty.p) : Rel K H0 M Γ ρ σ (ty :: Θ) ((d, v) :: θ) H := by
  have s : Step (hiTmp Θ.length) ow (fun a => if hiTmp Θ.length (ow a) then .frz else ow a) H H := ⟨Ext.refl, fun a _ h2 => by simp [h2], fun a h => R.mt a (hi_hot h), id, id⟩
  obtain ⟨F, r, hd, hp, hl'⟩ := h
  refine ⟨fun a => if hiTmp Θ.length (ow a) then .frz else ow a, { lρ := R.lρ, lσ := R.lσ, nb := R.nb, slot := fun i ty d' h1 h2 => ?_, temp := ⟨⟨F, r.z fun o z => (zOf.step s z).2, hd, ?_⟩, (R.temp.drop hl).step s (tempsOff_of (fun _ z => z) fun j hj z => absurd (show Θ.length ≤ j from z) (by omega))⟩, ext := R.ext, mt := fun a h => ?_, hm := fun a h => ?_, old := fun a h1 h2 => ?_, hiT := fun a j h => ?_ }⟩
  · obtain ⟨v', e, q⟩ := R.slot i ty d' h1 h2
    exact ⟨v', e, q.step s (off_slots R.nb (fun _ _ _ _ z => z) i ty h1)⟩
  · cases e : ty.p with
    | own n => rw [e] at hp; cases hp
    | frz => trivial
    | rd => trivial
    | bor n xs =>
      rw [e] at hl'
      intro a ha
      rcases hl' a ha with z | ⟨i, hi, z⟩
      · left; simp [z, hiTmp]
      · right; exact ⟨i, hi, by simp [z, hiTmp]⟩
  · by_cases hh : hiTmp Θ.length (ow a)
    · simp [hh, Id.hot] at h
    · simp only [hh, if_false] at h
      exact R.mt a h
  · by_cases hh : hiTmp Θ.length (ow a)
    · simp [hh, Id.hot] at h
    · simp only [hh, if_false] at h
      exact R.hm a h
  · by_cases hh : hiTmp Θ.length (ow a)
    · exact R.old a h1 fun e => by rw [e] at hh; exact hh
    · simp only [hh, if_false] at h2
      exact R.old a h1 h2
  · by_cases hh : hiTmp Θ.length (ow a)
    · simp [hh] at h
    · simp only [hh, if_false] at h
      rw [h] at hh
      simp only [List.length_cons]
      exact Nat.lt_succ_of_lt (Nat.lt_of_not_le hh)
end
end Pm

namespace Pm
open PySem PySem.Spec L2

/-! ### dicts: keys by value, raw entries -/
mutual
/-- the value v is the key n -/
inductive NkV (K : PySem.W.Frag) (H : Hp) : NestedKey → V → Prop
  | none : NkV K H .none .non
  | bl (b : Bool) : NkV K H (.num (if b = true then 1 else 0)) (.bl b)
  | int (i : Int) : NkV K H (.num i) (.int i)
  | str (s : Str) : NkV K H (.text s) (.str s)
  | tup {a : Addr} {vs : List V} {ks : List NestedKey} : SqT K H a vs → NkVs K H ks vs → NkV K H (.tup ks) (.ref a)
inductive NkVs (K : PySem.W.Frag) (H : Hp) : List NestedKey → List V → Prop
  | nil : NkVs K H [] []
  | cons {n : NestedKey} {v : V} {ns : List NestedKey} {vs : List V} : NkV K H n v → NkVs K H ns vs → NkVs K H (n :: ns) (v :: vs)
end
section
variable {X : Cx} {pins : List (Addr × Obj)} {σ : L2.St} {H : Hp} {s : Shared}
mutual
theorem NkV.is (I : Inv X pins σ H s) : ∀ {n : NestedKey} {v : V} {u : Value}, NkV X.K H n v → RelV v u → NestedIs s.heap n u
  | _, _, _, .none, r => by cases r; exact .none
  | _, _, _, .bl b, r => by cases r; exact .bool rfl
  | _, _, _, .int i, r => by obtain ⟨t, rfl⟩ := r; exact .int i t
  | _, _, _, .str s, r => by obtain ⟨t, rfl⟩ := r; exact .text s t
  | _, _, _, .tup h q, r => by
    cases r
    obtain ⟨its, rv, ⟨o, ho, hc, n, hd⟩, _⟩ := I.tuple h
    exact .tup ho hc hd (by simpa using NkVs.is I q rv)
theorem NkVs.is (I : Inv X pins σ H s) : ∀ {ns : List NestedKey} {vs : List V} {us : List Value}, NkVs X.K H ns vs → Vals vs us → NestedAll s.heap ns us
  | _, _, _, .nil, r => by cases r; exact .nil
  | _, _, _, .cons h t, r => by
    cases r with
    | cons a b => exact .cons (NkV.is I h a) (NkVs.is I t b)
end
end
def flatN : NestedKey → Bool | .num _ => true | .text _ => true | _ => false
def tupN : NestedKey → Bool | .tup ks => decide ((NestedKey.tup ks).depth ≤ 8) | _ => false
/-- a flat key's value: a whole number or a text -/
def keyVal : V → Bool | .int _ => true | .str _ => true | _ => false
/-- the entries, by keys and values -/
inductive EnV (w : World) : List NestedKey → List V → List V → List DictEntry → Prop
  | nil : EnV w [] [] [] []
  | cons {n : NestedKey} {k v : V} {e : DictEntry} {ns : List NestedKey} {ks vs : List V} {es : List DictEntry} : e.hash = n.hash w → RelV k e.key → RelV v e.val → EnV w ns ks vs es → EnV w (n :: ns) (k :: ks) (v :: vs) (e :: es)
theorem EnV.len {w : World} : ∀ {ns : List NestedKey} {ks vs : List V} {es : List DictEntry}, EnV w ns ks vs es → es.length = ns.length ∧ ks.length = ns.length ∧ vs.length = ns.length
  | _, _, _, _, .nil => ⟨rfl, rfl, rfl⟩
  | _, _, _, _, .cons _ _ _ r => by obtain ⟨a, b, c⟩ := EnV.len r; simp [a, b, c]
def RawAt (h : Heap) (a : Addr) (ep : Nat) (es : List DictEntry) : Prop := ∃ o, h.get? a = some o ∧ o.ExactDict ∧ o.data = .dict es.toArray ep
/-- of what kind the keys are: all flat, or all tuples -/
def kindB (ns : List NestedKey) (ks : List V) : Bool := (ns.all flatN && ks.all keyVal) || ns.all tupN
structure DicV (K : PySem.W.Frag) (H : Hp) (w : World) (a : Addr) (ep : Nat) (ns : List NestedKey) (ks vs : List V) (es : List DictEntry) : Prop where
  at' : H a = some (rawD a ep es) ∨ KDict K a ep es
  ents : EnV w ns ks vs es
  keys : NkVs K H ns ks
  nd : ns.Nodup
  big : ns.length ≤ sizeLine
  sys : (a == sysModules) = false
theorem rawD_ok {P : Program} {w : World} {H : Hp} {h : Heap} {a : Addr} {ep : Nat} {es : List DictEntry} (r : RawAt h a ep es) : ObjOk P w H h a (rawD a ep es) := by
  obtain ⟨o, h1, h2, h3⟩ := r
  exact ⟨⟨o, h1, h2, h3⟩, ⟨o, h1⟩, fun h1 h2 ⟨o, g1, g2, g3⟩ k => ⟨o, k o g1, g2, g3⟩⟩
section
variable {X : Cx} {pins : List (Addr × Obj)} {σ : L2.St} {H : Hp} {s : Shared} {a : Addr} {ep : Nat} {ns : List NestedKey} {ks vs : List V} {es : List DictEntry}
theorem DicV.raw (I : Inv X pins σ H s) (d : DicV X.K H X.w a ep ns ks vs es) : RawAt s.heap a ep es := by
  rcases d.at' with h | ⟨o, hk, h2, h3⟩
  · exact (I.hok a _ h).1
  · exact ⟨o, I.kIn a o hk, h2, h3⟩
/-! tuple keys -/
theorem xs_of (I : Inv X pins σ H s) : ∀ {ns : List NestedKey} {ks vs : List V} {es : List DictEntry}, EnV X.w ns ks vs es → NkVs X.K H ns ks → ns.all tupN = true →
    ∃ xs : List (NestedKey × Addr × Value), es = xs.map (entryOfKey (nestedKind X.prog X.w)) ∧ xs.map (·.1) = ns ∧ Vals vs (xs.map (·.2.2)) ∧ ks = xs.map (fun x => V.ref x.2.1) ∧ ∀ x ∈ xs, (nestedKind X.prog X.w).is s.heap x.1 x.2.1
  | _, _, _, _, .nil, _, _ => ⟨[], rfl, rfl, .nil, rfl, fun _ h => by simp at h⟩
  | _, _, _, _, .cons (n := n) (k := k) (v := v) (e := e) h1 h2 h3 r, .cons q1 q2, ht => by
    rw [List.all_cons, Bool.and_eq_true] at ht
    obtain ⟨xs, e1, e2, e3, e4, e5⟩ := xs_of I r q2 ht.2
    have hn := q1.is I h2
    cases q1 with
    | tup sq qs =>
      rename_i b vs' ks'
      have hk : e.key = .ref b := h2
      refine ⟨(.tup ks', b, e.val) :: xs, ?_, by simp [e2], .cons h3 e3, by simp [e4], fun x hx => ?_⟩
      · rw [List.map_cons, e1]
        congr 1
        obtain ⟨eh, ek, ev⟩ := e
        have h1 : eh = _ := h1
        have hk : ek = _ := hk
        subst hk; subst h1; rfl
      · rcases List.mem_cons.mp hx with rfl | hx
        · rw [hk] at hn
          exact ⟨hn, by have := ht.1; unfold tupN at this; simpa using this⟩
        · exact e5 x hx
    | _ => cases ht.1
theorem env_of : ∀ {xs : List (NestedKey × Addr × Value)} {vs : List V}, Vals vs (xs.map (·.2.2)) → EnV X.w (xs.map (·.1)) (xs.map fun x => V.ref x.2.1) vs (xs.map (entryOfKey (nestedKind X.prog X.w)))
  | [], _, r => by cases r; exact .nil
  | x :: xs, _, r => by
    rw [List.map_cons] at r
    cases r with
    | cons a b => exact .cons rfl rfl a (env_of b)
theorem at_of {K' : Type} [DecidableEq K'] {xs : List (K' × Addr × Value)} {n : K'} {j : Nat} (hn : (xs.map (·.1)).Nodup) (h : (xs.map (·.1))[j]? = some n) : ∃ p, xs[j]? = some (n, p) ∧ atKey xs n = some p := by
  rw [List.getElem?_map] at h
  cases e : xs[j]? with
  | none => rw [e] at h; cases h
  | some x =>
    rw [e] at h
    have h : x.1 = n := Option.some.inj h
    subst h
    exact ⟨x.2, rfl, atKey_of_get hn e⟩
theorem at_none {K' : Type} [DecidableEq K'] {xs : List (K' × Addr × Value)} {n : K'} (h : n ∉ xs.map (·.1)) : atKey xs n = none :=
  atKey_none_of_get fun j p e => h (List.mem_map.mpr ⟨_, List.mem_of_getElem? e, rfl⟩)
theorem DicV.toH (I : Inv X pins σ H s) (d : DicV X.K H X.w a ep ns ks vs es) (ht : ns.all tupN = true) :
    ∃ xs : List (NestedKey × Addr × Value), s.heap.DictOfH (nestedKind X.prog X.w) a xs ∧ xs.map (·.1) = ns ∧ Vals vs (xs.map (·.2.2)) ∧ ks = xs.map (fun x => V.ref x.2.1) := by
  obtain ⟨o, h1, h2, h3⟩ := d.raw I
  obtain ⟨xs, e1, e2, e3, e4, e5⟩ := xs_of I d.ents d.keys ht
  exact ⟨xs, ⟨o, _, ep, h1, h2, h3, by simpa using e1, e5, by rw [e2]; exact d.nd⟩, e2, e3, e4⟩
/-! flat keys -/
def keyN : Key → NestedKey | .inl i => .num i | .inr x => .text x
theorem keyN_inj {a b : Key} (e : keyN a = keyN b) : a = b := by
  cases a <;> cases b <;> first | (cases e; rfl) | cases e
theorem key_hash {P : Program} {w : World} (k : Key) : (mixKind P w).hash k = (keyN k).hash w := by cases k <;> (unfold keyN NestedKey.hash; rfl)
theorem kvs_of {P : Program} {w : World} {K : PySem.W.Frag} {H : Hp} : ∀ {ns : List NestedKey} {ks vs : List V} {es : List DictEntry}, EnV w ns ks vs es → NkVs K H ns ks → ns.all flatN = true → ks.all keyVal = true →
    ∃ kvs : List (Key × Value), KeysOf (mixKind P w) es.toArray ∧ Pairs (mixKind P w) es kvs ∧ kvs.map (fun p => keyN p.1) = ns ∧ Vals vs (kvs.map (·.2)) ∧ ks = kvs.map (fun p => kV p.1)
  | _, _, _, _, .nil, _, _, _ => ⟨[], fun e he => by simp at he, .nil, rfl, .nil, rfl⟩
  | _, _, _, _, .cons (n := n) (k := k) (v := v) (e := e) h1 h2 h3 r, .cons q1 q2, ht, hf => by
    rw [List.all_cons, Bool.and_eq_true] at ht hf
    obtain ⟨kvs, e1, e2, e3, e4, e5⟩ := kvs_of (P := P) r q2 ht.2 hf.2
    have hk : ∃ x : Key, keyN x = n ∧ kV x = k := by
      cases q1 with
      | int i => exact ⟨.inl i, rfl, rfl⟩
      | str x => exact ⟨.inr x, rfl, rfl⟩
      | bl b => cases hf.1
      | none => cases ht.1
      | tup _ _ => cases ht.1
    obtain ⟨x, rfl, rfl⟩ := hk
    refine ⟨(x, e.val) :: kvs, fun e' he' => ?_, .cons (kV_is h2) rfl e2, by simp [e3], .cons h3 e4, by simp [e5]⟩
    rw [List.mem_toArray] at he'
    rcases List.mem_cons.mp he' with rfl | he'
    · exact ⟨x, kV_is h2, by rw [h1, key_hash]⟩
    · exact e1 e' (List.mem_toArray.mpr he')
theorem env_ofK {P : Program} {w : World} : ∀ {es : List DictEntry} {kvs : List (Key × Value)} {vs : List V}, KeysOf (mixKind P w) es.toArray → Pairs (mixKind P w) es kvs → Vals vs (kvs.map (·.2)) → EnV w (kvs.map fun p => keyN p.1) (kvs.map fun p => kV p.1) vs es
  | [], _, _, _, .nil, r => by cases r; exact .nil
  | e :: es, _, _, hk, .cons (kv := kv) h1 h2 t, r => by
    rw [List.map_cons] at r
    cases r with
    | cons a b =>
      have hh : e.hash = (keyN kv.1).hash w := by
        obtain ⟨k', g1, g2⟩ := hk e (by simp)
        have : k' = kv.1 := (mixKind P w).inj _ _ _ g1 h1
        rw [g2, this, key_hash]
      have hkey : RelV (kV kv.1) e.key := by
        rcases keyIs_shape h1 with ⟨i, t, e1, e2⟩ | ⟨x, t, e1, e2⟩
        · rw [e1, e2]; exact ⟨t, rfl⟩
        · rw [e1, e2]; exact ⟨t, rfl⟩
      exact .cons hh hkey (by rw [h2]; exact a) (env_ofK (fun e' he' => hk e' (by simp at he' ⊢; exact .inr he')) t b)
theorem DicV.toK (I : Inv X pins σ H s) (d : DicV X.K H X.w a ep ns ks vs es) (ht : ns.all flatN = true) (hf : ks.all keyVal = true) :
    ∃ kvs : List (Key × Value), s.heap.DictOf (mixKind X.prog X.w) a kvs ∧ kvs.map (fun p => keyN p.1) = ns ∧ Vals vs (kvs.map (·.2)) ∧ ks = kvs.map (fun p => kV p.1) ∧ (kvs.map (·.1)).Nodup := by
  obtain ⟨o, h1, h2, h3⟩ := d.raw I
  obtain ⟨kvs, e1, e2, e3, e4, e5⟩ := kvs_of (P := X.prog) d.ents d.keys ht hf
  have hnd : (kvs.map (·.1)).Nodup := by
    have := d.nd
    rw [← e3] at this
    have e : (kvs.map fun p => keyN p.1) = (kvs.map (·.1)).map keyN := by simp
    rw [e] at this
    exact List.Pairwise.of_map keyN (fun a b h e => h (by rw [e])) this
  exact ⟨kvs, ⟨o, _, ep, h1, h2, h3, e1, by simpa using e2, hnd⟩, e3, e4, e5, hnd⟩
theorem flat_key {K : PySem.W.Frag} {H : Hp} {n : NestedKey} {y : V} (h : NkV K H n y) (h1 : flatN n = true) (h2 : keyVal y = true) : ∃ x : Key, keyN x = n ∧ kV x = y := by
  cases h with
  | int i => exact ⟨.inl i, rfl, rfl⟩
  | str x => exact ⟨.inr x, rfl, rfl⟩
  | bl b => cases h2
  | none => cases h1
  | tup _ _ => cases h1
/-- the key fits the dict's keys -/
def fits (ns : List NestedKey) (ks : List V) (n : NestedKey) (y : V) : Prop := (ns.all flatN = true ∧ ks.all keyVal = true ∧ flatN n = true ∧ keyVal y = true) ∨ (ns.all tupN = true ∧ tupN n = true)
theorem val_ofK {kvs : List (Key × Value)} (hn : (kvs.map (·.1)).Nodup) {x : Key} {j : Nat} (h : (kvs.map fun p => keyN p.1)[j]? = some (keyN x)) : ∃ u, kvs[j]? = some (x, u) ∧ valueAt kvs x = some u := by
  rw [List.getElem?_map] at h
  cases e : kvs[j]? with
  | none => rw [e] at h; cases h
  | some p =>
    rw [e] at h
    have h : p.1 = x := keyN_inj (Option.some.inj h)
    subst h
    exact ⟨p.2, rfl, valueAt_of_get hn e⟩
theorem val_noneK {kvs : List (Key × Value)} {x : Key} (h : keyN x ∉ kvs.map fun p => keyN p.1) : valueAt kvs x = none := by
  unfold valueAt
  rw [List.find?_eq_none.mpr fun p hp he => h (List.mem_map.mpr ⟨p, hp, by rw [of_decide_eq_true he]⟩)]
  rfl
/-! ### reading -/
theorem d_getV {A : Around} {E : Value → Shared → Prop} (hu : A.units + 9 < cLine) (I : Inv X pins σ H s) (d : DicV X.K H X.w a ep ns ks vs es) {n : NestedKey} {y v : V} {u : Value} {j : Nat}
    (hy : NkV X.K H n y) (hf : fits ns ks n y) (hj : ns[j]? = some n) (hv : vs[j]? = some v) (ry : RelV y u) : ∃ w', RelV v w' ∧ s.TypeIs (.ref a) "dict" ∧ ∀ Q : Value → Shared → Prop, (∀ s', Inv X pins σ H s' → Q w' s') → wpAny (model X.prog X.w) A (getItem (.ref a) u) Q E s := by
  rcases hf with ⟨h1, h2, h3, h4⟩ | ⟨h1, h2⟩
  · obtain ⟨kvs, dd, e1, e2, e3, hnd⟩ := d.toK I h1 h2
    obtain ⟨x, rfl, rfl⟩ := flat_key hy h3 h4
    obtain ⟨u', g1, g2⟩ := val_ofK hnd (by rw [e1]; exact hj)
    obtain ⟨z, hz, rz⟩ := e2.get hv
    rw [List.getElem?_map, g1] at hz
    have hz : u' = z := Option.some.inj hz
    subst hz
    exact ⟨u', rz, dd.typeIs, fun Q h => wpAny_getItem_of (kV_is ry) dd.mapOf g2 (h _ (I.tok _))⟩
  · obtain ⟨xs, dd, e1, e2, e3⟩ := d.toH I h1
    have his := hy.is I ry
    cases hy with
    | tup sq qs =>
      cases ry
      obtain ⟨p, g1, g2⟩ := at_of (by rw [e1]; exact d.nd) (by rw [e1]; exact hj)
      obtain ⟨z, hz, rz⟩ := e2.get hv
      rw [List.getElem?_map, g1] at hz
      have hz : p.2 = z := Option.some.inj hz
      refine ⟨z, rz, dd.typeIs, fun Q h => wpAny_getItem_heap (knd := nestedKind X.prog X.w) hu ⟨his, by unfold tupN at h2; simpa using h2⟩ dd g2 ?_⟩
      rw [hz]
      exact h _ (I.tok _)
    | _ => cases h2
theorem d_inV {A : Around} {E : Value → Shared → Prop} {Q : Value → Shared → Prop} (hu : A.units + 9 < cLine) (I : Inv X pins σ H s) (d : DicV X.K H X.w a ep ns ks vs es) {n : NestedKey} {y : V} {u : Value}
    (hy : NkV X.K H n y) (hf : fits ns ks n y) (ry : RelV y u) (h : ∀ s', Inv X pins σ H s' → Q (.bool (decide (n ∈ ns))) s') : wpAny (model X.prog X.w) A (compareOp .In u (.ref a)) Q E s := by
  rcases hf with ⟨h1, h2, h3, h4⟩ | ⟨h1, h2⟩
  · obtain ⟨kvs, dd, e1, e2, e3, hnd⟩ := d.toK I h1 h2
    obtain ⟨x, rfl, rfl⟩ := flat_key hy h3 h4
    refine wpAny_in_of (kV_is ry) d.sys dd.mapOf ?_
    have e : (valueAt kvs x).isSome = decide (keyN x ∈ ns) := by
      by_cases hm : keyN x ∈ ns
      · obtain ⟨j, hj⟩ := List.mem_iff_getElem?.mp hm
        obtain ⟨u', _, g2⟩ := val_ofK hnd (by rw [e1]; exact hj)
        rw [g2]; simp [hm]
      · rw [val_noneK (by rw [e1]; exact hm)]; simp [hm]
    rw [e]
    exact h _ (I.tok _)
  · obtain ⟨xs, dd, e1, e2, e3⟩ := d.toH I h1
    have his := hy.is I ry
    cases hy with
    | tup sq qs =>
      rename_i b vs' ks'
      cases ry
      refine wpAny_in_heap (knd := nestedKind X.prog X.w) (k := .tup ks') hu ⟨his, by unfold tupN at h2; simpa using h2⟩ d.sys dd ?_
      have e : (atKey xs (.tup ks')).isSome = decide (NestedKey.tup ks' ∈ ns) := by
        by_cases hm : NestedKey.tup ks' ∈ ns
        · obtain ⟨j, hj⟩ := List.mem_iff_getElem?.mp hm
          obtain ⟨p, _, g2⟩ := at_of (xs := xs) (by rw [e1]; exact d.nd) (by rw [e1]; exact hj)
          rw [g2]; simp [hm]
        · rw [at_none (by rw [e1]; exact hm)]; simp [hm]
      rw [e]
      exact h _ (I.tok _)
    | _ => cases h2
theorem d_ninV {A : Around} {E : Value → Shared → Prop} {Q : Value → Shared → Prop} (hu : A.units + 9 < cLine) (I : Inv X pins σ H s) (d : DicV X.K H X.w a ep ns ks vs es) {n : NestedKey} {y : V} {u : Value}
    (hy : NkV X.K H n y) (hf : fits ns ks n y) (ry : RelV y u) (h : ∀ s', Inv X pins σ H s' → Q (.bool (!decide (n ∈ ns))) s') : wpAny (model X.prog X.w) A (compareOp .NotIn u (.ref a)) Q E s := by
  rcases hf with ⟨h1, h2, h3, h4⟩ | ⟨h1, h2⟩
  · obtain ⟨kvs, dd, e1, e2, e3, hnd⟩ := d.toK I h1 h2
    obtain ⟨x, rfl, rfl⟩ := flat_key hy h3 h4
    refine wpAny_notIn_of (kV_is ry) d.sys dd.mapOf ?_
    have e : (valueAt kvs x).isSome = decide (keyN x ∈ ns) := by
      by_cases hm : keyN x ∈ ns
      · obtain ⟨j, hj⟩ := List.mem_iff_getElem?.mp hm
        obtain ⟨u', _, g2⟩ := val_ofK hnd (by rw [e1]; exact hj)
        rw [g2]; simp [hm]
      · rw [val_noneK (by rw [e1]; exact hm)]; simp [hm]
    rw [e]
    exact h _ (I.tok _)
  · obtain ⟨xs, dd, e1, e2, e3⟩ := d.toH I h1
    have his := hy.is I ry
    cases hy with
    | tup sq qs =>
      rename_i b vs' ks'
      cases ry
      refine PyProof.Rows.wpAny_notIn_heap (knd := nestedKind X.prog X.w) (k := .tup ks') hu ⟨his, by unfold tupN at h2; simpa using h2⟩ d.sys dd ?_
      have e : (atKey xs (.tup ks')).isSome = decide (NestedKey.tup ks' ∈ ns) := by
        by_cases hm : NestedKey.tup ks' ∈ ns
        · obtain ⟨j, hj⟩ := List.mem_iff_getElem?.mp hm
          obtain ⟨p, _, g2⟩ := at_of (xs := xs) (by rw [e1]; exact d.nd) (by rw [e1]; exact hj)
          rw [g2]; simp [hm]
        · rw [at_none (by rw [e1]; exact hm)]; simp [hm]
      rw [e]
      exact h _ (I.tok _)
    | _ => cases h2
end
end Pm

namespace Pm
open PySem PySem.Spec L2
theorem upd_set {α β κ : Type} {key : α → κ} {val : α → β} {f : α → α} {xs : List α} {n : κ} {j : Nat} {v : β} (h1 : ∀ x, key x = n → val (f x) = v) (h2 : ∀ x, key x ≠ n → val (f x) = val x) (nd : (xs.map key).Nodup) (hj : (xs.map key)[j]? = some n) :
    (xs.map f).map val = (xs.map val).set j v := by
  apply List.ext_getElem?
  intro i
  rw [List.map_map, List.getElem?_map, List.getElem?_set, List.getElem?_map, List.length_map]
  have hjl : j < xs.length := by have := (List.getElem?_eq_some_iff.mp hj).1; simpa using this
  by_cases e : j = i
  · subst e
    rw [if_pos rfl, if_pos hjl, List.getElem?_eq_getElem hjl]
    rw [List.getElem?_map, List.getElem?_eq_getElem hjl] at hj
    have : key xs[j] = n := Option.some.inj hj
    show some (val (f xs[j])) = _
    rw [h1 _ this]
  · rw [if_neg e]
    cases hi : xs[i]? with
    | none => rfl
    | some x =>
      show some (val (f x)) = some (val x)
      rw [h2 x fun hk => ?_]
      have hi' : (xs.map key)[i]? = some n := by rw [List.getElem?_map, hi]; exact congrArg some hk
      exact e ((List.getElem?_inj (List.getElem?_eq_some_iff.mp hj).1 nd).mp (hj.trans hi'.symm))
section
variable {X : Cx} {pins : List (Addr × Obj)} {σ : L2.St} {H : Hp} {s : Shared} {a : Addr} {ep : Nat} {ns : List NestedKey} {ks vs : List V} {es : List DictEntry}
/-- what a store leaves -/
def Put (w : World) (ns : List NestedKey) (ks vs : List V) (n : NestedKey) (y v : V) (es' : List DictEntry) : Prop := (∀ j, ns[j]? = some n → EnV w ns ks (vs.set j v) es') ∧ (n ∉ ns → EnV w (ns ++ [n]) (ks ++ [y]) (vs ++ [v]) es')
theorem put_K {P : Program} {w : World} {h' : Heap} {kvs : List (Key × Value)} {x : Key} {r : Value} {v : V} (dd : h'.DictOf (mixKind P w) a (stored kvs x r)) (e1 : kvs.map (fun p => keyN p.1) = ns) (e2 : Vals vs (kvs.map (·.2))) (e3 : ks = kvs.map (fun p => kV p.1)) (hnd : (kvs.map (·.1)).Nodup) (rv : RelV v r) :
    ∃ ep' es', RawAt h' a ep' es' ∧ Put w ns ks vs (keyN x) (kV x) v es' := by
  obtain ⟨o, es', ep, ho, hc, hd, hk, hp, _⟩ := dd
  have hk' : KeysOf (mixKind P w) es'.toList.toArray := by simpa using hk
  refine ⟨ep, es'.toList, ⟨o, ho, hc, by simpa using hd⟩, fun j hj => ?_, fun hn => ?_⟩
  · rw [← e1] at hj
    obtain ⟨u, g1, _⟩ := val_ofK hnd hj
    have hs : stored kvs x r = kvs.map fun kv => if kv.1 = x then (kv.1, r) else kv := by
      unfold stored
      rw [if_pos]
      rw [List.any_eq_true]
      exact ⟨_, List.mem_of_getElem? g1, by simp⟩
    rw [hs] at hp
    have hj2 : (kvs.map (·.1))[j]? = some x := by rw [List.getElem?_map, g1]; rfl
    have ev : (kvs.map fun kv => if kv.1 = x then (kv.1, r) else kv).map (·.2) = (kvs.map (·.2)).set j r :=
      upd_set (key := (·.1)) (fun p hp => by simp [hp]) (fun p hp => by simp [hp]) hnd hj2
    have ek : ∀ f : Key → V, (kvs.map fun kv => if kv.1 = x then (kv.1, r) else kv).map (fun p => f p.1) = kvs.map fun p => f p.1 := fun f => by
      rw [List.map_map]
      refine List.map_congr_left fun p _ => ?_
      show f (if p.1 = x then (p.1, r) else p).1 = f p.1
      split <;> rfl
    have ek2 : (kvs.map fun kv => if kv.1 = x then (kv.1, r) else kv).map (fun p => keyN p.1) = kvs.map fun p => keyN p.1 := by
      rw [List.map_map]
      refine List.map_congr_left fun p _ => ?_
      show keyN (if p.1 = x then (p.1, r) else p).1 = keyN p.1
      split <;> rfl
    have q := env_ofK hk' hp (vs := vs.set j v) (by rw [ev]; exact e2.set rv j)
    rw [ek kV, ek2, e1, ← e3] at q
    exact q
  · have hs : stored kvs x r = kvs ++ [(x, r)] := by
      unfold stored
      rw [if_neg]
      rw [List.any_eq_true]
      rintro ⟨p, hp, he⟩
      have he : p.1 = x := by simpa using he
      exact hn (by rw [← e1]; exact List.mem_map.mpr ⟨p, hp, by rw [he]⟩)
    rw [hs] at hp
    have q := env_ofK hk' hp (vs := vs ++ [v]) (by rw [List.map_append]; exact e2.append (.cons rv .nil))
    rw [List.map_append, List.map_append, e1, ← e3] at q
    exact q
theorem put_H {P : Program} {w : World} {h' : Heap} {xs : List (NestedKey × Addr × Value)} {n : NestedKey} {b : Addr} {r : Value} {v : V} (dd : h'.DictOfH (nestedKind P w) a (storedH xs n b r)) (e1 : xs.map (·.1) = ns) (e2 : Vals vs (xs.map (·.2.2))) (e3 : ks = xs.map (fun x => V.ref x.2.1)) (hnd : ns.Nodup) (rv : RelV v r) (X : Cx) (hw : X.w = w) (hP : X.prog = P) :
    ∃ ep' es', RawAt h' a ep' es' ∧ Put w ns ks vs n (.ref b) v es' := by
  subst hw hP
  obtain ⟨o, es', ep, ho, hc, hd, he, _, _⟩ := dd
  have hnd' : (xs.map (·.1)).Nodup := by rw [e1]; exact hnd
  refine ⟨ep, es'.toList, ⟨o, ho, hc, by simpa using hd⟩, fun j hj => ?_, fun hn => ?_⟩
  · rw [← e1] at hj
    obtain ⟨p, g1, g2⟩ := at_of hnd' hj
    rw [storedH_old g2] at he
    have ev : (xs.map (putAt n r)).map (·.2.2) = (xs.map (·.2.2)).set j r :=
      upd_set (key := (·.1)) (fun p hp => by simp [putAt, hp]) (fun p hp => by simp [putAt, hp]) hnd' hj
    have q := env_of (X := X) (xs := xs.map (putAt n r)) (vs := vs.set j v) (by rw [ev]; exact e2.set rv j)
    rw [he]
    rw [keys_map_putAt, e1] at q
    have ek : (xs.map (putAt n r)).map (fun x => V.ref x.2.1) = ks := by
      rw [e3, List.map_map]
      refine List.map_congr_left fun p _ => ?_
      show V.ref (putAt n r p).2.1 = _
      unfold putAt; split <;> rfl
    rw [ek] at q
    exact q
  · have hn' : atKey xs n = none := at_none (by rw [e1]; exact hn)
    rw [storedH_new hn'] at he
    have q := env_of (X := X) (xs := xs ++ [(n, b, r)]) (vs := vs ++ [v]) (by rw [List.map_append]; exact e2.append (.cons rv .nil))
    rw [he]
    rw [List.map_append, List.map_append, e1, ← e3] at q
    exact q
theorem raw_there {h : Heap} (r : RawAt h a ep es) : ∃ q, h.get? a = some q := let ⟨o, h1, _⟩ := r; ⟨o, h1⟩
theorem d_setV {A : Around} {E : Value → Shared → Prop} {Q : Unit → Shared → Prop} (hu : A.units + 9 < cLine) (I : Inv X pins σ H s) (d : DicV X.K H X.w a ep ns ks vs es) (ha : H a = some (rawD a ep es)) {n : NestedKey} {y v : V} {u r : Value}
    (hy : NkV X.K H n y) (hf : fits ns ks n y) (ry : RelV y u) (rv : RelV v r) (h : ∀ ep' es' s', Put X.w ns ks vs n y v es' → Inv X pins σ (upd H a (rawD a ep' es')) s' → Q () s') : wpAny (model X.prog X.w) A (setItem (.ref a) u r) Q E s := by
  have hmut : Mut (H a) := by rw [ha]; trivial
  rcases hf with ⟨h1, h2, h3, h4⟩ | ⟨h1, h2⟩
  · obtain ⟨kvs, dd, e1, e2, e3, hnd⟩ := d.toK I h1 h2
    obtain ⟨x, rfl, rfl⟩ := flat_key hy h3 h4
    have hz : kvs.length ≤ sizeLine := by have := d.big; rw [← e1, List.length_map] at this; exact this
    refine wpAny_setItem_pairs (hsz := hz) (kV_is ry) dd fun h' dd' hs => ?_
    obtain ⟨ep', es', rw', hput⟩ := put_K dd' e1 e2 e3 hnd rv
    exact h ep' es' _ hput (d_write I hmut hs (raw_there rw') (rawD_ok rw'))
  · obtain ⟨xs, dd, e1, e2, e3⟩ := d.toH I h1
    have hz : xs.length ≤ sizeLine := by have := d.big; rw [← e1, List.length_map] at this; exact this
    have his := hy.is I ry
    cases hy with
    | tup sq qs =>
      rename_i b vs' ks'
      cases ry
      refine wpAny_setItem_heap (knd := nestedKind X.prog X.w) (hsz := hz) (k := .tup ks') hu ⟨his, by unfold tupN at h2; simpa using h2⟩ dd fun h' dd' hs => ?_
      obtain ⟨ep', es', rw', hput⟩ := put_H dd' e1 e2 e3 d.nd rv X rfl rfl
      exact h ep' es' _ hput (d_write I hmut hs (raw_there rw') (rawD_ok rw'))
    | _ => cases h2
theorem d_dsetV {A : Around} {E : Value → Shared → Prop} {Q : Unit → Shared → Prop} (hu : A.units + 9 < cLine) (I : Inv X pins σ H s) (d : DicV X.K H X.w a ep ns ks vs es) (ha : H a = some (rawD a ep es)) {n : NestedKey} {y v : V} {u r : Value}
    (hy : NkV X.K H n y) (hf : fits ns ks n y) (ry : RelV y u) (rv : RelV v r) (h : ∀ ep' es' s', Put X.w ns ks vs n y v es' → Inv X pins σ (upd H a (rawD a ep' es')) s' → Q () s') : wpAny (model X.prog X.w) A (dictSet a u r) Q E s := by
  have hmut : Mut (H a) := by rw [ha]; trivial
  rcases hf with ⟨h1, h2, h3, h4⟩ | ⟨h1, h2⟩
  · obtain ⟨kvs, dd, e1, e2, e3, hnd⟩ := d.toK I h1 h2
    obtain ⟨x, rfl, rfl⟩ := flat_key hy h3 h4
    have hz : kvs.length ≤ sizeLine := by have := d.big; rw [← e1, List.length_map] at this; exact this
    refine wpAny_dictSet_pairs (hsz := hz) (kV_is ry) dd fun h' dd' hs => ?_
    obtain ⟨ep', es', rw', hput⟩ := put_K dd' e1 e2 e3 hnd rv
    exact h ep' es' _ hput (d_write I hmut hs (raw_there rw') (rawD_ok rw'))
  · obtain ⟨xs, dd, e1, e2, e3⟩ := d.toH I h1
    have hz : xs.length ≤ sizeLine := by have := d.big; rw [← e1, List.length_map] at this; exact this
    have his := hy.is I ry
    cases hy with
    | tup sq qs =>
      rename_i b vs' ks'
      cases ry
      refine wpAny_dictSet_heap (knd := nestedKind X.prog X.w) (hsz := hz) (k := .tup ks') (show A.units + 8 < cLine by omega) ⟨his, by unfold tupN at h2; simpa using h2⟩ dd fun h' dd' hs => ?_
      obtain ⟨ep', es', rw', hput⟩ := put_H dd' e1 e2 e3 d.nd rv X rfl rfl
      exact h ep' es' _ hput (d_write I hmut hs (raw_there rw') (rawD_ok rw'))
    | _ => cases h2
theorem raw_empty (h : Heap) : RawAt (h.push { cls := .type "dict", data := .dict #[] }) h.objs.size 0 [] := ⟨_, Heap.get?_push_size _ rfl, ⟨rfl, rfl, rfl⟩, rfl⟩
/-- {} -/
def tDNew : TE := fun _ H Q => ∀ p, H p = none → (p == sysModules) = false → Q (.ref p) (upd H p (rawD p 0 []))
theorem pe_dnew {pos : Pos} : PE X (.Dict [] [] pos) tDNew := ⟨fun pins s σ H Q I h =>
  wpAny_Dict_empty ⟨.ref s.heap.objs.size, _, I.laid (a := s.heap.objs.size) (o := rawD s.heap.objs.size 0 []) (t' := s.toks) (fun _ _ q => Heap.get?_push_of_some _ q) (Nat.le_refl _) (rawD_ok (raw_empty s.heap)), rfl,
    h _ (I.hok.fresh (Nat.le_refl _)) (beq_eq_false_iff_ne.mpr (Ne.symm (Nat.ne_of_lt I.big)))⟩⟩
/-- {k: v}: the dict stands empty while k and v are made -/
def tDOne (w : World) (K : PySem.W.Frag) (tk tv : TE) : TE := fun σ H Q => ∀ p, H p = none → (p == sysModules) = false → tk σ (upd H p (rawD p 0 [])) fun y H1 => tv σ H1 fun v H2 => H2 p = some (rawD p 0 []) ∧
  ∃ n, NkV K H2 n y ∧ fits [] [] n y ∧ ∀ ep' es', EnV w [n] [y] [v] es' → Q (.ref p) (upd H2 p (rawD p ep' es'))
theorem pe_done {k v : Expr} {tk tv : TE} {pos : Pos} (hu : X.A.units + 9 < cLine) (hk : PE X k tk) (hv : PE X v tv) : PE X (.Dict [some k] [v] pos) (tDOne X.w X.K tk tv) := by
  refine ⟨fun pins s σ H Q I h => ?_⟩
  have hb : (s.heap.objs.size == sysModules) = false := beq_eq_false_iff_ne.mpr (Ne.symm (Nat.ne_of_lt I.big))
  have hn := I.hok.fresh (Nat.le_refl s.heap.objs.size)
  have I1 := I.laid (a := s.heap.objs.size) (o := rawD s.heap.objs.size 0 []) (h' := s.heap.push { cls := .type "dict", data := .dict #[] }) (t' := s.toks) (fun _ _ q => Heap.get?_push_of_some _ q) (Nat.le_refl _) (rawD_ok (raw_empty s.heap))
  rw [arm_eval_Dict, zip_pairTrees [some k] [v] X.env pos rfl rfl, dictDisplay_pairs _ (by simp [pairTrees]) (by simp [pairTrees])]
  refine wpAny_bind (wpAny_standAt (wpAny_bind ?_))
  unfold subDict
  refine wpAny_bind (wpAny_alloc ?_)
  refine wpAny_bind (wpAny_holding ?_)
  rw [if_pos (by simp [pairTrees])]
  refine wpAny_bind (pairTrees_cons_walk (thn (hk.run pins _ σ _ _ I1 (h _ hn hb)) fun ku s1 ⟨y, H1, J1, ry, q1⟩ => thn (hv.run pins s1 σ H1 _ J1 q1) fun vu s2 ⟨v', H2, J2, rv, ha, n, hy, hf, q2⟩ => pairTrees_nil_walk ?_))
  refine wpAny_holding ?_
  rw [List.forIn_cons]
  have dv : DicV X.K H2 X.w s.heap.objs.size 0 [] [] [] [] := ⟨.inl ha, .nil, .nil, List.nodup_nil, Nat.zero_le _, hb⟩
  refine wpAny_bind (wpAny_bind (wpAny_bind (d_dsetV hu J2 dv ha hy hf ry rv fun ep' es' s' hput J3 => wpAny_pure ?_)))
  show wpAny _ _ (forIn [] _ _) _ _ _
  rw [List.forIn_nil]
  exact wpAny_pure (wpAny_pure (wpAny_pure (wpAny_pure ⟨.ref s.heap.objs.size, _, J3, rfl, q2 ep' es' (hput.2 (by simp))⟩)))
end
end Pm

namespace Pm
open PySem PySem.Spec L2
/-! ### dicts by value: rules -/
section
variable {X : Cx}
def rDIn (K : PySem.W.Frag) (w : World) : R2 := fun y x H Q => ∃ a ep ns ks vs es n, x = .ref a ∧ DicV K H w a ep ns ks vs es ∧ NkV K H n y ∧ fits ns ks n y ∧ Q (.bl (decide (n ∈ ns))) H
def rDNin (K : PySem.W.Frag) (w : World) : R2 := fun y x H Q => ∃ a ep ns ks vs es n, x = .ref a ∧ DicV K H w a ep ns ks vs es ∧ NkV K H n y ∧ fits ns ks n y ∧ Q (.bl (!decide (n ∈ ns))) H
def rDGet (K : PySem.W.Frag) (w : World) : R2 := fun x y H Q => ∃ (a : Addr) (ep : Nat) (ns : List NestedKey) (ks vs : List V) (es : List DictEntry) (n : NestedKey) (j : Nat) (v : V), x = .ref a ∧ DicV K H w a ep ns ks vs es ∧ NkV K H n y ∧ fits ns ks n y ∧ ns[j]? = some n ∧ vs[j]? = some v ∧ Q v H
theorem op_din (hu : X.A.units + 65 < cLine) : OpR X (compareOp .In) (rDIn X.K X.w) := by
  intro pins s σ H x y v u Q I rx ry h
  obtain ⟨a, ep, ns, ks, vs, es, n, rfl, d, hy, hf, q⟩ := h
  cases ry
  exact d_inV (by omega) I d hy hf rx fun s' I' => ⟨.bl _, H, I', rfl, q⟩
theorem op_dnin (hu : X.A.units + 65 < cLine) : OpR X (compareOp .NotIn) (rDNin X.K X.w) := by
  intro pins s σ H x y v u Q I rx ry h
  obtain ⟨a, ep, ns, ks, vs, es, n, rfl, d, hy, hf, q⟩ := h
  cases ry
  exact d_ninV (by omega) I d hy hf rx fun s' I' => ⟨.bl _, H, I', rfl, q⟩
theorem ix_dic (hu : X.A.units + 65 < cLine) : IxR X (rDGet X.K X.w) := by
  intro value slice pins s σ H x y v u Q I rx ry h hs
  obtain ⟨a, ep, ns, ks, vs, es, n, j, z, rfl, d, hy, hf, hj, hv, q⟩ := h
  cases rx
  obtain ⟨w', rw', ht, g⟩ := d_getV (A := X.A) (E := X.xe) (by omega) I d hy hf hj hv ry
  exact PyProof.Rows.subscriptTail_builtinR (x := w') ht PySem.F.slot_dict_getitem.lookup (g _ fun s' I' => ⟨rfl, z, H, I', rw', q⟩) hs
end
/-! ### the data's keys -/
variable [W : Wd] {K : PySem.W.Frag} {H : Hp}
mutual
theorem nk_view {Z : Option Addr → Prop} : ∀ {m : Nat} {d : D} {v : V} {F : Fp} {n : NestedKey}, Rep K H Z m d v F → d.nk = some n → NkV K H n v
  | _, _, _, _, _, .non, e => by cases e; exact .none
  | _, _, _, _, _, .bl b, e => by cases e; exact .bl b
  | _, _, _, _, _, .int i, e => by cases e; exact .int i
  | _, _, _, _, _, .str s _, e => by cases e; exact .str _
  | _, _, _, _, _, .tup (ds := ds) h r, e => by
    have e : (D.nks ds).map NestedKey.tup = some _ := e
    cases e1 : D.nks ds with
    | none => rw [e1] at e; cases e
    | some ns =>
      rw [e1] at e
      cases e
      exact .tup h (nks_view r e1)
  | _, _, _, _, _, .lst _ _, e => by cases e
  | _, _, _, _, _, .lst0 _ _ _, e => by cases e
  | _, _, _, _, _, .lstF _ _, e => by cases e
  | _, _, _, _, _, .lstW _ _ _, e => by cases e
  | _, _, _, _, _, .dic _ _ _ _ _, e => by cases e
  | _, _, _, _, _, .dic0 _ _ _ _ _ _, e => by cases e
  | _, _, _, _, _, .dicW _ _ _ _ _, e => by cases e
  | _, _, _, _, _, .ins _ _ _ _, e => by cases e
  | _, _, _, _, _, .ins0 _ _ _ _ _, e => by cases e
theorem nks_view {Z : Option Addr → Prop} : ∀ {m : Nat} {ds : List D} {vs : List V} {F : Fp} {ns : List NestedKey}, Reps K H Z m ds vs F → D.nks ds = some ns → NkVs K H ns vs
  | _, _, _, _, _, .nil, e => by cases e; exact .nil
  | _, _, _, _, _, .cons (d := d) (ds := ds) h r, e => by
    have e : (match D.nk d, D.nks ds with | some k, some ks => some (k :: ks) | _, _ => none) = some _ := e
    cases e1 : D.nk d with
    | none => rw [e1] at e; cases e
    | some n =>
      cases e2 : D.nks ds with
      | none => rw [e1, e2] at e; cases e
      | some ns =>
        rw [e1, e2] at e
        cases e
        exact .cons (nk_view h e1) (nks_view r e2)
end
theorem flat_nk {Z : Option Addr → Prop} {m : Nat} {d : D} {v : V} {F : Fp} (r : Rep K H Z m d v F) (h : d.flatKey = true) : ∃ n, d.nk = some n ∧ flatN n = true ∧ keyVal v = true := by
  cases r with
  | int i => exact ⟨.num i, by simp [D.nk], rfl, rfl⟩
  | str s hs => exact ⟨.text (toStr s), by simp [D.nk, toStr], rfl, rfl⟩
  | _ => cases h
theorem tup_nk {d : D} (h : d.tupKey = true) : ∃ n, d.nk = some n ∧ tupN n = true := by
  cases d <;> try cases h
  rename_i xs
  have h : (match D.nk (.tup xs) with | some k => decide (k.depth ≤ 8) | none => false) = true := h
  cases e : D.nk (.tup xs) with
  | none => rw [e] at h; cases h
  | some n =>
    rw [e] at h
    refine ⟨n, rfl, ?_⟩
    have e' : (D.nks xs).map NestedKey.tup = some n := e
    cases e1 : D.nks xs with
    | none => rw [e1] at e'; cases e'
    | some ks =>
      rw [e1] at e'
      cases e'
      exact h
theorem ents_env : ∀ {ks : List D} {kv vv : List V} {es : List DictEntry} {Z : Option Addr → Prop} {m : Nat} {F : Fp}, Ents W.w ks kv vv es → Reps K H Z m ks kv F → ∃ ns, ks.map D.nk = ns.map some ∧ EnV W.w ns kv vv es ∧ NkVs K H ns kv ∧ (ks.all D.flatKey = true → ns.all flatN = true ∧ kv.all keyVal = true) ∧ (ks.all D.tupKey = true → ns.all tupN = true)
  | _, _, _, _, _, _, _, .nil, r => ⟨[], rfl, .nil, .nil, fun _ => ⟨rfl, rfl⟩, fun _ => rfl⟩
  | _, _, _, _, _, _, _, .cons (n := n) h1 h2 h3 h4 t, .cons q r => by
    obtain ⟨ns, e1, e2, e3, e4, e5⟩ := ents_env t r
    refine ⟨n :: ns, by simp [h1, e1], .cons h2 h3 h4 e2, .cons (nk_view q h1) e3, fun hf => ?_, fun ht => ?_⟩
    · rw [List.all_cons, Bool.and_eq_true] at hf
      obtain ⟨n', g1, g2, g3⟩ := flat_nk q hf.1
      rw [h1] at g1; cases g1
      obtain ⟨a, b⟩ := e4 hf.2
      exact ⟨by simp [g2, a], by simp [g3, b]⟩
    · rw [List.all_cons, Bool.and_eq_true] at ht
      obtain ⟨n', g1, g2⟩ := tup_nk ht.1
      rw [h1] at g1; cases g1
      simp [g2, e5 ht.2]
/-- a dict that is told, by keys and values -/
theorem dicV_of {a : Addr} {ep : Nat} {ks : List D} {kv vv : List V} {es : List DictEntry} {Z : Option Addr → Prop} {m : Nat} {F : Fp} (ha : H a = some (rawD a ep es) ∨ KDict K a ep es) (o : DicOk ks kv vv a es) (r : Reps K H Z m ks kv F) :
    ∃ ns, ks.map D.nk = ns.map some ∧ DicV K H W.w a ep ns kv vv es ∧ (ks.all D.flatKey = true → ns.all flatN = true ∧ kv.all keyVal = true) ∧ (ks.all D.tupKey = true → ns.all tupN = true) := by
  obtain ⟨ns, e1, e2, e3, e4, e5⟩ := ents_env o.ents r
  have hl : ks.length = ns.length := by have := congrArg List.length e1; simpa using this
  refine ⟨ns, e1, ⟨ha, e2, e3, ?_, by rw [← hl]; exact o.big, o.sys⟩, e4, e5⟩
  have := o.nd
  rw [e1] at this
  exact List.Pairwise.of_map some (fun a b h e => h (by rw [e])) this
theorem Rep.dic_inv {Z : Option Addr → Prop} {m : Nat} {ep : Nat} {ks vs : List D} {v : V} {F : Fp} (r : Rep K H Z m (.dic ep ks vs) v F) : ∃ a es kv vv G, v = .ref a ∧ (H a = some (rawD a ep es) ∨ KDict K a ep es) ∧ DicOk ks kv vv a es ∧ D.deps 0 ks = true ∧ Reps K H Z 0 ks kv [] ∧ Reps K H Z (m - 1) vs vv G ∧ ∀ x ∈ G, x ∈ F := by
  cases r with
  | dic h o dk k r => exact ⟨_, _, _, _, _, rfl, .inl h, o, dk, k, r, fun x hx => List.mem_cons_of_mem _ hx⟩
  | dic0 _ h o dk k r => exact ⟨_, _, _, _, _, rfl, .inl h, o, dk, k, r, fun x hx => hx⟩
  | dicW h o dk k r => exact ⟨_, _, _, _, _, rfl, .inr h, o, dk, k, r, fun x hx => hx⟩
theorem fits_of {ks : List D} {ns : List NestedKey} {kv : List V} {y : D} {u : V} {Z : Option Addr → Prop} {m : Nat} {F : Fp} (e4 : ks.all D.flatKey = true → ns.all flatN = true ∧ kv.all keyVal = true) (e5 : ks.all D.tupKey = true → ns.all tupN = true) (r : Rep K H Z m y u F) (hf : fitsD ks y = true) :
    ∃ n, y.nk = some n ∧ NkV K H n u ∧ fits ns kv n u := by
  unfold fitsD at hf
  rw [Bool.or_eq_true, Bool.and_eq_true, Bool.and_eq_true] at hf
  rcases hf with ⟨h1, h2⟩ | ⟨h1, h2⟩
  · obtain ⟨n, g1, g2, g3⟩ := flat_nk r h2
    exact ⟨n, g1, nk_view r g1, .inl ⟨(e4 h1).1, (e4 h1).2, g2, g3⟩⟩
  · obtain ⟨n, g1, g2⟩ := tup_nk h2
    exact ⟨n, g1, nk_view r g1, .inr ⟨e5 h1, g2⟩⟩
theorem keyAt_some {ks : List D} {ns : List NestedKey} {y : D} {n : NestedKey} {j : Nat} (e : ks.map D.nk = ns.map some) (hy : y.nk = some n) (h : keyAt ks y = some j) : ns[j]? = some n := by
  unfold keyAt at h
  obtain ⟨hl, hp, _⟩ := List.findIdx?_eq_some_iff_getElem.mp h
  have hp : ks[j].nk = y.nk := of_decide_eq_true hp
  have h1 : (ks.map D.nk)[j]? = some (some n) := by rw [List.getElem?_map, List.getElem?_eq_getElem hl]; show some ks[j].nk = _; rw [hp, hy]
  rw [e, List.getElem?_map] at h1
  cases e2 : ns[j]? with
  | none => rw [e2] at h1; cases h1
  | some n' => rw [e2] at h1; exact Option.some.inj h1
theorem keyAt_none {ks : List D} {ns : List NestedKey} {y : D} {n : NestedKey} (e : ks.map D.nk = ns.map some) (hy : y.nk = some n) (h : keyAt ks y = none) : n ∉ ns := fun hm => by
  unfold keyAt at h
  have h1 : some n ∈ ks.map D.nk := by rw [e]; exact List.mem_map.mpr ⟨n, hm, rfl⟩
  obtain ⟨k, hk, he⟩ := List.mem_map.mp h1
  have := List.findIdx?_eq_none_iff.mp h k hk
  simp [he, hy] at this
theorem keyAt_is {ks : List D} {ns : List NestedKey} {y : D} {n : NestedKey} (e : ks.map D.nk = ns.map some) (hy : y.nk = some n) : (keyAt ks y).isSome = decide (n ∈ ns) := by
  cases h : keyAt ks y with
  | none => simp [keyAt_none e hy h]
  | some j => simp [List.mem_of_getElem? (keyAt_some e hy h)]
end Pm

namespace Pm
open PySem PySem.Spec L2
/-! ### the keys of a dict, one by one -/
/-- the keys of the dict at a -/
def Itd (K : PySem.W.Frag) (w : World) (a : Addr) (ep n : Nat) : L2.It :=
  ⟨fun i H => ∃ ns ks vs es x, DicV K H w a ep ns ks vs es ∧ es.length = n ∧ ks[i]? = some x,
   fun i H x H' => H' = H ∧ ∀ ns ks vs es, DicV K H w a ep ns ks vs es → ks[i]? = some x,
   fun i H => ∃ ns ks vs es, DicV K H w a ep ns ks vs es ∧ es.length = n ∧ ks.length ≤ i⟩
theorem EnV.getk {w : World} : ∀ {ns : List NestedKey} {ks vs : List V} {es : List DictEntry} {i : Nat} {x : V}, EnV w ns ks vs es → ks[i]? = some x → ∃ e, es[i]? = some e ∧ RelV x e.key
  | _, _, _, _, _, _, .nil, h => by simp at h
  | _, _, _, _, 0, _, .cons _ h _ _, e => by simp at e; subst e; exact ⟨_, rfl, h⟩
  | _, _, _, _, i + 1, _, .cons _ _ _ r, e => by
    obtain ⟨e', h1, h2⟩ := EnV.getk r (by simpa using e)
    exact ⟨e', by simpa using h1, h2⟩
theorem RawAt.inj {h : Heap} {a : Addr} {ep ep' : Nat} {es es' : List DictEntry} (r : RawAt h a ep es) (q : RawAt h a ep' es') : es = es' := by
  obtain ⟨o, h1, _, h3⟩ := r
  obtain ⟨o', g1, _, g3⟩ := q
  rw [h1] at g1
  cases g1
  rw [h3] at g3
  injection g3 with e1 e2
  simpa using e1
theorem RawAt.dict {h : Heap} {a : Addr} {ep : Nat} {es : List DictEntry} (r : RawAt h a ep es) : h.DictRaw a es.toArray ep := r
theorem turn_dict {P : Program} {w : World} {K : PySem.W.Frag} {tg : Expr} (a it : Addr) (ep n : Nat) : Turn P w K tg (Itd K w a ep n) [it] it (fun i h => h.IsKeyIter it a i n ep) where
  mem := by simp
  obj := fun i h st b hb => by
    have e : b = it := by simpa using hb
    subst e
    obtain ⟨o, e, c, d⟩ := st
    exact ⟨o, e, fun v z => by rw [d] at z; cases z⟩
  keep := fun i h h' st k => st.at fun o e => k it (by simp) o e
  item := by
    intro X hP hw hK hc i pins s σ H E I hf st hg
    subst hP hw hK
    obtain ⟨ns, ks, vs, es, x, dv, hl, hx⟩ := hg
    subst hl
    obtain ⟨e', he, re⟩ := dv.ents.getk hx
    have hi : i < es.length := (List.getElem?_eq_some_iff.mp he).1
    have hge : es.toArray[i]'(by simpa using hi) = e' := by
      have := (List.getElem?_eq_some_iff.mp he).2
      simpa using this
    obtain ⟨f0, f1, f2, f3, f4, f5⟩ := hf it (by simp)
    refine wpAny_pyNext_keys_item_raw (es := es.toArray) (by simpa using st) (dv.raw I).dict (by simpa using hi) fun h' st' sb => ?_
    have I1 : Inv X pins σ H { s with heap := h' } := I.turned (t' := s.toks) (fun b o hb e => (sb.2 b hb).trans e) f0 f1 f3 f4 f5
    obtain ⟨o, e, c, d⟩ := id st'
    rw [hge]
    refine ⟨e'.key, rfl, go_of (s := { s with heap := h' }) e c d (by decide) ⟨x, H, I1, re, ⟨rfl, fun ns' ks' vs' es' dv' => ?_⟩, by simpa using st', fun b hb => (hf b hb).1⟩⟩
    have ee := (dv'.raw I).inj (dv.raw I)
    subst ee
    obtain ⟨l1, l2, _⟩ := dv'.ents.len
    have hi' : i < ks'.length := by omega
    obtain ⟨e2, g1, g2⟩ := dv'.ents.getk (List.getElem?_eq_getElem hi')
    rw [he] at g1
    cases g1
    rw [List.getElem?_eq_getElem hi', g2.inj re]
  done := by
    intro X hP hw hK hc i pins s σ H E I hf st hg
    subst hP hw hK
    obtain ⟨ns, ks, vs, es, dv, hl, hx⟩ := hg
    subst hl
    obtain ⟨f0, f1, f2, f3, f4, f5⟩ := hf it (by simp)
    obtain ⟨l1, l2, _⟩ := dv.ents.len
    exact wpAny_pyNext_keys_end_raw (I.ok.hd hc) (es := es.toArray) (by simpa using st) (dv.raw I).dict (by simp; omega) fun h' eb => ⟨rfl, I.turned (t' := s.toks) (fun b o hb e => eb b o hb e) f0 f1 f3 f4 f5⟩
  self := fun _ _ _ _ _ st h => wpAny_pyIter_keyiter st h
end Pm

namespace Pm
open PySem PySem.Spec L2
/-! ### dict(list of pairs) -/
section
variable {α β : Type} {R : α → β → Prop}
theorem All2.len : ∀ {as : List α} {bs : List β}, All2 R as bs → as.length = bs.length
  | _, _, .nil => rfl
  | _, _, .cons _ t => by simp [All2.len t]
theorem All2.getR : ∀ {as : List α} {bs : List β} {i : Nat} {b : β}, All2 R as bs → bs[i]? = some b → ∃ a, as[i]? = some a ∧ R a b
  | _, _, _, _, .nil, h => by simp at h
  | _, _, 0, _, .cons h _, e => by simp at e; subst e; exact ⟨_, rfl, h⟩
  | _, _, i + 1, _, .cons _ t, e => by obtain ⟨a, h1, h2⟩ := All2.getR t (by simpa using e); exact ⟨a, by simpa using h1, h2⟩
theorem All2.getL : ∀ {as : List α} {bs : List β} {i : Nat} {a : α}, All2 R as bs → as[i]? = some a → ∃ b, bs[i]? = some b ∧ R a b
  | _, _, _, _, .nil, h => by simp at h
  | _, _, 0, _, .cons h _, e => by simp at e; subst e; exact ⟨_, rfl, h⟩
  | _, _, i + 1, _, .cons _ t, e => by obtain ⟨a, h1, h2⟩ := All2.getL t (by simpa using e); exact ⟨a, by simpa using h1, h2⟩
theorem All2.mapEq {γ : Type} {f : α → γ} {g : β → γ} (h : ∀ a b, R a b → f a = g b) : ∀ {as : List α} {bs : List β}, All2 R as bs → as.map f = bs.map g
  | _, _, .nil => rfl
  | _, _, .cons r t => by rw [List.map_cons, List.map_cons, h _ _ r, All2.mapEq h t]
theorem All2.app : ∀ {as : List α} {bs : List β} {a : α} {b : β}, All2 R as bs → R a b → All2 R (as ++ [a]) (bs ++ [b])
  | _, _, _, _, .nil, r => .cons r .nil
  | _, _, _, _, .cons h t, r => .cons h (All2.app t r)
theorem All2.put {κ μ : Type} [DecidableEq κ] [DecidableEq μ] {ka : α → κ} {kb : β → μ} {sa : α → α → α} {sb : β → β → β} (hk : ∀ a b a' b', R a b → R a' b' → (ka a = ka a' ↔ kb b = kb b')) (hs : ∀ a b a' b', R a b → R a' b' → R (sa a a') (sb b b'))
    {as : List α} {bs : List β} {x : α} {y : β} (h : All2 R as bs) (r : R x y) : All2 R (putL ka sa as x) (putL kb sb bs y) := by
  have any : ∀ {as : List α} {bs : List β}, All2 R as bs → (as.any fun z => decide (ka z = ka x)) = (bs.any fun z => decide (kb z = kb y)) := by
    intro as bs h
    induction h with
    | nil => rfl
    | cons q _ ih => rw [List.any_cons, List.any_cons, ih, decide_eq_decide.mpr (hk _ _ _ _ q r)]
  have mp : ∀ {as : List α} {bs : List β}, All2 R as bs → All2 R (as.map fun z => if ka z = ka x then sa z x else z) (bs.map fun z => if kb z = kb y then sb z y else z) := by
    intro as bs h
    induction h with
    | nil => exact .nil
    | @cons a b _ _ q _ ih =>
      rw [List.map_cons, List.map_cons]
      refine .cons ?_ ih
      by_cases e : ka a = ka x
      · rw [if_pos e, if_pos ((hk _ _ _ _ q r).mp e)]; exact hs _ _ _ _ q r
      · rw [if_neg e, if_neg fun q' => e ((hk _ _ _ _ q r).mpr q')]; exact q
  unfold putL
  rw [any h]
  split
  · exact mp h
  · exact h.app r
theorem All2.merge {κ μ : Type} [DecidableEq κ] [DecidableEq μ] {ka : α → κ} {kb : β → μ} {sa : α → α → α} {sb : β → β → β} (hk : ∀ a b a' b', R a b → R a' b' → (ka a = ka a' ↔ kb b = kb b')) (hs : ∀ a b a' b', R a b → R a' b' → R (sa a a') (sb b b'))
    {as : List α} {bs : List β} (h : All2 R as bs) : All2 R (mergeL ka sa as) (mergeL kb sb bs) := by
  have go : ∀ {as : List α} {bs : List β}, All2 R as bs → ∀ (l : List α) (m : List β), All2 R l m → All2 R (as.foldl (putL ka sa) l) (bs.foldl (putL kb sb) m) := by
    intro as bs h
    induction h with
    | nil => exact fun l m q => q
    | cons r _ ih => exact fun l m q => ih _ _ (q.put hk hs r)
  exact go h [] [] .nil
end
/-- what is put together is of what there was -/
theorem put_keys {α κ : Type} [DecidableEq κ] {key : α → κ} {st : α → α → α} (hst : ∀ y x, key (st y x) = key y) (l : List α) (x : α) : (putL key st l x).map key = if key x ∈ l.map key then l.map key else l.map key ++ [key x] := by
  have any : (l.any fun y => decide (key y = key x)) = decide (key x ∈ l.map key) := by
    rw [Bool.eq_iff_iff, List.any_eq_true, decide_eq_true_iff, List.mem_map]
    exact ⟨fun ⟨y, h1, h2⟩ => ⟨y, h1, of_decide_eq_true h2⟩, fun ⟨y, h1, h2⟩ => ⟨y, h1, decide_eq_true h2⟩⟩
  unfold putL
  rw [any]
  by_cases h : key x ∈ l.map key
  · rw [if_pos h, if_pos (decide_eq_true h), List.map_map]
    refine List.map_congr_left fun y _ => ?_
    show key (if key y = key x then st y x else y) = key y
    split
    · exact hst y x
    · rfl
  · rw [if_neg h, if_neg (by simpa using h), List.map_append]; rfl
theorem merge_nodup {α κ : Type} [DecidableEq κ] {key : α → κ} {st : α → α → α} (hst : ∀ y x, key (st y x) = key y) (xs : List α) : ((mergeL key st xs).map key).Nodup ∧ (mergeL key st xs).length ≤ xs.length ∧ ∀ k ∈ (mergeL key st xs).map key, k ∈ xs.map key := by
  have go : ∀ (xs l : List α), (l.map key).Nodup → ((xs.foldl (putL key st) l).map key).Nodup ∧ (xs.foldl (putL key st) l).length ≤ l.length + xs.length ∧ ∀ k ∈ (xs.foldl (putL key st) l).map key, k ∈ l.map key ∨ k ∈ xs.map key := by
    intro xs
    induction xs with
    | nil => exact fun l h => ⟨h, Nat.le_refl _, fun k hk => .inl hk⟩
    | cons x xs ih =>
      intro l h
      have e := put_keys hst l x
      have hl : (putL key st l x).length ≤ l.length + 1 := by
        have := congrArg List.length e
        rw [List.length_map] at this
        rw [this]; split <;> simp
      obtain ⟨h1, h2, h3⟩ := ih (putL key st l x) (by
        rw [e]; split
        · exact h
        · rename_i hn
          exact List.nodup_append.mpr ⟨h, by simp, fun a ha b hb q => by simp at hb; subst hb; subst q; exact hn ha⟩)
      refine ⟨h1, by rw [List.foldl_cons, List.length_cons]; omega, fun k hk => ?_⟩
      rcases h3 k hk with q | q
      · rw [e] at q
        split at q
        · exact .inl q
        · rcases List.mem_append.mp q with q | q
          · exact .inl q
          · simp at q; subst q; exact .inr (by simp)
      · exact .inr (by simp at q ⊢; exact .inr q)
  obtain ⟨h1, h2, h3⟩ := go xs [] (by simp)
  exact ⟨h1, by simpa [mergeL] using h2, fun k hk => (h3 k hk).elim (fun q => by simp at q) id⟩
/-! by value -/
abbrev TV := NestedKey × V × V
def stT (y x : TV) : TV := (y.1, y.2.1, x.2.2)
def mergeT (ts : List TV) : List TV := mergeL (·.1) stT ts
inductive PairsV (K : PySem.W.Frag) (H : Hp) : List TV → List V → Prop
  | nil : PairsV K H [] []
  | cons {n : NestedKey} {k v : V} {b : Addr} {ts : List TV} {ys : List V} : SqT K H b [k, v] → NkV K H n k → PairsV K H ts ys → PairsV K H ((n, k, v) :: ts) (.ref b :: ys)
section
variable {X : Cx} {pins : List (Addr × Obj)} {σ : L2.St} {H : Hp} {s : Shared}
def Rz (t : TV) (z : NestedKey × Addr × Value) : Prop := t.1 = z.1 ∧ t.2.1 = .ref z.2.1 ∧ RelV t.2.2 z.2.2
theorem pairsT (I : Inv X pins σ H s) : ∀ {ts : List TV} {ys : List V} {its : List Value}, PairsV X.K H ts ys → Vals ys its → (∀ t ∈ ts, tupN t.1 = true) →
    ∃ (bs : List Addr) (zs : List (NestedKey × Addr × Value)), its = bs.map Value.ref ∧ All2 Rz ts zs ∧ All2 (fun b z => s.heap.IsTuple b #[Value.ref z.2.1, z.2.2]) bs zs ∧ ∀ z ∈ zs, (nestedKind X.prog X.w).is s.heap z.1 z.2.1
  | _, _, _, .nil, r, _ => by cases r; exact ⟨[], [], rfl, .nil, .nil, fun _ h => by simp at h⟩
  | _, _, _, .cons (n := n) (k := k) (v := v) (b := b) hs hn hp, r, ht => by
    cases r with
    | cons r0 r1 =>
      cases r0
      obtain ⟨bs, zs, e1, e2, e3, e4⟩ := pairsT I hp r1 fun t h => ht t (List.mem_cons_of_mem _ h)
      obtain ⟨its2, rv, p, _⟩ := I.tuple hs
      obtain ⟨u1, u2, rfl, q1, q2⟩ := vals2 rv
      have hk := hn.is I q1
      have htn := ht _ List.mem_cons_self
      cases hn with
      | @tup a' vs' ks' sq qs =>
        cases q1
        refine ⟨b :: bs, (.tup ks', a', u2) :: zs, by rw [e1]; rfl, .cons ⟨rfl, rfl, q2⟩ e2, .cons p e3, fun z hz => ?_⟩
        rcases List.mem_cons.mp hz with rfl | hz
        · exact ⟨hk, by unfold tupN at htn; simpa using htn⟩
        · exact e4 z hz
      | _ => cases htn
def Rk (t : TV) (z : Key × Value) : Prop := t.1 = keyN z.1 ∧ t.2.1 = kV z.1 ∧ RelV t.2.2 z.2
theorem pairsF (I : Inv X pins σ H s) : ∀ {ts : List TV} {ys : List V} {its : List Value}, PairsV X.K H ts ys → Vals ys its → (∀ t ∈ ts, flatN t.1 = true ∧ keyVal t.2.1 = true) →
    ∃ (bs : List Addr) (zs : List (Key × Value)) (us : List Value), its = bs.map Value.ref ∧ All2 Rk ts zs ∧ All2 (fun u z => (mixKind X.prog X.w).is z.1 u = true) us zs ∧ All2 (fun b (p : Value × Value) => s.heap.IsTuple b #[p.1, p.2]) bs (us.zip (zs.map (·.2)))
  | _, _, _, .nil, r, _ => by cases r; exact ⟨[], [], [], rfl, .nil, .nil, .nil⟩
  | _, _, _, .cons (n := n) (k := k) (v := v) (b := b) hs hn hp, r, ht => by
    cases r with
    | cons r0 r1 =>
      cases r0
      obtain ⟨bs, zs, us, e1, e2, e3, e4⟩ := pairsF I hp r1 fun t h => ht t (List.mem_cons_of_mem _ h)
      obtain ⟨its2, rv, p, _⟩ := I.tuple hs
      obtain ⟨u1, u2, rfl, q1, q2⟩ := vals2 rv
      obtain ⟨x, rfl, rfl⟩ := flat_key hn (ht _ List.mem_cons_self).1 (ht _ List.mem_cons_self).2
      exact ⟨b :: bs, (x, u2) :: zs, u1 :: us, by rw [e1]; rfl, .cons ⟨rfl, rfl, q2⟩ e2, .cons (kV_is q1) e3, .cons p e4⟩
theorem stored_put {K' : Type} [DecidableEq K'] (l : List (K' × Addr × Value)) (x : K' × Addr × Value) : storedH l x.1 x.2.1 x.2.2 = putL (·.1) (fun y x => (y.1, y.2.1, x.2.2)) l x := by
  have any : (atKey l x.1).isSome = l.any fun y => decide (y.1 = x.1) := by
    unfold atKey
    rw [Option.isSome_map, Bool.eq_iff_iff, List.find?_isSome, List.any_eq_true]
  unfold storedH putL
  rw [any]
  rfl
theorem storedK_put {K' : Type} [DecidableEq K'] (l : List (K' × Value)) (x : K' × Value) : stored l x.1 x.2 = putL (·.1) (fun y x => (y.1, x.2)) l x := rfl
theorem all_merge {K' : Type} [DecidableEq K'] (zs : List (K' × Addr × Value)) : storedAllH [] zs = mergeL (·.1) (fun y x => (y.1, y.2.1, x.2.2)) zs := by
  have : ∀ (zs l : List (K' × Addr × Value)), zs.foldl (fun acc p => storedH acc p.1 p.2.1 p.2.2) l = zs.foldl (putL (·.1) fun y x => (y.1, y.2.1, x.2.2)) l := by
    intro zs
    induction zs with
    | nil => exact fun _ => rfl
    | cons z zs ih => intro l; rw [List.foldl_cons, List.foldl_cons, ih, stored_put]
  exact this zs []
theorem all_mergeK {K' : Type} [DecidableEq K'] (zs : List (K' × Value)) : merged [] zs = mergeL (·.1) (fun y x => (y.1, x.2)) zs := rfl
theorem vals_all2 {T Z : Type} {f : T → V} {g : Z → Value} {R : T → Z → Prop} (h : ∀ t z, R t z → RelV (f t) (g z)) : ∀ {ts : List T} {zs : List Z}, All2 R ts zs → Vals (ts.map f) (zs.map g)
  | _, _, .nil => .nil
  | _, _, .cons r t => .cons (h _ _ r) (vals_all2 h t)
def rDictT (K : PySem.W.Frag) (w : World) : List V → Hp → VK → Prop := fun xs H Q => ∃ (a : Addr) (ys : List V) (ts : List TV), xs = [.ref a] ∧ SqL K H a ys ∧ PairsV K H ts ys ∧ (∀ t ∈ ts, tupN t.1 = true) ∧ ts.length ≤ sizeLine ∧
  ∀ (p : Addr) (ep : Nat) (es : List DictEntry), H p = none → (p == sysModules) = false → EnV w ((mergeT ts).map (·.1)) ((mergeT ts).map (·.2.1)) ((mergeT ts).map (·.2.2)) es → Q (.ref p) (upd H p (rawD p ep es))
def rDictF (K : PySem.W.Frag) (w : World) : List V → Hp → VK → Prop := fun xs H Q => ∃ (a : Addr) (ys : List V) (ts : List TV), xs = [.ref a] ∧ SqL K H a ys ∧ PairsV K H ts ys ∧ (∀ t ∈ ts, flatN t.1 = true ∧ keyVal t.2.1 = true) ∧ ts.length ≤ sizeLine ∧
  ∀ (p : Addr) (ep : Nat) (es : List DictEntry), H p = none → (p == sysModules) = false → EnV w ((mergeT ts).map (·.1)) ((mergeT ts).map (·.2.1)) ((mergeT ts).map (·.2.2)) es → Q (.ref p) (upd H p (rawD p ep es))
theorem items_of {h : Heap} {bs : List Addr} {ps : List (Value × Value)} (hp : All2 (fun b (p : Value × Value) => h.IsTuple b #[p.1, p.2]) bs ps) : PairItems h (bs.map Value.ref).toArray (fun j => bs.getD j 0) ps := by
  refine ⟨by simp [hp.len], fun j k v hj => ?_⟩
  obtain ⟨b, h1, h2⟩ := hp.getR hj
  have : bs.getD j 0 = b := by rw [List.getD_eq_getElem?_getD, h1]; rfl
  simp only [this]
  exact ⟨by simp [h1], .inl h2⟩
theorem all2_map {α β γ δ : Type} {R : γ → δ → Prop} {f : α → γ} {g : β → δ} : ∀ {as : List α} {bs : List β}, All2 (fun a b => R (f a) (g b)) as bs → All2 R (as.map f) (bs.map g)
  | _, _, .nil => .nil
  | _, _, .cons r t => .cons r (all2_map t)
theorem cr_dictT (hc : X.calm = true) (hu : X.A.units + 65 < cLine) : CallR X (.type "dict") (rDictT X.K X.w) := by
  intro pins s σ H xs us Q I r h
  obtain ⟨a, ys, ts, rfl, hs, hp, ht, hl, q⟩ := h
  obtain ⟨its, rv, pl, hz⟩ := I.list hs
  obtain ⟨u, rfl, ru⟩ := vals1 r
  obtain rfl : u = Value.ref a := ru
  obtain ⟨bs, zs, rfl, e2, e3, e4⟩ := pairsT I hp rv ht
  have e5 : All2 (fun b (p : Value × Value) => s.heap.IsTuple b #[p.1, p.2]) bs (zs.map fun z => (Value.ref z.2.1, z.2.2)) := by
    have := all2_map (f := id) (g := fun z : NestedKey × Addr × Value => (Value.ref z.2.1, z.2.2)) (R := fun b (p : Value × Value) => s.heap.IsTuple b #[p.1, p.2]) e3
    simpa using this
  have lz : zs.length = ts.length := e2.len.symm
  have hb : (s.heap.objs.size == sysModules) = false := beq_eq_false_iff_ne.mpr (Ne.symm (Nat.ne_of_lt I.big))
  refine call_dict_pairsH (knd := nestedKind X.prog X.w) (ps := zs) (PairArg.list a (bs.map Value.ref).toArray (fun j => bs.getD j 0) (zs.map fun z => (Value.ref z.2.1, z.2.2))) (I.ok.hd hc) ?_ ⟨pl, items_of e5⟩ ⟨by simp, fun i key v hr => ?_⟩ (fun h' hk x hx => ?_) (by simp; omega) fun h' tk hd hk => ?_
  · show X.A.in1.in1.units + 8 < cLine
    have : X.A.in1.in1.units ≤ X.A.units + 2 := by first | exact Nat.le_refl _ | (simp [Around.in1]; done)
    omega
  · have hr : (zs.map fun z => (Value.ref z.2.1, z.2.2))[i]? = some (key, v) := hr
    rw [List.getElem?_map] at hr
    cases e : zs[i]? with
    | none => rw [e] at hr; cases hr
    | some z => rw [e] at hr; cases hr; exact ⟨z.1, z.2.1, rfl, rfl⟩
  · exact nestedKind_stays.stays (fun b o vs n ho _ => hk b o (Nat.ne_of_lt (Heap.lt_size ho)) (by simp) ho) (e4 x hx)
  · rw [all_merge] at hd
    obtain ⟨o, es', ep, ho, hex, hdat, he, _, _⟩ := hd
    have em : All2 Rz (mergeT ts) (mergeL (·.1) (fun y x => (y.1, y.2.1, x.2.2)) zs) := e2.merge (fun t z t' z' q q' => by rw [q.1, q'.1]) (fun t z t' z' q q' => ⟨q.1, q.2.1, q'.2.2⟩)
    have rw' : RawAt h' s.heap.objs.size ep es'.toList := ⟨o, ho, hex, by simpa using hdat⟩
    have en := env_of (X := X) (xs := mergeL (·.1) (fun y x => (y.1, y.2.1, x.2.2)) zs) (vs := (mergeT ts).map (·.2.2)) (vals_all2 (fun t z q => q.2.2) em)
    rw [← he, ← em.mapEq (f := (·.1)) (g := (·.1)) (fun t z q => q.1), ← em.mapEq (f := (·.2.1)) (g := fun z => V.ref z.2.1) (fun t z q => q.2.1)] at en
    exact ⟨.ref s.heap.objs.size, _, I.laid (o := rawD s.heap.objs.size ep es'.toList) (t' := tk) (fun b o e => hk b o (by simp) e) (Nat.le_refl _) (rawD_ok rw'), rfl, q _ ep es'.toList (I.hok.fresh (Nat.le_refl _)) hb en⟩
theorem cr_dictF (hc : X.calm = true) : CallR X (.type "dict") (rDictF X.K X.w) := by
  intro pins s σ H xs us Q I r h
  obtain ⟨a, ys, ts, rfl, hs, hp, ht, hl, q⟩ := h
  obtain ⟨its, rv, pl, hz⟩ := I.list hs
  obtain ⟨u, rfl, ru⟩ := vals1 r
  obtain rfl : u = Value.ref a := ru
  obtain ⟨bs, zs, ks, rfl, e2, e3, e4⟩ := pairsF I hp rv ht
  have lz : zs.length = ts.length := e2.len.symm
  have lk : ks.length = zs.length := e3.len
  have hb : (s.heap.objs.size == sysModules) = false := beq_eq_false_iff_ne.mpr (Ne.symm (Nat.ne_of_lt I.big))
  have lp : (ks.zip (zs.map (·.2))).length = zs.length := by simp [lk]
  refine call_dict_pairs (knd := mixKind X.prog X.w) (kvs := zs) (PairArg.list a (bs.map Value.ref).toArray (fun j => bs.getD j 0) (ks.zip (zs.map (·.2)))) (I.ok.hd hc) ⟨pl, items_of e4⟩ ⟨lp.symm, fun i key v hr => ?_⟩ (by rw [lp]; omega) fun h' tk hd hk => ?_
  · have hr : (ks.zip (zs.map (·.2)))[i]? = some (key, v) := hr
    rw [List.getElem?_zip_eq_some] at hr
    obtain ⟨h1, h2⟩ := hr
    obtain ⟨z, h3, h4⟩ := e3.getL h1
    rw [List.getElem?_map, h3] at h2
    cases h2
    exact ⟨z.1, h3, h4⟩
  · rw [all_mergeK] at hd
    obtain ⟨o, es', ep, ho, hex, hdat, hke, hpr, _⟩ := hd
    have em : All2 Rk (mergeT ts) (mergeL (·.1) (fun y x => (y.1, x.2)) zs) := e2.merge (fun t z t' z' q q' => by rw [q.1, q'.1]; exact ⟨keyN_inj, fun e => by rw [e]⟩) (fun t z t' z' q q' => ⟨q.1, q.2.1, q'.2.2⟩)
    have rw' : RawAt h' s.heap.objs.size ep es'.toList := ⟨o, ho, hex, by simpa using hdat⟩
    have en := env_ofK (P := X.prog) (w := X.w) (es := es'.toList) (kvs := mergeL (·.1) (fun y x => (y.1, x.2)) zs) (vs := (mergeT ts).map (·.2.2)) (by simpa using hke) hpr (vals_all2 (fun t z q => q.2.2) em)
    rw [← em.mapEq (f := (·.1)) (g := fun p => keyN p.1) (fun t z q => q.1), ← em.mapEq (f := (·.2.1)) (g := fun p => kV p.1) (fun t z q => q.2.1)] at en
    exact ⟨.ref s.heap.objs.size, _, I.laid (o := rawD s.heap.objs.size ep es'.toList) (t' := tk) (fun b o e => hk b o (by simp) e) (Nat.le_refl _) (rawD_ok rw'), rfl, q _ ep es'.toList (I.hok.fresh (Nat.le_refl _)) hb en⟩
end
/-! the data's pairs -/
variable [W : Wd] {K : PySem.W.Frag} {H : Hp}
theorem env_ents : ∀ {ks : List D} {ns : List NestedKey} {kv vv : List V} {es : List DictEntry}, ks.map D.nk = ns.map some → EnV W.w ns kv vv es → Ents W.w ks kv vv es
  | [], [], _, _, _, _, .nil => .nil
  | k :: ks, n :: ns, _, _, _, e, .cons h1 h2 h3 t => by
    simp only [List.map_cons, List.cons.injEq] at e
    exact .cons e.1 h1 h2 h3 (env_ents e.2 t)
  | [], _ :: _, _, _, _, e, _ => by simp at e
  | _ :: _, [], _, _, _, e, _ => by simp at e
end Pm

namespace Pm
open PySem L2
variable [W : Wd]

/-- as it is read -/
abbrev Vw (K : PySem.W.Frag) (H : Hp) (d : D) (v : V) : Prop := Rep K H (fun _ => True) 0 d v []
abbrev Vws (K : PySem.W.Frag) (H : Hp) (ds : List D) (vs : List V) : Prop := Reps K H (fun _ => True) 0 ds vs []
section
variable {K : PySem.W.Frag} {H : Hp} {Z : Option Addr → Prop} {n : Nat}
theorem New0.same {d : D} {v : V} {F : Fp} (r : Rep K H Z n d v F) (h : d.dep 0 = true) : New0 K H H d v := ⟨(r.imm _ _ h).2, h, Ext.refl⟩
theorem New0.tup {p : Addr} {ds : List D} {vs : List V} {F : Fp} (r : Reps K H Z n ds vs F) (hd : D.deps 0 ds = true) (h : H p = none) : New0 K H (upd H p (.tup vs)) (.tup ds) (.ref p) :=
  ⟨.tup (.inl (.inl upd_same)) ((r.imm _ _ hd).2.new h), by simpa [D.dep] using hd, ext_new h⟩
theorem New0.str {s : List Nat} (h : ∀ c ∈ s, c < 0x110000) : New0 K H H (.str s) (.str (toStr s)) := New0.same (Z := fun _ => True) (n := 0) (.str s h) (by simp [D.dep])
theorem New0.int {i : Int} : New0 K H H (.int i) (.int i) := New0.same (Z := fun _ => True) (n := 0) (.int i) (by simp [D.dep])
theorem New0.bl {i : Bool} : New0 K H H (.bl i) (.bl i) := New0.same (Z := fun _ => True) (n := 0) (.bl i) (by simp [D.dep])
theorem New0.non : New0 K H H .non .non := New0.same (Z := fun _ => True) (n := 0) .non (by simp [D.dep])
end
theorem Rel.immV {K : PySem.W.Frag} {H0 H : Hp} {M : Mz} {Γ : List STy} {ρ : Penv} {σ : St} {Θ : List Ty} {θ : List (D × V)} (R : Rel K H0 M Γ ρ σ Θ θ H) {d : D} {v : V} (r : Vw K H d v) (hd : d.dep 0 = true) : Rel K H0 M Γ ρ σ (Pm.imm :: Θ) ((d, v) :: θ) H := R.imm r hd
/-- flat data is of any type -/
theorem Rel.as0 {K : PySem.W.Frag} {H0 H : Hp} {M : Mz} {Γ : List STy} {ρ : Penv} {σ : St} {Θ : List Ty} {θ : List (D × V)} {t : Ty} {d : D} {v : V} (R : Rel K H0 M Γ ρ σ (t :: Θ) ((d, v) :: θ) H) {u : Ty} (hd : d.dep 0 = true) (hu : u.p.isOwn = true) : Rel K H0 M Γ ρ σ (u :: Θ) ((d, v) :: θ) H := by
  obtain ⟨q1, d1⟩ := R.len1
  obtain ⟨ow, R⟩ := R
  exact R.res (Θs := [t]) (θs := [(d, v)]) rfl (F := []) (q1.imm _ _ hd).2 (D.dep_mono (Nat.zero_le _) d hd) (.inl hu) List.nodup_nil (fun a h => by simp at h) Ext.refl
theorem toStr_app (a b : List Nat) : toStr a ++ toStr b = toStr (a ++ b) := by
  show (⟨(toStr a).cps ++ (toStr b).cps⟩ : Str) = _
  simp [toStr]
theorem toStr_len (a : List Nat) : (toStr a).length = a.length := by
  show (toStr a).cps.size = _
  simp [toStr]
theorem toStr_list (a : List Nat) : (toStr a).cps.toList = a := by simp [toStr]

/-! ### what the values are, by the datum -/
section
variable {K : PySem.W.Frag} {H : Hp} {Z : Option Addr → Prop} {n : Nat}
theorem Rep.int_inv {i : Int} {v : V} {F : Fp} (r : Rep K H Z n (.int i) v F) : v = .int i := by cases r; rfl
theorem Rep.bl_inv {i : Bool} {v : V} {F : Fp} (r : Rep K H Z n (.bl i) v F) : v = .bl i := by cases r; rfl
theorem Rep.str_inv {s : List Nat} {v : V} {F : Fp} (r : Rep K H Z n (.str s) v F) : v = .str (toStr s) ∧ ∀ c ∈ s, c < 0x110000 := by cases r; exact ⟨rfl, by assumption⟩
theorem Rep.non_inv {v : V} {F : Fp} (r : Rep K H Z n .non v F) : v = .non := by cases r; rfl
theorem Rep.tup_inv {ds : List D} {v : V} {F : Fp} (r : Rep K H Z n (.tup ds) v F) : ∃ a vs, v = .ref a ∧ SqT K H a vs ∧ Reps K H Z n ds vs F := by cases r; exact ⟨_, _, rfl, by assumption, by assumption⟩
theorem Rep.lst_inv {ds : List D} {v : V} {F : Fp} (r : Rep K H Z n (.lst ds) v F) : ∃ a vs, v = .ref a ∧ SqL K H a vs ∧ Vws K H ds vs := by
  cases r with
  | lst h r => exact ⟨_, _, rfl, .inl (.inl h), r.vw⟩
  | lst0 _ h r => exact ⟨_, _, rfl, .inl (.inl h), r.vw⟩
  | lstF h r => exact ⟨_, _, rfl, .inl (.inr ⟨_, h⟩), r.vw⟩
  | lstW _ h r => exact ⟨_, _, rfl, h _, r.vw⟩
/-- a list whose items may go on into another -/
theorem EntOk.copyL {ow : Addr → Id} {id : Id} {ty : Ty} {ds : List D} {v : V} (h : EntOk K H ow id ty (.lst ds) v) (hc : ty.copy = true) {T : Id → Prop} (hT : T id) : ∃ a vs, v = .ref a ∧ SqL K H a vs ∧ (ty.p ≠ .rd → Rd H a (.lst vs)) ∧ Reps K H (zC T ow H []) 0 ds vs [] ∧ D.deps (ty.k - 1) ds = true ∧ 1 ≤ ty.k := by
  obtain ⟨F, r, hd, hl⟩ := h
  have hk : 1 ≤ ty.k ∧ D.deps (ty.k - 1) ds = true := by
    cases e : ty.k with
    | zero => rw [e] at hd; simp [D.dep] at hd
    | succ k => rw [e] at hd; exact ⟨by omega, by simpa [D.dep] using hd⟩
  have zf : ∀ o, zOf ow H .frz o → zC T ow H [] o := fun o z => by
    cases o with
    | none => exact z.elim
    | some a => exact ⟨z.2, by simp, .inl z.1⟩
  have im : ∀ {m : Nat} {Z : Option Addr → Prop} {vs : List V} {G : Fp}, ty.k ≤ 1 → Reps K H Z m ds vs G → Reps K H (zC T ow H []) 0 ds vs [] := fun h1 r => by
    have : D.deps 0 ds = true := by rw [show ty.k - 1 = 0 by omega] at hk; exact hk.2
    exact (r.imm _ _ this).2
  have main : ∀ {m : Nat} {Z : Option Addr → Prop} {G : Fp}, Rep K H Z m (.lst ds) v G → (∀ vs G', Reps K H Z (m - 1) ds vs G' → (∀ b ∈ G', b ∈ G) → Reps K H (zC T ow H []) 0 ds vs []) → (Z none → ty.p = .rd) → ∃ a vs, v = .ref a ∧ SqL K H a vs ∧ (ty.p ≠ .rd → Rd H a (.lst vs)) ∧ Reps K H (zC T ow H []) 0 ds vs [] := fun r0 q zn => by
    cases r0 with
    | lst h r1 => exact ⟨_, _, rfl, .inl (.inl h), fun _ => .inl h, q _ _ r1 fun b hb => List.mem_cons_of_mem _ hb⟩
    | lst0 _ h r1 => exact ⟨_, _, rfl, .inl (.inl h), fun _ => .inl h, q _ _ r1 fun b hb => hb⟩
    | lstF h r1 => exact ⟨_, _, rfl, .inl (.inr ⟨_, h⟩), fun _ => .inr ⟨_, h⟩, q _ _ r1 fun b hb => hb⟩
    | lstW z h r1 => exact ⟨_, _, rfl, h _, fun n => absurd (zn z) n, q _ _ r1 fun b hb => hb⟩
  have fin : ∃ a vs, v = .ref a ∧ SqL K H a vs ∧ (ty.p ≠ .rd → Rd H a (.lst vs)) ∧ Reps K H (zC T ow H []) 0 ds vs [] := by
    refine main r (fun vs G' rs hG => ?_) fun z => ?_
    · by_cases h1 : ty.k ≤ 1
      · exact im h1 rs
      · unfold Ty.copy at hc
        rw [decide_eq_false h1, Bool.false_or] at hc
        cases hp : ty.p with
        | own m =>
          rw [hp] at hl rs
          exact rs.fz zf fun a ha => ⟨mut_ne (rs.mut a ha), by simp, .inr (by rw [hl.2 a (hG a ha)]; exact hT)⟩
        | frz => rw [hp] at rs; exact rs.fz zf fun a ha => by rw [rs.nil0] at ha; simp at ha
        | rd => rw [hp] at hc; cases hc
        | bor m xs =>
          rw [hp] at hc rs
          cases m with
          | zero => exact rs.fz zf fun a ha => by rw [rs.nil0] at ha; simp at ha
          | succ m => cases hc
    · cases hp : ty.p with
      | rd => rfl
      | _ => rw [hp] at z; exact z.elim
  obtain ⟨a, vs, h1, h2, h3, h4⟩ := fin
  exact ⟨a, vs, h1, h2, h3, h4, hk.2, hk.1⟩
end

/-! ### operators -/
theorem OpR.or {X : Cx} {f : Value → Value → Sem Value} {r r' : R2} (h : OpR X f r) (h' : OpR X f r') : OpR X f (fun x y H Q => r x y H Q ∨ r' x y H Q) :=
  fun pins s σ H x y v u Q I rx ry q => q.elim (h pins s σ H x y v u Q I rx ry) (h' pins s σ H x y v u Q I rx ry)
theorem OpR.none {X : Cx} {f : Value → Value → Sem Value} : OpR X f (fun _ _ _ _ => False) := fun _ _ _ _ _ _ _ _ _ _ _ _ q => q.elim

def BinOk (K : PySem.W.Frag) (op : Operator) (r : R2) : Prop := (∀ X : Cx, X.K = K → OpR X (binaryOp op) r) ∧ ∀ (H : Hp) (a b : D) (x y : V) (k : D → Prop) (Q : VK), Vw K H a x → Vw K H b y →
  a.dep 0 = true ∧ b.dep 0 = true → binK false op a b k → (∀ d v H', k d → New0 K H H' d v → Q v H') → r x y H Q
theorem ixStr {s : List Nat} : (toStr s).length ≤ sizeLine ↔ s.length ≤ sizeLine := by rw [toStr_len]
theorem dep_tup {k : Nat} {ds : List D} : D.dep k (.tup ds) = D.deps k ds := by cases k <;> simp [D.dep]
theorem dep_lst {k : Nat} {ds : List D} : D.dep (k + 1) (.lst ds) = D.deps k ds := by simp [D.dep]
theorem deps_app {k : Nat} {as bs : List D} : D.deps k (as ++ bs) = (D.deps k as && D.deps k bs) := by
  induction as with
  | nil => simp [D.deps]
  | cons a as ih => simp [D.deps, ih, Bool.and_assoc]
def rBin (K : PySem.W.Frag) : Operator → R2
  | .Add => fun x y H Q => rI0 (fun i j => .int (i + j)) x y H Q ∨ ((∃ i j, x = .str i ∧ y = .str j ∧ i.length + j.length ≤ sizeLine ∧ Q (.str (i ++ j)) H) ∨ rCatA K x y H Q)
  | .Sub => rI0 fun i j => .int (i - j)
  | .Mult => fun x y H Q => rI CMul (fun i j => .int (i * j)) x y H Q ∨ rMulS x y H Q
  | .FloorDiv => rI CDiv fun i j => .int (i / j)
  | .Mod => rI (fun _ j => 0 < j) fun i j => .int (i % j)
  | .Pow => rI CPow fun i j => .int (i ^ j.toNat)
  | .BitAnd => rI (fun i j => 0 ≤ i ∧ j = 1) fun i _ => .int (i % 2)
  | .LShift => rI CPow fun i j => .int (i * 2 ^ j.toNat)
  | .RShift => rI (fun _ j => 0 ≤ j) fun i j => .int (i / 2 ^ j.toNat)
  | _ => fun _ _ _ _ => False
theorem reps_replicate {K : PySem.W.Frag} {H : Hp} {Z : Option Addr → Prop} {ds : List D} {vs : List V} (r : Reps K H Z 0 ds vs []) {k : Nat} (d : D.deps k ds = true) : ∀ m, Reps K H Z 0 (List.replicate m ds).flatten (List.replicate m vs).flatten [] ∧ D.deps k (List.replicate m ds).flatten = true
  | 0 => ⟨.nil, rfl⟩
  | m + 1 => by
    obtain ⟨r1, d1⟩ := reps_replicate r d m
    rw [List.replicate_succ, List.replicate_succ, List.flatten_cons, List.flatten_cons]
    exact ⟨Reps.app r r1, by rw [deps_app, d, d1]; rfl⟩
theorem op_and1 {X : Cx} : OpR X (binaryOp .BitAnd) (rI (fun i j => 0 ≤ i ∧ j = 1) fun i _ => .int (i % 2)) := by
  intro pins s σ H x y v u Q I rx ry h
  obtain ⟨i, j, rfl, rfl, ⟨hi, rfl⟩, q⟩ := h
  refine op_odd pins s σ H _ _ v u Q I rx ry ⟨i.toNat, by rw [Int.toNat_of_nonneg hi], rfl, ?_⟩
  have e : ((i.toNat % 2 : Nat) : Int) = i % 2 := by omega
  rw [e]
  exact q
theorem bin_ok (K : PySem.W.Frag) (op : Operator) : BinOk K op (rBin K op) := by
  have bad : (∀ a b k, ¬ binK false op a b k) → BinOk K op (fun _ _ _ _ => False) := fun h => ⟨fun _ _ => OpR.none, fun _ a b _ _ k _ _ _ _ q _ => h a b k q⟩
  cases op with
  | Add =>
    refine ⟨fun X e => by subst e; exact op_add.or (op_add_str.or op_catA), fun H a b x y k Q ra rb hd h q => ?_⟩
    obtain ⟨da, db⟩ := hd
    have hc : (∃ i j, a = .int i ∧ b = .int j ∧ k (.int (i + j))) ∨ (∃ i j, a = .str i ∧ b = .str j ∧ i.length + j.length ≤ sizeLine ∧ k (.str (i ++ j))) ∨
        (∃ i j, a = .tup i ∧ b = .tup j ∧ i.length + j.length ≤ sizeLine ∧ k (.tup (i ++ j))) := by
      cases a <;> cases b <;> first | exact False.elim h | exact .inl ⟨_, _, rfl, rfl, h⟩ | exact .inr (.inl ⟨_, _, rfl, rfl, h⟩) | exact .inr (.inr ⟨_, _, rfl, rfl, h⟩)
    rcases hc with ⟨i, j, rfl, rfl, h⟩ | ⟨i, j, rfl, rfl, h⟩ | ⟨xs, ys, rfl, rfl, h⟩
    · rw [ra.int_inv, rb.int_inv]
      exact .inl ⟨_, _, rfl, rfl, q _ _ _ h New0.int⟩
    · obtain ⟨rfl, h1⟩ := ra.str_inv
      obtain ⟨rfl, h2⟩ := rb.str_inv
      refine .inr (.inl ⟨_, _, rfl, rfl, by rw [toStr_len, toStr_len]; exact h.1, ?_⟩)
      rw [toStr_app]
      exact q _ _ _ h.2 (New0.str fun c hc => (List.mem_append.mp hc).elim (h1 c) (h2 c))
    · obtain ⟨p, vs, rfl, s1, r1⟩ := ra.tup_inv
      obtain ⟨p2, vs2, rfl, s2, r2⟩ := rb.tup_inv
      rw [dep_tup] at da db
      refine .inr (.inr ⟨p, p2, vs, vs2, rfl, rfl, s1, s2, by rw [← r1.len, ← r2.len]; exact h.1, fun e => ?_, fun _ e => ?_, fun _ _ l hl => ?_⟩)
      · subst e
        have e2 : xs = [] := List.length_eq_zero_iff.mp r1.len
        subst e2
        exact q (.tup ([] ++ ys)) _ _ h.2 (New0.same rb (by rw [List.nil_append, dep_tup]; exact db))
      · subst e
        have e2 : ys = [] := List.length_eq_zero_iff.mp r2.len
        subst e2
        refine q (.tup (xs ++ [])) _ _ h.2 ?_
        rw [List.append_nil]
        exact New0.same ra (by rw [dep_tup]; exact da)
      · exact q _ _ _ h.2 (New0.tup (r1.app r2) (by rw [deps_app, da, db]; rfl) hl)
  | Sub =>
    refine ⟨fun X e => by subst e; exact op_sub, fun H a b x y k Q ra rb hd h q => ?_⟩
    obtain ⟨i, j, rfl, rfl, h⟩ : ∃ i j, a = .int i ∧ b = .int j ∧ k (.int (i - j)) := by
      cases a <;> cases b <;> first | exact False.elim h | exact ⟨_, _, rfl, rfl, h⟩
    rw [ra.int_inv, rb.int_inv]
    exact ⟨_, _, rfl, rfl, q _ _ _ h New0.int⟩
  | Mult =>
    refine ⟨fun X e => by subst e; exact op_mul.or op_mul_str, fun H a b x y k Q ra rb hd h q => ?_⟩
    have hc : (∃ i j, a = .int i ∧ b = .int j ∧ CMul i j ∧ k (.int (i * j))) ∨ (∃ s n, a = .str s ∧ b = .int n ∧ (2 ≤ n ∧ 1 ≤ s.length ∧ s.length * n.toNat ≤ 1000000) ∧ k (.str (List.replicate n.toNat s).flatten)) := by
      cases a <;> cases b <;> first | exact False.elim h | exact .inl ⟨_, _, rfl, rfl, h⟩ | exact .inr ⟨_, _, rfl, rfl, h⟩
    clear h
    rcases hc with ⟨i, j, rfl, rfl, h⟩ | ⟨s, n, rfl, rfl, h⟩
    · rw [ra.int_inv, rb.int_inv]
      exact .inl ⟨_, _, rfl, rfl, h.1, q _ _ _ h.2 New0.int⟩
    · rw [rb.int_inv]
      obtain ⟨rfl, h1⟩ := ra.str_inv
      refine .inr ⟨_, _, rfl, rfl, by rw [toStr_len]; exact h.1, ?_⟩
      have gen : ∀ (m : Nat) (acc : Array Nat), (List.replicate m (toStr s).cps).foldl (· ++ ·) acc = acc ++ (List.replicate m s).flatten.toArray := by
        intro m
        induction m with
        | zero => intro acc; simp
        | succ m ih => intro acc; rw [List.replicate_succ, List.foldl_cons, ih, List.replicate_succ, List.flatten_cons]; simp [toStr]
      rw [gen]
      have e : (⟨#[] ++ (List.replicate n.toNat s).flatten.toArray⟩ : Str) = toStr (List.replicate n.toNat s).flatten := by simp [toStr]
      rw [e]
      refine q _ _ _ h.2 (New0.str fun c hc => ?_)
      obtain ⟨l, hl, hcl⟩ := List.mem_flatten.mp hc
      rw [List.eq_of_mem_replicate hl] at hcl
      exact h1 c hcl
  | FloorDiv =>
    refine ⟨fun X e => by subst e; exact op_fdiv, fun H a b x y k Q ra rb hd h q => ?_⟩
    obtain ⟨i, j, rfl, rfl, h⟩ : ∃ i j, a = .int i ∧ b = .int j ∧ CDiv i j ∧ k (.int (i / j)) := by
      cases a <;> cases b <;> first | exact False.elim h | exact ⟨_, _, rfl, rfl, h⟩
    rw [ra.int_inv, rb.int_inv]
    exact ⟨_, _, rfl, rfl, h.1, q _ _ _ h.2 New0.int⟩
  | Mod =>
    refine ⟨fun X e => by subst e; exact op_mod, fun H a b x y k Q ra rb hd h q => ?_⟩
    obtain ⟨i, j, rfl, rfl, h⟩ : ∃ i j, a = .int i ∧ b = .int j ∧ 0 < j ∧ k (.int (i % j)) := by
      cases a <;> cases b <;> first | exact False.elim h | exact ⟨_, _, rfl, rfl, h⟩
    rw [ra.int_inv, rb.int_inv]
    exact ⟨_, _, rfl, rfl, h.1, q _ _ _ h.2 New0.int⟩
  | Pow =>
    refine ⟨fun X e => by subst e; exact op_pow, fun H a b x y k Q ra rb hd h q => ?_⟩
    obtain ⟨i, j, rfl, rfl, h⟩ : ∃ i j, a = .int i ∧ b = .int j ∧ CPow i j ∧ k (.int (i ^ j.toNat)) := by
      cases a <;> cases b <;> first | exact False.elim h | exact ⟨_, _, rfl, rfl, h⟩
    rw [ra.int_inv, rb.int_inv]
    exact ⟨_, _, rfl, rfl, h.1, q _ _ _ h.2 New0.int⟩
  | BitAnd =>
    refine ⟨fun X e => by subst e; exact op_and1, fun H a b x y k Q ra rb hd h q => ?_⟩
    obtain ⟨i, j, rfl, rfl, h⟩ : ∃ i j, a = .int i ∧ b = .int j ∧ (0 ≤ i ∧ j = 1) ∧ k (.int (i % 2)) := by
      cases a <;> cases b <;> first | exact False.elim h | exact ⟨_, _, rfl, rfl, h⟩
    rw [ra.int_inv, rb.int_inv]
    exact ⟨_, _, rfl, rfl, h.1, q _ _ _ h.2 New0.int⟩
  | LShift =>
    refine ⟨fun X e => by subst e; exact op_shl, fun H a b x y k Q ra rb hd h q => ?_⟩
    obtain ⟨i, j, rfl, rfl, h⟩ : ∃ i j, a = .int i ∧ b = .int j ∧ CPow i j ∧ k (.int (i * 2 ^ j.toNat)) := by
      cases a <;> cases b <;> first | exact False.elim h | exact ⟨_, _, rfl, rfl, h⟩
    rw [ra.int_inv, rb.int_inv]
    exact ⟨_, _, rfl, rfl, h.1, q _ _ _ h.2 New0.int⟩
  | RShift =>
    refine ⟨fun X e => by subst e; exact op_shr, fun H a b x y k Q ra rb hd h q => ?_⟩
    obtain ⟨i, j, rfl, rfl, h⟩ : ∃ i j, a = .int i ∧ b = .int j ∧ 0 ≤ j ∧ k (.int (i / 2 ^ j.toNat)) := by
      cases a <;> cases b <;> first | exact False.elim h | exact ⟨_, _, rfl, rfl, h⟩
    rw [ra.int_inv, rb.int_inv]
    exact ⟨_, _, rfl, rfl, h.1, q _ _ _ h.2 New0.int⟩
  | _ => exact bad fun a b k h => by simp [binK] at h

/-! ### comparisons -/
theorem toStr_inj {a b : List Nat} : toStr a = toStr b ↔ a = b := ⟨fun h => by have := congrArg (fun s => s.cps.toList) h; simpa [toStr] using this, fun h => by rw [h]⟩
theorem strbeq (a b : List Nat) : (toStr a == toStr b) = (a == b) := by
  rw [Bool.eq_iff_iff]; simp [toStr_inj]
mutual
theorem py_eq : ∀ (n m : Nat) (a b : D), a.ht n = true → b.ht m = true → PyData.eqv a.py b.py = D.eq a b
  | n, m, .tup xs, .tup ys, h, h' => by
    cases n with
    | zero => simp [D.ht] at h
    | succ n => cases m with
      | zero => simp [D.ht] at h'
      | succ m => simp only [D.ht] at h h'; simp only [D.py, PyData.eqv, D.eq]; exact pys_eq n m xs ys h h'
  | n, m, .lst xs, .lst ys, h, h' => by
    cases n with
    | zero => simp [D.ht] at h
    | succ n => cases m with
      | zero => simp [D.ht] at h'
      | succ m => simp only [D.ht] at h h'; simp only [D.py, PyData.eqv, D.eq]; exact pys_eq n m xs ys h h'
  | n, m, .non, b, h, h' => by cases b <;> first | (simp [D.py, PyData.eqv, D.eq]; done) | (cases m <;> simp [D.ht] at h')
  | n, m, .bl _, b, h, h' => by cases b <;> first | (simp [D.py, PyData.eqv, D.eq]; done) | (cases m <;> simp [D.ht] at h')
  | n, m, .int _, b, h, h' => by cases b <;> first | (simp [D.py, PyData.eqv, D.eq]; done) | (cases m <;> simp [D.ht] at h')
  | n, m, .str _, b, h, h' => by cases b <;> first | (simp [D.py, PyData.eqv, D.eq, strbeq]; done) | (cases m <;> simp [D.ht] at h')
  | n, m, .dic _ _ _, b, h, h' => by cases n <;> simp [D.ht] at h
  | n, m, .ins _ _, b, h, h' => by cases n <;> simp [D.ht] at h
  | n, m, .clo _ _, b, h, h' => by cases n <;> simp [D.ht] at h
  | n, m, .tup _, .non, h, h' => by simp [D.py, PyData.eqv, D.eq]
  | n, m, .tup _, .bl _, h, h' => by simp [D.py, PyData.eqv, D.eq]
  | n, m, .tup _, .int _, h, h' => by simp [D.py, PyData.eqv, D.eq]
  | n, m, .tup _, .str _, h, h' => by simp [D.py, PyData.eqv, D.eq]
  | n, m, .tup _, .lst _, h, h' => by simp [D.py, PyData.eqv, D.eq]
  | n, m, .tup _, .dic _ _ _, h, h' => by cases m <;> simp [D.ht] at h'
  | n, m, .tup _, .ins _ _, h, h' => by cases m <;> simp [D.ht] at h'
  | n, m, .tup _, .clo _ _, h, h' => by cases m <;> simp [D.ht] at h'
  | n, m, .lst _, .non, h, h' => by simp [D.py, PyData.eqv, D.eq]
  | n, m, .lst _, .bl _, h, h' => by simp [D.py, PyData.eqv, D.eq]
  | n, m, .lst _, .int _, h, h' => by simp [D.py, PyData.eqv, D.eq]
  | n, m, .lst _, .str _, h, h' => by simp [D.py, PyData.eqv, D.eq]
  | n, m, .lst _, .tup _, h, h' => by simp [D.py, PyData.eqv, D.eq]
  | n, m, .lst _, .dic _ _ _, h, h' => by cases m <;> simp [D.ht] at h'
  | n, m, .lst _, .ins _ _, h, h' => by cases m <;> simp [D.ht] at h'
  | n, m, .lst _, .clo _ _, h, h' => by cases m <;> simp [D.ht] at h'
theorem pys_eq : ∀ (n m : Nat) (as bs : List D), D.hts n as = true → D.hts m bs = true → PyData.eqvAll (D.pys as) (D.pys bs) = D.eqs as bs
  | _, _, [], [], _, _ => by simp [D.pys, PyData.eqvAll, D.eqs]
  | _, _, [], _ :: _, _, _ => by simp [D.pys, PyData.eqvAll, D.eqs]
  | _, _, _ :: _, [], _, _ => by simp [D.pys, PyData.eqvAll, D.eqs]
  | n, m, a :: as, b :: bs, h, h' => by
    simp only [D.hts, Bool.and_eq_true] at h h'
    simp only [D.pys, PyData.eqvAll, D.eqs]
    rw [py_eq n m a b h.1 h'.1, pys_eq n m as bs h.2 h'.2]
end
mutual
theorem py_shape {K : PySem.W.Frag} {H : Hp} {Z : Option Addr → Prop} : ∀ (n : Nat) {m : Nat} {a : D} {v : V} {F : Fp}, Rep K H Z m a v F → a.ht n = true → Dp K H v a.py ∧ a.py.canLay0 = true ∧ a.py.depth ≤ n
  | n, _, _, _, _, .non, h => ⟨.non, by simp [D.py, PyData.canLay0], by simp [D.py, PyData.depth]⟩
  | n, _, _, _, _, .bl b, h => ⟨.bl b, by simp [D.py, PyData.canLay0], by simp [D.py, PyData.depth]⟩
  | n, _, _, _, _, .int b, h => ⟨.int b, by simp [D.py, PyData.canLay0], by simp [D.py, PyData.depth]⟩
  | n, _, _, _, _, .str b hc, h => ⟨.str _, by simp [D.py, PyData.canLay0, PyData.strOk, toStr]; exact hc, by simp [D.py, PyData.depth]⟩
  | 0, _, _, _, _, .tup _ _, h => by simp [D.ht] at h
  | n + 1, _, _, _, _, .tup hs r, h => by
    simp only [D.ht] at h
    obtain ⟨h1, h2, h3⟩ := pys_shape n r h
    exact ⟨.tup hs h1, by simpa [D.py, PyData.canLay0] using h2, by simp only [D.py, PyData.depth]; omega⟩
  | 0, _, _, _, _, .lst _ _, h => by simp [D.ht] at h
  | n + 1, _, _, _, _, .lst hs r, h => by
    simp only [D.ht] at h
    obtain ⟨h1, h2, h3⟩ := pys_shape n r h
    exact ⟨.lst (.inl (.inl hs)) h1, by simpa [D.py, PyData.canLay0] using h2, by simp only [D.py, PyData.depth]; omega⟩
  | 0, _, _, _, _, .lst0 _ _ _, h => by simp [D.ht] at h
  | n + 1, _, _, _, _, .lst0 _ hs r, h => by
    simp only [D.ht] at h
    obtain ⟨h1, h2, h3⟩ := pys_shape n r h
    exact ⟨.lst (.inl (.inl hs)) h1, by simpa [D.py, PyData.canLay0] using h2, by simp only [D.py, PyData.depth]; omega⟩
  | 0, _, _, _, _, .lstF _ _, h => by simp [D.ht] at h
  | n + 1, _, _, _, _, .lstF hs r, h => by
    simp only [D.ht] at h
    obtain ⟨h1, h2, h3⟩ := pys_shape n r h
    exact ⟨.lst (.inl (.inr ⟨_, hs⟩)) h1, by simpa [D.py, PyData.canLay0] using h2, by simp only [D.py, PyData.depth]; omega⟩
  | 0, _, _, _, _, .lstW _ _ _, h => by simp [D.ht] at h
  | n + 1, _, _, _, _, .lstW _ hs r, h => by
    simp only [D.ht] at h
    obtain ⟨h1, h2, h3⟩ := pys_shape n r h
    exact ⟨.lst (hs H) h1, by simpa [D.py, PyData.canLay0] using h2, by simp only [D.py, PyData.depth]; omega⟩
  | n, _, _, _, _, .dic _ _ _ _ _, h => by cases n <;> simp [D.ht] at h
  | n, _, _, _, _, .dic0 _ _ _ _ _ _, h => by cases n <;> simp [D.ht] at h
  | n, _, _, _, _, .dicW _ _ _ _ _, h => by cases n <;> simp [D.ht] at h
  | n, _, _, _, _, .ins _ _ _ _, h => by cases n <;> simp [D.ht] at h
  | n, _, _, _, _, .ins0 _ _ _ _ _, h => by cases n <;> simp [D.ht] at h
theorem pys_shape {K : PySem.W.Frag} {H : Hp} {Z : Option Addr → Prop} : ∀ (n : Nat) {m : Nat} {as : List D} {vs : List V} {F : Fp}, Reps K H Z m as vs F → D.hts n as = true → DpAll K H vs (D.pys as) ∧ PyData.canLayAll0 (D.pys as) = true ∧ PyData.depthAll (D.pys as) ≤ n
  | n, _, _, _, _, .nil, _ => ⟨.nil, by simp [D.pys, PyData.canLayAll0], by simp [D.pys, PyData.depthAll]⟩
  | n, _, _, _, _, .cons r t, h => by
    simp only [D.hts, Bool.and_eq_true] at h
    obtain ⟨h1, h2, h3⟩ := py_shape n r h.1
    obtain ⟨g1, g2, g3⟩ := pys_shape n t h.2
    exact ⟨.cons h1 g1, by simp only [D.pys, PyData.canLayAll0, h2, g2]; rfl, by simp only [D.pys, PyData.depthAll]; omega⟩
end
theorem Rep.dp {K : PySem.W.Frag} {H : Hp} {Z : Option Addr → Prop} {m : Nat} {a : D} {v : V} {F : Fp} (r : Rep K H Z m a v F) (h : a.ht 60 = true) : Dp K H v a.py ∧ SeqAt.shaped a.py = true := by
  obtain ⟨h1, h2, h3⟩ := py_shape 60 r h
  refine ⟨h1, ?_⟩
  unfold SeqAt.shaped
  rw [h2, Bool.true_and, decide_eq_true_eq]
  omega
theorem pys_any (x : D) (n : Nat) (hx : x.ht n = true) : ∀ (ys : List D) (m : Nat), D.hts m ys = true → ((D.pys ys).any fun z => PyData.eqv z x.py) = ys.any fun y => y.eq x
  | [], _, _ => by simp [D.pys]
  | y :: ys, m, h => by
    simp only [D.hts, Bool.and_eq_true] at h
    simp only [D.pys, List.any_cons]
    rw [py_eq m n y x h.1 hx, pys_any x n hx ys m h.2]
theorem sc_flat {K : PySem.W.Frag} {H : Hp} {a : D} {v : V} (r : Vw K H a v) (h : a.sc = true) : flatV v = true := by
  cases r <;> first | rfl | (simp [D.sc] at h)
theorem sc_eq {K : PySem.W.Frag} {H : Hp} {a b : D} {v u : V} (r : Vw K H a v) (r' : Vw K H b u) (h : a.sc = true) (h' : b.sc = true) : eqV v u = a.eq b := by
  cases r <;> first | (simp [D.sc] at h; done) | (cases r' <;> first | (simp [D.sc] at h'; done) | (simp [eqV, D.eq, strbeq]; done) | rfl)
theorem Vws.cons_inv {K : PySem.W.Frag} {H : Hp} {d : D} {ds : List D} {vs : List V} (r : Vws K H (d :: ds) vs) : ∃ v us, vs = v :: us ∧ Vw K H d v ∧ Vws K H ds us := by
  have go : ∀ {F : Fp}, Reps K H (fun _ => True) 0 (d :: ds) vs F → ∃ v us, vs = v :: us ∧ Vw K H d v ∧ Vws K H ds us := fun r => by
    cases r with
    | cons r1 t1 => exact ⟨_, _, rfl, r1.vw, t1.vw⟩
  exact go r
theorem scs {K : PySem.W.Frag} {H : Hp} {b : D} {u : V} (r' : Vw K H b u) (h' : b.sc = true) : ∀ {as : List D} {vs : List V}, Vws K H as vs → as.all D.sc = true → vs.all flatV = true ∧ inV u vs = as.any fun y => y.eq b
  | [], _, r, _ => by cases r; exact ⟨rfl, rfl⟩
  | a :: as, _, r, h => by
    obtain ⟨v, us, rfl, r, t⟩ := Vws.cons_inv r
    simp only [List.all_cons, Bool.and_eq_true] at h
    obtain ⟨h1, h2⟩ := scs r' h' t h.2
    refine ⟨by rw [List.all_cons, sc_flat r h.1, h1]; rfl, ?_⟩
    unfold inV at h2 ⊢
    rw [List.any_cons, List.any_cons, sc_eq r r' h.1 h', h2]
theorem ints_inv {K : PySem.W.Frag} {H : Hp} : ∀ {bs : List Int} {vs : List V}, Vws K H (bs.map .int) vs → vs = bs.map .int
  | [], _, r => by cases r; rfl
  | _ :: bs, _, r => by
    obtain ⟨v, us, rfl, h, t⟩ := Vws.cons_inv r
    rw [h.int_inv, ints_inv t]; rfl
def CmpOk (K : PySem.W.Frag) (op : CmpOp) (r : R2) : Prop := (∀ X : Cx, X.K = K → X.w = W.w → X.A.units + 65 < cLine → OpR X (compareOp op) r) ∧ ∀ (H : Hp) (a b : D) (x y : V) (k : D → Prop) (Q : VK), Vw K H a x → Vw K H b y →
  cmpK op a b k → (∀ c, k (.bl c) → Q (.bl c) H) → r x y H Q
def rCmp (K : PySem.W.Frag) : CmpOp → R2
  | .Lt => fun x y H Q => rI0 (fun i j => .bl (decide (i < j))) x y H Q ∨ rLtL K x y H Q
  | .LtE => fun x y H Q => rI0 (fun i j => .bl (decide (i ≤ j))) x y H Q ∨ rLeS x y H Q
  | .Gt => rI0 fun i j => .bl (decide (j < i))
  | .GtE => rI0 fun i j => .bl (decide (j ≤ i))
  | .Eq => rEqD K
  | .NotEq => rNeD K
  | .In => fun x y H Q => (∃ (c : Nat) (z : Str), x = .str ⟨#[c]⟩ ∧ y = .str z ∧ Q (.bl (decide (c ∈ z.cps.toList))) H) ∨ (rIn K false x y H Q ∨ (rInD K x y H Q ∨ rDIn K W.w x y H Q))
  | .NotIn => fun x y H Q => (∃ (c : Nat) (z : Str), x = .str ⟨#[c]⟩ ∧ y = .str z ∧ Q (.bl (!decide (c ∈ z.cps.toList))) H) ∨ (rIn K true x y H Q ∨ (rNotInD K x y H Q ∨ rDNin K W.w x y H Q))
  | .Is => fun x y H Q => y = .non ∧ Q (.bl (decide (x = .non))) H
  | .IsNot => fun x y H Q => y = .non ∧ Q (.bl (!decide (x = .non))) H
theorem cmpI {K : PySem.W.Frag} {op : CmpOp} {g : Int → Int → Bool} (h : ∀ X : Cx, OpR X (compareOp op) (rI0 fun i j => .bl (g i j))) (hk : ∀ a b k, cmpK op a b k → ∃ i j, a = .int i ∧ b = .int j ∧ k (.bl (g i j))) : CmpOk K op (rI0 fun i j => .bl (g i j)) :=
  ⟨fun X _ _ _ => h X, fun H a b x y k Q ra rb h q => by
    obtain ⟨i, j, rfl, rfl, e⟩ := hk a b k h
    rw [ra.int_inv, rb.int_inv]
    exact ⟨i, j, rfl, rfl, q _ e⟩⟩
theorem cmp_ok (K : PySem.W.Frag) (op : CmpOp) : CmpOk K op (rCmp K op) := by
  cases op with
  | Lt =>
    refine ⟨fun X e hw hu => by subst e; exact op_lt.or (op_lt_ints hu), fun H a b x y k Q ra rb h q => ?_⟩
    have hc : (∃ i j, a = .int i ∧ b = .int j ∧ k (.bl (decide (i < j)))) ∨ (∃ is js : List Int, a = .lst (is.map .int) ∧ b = .lst (js.map .int) ∧ k (.bl (listLtI is js))) := by
      cases a <;> cases b <;> first | exact False.elim h | exact .inl ⟨_, _, rfl, rfl, h⟩ | skip
      obtain ⟨is, js, rfl, rfl, h⟩ := h
      exact .inr ⟨_, _, rfl, rfl, h⟩
    clear h
    rcases hc with ⟨i, j, rfl, rfl, h⟩ | ⟨is, js, rfl, rfl, h⟩
    · rw [ra.int_inv, rb.int_inv]
      exact .inl ⟨_, _, rfl, rfl, q _ h⟩
    · obtain ⟨p, vs, rfl, s1, r1⟩ := ra.lst_inv
      obtain ⟨p2, us, rfl, s2, r2⟩ := rb.lst_inv
      exact .inr ⟨p, p2, is, js, rfl, rfl, by rw [← ints_inv r1]; exact s1, by rw [← ints_inv r2]; exact s2, q _ h⟩
  | LtE =>
    refine ⟨fun X e hw hu => by subst e; exact op_le.or op_le_str, fun H a b x y k Q ra rb h q => ?_⟩
    have hc : (∃ i j, a = .int i ∧ b = .int j ∧ k (.bl (decide (i ≤ j)))) ∨ (∃ i j, a = .str i ∧ b = .str j ∧ k (.bl (!decide (j < i)))) := by
      cases a <;> cases b <;> first | exact False.elim h | exact .inl ⟨_, _, rfl, rfl, h⟩ | exact .inr ⟨_, _, rfl, rfl, h⟩
    clear h
    rcases hc with ⟨i, j, rfl, rfl, h⟩ | ⟨i, j, rfl, rfl, h⟩
    · rw [ra.int_inv, rb.int_inv]
      exact .inl ⟨_, _, rfl, rfl, q _ h⟩
    · obtain ⟨rfl, h1⟩ := ra.str_inv
      obtain ⟨rfl, h2⟩ := rb.str_inv
      exact .inr ⟨_, _, rfl, rfl, by rw [toStr_list, toStr_list]; exact q _ h⟩
  | Gt => exact cmpI (fun _ => op_gt) fun a b k h => by cases a <;> cases b <;> first | exact False.elim h | exact ⟨_, _, rfl, rfl, h⟩
  | GtE => exact cmpI (fun _ => op_ge) fun a b k h => by cases a <;> cases b <;> first | exact False.elim h | exact ⟨_, _, rfl, rfl, h⟩
  | Eq =>
    refine ⟨fun X e hw hu => by subst e; exact op_eqD (by omega), fun H a b x y k Q ra rb h q => ?_⟩
    obtain ⟨h1, h2, h3⟩ : a.ht 60 = true ∧ b.ht 60 = true ∧ k (.bl (a.eq b)) := h
    refine ⟨_, _, (ra.dp h1).1, (rb.dp h2).1, (ra.dp h1).2, (rb.dp h2).2, ?_⟩
    rw [py_eq 60 60 a b h1 h2]; exact q _ h3
  | NotEq =>
    refine ⟨fun X e hw hu => by subst e; exact op_neD (by omega), fun H a b x y k Q ra rb h q => ?_⟩
    obtain ⟨h1, h2, h3⟩ : a.ht 60 = true ∧ b.ht 60 = true ∧ k (.bl (!a.eq b)) := h
    refine ⟨_, _, (ra.dp h1).1, (rb.dp h2).1, (ra.dp h1).2, (rb.dp h2).2, ?_⟩
    rw [py_eq 60 60 a b h1 h2]; exact q _ h3
  | In =>
    refine ⟨fun X e hw hu => by subst e; exact op_in_sign.or (op_in_seq.or ((op_inD hu).or (hw ▸ op_din hu))), fun H a b x y k Q ra rb h q => ?_⟩
    have hc : (∃ c y, a = .str [c] ∧ b = .str y ∧ k (.bl (decide (c ∈ y)))) ∨ (∃ ys, b = .tup ys ∧ a.sc = true ∧ ys.all D.sc = true ∧ k (.bl (ys.any fun y => y.eq a))) ∨
        ((∃ ys, b = .lst ys ∧ a.ht 60 = true ∧ D.hts 59 ys = true ∧ k (.bl (ys.any fun y => y.eq a))) ∨ ∃ ep ks vs, b = .dic ep ks vs ∧ fitsD ks a = true ∧ k (.bl ((keyAt ks a).isSome))) := by
      cases b with
      | tup ys => exact .inr (.inl ⟨_, rfl, by cases a <;> exact h⟩)
      | lst ys => exact .inr (.inr (.inl ⟨_, rfl, by cases a <;> exact h⟩))
      | dic ep ks vs => exact .inr (.inr (.inr ⟨_, _, _, rfl, by cases a <;> exact h⟩))
      | str y =>
        cases a with
        | str x => obtain ⟨c, rfl, h⟩ := h; exact .inl ⟨c, y, rfl, rfl, h⟩
        | _ => exact False.elim h
      | _ => cases a <;> exact False.elim h
    clear h
    rcases hc with ⟨c, y, rfl, rfl, h⟩ | ⟨ys, rfl, h⟩ | ⟨ys, rfl, h⟩ | ⟨ep, ks, vs, rfl, hf, h⟩
    · obtain ⟨rfl, h1⟩ := ra.str_inv
      obtain ⟨rfl, h2⟩ := rb.str_inv
      exact .inl ⟨c, _, rfl, rfl, by rw [toStr_list]; exact q _ h⟩
    · obtain ⟨h1, h2, h3⟩ := h
      obtain ⟨p, vs, rfl, s1, r1⟩ := rb.tup_inv
      obtain ⟨g1, g2⟩ := scs ra h1 r1 h2
      exact .inr (.inl ⟨p, vs, rfl, .inr s1, sc_flat ra h1, g1, by rw [if_neg Bool.false_ne_true, g2]; exact q _ h3⟩)
    · obtain ⟨h1, h2, h3⟩ := h
      have h2' : D.ht 60 (.lst ys) = true := by simpa [D.ht] using h2
      refine .inr (.inr (.inl ⟨_, _, (ra.dp h1).1, (rb.dp h2').1, (ra.dp h1).2, (rb.dp h2').2, ?_⟩))
      rw [pys_any a 60 h1 ys 59 h2]; exact q _ h3
    · obtain ⟨p, es, kv, vv, G, rfl, ha, o, dk, rk, rv, _⟩ := rb.dic_inv
      obtain ⟨ns, e1, dv, e4, e5⟩ := dicV_of ha o rk
      obtain ⟨n, g1, g2, g3⟩ := fits_of e4 e5 ra hf
      rw [keyAt_is e1 g1] at h
      exact .inr (.inr (.inr ⟨p, ep, ns, kv, vv, es, n, rfl, dv, g2, g3, q _ h⟩))
  | NotIn =>
    refine ⟨fun X e hw hu => by subst e; exact op_notIn_sign.or (op_notIn_seq.or ((op_notInD hu).or (hw ▸ op_dnin hu))), fun H a b x y k Q ra rb h q => ?_⟩
    have hc : (∃ c y, a = .str [c] ∧ b = .str y ∧ k (.bl (!decide (c ∈ y)))) ∨ (∃ ys, b = .tup ys ∧ a.sc = true ∧ ys.all D.sc = true ∧ k (.bl (!ys.any fun y => y.eq a))) ∨
        ((∃ ys, b = .lst ys ∧ a.ht 60 = true ∧ D.hts 59 ys = true ∧ k (.bl (!ys.any fun y => y.eq a))) ∨ ∃ ep ks vs, b = .dic ep ks vs ∧ fitsD ks a = true ∧ k (.bl (!(keyAt ks a).isSome))) := by
      cases b with
      | tup ys => exact .inr (.inl ⟨_, rfl, by cases a <;> exact h⟩)
      | lst ys => exact .inr (.inr (.inl ⟨_, rfl, by cases a <;> exact h⟩))
      | dic ep ks vs => exact .inr (.inr (.inr ⟨_, _, _, rfl, by cases a <;> exact h⟩))
      | str y =>
        cases a with
        | str x => obtain ⟨c, rfl, h⟩ := h; exact .inl ⟨c, y, rfl, rfl, h⟩
        | _ => exact False.elim h
      | _ => cases a <;> exact False.elim h
    clear h
    rcases hc with ⟨c, y, rfl, rfl, h⟩ | ⟨ys, rfl, h⟩ | ⟨ys, rfl, h⟩ | ⟨ep, ks, vs, rfl, hf, h⟩
    · obtain ⟨rfl, h1⟩ := ra.str_inv
      obtain ⟨rfl, h2⟩ := rb.str_inv
      exact .inl ⟨c, _, rfl, rfl, by rw [toStr_list]; exact q _ h⟩
    · obtain ⟨h1, h2, h3⟩ := h
      obtain ⟨p, vs, rfl, s1, r1⟩ := rb.tup_inv
      obtain ⟨g1, g2⟩ := scs ra h1 r1 h2
      exact .inr (.inl ⟨p, vs, rfl, .inr s1, sc_flat ra h1, g1, by rw [if_pos rfl, g2]; exact q _ h3⟩)
    · obtain ⟨h1, h2, h3⟩ := h
      have h2' : D.ht 60 (.lst ys) = true := by simpa [D.ht] using h2
      refine .inr (.inr (.inl ⟨_, _, (ra.dp h1).1, (rb.dp h2').1, (ra.dp h1).2, (rb.dp h2').2, ?_⟩))
      rw [pys_any a 60 h1 ys 59 h2]; exact q _ h3
    · obtain ⟨p, es, kv, vv, G, rfl, ha, o, dk, rk, rv, _⟩ := rb.dic_inv
      obtain ⟨ns, e1, dv, e4, e5⟩ := dicV_of ha o rk
      obtain ⟨n, g1, g2, g3⟩ := fits_of e4 e5 ra hf
      rw [keyAt_is e1 g1] at h
      exact .inr (.inr (.inr ⟨p, ep, ns, kv, vv, es, n, rfl, dv, g2, g3, q _ h⟩))
  | Is =>
    refine ⟨fun X e hw hu => by subst e; exact op_isN, fun H a b x y k Q ra rb h q => ?_⟩
    obtain ⟨rfl, h⟩ : b = .non ∧ k (.bl (match a with | .non => true | _ => false)) := by
      cases b with
      | non => exact ⟨rfl, by cases a <;> exact h⟩
      | _ => cases a <;> exact False.elim h
    refine ⟨rb.non_inv, ?_⟩
    have := q _ h
    cases ra <;> simpa using this
  | IsNot =>
    refine ⟨fun X e hw hu => by subst e; exact op_notN, fun H a b x y k Q ra rb h q => ?_⟩
    obtain ⟨rfl, h⟩ : b = .non ∧ k (.bl (match a with | .non => false | _ => true)) := by
      cases b with
      | non => exact ⟨rfl, by cases a <;> exact h⟩
      | _ => cases a <;> exact False.elim h
    refine ⟨rb.non_inv, ?_⟩
    have := q _ h
    cases ra <;> simpa using this
end Pm

namespace Pm
open PySem L2
variable [W : Wd]

/-! ### items, slices -/
def IdxOk (K : PySem.W.Frag) (h : Bool) (r : R2) : Prop := (∀ X : Cx, X.K = K → X.w = W.w → X.A.units + 65 < cLine → IxR X r) ∧ ∀ (Z : Option Addr → Prop) (m : Nat) (H : Hp) (a b : D) (x y : V) (F : Fp) (k : D → Prop) (Q : VK), Rep K H Z m a x F → Vw K H b y →
  idxK h a b k → (∀ d v E, k d → Rep K H Z (if h then m - 1 else m) d v E → (∀ z ∈ E, z ∈ F) → (∀ n, a.dep n = true → d.dep (if h then n - 1 else n) = true) → Q v H) → r x y H Q
theorem Rep.lst_inv2 {K : PySem.W.Frag} {H : Hp} {Z : Option Addr → Prop} {n : Nat} {ds : List D} {v : V} {F : Fp} (r : Rep K H Z n (.lst ds) v F) : ∃ a vs G, v = .ref a ∧ SqL K H a vs ∧ Reps K H Z (n - 1) ds vs G ∧ ∀ x ∈ G, x ∈ F := by
  cases r with
  | lst h r => exact ⟨_, _, _, rfl, .inl (.inl h), r, fun x hx => List.mem_cons_of_mem _ hx⟩
  | lst0 _ h r => exact ⟨_, _, _, rfl, .inl (.inl h), r, fun x hx => hx⟩
  | lstF h r => exact ⟨_, _, _, rfl, .inl (.inr ⟨_, h⟩), r, fun x hx => hx⟩
  | lstW _ h r => exact ⟨_, _, _, rfl, h _, r, fun x hx => hx⟩
theorem atI_get {α β : Type} {xs : List α} {ys : List β} {i : Int} {x : α} (hl : xs.length = ys.length) (h : atI xs i = some x) : ∃ j : Nat, xs[j]? = some x ∧ ∀ y, ys[j]? = some y → atI ys i = some y := by
  unfold atI at h ⊢
  rw [← hl]
  cases e : ixN xs.length i with
  | none => rw [e] at h; simp at h
  | some j => rw [e] at h; exact ⟨j, h, fun y hy => by simpa using hy⟩
theorem deps_get {k : Nat} {ds : List D} {i : Nat} {d : D} (h : D.deps k ds = true) (e : ds[i]? = some d) : d.dep k = true := deps_iff.mp h d (List.mem_of_getElem? e)
def rIxW (K : PySem.W.Frag) : R2 := fun x y H Q => rIx K x y H Q ∨ rDGet K W.w x y H Q
theorem idx_ok (K : PySem.W.Frag) (h : Bool) : IdxOk K h (rIxW K) := by
  refine ⟨fun X e hw hu => by subst e; exact ix_seq.or (hw ▸ ix_dic hu), fun Z m H a b x y F k Q ra rb hk q => ?_⟩
  cases h with
  | true =>
    have hc : (∃ ds i d, a = .lst ds ∧ b = .int i ∧ atI ds i = some d ∧ k d) ∨ ∃ ep ks vs j d, a = .dic ep ks vs ∧ fitsD ks b = true ∧ keyAt ks b = some j ∧ vs[j]? = some d ∧ k d := by
      cases a with
      | lst ds =>
        cases b <;> try exact False.elim hk
        rename_i i
        have hk : (match atI ds i with | some x => k x | none => False) := hk
        cases e : atI ds i with
        | none => rw [e] at hk; exact hk.elim
        | some d => rw [e] at hk; exact .inl ⟨ds, i, d, rfl, rfl, e, hk⟩
      | dic ep ks vs =>
        have hk : fitsD ks b = true ∧ (match keyAt ks b with | some j => (match vs[j]? with | some x => k x | none => False) | none => False) := by cases b <;> exact hk
        obtain ⟨hf, hk⟩ := hk
        cases e : keyAt ks b with
        | none => rw [e] at hk; exact hk.elim
        | some j =>
          rw [e] at hk
          cases e2 : vs[j]? with
          | none => simp only [e2] at hk
          | some d => simp only [e2] at hk; exact .inr ⟨ep, ks, vs, j, d, rfl, hf, e, e2, hk⟩
      | _ => cases b <;> exact False.elim hk
    clear hk
    rcases hc with ⟨ds, i, d, rfl, rfl, e, hd⟩ | ⟨ep, ks, ws, j, d, rfl, hf, ej, ev, hd⟩
    · obtain ⟨p, vs, G1, rfl, s1, r1, g1⟩ := ra.lst_inv2
      obtain ⟨j, e1, e2⟩ := atI_get (ys := vs) r1.len e
      obtain ⟨v, E, e3, rv, m⟩ := r1.get e1
      rw [rb.int_inv]
      refine .inl (.inl ⟨p, vs, i, v, rfl, rfl, s1, e2 v e3, q d v E hd (by simpa using rv) (fun z hz => g1 z (m.subset hz)) fun n hn => ?_⟩)
      cases n with
      | zero => simp [D.dep] at hn
      | succ n => rw [dep_lst] at hn; simpa using deps_get hn e1
    · obtain ⟨p, es, kv, vv, G, rfl, ha, o, dk, rk, rv, hG⟩ := ra.dic_inv
      obtain ⟨ns, e1, dv, e4, e5⟩ := dicV_of ha o rk
      obtain ⟨n, g1, g2, g3⟩ := fits_of e4 e5 rb hf
      obtain ⟨v, E, e3, rv', m⟩ := rv.get ev
      refine .inr ⟨p, ep, ns, kv, vv, es, n, j, v, rfl, dv, g2, g3, keyAt_some e1 g1 ej, e3, q d v E hd (by simpa using rv') (fun z hz => hG z (m.subset hz)) fun n hn => ?_⟩
      cases n with
      | zero => simp [D.dep] at hn
      | succ n =>
        simp only [D.dep, Bool.and_eq_true] at hn
        simpa using deps_get hn.2 ev
  | false =>
    have hc : (∃ ds i d, a = .tup ds ∧ b = .int i ∧ atI ds i = some d ∧ k d) ∨ ∃ s i c, a = .str s ∧ b = .int i ∧ atI s i = some c ∧ s.length ≤ sizeLine ∧ k (.str [c]) := by
      cases a <;> cases b <;> try exact False.elim hk
      · rename_i ds i
        have hk : (match atI ds i with | some x => ds.length ≤ sizeLine ∧ k (.str [x]) | none => False) := hk
        cases e : atI ds i with
        | none => rw [e] at hk; exact hk.elim
        | some d => rw [e] at hk; exact .inr ⟨ds, i, d, rfl, rfl, e, hk⟩
      · rename_i ds i
        have hk : (match atI ds i with | some x => k x | none => False) := hk
        cases e : atI ds i with
        | none => rw [e] at hk; exact hk.elim
        | some d => rw [e] at hk; exact .inl ⟨ds, i, d, rfl, rfl, e, hk⟩
    clear hk
    rcases hc with ⟨ds, i, d, rfl, rfl, e, hd⟩ | ⟨s, i, c, rfl, rfl, e, hz, hd⟩
    · obtain ⟨p, vs, rfl, s1, r1⟩ := ra.tup_inv
      obtain ⟨j, e1, e2⟩ := atI_get (ys := vs) r1.len e
      obtain ⟨v, E, e3, rv, m⟩ := r1.get e1
      rw [rb.int_inv]
      refine .inl (.inr (.inl ⟨p, vs, i, v, rfl, rfl, s1, e2 v e3, q d v E hd rv (fun z hz => m.subset hz) fun n hn => ?_⟩))
      rw [dep_tup] at hn; simpa using deps_get hn e1
    · obtain ⟨rfl, h1⟩ := ra.str_inv
      rw [rb.int_inv]
      refine .inl (.inr (.inr ⟨toStr s, i, c, rfl, rfl, by rw [toStr_len]; exact hz, by rw [toStr_list]; exact e, ?_⟩))
      refine q (.str [c]) (.str (toStr [c])) [] hd (.str [c] fun c' hc' => ?_) (fun _ h => by simp at h) fun n _ => by simp [D.dep]
      simp at hc'; subst hc'
      obtain ⟨j, e1, _⟩ := atI_get (ys := s) rfl e
      exact h1 c' (List.mem_of_getElem? e1)

theorem cut_cut {α β : Type} (f : α → β) (xs : List α) (lo hi : Option Int) : cutL (xs.map f) lo hi = (cutL xs lo hi).map f := by
  unfold cutL; rw [List.length_map, List.map_take, List.map_drop]
theorem Reps.cut {K : PySem.W.Frag} {H : Hp} {Z : Option Addr → Prop} : ∀ {n : Nat} {ds : List D} {vs : List V} {F : Fp} (a b : Nat), Reps K H Z n ds vs F → ∃ G, G.Sublist F ∧ Reps K H Z n ((ds.drop a).take b) ((vs.drop a).take b) G
  | _, _, _, _, _, _, .nil => ⟨[], List.Sublist.refl _, by simpa using Reps.nil⟩
  | _, d :: ds, v :: vs, _, 0, 0, .cons r t => ⟨[], List.nil_sublist _, by simpa using Reps.nil⟩
  | _, d :: ds, v :: vs, _, 0, b + 1, .cons r t => by
    obtain ⟨G, s, q⟩ := Reps.cut 0 b t
    simp only [List.drop_zero] at q
    exact ⟨_, (List.Sublist.refl _).append s, by simpa using Reps.cons r q⟩
  | _, d :: ds, v :: vs, _, a + 1, b, .cons r t => by
    obtain ⟨G, s, q⟩ := Reps.cut a b t
    exact ⟨G, s.trans (List.sublist_append_right _ _), by simpa using q⟩
theorem Reps.cut0 {K : PySem.W.Frag} {H : Hp} {Z : Option Addr → Prop} {ds : List D} {vs : List V} (a b : Nat) (r : Reps K H Z 0 ds vs []) : Reps K H Z 0 ((ds.drop a).take b) ((vs.drop a).take b) [] := by
  obtain ⟨G, s, q⟩ := r.cut a b
  rw [List.eq_nil_of_sublist_nil s] at q; exact q
theorem deps_cut {k : Nat} {ds : List D} (lo hi : Option Int) (h : D.deps k ds = true) : D.deps k (cutL ds lo hi) = true :=
  deps_iff.mpr fun x hx => deps_iff.mp h x (List.mem_of_mem_drop (List.mem_of_mem_take hx))
def rSlc (K : PySem.W.Frag) : V → Option Int → Option Int → Hp → VK → Prop := fun x lo hi H Q => rSlL K x lo hi H Q ∨ (rSlA K x lo hi H Q ∨ rSlS x lo hi H Q)
theorem slc_rule {X : Cx} : SlR X (rSlc X.K) := sl_list.or (sl_tupA.or sl_str)
theorem slc_lst {K : PySem.W.Frag} {H : Hp} {Z : Option Addr → Prop} {ds : List D} {p : Addr} {vs : List V} {lo hi : Option Int} {Q : VK} (s1 : SqL K H p vs) (r1 : Reps K H Z 0 ds vs [])
    (q : ∀ us p', Reps K H Z 0 (cutL ds lo hi) us [] → H p' = none → Q (.ref p') (upd H p' (.lst us))) : rSlc K (.ref p) lo hi H Q := by
  refine .inl ⟨p, vs, rfl, s1, fun n hn => q _ _ ?_ hn⟩
  have e : cutL ds lo hi = (ds.drop (HT.sIx vs.length 0 lo)).take (HT.sIx vs.length vs.length hi - HT.sIx vs.length 0 lo) := by unfold cutL; rw [r1.len]
  rw [e]
  exact r1.cut0 _ _
theorem slc_imm {K : PySem.W.Frag} {H : Hp} {a : D} {x : V} {lo hi : Option Int} {k : D → Prop} {Q : VK} (ra : Vw K H a x) (hd : a.dep 0 = true) (hk : slcK false a lo hi k) (q : ∀ d v H', k d → New0 K H H' d v → Q v H') : rSlc K x lo hi H Q := by
  have hc : (∃ ds, a = .tup ds ∧ k (.tup (cutL ds lo hi))) ∨ ∃ s, a = .str s ∧ s.length ≤ sizeLine ∧ k (.str (cutL s lo hi)) := by
    cases a <;> first | exact False.elim hk | exact .inl ⟨_, rfl, hk⟩ | exact .inr ⟨_, rfl, hk⟩
  clear hk
  rcases hc with ⟨ds, rfl, hk⟩ | ⟨s, rfl, hz, hk⟩
  · obtain ⟨p, vs, rfl, s1, r1⟩ := ra.tup_inv
    have hd' := hd
    rw [dep_tup] at hd'
    have e : cutL ds lo hi = (ds.drop (HT.sIx vs.length 0 lo)).take (HT.sIx vs.length vs.length hi - HT.sIx vs.length 0 lo) := by unfold cutL; rw [r1.len]
    refine .inr (.inl ⟨p, vs, rfl, s1, fun ⟨e1, e2⟩ => ?_, fun _ n hn => q _ _ _ hk ?_⟩)
    · have : cutL ds lo hi = ds := by rw [e, e1, e2, List.drop_zero, Nat.sub_zero, ← r1.len, List.take_length]
      rw [this] at hk
      exact q _ _ _ hk (New0.same ra hd)
    · have r2 := r1.cut0 (HT.sIx vs.length 0 lo) (HT.sIx vs.length vs.length hi - HT.sIx vs.length 0 lo)
      rw [← e] at r2
      exact New0.tup r2 (deps_cut lo hi hd') hn
  · obtain ⟨rfl, h1⟩ := ra.str_inv
    refine .inr (.inr ⟨toStr s, rfl, by rw [toStr_len]; exact hz, ?_⟩)
    have e : cutS (toStr s) lo hi = toStr (cutL s lo hi) := by
      unfold cutS cutL; rw [toStr_len, toStr_list]; rfl
    rw [e]
    exact q _ _ _ hk (New0.str fun c hc => h1 c (List.mem_of_mem_drop (List.mem_of_mem_take hc)))

/-! ### built-in functions -/
def Bi.k : Bi → Nat | .list _ => 1 | .dict => 1 | .sorted => 1 | _ => 0
def Bi.need : Bi → List D → Prop
  | .list l, ds => if l then D.deps 1 ds = true else D.deps 0 ds = true
  | .tuple l, ds => if l then D.deps 1 ds = true else D.deps 0 ds = true
  | .dict, ds => D.deps 1 ds = true
  | .sorted, ds => D.deps 1 ds = true
  | _, _ => True
/-- a new list of values in which nothing changes -/
def New1 (K : PySem.W.Frag) (H H' : Hp) (d : D) (v : V) : Prop := ∃ p vs ds, d = .lst ds ∧ v = .ref p ∧ H p = none ∧ H' = upd H p (.lst vs) ∧ Vws K H ds vs ∧ D.deps 0 ds = true
/-- a new dict -/
def NewD [W : Wd] (K : PySem.W.Frag) (H H' : Hp) (d : D) (v : V) : Prop := ∃ (p : Addr) (ep : Nat) (es : List DictEntry) (ks vs : List D) (kv vv : List V), d = .dic ep ks vs ∧ v = .ref p ∧ H p = none ∧ H' = upd H p (rawD p ep es) ∧ DicOk ks kv vv p es ∧ D.deps 0 ks = true ∧ Vws K H ks kv ∧ Vws K H vs vv ∧ D.deps 0 vs = true
def NewB [W : Wd] (k : Nat) (K : PySem.W.Frag) (H H' : Hp) (d : D) (v : V) : Prop := match k with
  | 0 => New0 K H H' d v
  | _ => New1 K H H' d v ∨ NewD K H H' d v
def BiSem [W : Wd] (K : PySem.W.Frag) (b : Bi) (r : List V → Hp → VK → Prop) : Prop := ∀ (H : Hp) (ds : List D) (vs : List V) (k : D → Prop) (Q : VK), Vws K H ds vs → b.need ds →
  biK b ds k → (∀ d v H', k d → NewB b.k K H H' d v → Q v H') → r vs H Q
theorem Reps.bls {K : PySem.W.Frag} {H : Hp} : ∀ {bs : List Bool} {vs : List V}, Vws K H (bs.map .bl) vs → vs = bs.map .bl
  | [], _, r => by cases r; rfl
  | _ :: bs, _, r => by
    obtain ⟨v, us, rfl, h, t⟩ := Vws.cons_inv r
    rw [h.bl_inv, Reps.bls t]; rfl
theorem Reps.ints {K : PySem.W.Frag} {H : Hp} : ∀ {bs : List Int} {vs : List V}, Vws K H (bs.map .int) vs → vs = bs.map .int := ints_inv
theorem Vws.one {K : PySem.W.Frag} {H : Hp} {d : D} {vs : List V} (r : Vws K H [d] vs) : ∃ v, vs = [v] ∧ Vw K H d v := by
  obtain ⟨v, us, rfl, h, t⟩ := Vws.cons_inv r
  cases t; exact ⟨_, rfl, h⟩
theorem Vws.two {K : PySem.W.Frag} {H : Hp} {d e : D} {vs : List V} (r : Vws K H [d, e] vs) : ∃ v u, vs = [v, u] ∧ Vw K H d v ∧ Vw K H e u := by
  obtain ⟨v, us, rfl, h, t⟩ := Vws.cons_inv r
  obtain ⟨u, rfl, h2⟩ := Vws.one t
  exact ⟨_, _, rfl, h, h2⟩
section
variable [W : Wd] {K : PySem.W.Frag}
def rLenD (K : PySem.W.Frag) (w : World) : List V → Hp → VK → Prop := fun xs H Q => ∃ (a : Addr) (ep : Nat) (ns : List NestedKey) (ks vs : List V) (es : List DictEntry), xs = [.ref a] ∧ DicV K H w a ep ns ks vs es ∧ Q (.int ns.length) H
theorem bi_len : BiSem K .len (fun xs H Q => rLenD K W.w xs H Q ∨ ((∃ p ys, xs = [.ref p] ∧ (SqL K H p ys ∨ SqT K H p ys) ∧ Q (.int ys.length) H) ∨ (∃ z, xs = [.str z] ∧ z.length ≤ sizeLine ∧ Q (.int z.length) H))) := fun H ds vs k Q r _ hk q => by
  obtain ⟨d, rfl⟩ : ∃ d, ds = [d] := by
    rcases ds with _ | ⟨d, _ | ⟨e, ds⟩⟩
    · exact False.elim hk
    · exact ⟨d, rfl⟩
    · cases d <;> exact False.elim hk
  have r0 := r
  clear r
  obtain ⟨v, rfl, r⟩ := Vws.one r0
  cases d <;> try exact False.elim hk
  · obtain ⟨rfl, _⟩ := r.str_inv
    exact .inr (.inr ⟨_, rfl, by rw [toStr_len]; exact hk.1, by rw [toStr_len]; exact q _ _ _ hk.2 New0.int⟩)
  · obtain ⟨a, ys, rfl, s, t⟩ := r.tup_inv
    exact .inr (.inl ⟨a, ys, rfl, .inr s, q (.int ys.length) _ _ (by rw [← t.len]; exact hk) New0.int⟩)
  · obtain ⟨a, ys, rfl, s, t⟩ := r.lst_inv
    exact .inr (.inl ⟨a, ys, rfl, .inl s, q (.int ys.length) _ _ (by rw [← t.len]; exact hk) New0.int⟩)
  · obtain ⟨a, es, kv, vv, G, rfl, ha, o, dk, rk, rv, _⟩ := Rep.dic_inv r
    obtain ⟨ns, e1, dv, _, _⟩ := dicV_of ha o rk
    obtain ⟨_, l2, _⟩ := dv.ents.len
    exact .inl ⟨a, _, ns, kv, vv, es, rfl, dv, q (.int ns.length) _ _ (by rw [← l2, ← rk.len]; exact hk) New0.int⟩
theorem bi_int : BiSem K .int (fun xs H Q => (∃ i, xs = [.int i] ∧ Q (.int i) H) ∨ ∃ k, xs = [.bl k] ∧ Q (.int (if k then 1 else 0)) H) := fun H ds vs k Q r _ hk q => by
  obtain ⟨d, rfl⟩ : ∃ d, ds = [d] := by
    rcases ds with _ | ⟨d, _ | ⟨e, ds⟩⟩
    · exact False.elim hk
    · exact ⟨d, rfl⟩
    · cases d <;> exact False.elim hk
  have r0 := r
  clear r
  obtain ⟨v, rfl, r⟩ := Vws.one r0
  cases d <;> try exact False.elim hk
  · rw [r.bl_inv]; exact .inr ⟨_, rfl, q _ _ _ hk New0.int⟩
  · rw [r.int_inv]; exact .inl ⟨_, rfl, q _ _ _ hk New0.int⟩
theorem reps_chars {H : Hp} : ∀ {s : List Nat}, (∀ c ∈ s, c < 0x110000) → Vws K H (s.map fun c => .str [c]) ((toStr s).cps.toList.map fun c => V.str ⟨#[c]⟩)
  | [], _ => .nil
  | c :: s, h => by
    have := Reps.cons (F := []) (G := []) (Rep.str (K := K) (n := 0) (Z := fun _ => True) (H := H) [c] fun d hd => h d (by simp at hd; subst hd; simp)) (reps_chars (H := H) (s := s) fun d hd => h d (List.mem_cons_of_mem _ hd))
    simpa [toStr] using this
theorem deps_chars : ∀ s : List Nat, D.deps 0 (s.map fun c => D.str [c]) = true
  | [] => by simp [D.deps]
  | c :: s => by simp [D.deps, D.dep, deps_chars s]
theorem bi_list (l : Bool) : BiSem K (.list l) (fun xs H Q => (∃ p ys, xs = [.ref p] ∧ (SqL K H p ys ∨ SqT K H p ys) ∧ ∀ l, H l = none → Q (.ref l) (upd H l (.lst ys))) ∨ ∃ z : Str, xs = [.str z] ∧ z.length ≤ sizeLine ∧ ∀ l, H l = none → Q (.ref l) (upd H l (.lst (z.cps.toList.map fun c => V.str ⟨#[c]⟩)))) := fun H ds vs k Q r hn hk q => by
  obtain ⟨d, rfl⟩ : ∃ d, ds = [d] := by
    rcases ds with _ | ⟨d, _ | ⟨e, ds⟩⟩
    · cases l <;> exact False.elim hk
    · exact ⟨d, rfl⟩
    · cases l <;> cases d <;> exact False.elim hk
  have r0 := r
  clear r
  obtain ⟨v, rfl, r⟩ := Vws.one r0
  cases l with
  | true =>
    cases d <;> try exact False.elim hk
    rename_i xs
    obtain ⟨a, ys, rfl, s, t⟩ := r.lst_inv
    have hd : D.deps 0 xs = true := by simpa [Bi.need, D.deps, D.dep] using hn
    exact .inl ⟨a, ys, rfl, .inl s, fun p hp => q _ _ _ hk (.inl ⟨p, ys, xs, rfl, rfl, hp, rfl, t, hd⟩)⟩
  | false =>
    cases d <;> try exact False.elim hk
    · rename_i s
      obtain ⟨rfl, h1⟩ := r.str_inv
      refine .inr ⟨_, rfl, by rw [toStr_len]; exact hk.1, fun p hp => q _ _ _ hk.2 (.inl ⟨p, _, _, rfl, rfl, hp, rfl, reps_chars h1, deps_chars s⟩)⟩
    rename_i xs
    obtain ⟨a, ys, rfl, s, t⟩ := r.tup_inv
    have hd : D.deps 0 xs = true := by simpa [Bi.need, D.deps, D.dep] using hn
    exact .inl ⟨a, ys, rfl, .inr s, fun p hp => q _ _ _ hk (.inl ⟨p, ys, xs, rfl, rfl, hp, rfl, t, hd⟩)⟩
theorem bi_tuple (l : Bool) : BiSem K (.tuple l) (fun xs H Q => ∃ p ys, xs = [.ref p] ∧ ((SqL K H p ys ∧ ∀ l, H l = none → Q (.ref l) (upd H l (.tup ys))) ∨ (SqT K H p ys ∧ Q (.ref p) H))) := fun H ds vs k Q r hn hk q => by
  obtain ⟨d, rfl⟩ : ∃ d, ds = [d] := by
    rcases ds with _ | ⟨d, _ | ⟨e, ds⟩⟩
    · cases l <;> exact False.elim hk
    · exact ⟨d, rfl⟩
    · cases l <;> cases d <;> exact False.elim hk
  have r0 := r
  clear r
  obtain ⟨v, rfl, r⟩ := Vws.one r0
  cases l with
  | true =>
    cases d <;> try exact False.elim hk
    · rename_i xs
      have hk : D.deps 0 xs = true ∧ k (.tup xs) := hk
      have r' := r
      obtain ⟨a, ys, rfl, s, t⟩ := r.tup_inv
      exact ⟨a, ys, rfl, .inr ⟨s, q _ _ _ hk.2 (New0.same r' (by rw [dep_tup]; exact hk.1))⟩⟩
    rename_i xs
    obtain ⟨a, ys, rfl, s, t⟩ := r.lst_inv
    have hd : D.deps 0 xs = true := by simpa [Bi.need, D.deps, D.dep] using hn
    exact ⟨a, ys, rfl, .inl ⟨s, fun p hp => q _ _ _ hk (New0.tup t hd hp)⟩⟩
  | false =>
    cases d <;> try exact False.elim hk
    rename_i xs
    have hd : D.dep 0 (.tup xs) = true := by simpa [Bi.need, D.deps] using hn
    have r' := r
    obtain ⟨a, ys, rfl, s, t⟩ := r.tup_inv
    exact ⟨a, ys, rfl, .inr ⟨s, q _ _ _ hk (New0.same r' hd)⟩⟩
theorem two_of {ds : List D} {P : Prop} (h : ∀ d e, ds = [d, e] → P) (h0 : ds = [] → False) (h1 : ∀ d, ds = [d] → False) (h3 : ∀ d e f r, ds = d :: e :: f :: r → False) : P := by
  rcases ds with _ | ⟨d, _ | ⟨e, _ | ⟨f, r⟩⟩⟩
  · exact (h0 rfl).elim
  · exact (h1 d rfl).elim
  · exact h d e rfl
  · exact (h3 d e f r rfl).elim
theorem bi_max : BiSem K .max (fun xs H Q => rMax K xs H Q ∨ ∃ i j, xs = [.int i, .int j] ∧ Q (.int (if j > i then j else i)) H) := fun H ds vs k Q r hn hk q => by
  by_cases h1 : ∃ d, ds = [d]
  · obtain ⟨d, rfl⟩ := h1
    have r0 := r
    clear r
    obtain ⟨v, rfl, r⟩ := Vws.one r0
    cases d <;> try exact False.elim hk
    rename_i xs
    obtain ⟨is, rfl, h0, hk⟩ := (show ∃ is : List Int, xs = is.map .int ∧ 0 < is.length ∧ ∀ m ∈ is, (∀ y ∈ is, y ≤ m) → k (.int m) from hk)
    obtain ⟨a, ys, rfl, s, t⟩ := r.lst_inv
    have e := Reps.ints t
    subst e
    exact .inl ⟨a, is, rfl, s, h0, fun m h1 h2 => q _ _ _ (hk m h1 h2) New0.int⟩
  refine two_of (ds := ds) (fun d e hde => ?_) (fun e => by subst e; exact hk) (fun d e => h1 ⟨d, e⟩) fun d e f r e' => by subst e'; cases d <;> cases e <;> exact hk
  subst hde
  obtain ⟨v, u, rfl, r1, r2⟩ := Vws.two r
  cases d <;> cases e <;> try exact False.elim hk
  rw [r1.int_inv, r2.int_inv]
  exact .inr ⟨_, _, rfl, q _ _ _ hk New0.int⟩
theorem bi_min : BiSem K .min (fun xs H Q => rMin K xs H Q ∨ ∃ i j, xs = [.int i, .int j] ∧ Q (.int (if j < i then j else i)) H) := fun H ds vs k Q r hn hk q => by
  by_cases h1 : ∃ d, ds = [d]
  · obtain ⟨d, rfl⟩ := h1
    have r0 := r
    clear r
    obtain ⟨v, rfl, r⟩ := Vws.one r0
    cases d <;> try exact False.elim hk
    rename_i xs
    obtain ⟨is, rfl, h0, hk⟩ := (show ∃ is : List Int, xs = is.map .int ∧ 0 < is.length ∧ ∀ m ∈ is, (∀ y ∈ is, m ≤ y) → k (.int m) from hk)
    obtain ⟨a, ys, rfl, s, t⟩ := r.lst_inv
    have e := Reps.ints t
    subst e
    exact .inl ⟨a, is, rfl, s, h0, fun m h1 h2 => q _ _ _ (hk m h1 h2) New0.int⟩
  refine two_of (ds := ds) (fun d e hde => ?_) (fun e => by subst e; exact hk) (fun d e => h1 ⟨d, e⟩) fun d e f r e' => by subst e'; cases d <;> cases e <;> exact hk
  subst hde
  obtain ⟨v, u, rfl, r1, r2⟩ := Vws.two r
  cases d <;> cases e <;> try exact False.elim hk
  rw [r1.int_inv, r2.int_inv]
  exact .inr ⟨_, _, rfl, q _ _ _ hk New0.int⟩
theorem bi_all : BiSem K .all (rAll K) := fun H ds vs k Q r _ hk q => by
  obtain ⟨d, rfl⟩ : ∃ d, ds = [d] := by
    rcases ds with _ | ⟨d, _ | ⟨e, ds⟩⟩
    · exact False.elim hk
    · exact ⟨d, rfl⟩
    · cases d <;> exact False.elim hk
  have r0 := r
  clear r
  obtain ⟨v, rfl, r⟩ := Vws.one r0
  cases d <;> try exact False.elim hk
  obtain ⟨bs, rfl, hk⟩ := hk
  obtain ⟨a, ys, rfl, s, t⟩ := r.lst_inv
  have e := Reps.bls t
  subst e
  exact ⟨a, bs, rfl, s, q _ _ _ hk New0.bl⟩
theorem bi_any : BiSem K .any (rAny K) := fun H ds vs k Q r _ hk q => by
  obtain ⟨d, rfl⟩ : ∃ d, ds = [d] := by
    rcases ds with _ | ⟨d, _ | ⟨e, ds⟩⟩
    · exact False.elim hk
    · exact ⟨d, rfl⟩
    · cases d <;> exact False.elim hk
  have r0 := r
  clear r
  obtain ⟨v, rfl, r⟩ := Vws.one r0
  cases d <;> try exact False.elim hk
  obtain ⟨bs, rfl, hk⟩ := hk
  obtain ⟨a, ys, rfl, s, t⟩ := r.lst_inv
  have e := Reps.bls t
  subst e
  exact ⟨a, bs, rfl, s, q _ _ _ hk New0.bl⟩
theorem bi_sum : BiSem K .sum (rSum K) := fun H ds vs k Q r _ hk q => by
  obtain ⟨d, rfl⟩ : ∃ d, ds = [d] := by
    rcases ds with _ | ⟨d, _ | ⟨e, ds⟩⟩
    · exact False.elim hk
    · exact ⟨d, rfl⟩
    · cases d <;> exact False.elim hk
  have r0 := r
  clear r
  obtain ⟨v, rfl, r⟩ := Vws.one r0
  cases d <;> try exact False.elim hk
  obtain ⟨bs, rfl, hk⟩ := hk
  obtain ⟨a, ys, rfl, s, t⟩ := r.lst_inv
  have e := Reps.ints t
  subst e
  exact ⟨a, bs, rfl, s, q _ _ _ hk New0.int⟩
theorem pairsOf_cons {x : D} {xs : List D} {ps : List (D × D)} (h : pairsOf (x :: xs) = some ps) : ∃ k v qs, x = .tup [k, v] ∧ pairsOf xs = some qs ∧ ps = (k, v) :: qs := by
  unfold pairsOf at h
  split at h
  · rename_i e; cases e
  · rename_i k v xs' e
    cases e
    cases e2 : pairsOf xs with
    | none => rw [e2] at h; cases h
    | some qs => rw [e2] at h; cases h; exact ⟨k, v, qs, rfl, rfl, rfl⟩
  · cases h
def RD (K : PySem.W.Frag) (H : Hp) (p : D × D) (t : TV) : Prop := p.1.nk = some t.1 ∧ Vw K H p.1 t.2.1 ∧ Vw K H p.2 t.2.2
theorem pairs_view : ∀ {xs : List D} {ps : List (D × D)} {ys : List V} {H : Hp}, pairsOf xs = some ps → Vws K H xs ys → (∀ p ∈ ps, ∃ n, p.1.nk = some n) → ∃ ts, PairsV K H ts ys ∧ All2 (RD K H) ps ts
  | [], ps, ys, H, e, r, _ => by
    cases r
    have e : some [] = some ps := e
    cases e
    exact ⟨[], .nil, .nil⟩
  | x :: xs, ps, ys, H, e, r, hk => by
    obtain ⟨k, v, qs, rfl, e2, rfl⟩ := pairsOf_cons e
    obtain ⟨y, us, rfl, h, t⟩ := Vws.cons_inv r
    obtain ⟨ts, p1, p2⟩ := pairs_view e2 t fun p hp => hk p (List.mem_cons_of_mem _ hp)
    obtain ⟨b, vs, rfl, s, rs⟩ := h.tup_inv
    obtain ⟨kv, vv, rfl, r1, r2⟩ := Vws.two rs
    obtain ⟨n, hn⟩ := hk _ List.mem_cons_self
    exact ⟨(n, kv, vv) :: ts, .cons s (nk_view r1 hn) p1, .cons ⟨hn, r1, r2⟩ p2⟩
theorem all2_vws {H : Hp} {f : D × D → D} {g : TV → V} (h : ∀ p t, RD K H p t → Vw K H (f p) (g t)) : ∀ {ps : List (D × D)} {ts : List TV}, All2 (RD K H) ps ts → Vws K H (ps.map f) (ts.map g)
  | _, _, .nil => .nil
  | _, _, .cons r t => Reps.cons (F := []) (G := []) (h _ _ r) (all2_vws h t)
theorem merge_all {α κ : Type} [DecidableEq κ] {key : α → κ} {st : α → α → α} {P : α → Prop} (hst : ∀ y x, P y → P x → P (st y x)) {xs : List α} (h : ∀ x ∈ xs, P x) : ∀ x ∈ mergeL key st xs, P x := by
  have go : ∀ (xs l : List α), (∀ x ∈ xs, P x) → (∀ x ∈ l, P x) → ∀ x ∈ xs.foldl (putL key st) l, P x := by
    intro xs
    induction xs with
    | nil => exact fun l _ h => h
    | cons x xs ih =>
      intro l h1 h2
      refine ih _ (fun y hy => h1 y (List.mem_cons_of_mem _ hy)) fun y hy => ?_
      unfold putL at hy
      split at hy
      · obtain ⟨z, hz, rfl⟩ := List.mem_map.mp hy
        split
        · exact hst _ _ (h2 z hz) (h1 x List.mem_cons_self)
        · exact h2 z hz
      · rcases List.mem_append.mp hy with hy | hy
        · exact h2 y hy
        · rw [List.mem_singleton.mp hy]; exact h1 x List.mem_cons_self
  exact go xs [] h (by simp)
theorem pairs_deps : ∀ {xs : List D} {ps : List (D × D)}, pairsOf xs = some ps → D.deps 0 xs = true → ∀ p ∈ ps, p.1.dep 0 = true ∧ p.2.dep 0 = true
  | [], ps, e, _, p, hp => by
    have e : some [] = some ps := e
    cases e; cases hp
  | x :: xs, ps, e, hd, p, hp => by
    obtain ⟨k, v, qs, rfl, e2, rfl⟩ := pairsOf_cons e
    simp only [D.deps, D.dep, Bool.and_eq_true] at hd
    rcases List.mem_cons.mp hp with rfl | hp
    · exact ⟨hd.1.1, hd.1.2.1⟩
    · exact pairs_deps e2 hd.2 p hp
theorem bi_dict : BiSem K .dict (fun xs H Q => rDictT K W.w xs H Q ∨ rDictF K W.w xs H Q) := fun H ds vs k Q r hn hk q => by
  obtain ⟨d, rfl⟩ : ∃ d, ds = [d] := by
    rcases ds with _ | ⟨d, _ | ⟨e, ds⟩⟩
    · exact False.elim hk
    · exact ⟨d, rfl⟩
    · cases d <;> exact False.elim hk
  have r0 := r
  clear r
  obtain ⟨v, rfl, r⟩ := Vws.one r0
  cases d <;> try exact False.elim hk
  rename_i xs
  obtain ⟨a, ys, rfl, s, t⟩ := r.lst_inv
  have hd : D.deps 0 xs = true := by simpa [Bi.need, D.deps, D.dep] using hn
  have hk : dictK xs k := hk
  unfold dictK at hk
  cases e : pairsOf xs with
  | none => rw [e] at hk; exact hk.elim
  | some ps =>
    rw [e] at hk
    obtain ⟨h1, h2, h3⟩ := hk
    have hnk : ∀ p ∈ ps, ∃ n, p.1.nk = some n := fun p hp => by
      unfold keysOk at h1
      rw [Bool.or_eq_true, List.all_eq_true, List.all_eq_true] at h1
      rcases h1 with h | h
      · have := h p.1 (List.mem_map.mpr ⟨p, hp, rfl⟩)
        cases e2 : p.1 <;> rw [e2] at this <;> first | exact ⟨_, rfl⟩ | cases this
      · obtain ⟨n, g, _⟩ := tup_nk (h p.1 (List.mem_map.mpr ⟨p, hp, rfl⟩))
        exact ⟨n, g⟩
    obtain ⟨ts, p1, p2⟩ := pairs_view e t hnk
    have em : All2 (RD K H) (mergeD ps) (mergeT ts) := p2.merge (fun p t p' t' q q' => by rw [q.1, q'.1]; exact ⟨fun h => Option.some.inj h, fun h => by rw [h]⟩) (fun p t p' t' q q' => ⟨q.1, q.2.1, q'.2.2⟩)
    have sub : ∀ p ∈ mergeD ps, p.1 ∈ ps.map Prod.fst ∧ p.1.dep 0 = true ∧ p.2.dep 0 = true := merge_all (key := fun p : D × D => p.1.nk) (st := fun y x => (y.1, x.2)) (P := fun p => p.1 ∈ ps.map Prod.fst ∧ p.1.dep 0 = true ∧ p.2.dep 0 = true) (fun y x hy hx => ⟨hy.1, hy.2.1, hx.2.2⟩) fun p hp => ⟨List.mem_map.mpr ⟨p, hp, rfl⟩, pairs_deps e hd p hp⟩
    obtain ⟨m1, m2, _⟩ := merge_nodup (key := fun p : D × D => p.1.nk) (st := fun y x => (y.1, x.2)) (fun _ _ => rfl) ps
    have hl : ts.length = ps.length := p2.len.symm
    have fin : ∀ (p : Addr) (ep : Nat) (es : List DictEntry), H p = none → (p == sysModules) = false → EnV W.w ((mergeT ts).map (·.1)) ((mergeT ts).map (·.2.1)) ((mergeT ts).map (·.2.2)) es → Q (.ref p) (upd H p (rawD p ep es)) := fun p ep es hp hs he => by
      refine q _ _ _ (h3 ep) (.inr ⟨p, ep, es, _, _, (mergeT ts).map (·.2.1), (mergeT ts).map (·.2.2), rfl, rfl, hp, rfl, ⟨env_ents ?_ he, ?_, ?_, ?_, hs⟩, deps_iff.mpr fun x hx => ?_, all2_vws (fun p t q => q.2.1) em, all2_vws (fun p t q => q.2.2) em, deps_iff.mpr fun x hx => ?_⟩)
      · rw [List.map_map, List.map_map]
        exact em.mapEq (fun p t q => q.1)
      · unfold keysOk at h1 ⊢
        rw [Bool.or_eq_true, List.all_eq_true, List.all_eq_true] at h1 ⊢
        refine h1.imp (fun h x hx => ?_) fun h x hx => ?_
        all_goals
          obtain ⟨p, hp, rfl⟩ := List.mem_map.mp hx
          exact h _ (sub p hp).1
      · rw [List.map_map]; exact m1
      · rw [List.length_map]; exact Nat.le_trans m2 h2
      · obtain ⟨p, hp, rfl⟩ := List.mem_map.mp hx
        exact (sub p hp).2.1
      · obtain ⟨p, hp, rfl⟩ := List.mem_map.mp hx
        exact (sub p hp).2.2
    unfold keysOk at h1
    rw [Bool.or_eq_true, List.all_eq_true, List.all_eq_true] at h1
    rcases h1 with h | h
    · refine .inr ⟨a, ys, ts, rfl, s, p1, fun t ht => ?_, by omega, fin⟩
      obtain ⟨i, hi⟩ := List.mem_iff_getElem?.mp ht
      obtain ⟨p, g1, g2⟩ := p2.getR hi
      obtain ⟨n, f1, f2, f3⟩ := flat_nk g2.2.1 (h p.1 (List.mem_map.mpr ⟨p, List.mem_of_getElem? g1, rfl⟩))
      rw [g2.1] at f1
      cases f1
      exact ⟨f2, f3⟩
    · refine .inl ⟨a, ys, ts, rfl, s, p1, fun t ht => ?_, by omega, fin⟩
      obtain ⟨i, hi⟩ := List.mem_iff_getElem?.mp ht
      obtain ⟨p, g1, g2⟩ := p2.getR hi
      obtain ⟨n, f1, f2⟩ := tup_nk (h p.1 (List.mem_map.mpr ⟨p, List.mem_of_getElem? g1, rfl⟩))
      rw [g2.1] at f1
      cases f1
      exact f2
def rSort (K : PySem.W.Frag) : List V → Hp → VK → Prop := fun vs H Q => ∃ (a : Addr) (ys : List V) (xs : List D), vs = [.ref a] ∧ SqL K H a ys ∧ Vws K H xs ys ∧ (PySem.W.AllAlike (xs.map D.py) ∧ PySem.W.Sortable (xs.map D.py)) ∧ (D.hts 60 xs = true ∧ xs.length ≤ sizeLine) ∧
  ∀ (p : Addr) (zs : List V), H p = none → Vws K H (xs.mergeSort (PySem.W.dataLe false D.py)) zs → Q (.ref p) (upd H p (.lst zs))
theorem bi_sorted : BiSem K .sorted (rSort K) := fun H ds vs k Q r hn hk q => by
  obtain ⟨d, rfl⟩ : ∃ d, ds = [d] := by
    rcases ds with _ | ⟨d, _ | ⟨e, ds⟩⟩
    · exact False.elim hk
    · exact ⟨d, rfl⟩
    · cases d <;> exact False.elim hk
  have r0 := r
  clear r
  obtain ⟨v, rfl, r⟩ := Vws.one r0
  cases d <;> try exact False.elim hk
  rename_i xs
  obtain ⟨a, ys, rfl, s, t⟩ := r.lst_inv
  have hd : D.deps 0 xs = true := by simpa [Bi.need, D.deps, D.dep] using hn
  obtain ⟨h1, h2, h3⟩ := (show sortK xs k from hk)
  exact ⟨a, ys, xs, rfl, s, t, h1, h2, fun p zs hp hz => q _ _ _ h3 (.inl ⟨p, zs, _, rfl, rfl, hp, rfl, hz, deps_iff.mpr fun x hx => deps_iff.mp hd x (List.mem_mergeSort.mp hx)⟩)⟩
theorem lookK {K : PySem.W.Frag} {a : Addr} {o : Obj} (h : K.lookup a = some o) : List.lookup a K = some o := h
end
end Pm

namespace Pm
open PySem PySem.Spec PyProof.Rows L2
section
variable {prog : Program} {w : World} {A : Around} {E : Value → Shared → Prop} {s : Shared}
theorem call_lenR {d : Addr} {es : Array DictEntry} {ep : Nat} {Q : Value → Shared → Prop} (hd : (d == sysModules) = false) (hm : s.heap.DictRaw d es ep) (hfit : (es.size : Int) < 2 ^ 63)
    (h : Q (.int es.size (s.toks + 1)) { s with toks := s.toks + 1 + 1 }) : wpAny (model prog w) A (call (.builtin "len") [.ref d]) Q E s := by
  refine Calls.call_function_entry kind_len plain_len entry_len (args_len1 _) ?_
  unfold Builtin.«len»
  refine wpAny_bind (m := oneArg "len" _) (wpAny_pure ?_)
  refine wpAny_bind (m := callSpecial? (.ref d) (Str.ofString "__len__")) (wpAny_callSpecial?_slot (name := Str.ofString "__len__") hm.typeIs F.slot_dict_len (call_len_raw hd hm ?_))
  show wpAny _ _ _ _ _ { s with toks := s.toks + 1 }
  refine wpAny_bind (wpAny_holding (wpAny_pure ?_))
  refine wpAny_bind (wpAny_letGo ?_)
  show wpAny _ _ (if ((es.size : Nat) : Int) < 0 then _ else _) _ _ _
  rw [if_neg (by omega)]
  show wpAny _ _ (if ((es.size : Nat) : Int) ≥ 2 ^ 63 then _ else _) _ _ _
  rw [if_neg (by omega)]
  exact wpAny_bind (wpAny_mkInt (wpAny_pure ⟨_, rfl, h⟩))
end
theorem cr_lenD {X : Cx} : CallR X (.builtin "len") (rLenD X.K X.w) := by
  intro pins s σ H xs us Q I r h
  obtain ⟨a, ep, ns, ks, vs, es, rfl, dv, q⟩ := h
  obtain ⟨u, rfl, rx⟩ := vals1 r
  obtain rfl : u = .ref a := rx
  obtain ⟨l1, _, _⟩ := dv.ents.len
  have hb := dv.big
  refine call_lenR dv.sys (dv.raw I).dict (by rw [sizeLine_eq] at hb; simp; omega) ?_
  have e : (es.toArray.size : Int) = (ns.length : Int) := by simp [l1]
  rw [e]
  exact ⟨.int ns.length, H, I.tok _, ⟨_, rfl⟩, q⟩
/-! ### sorted -/
variable [W : Wd]
theorem each_of {K : PySem.W.Frag} {H : Hp} : ∀ {xs : List D} {ys : List V} {us : List Value}, Vws K H xs ys → Vals ys us → PySem.W.EachIs (fun (v : Value) (d : D) => ∃ y, RelV y v ∧ Vw K H d y) us xs
  | [], _, _, r, q => by cases r; cases q; exact .nil
  | x :: xs, _, _, r, q => by
    obtain ⟨v, vs, rfl, h, t⟩ := Vws.cons_inv r
    cases q with
    | cons a b => exact .cons ⟨_, a, h⟩ (each_of t b)
theorem each_back {K : PySem.W.Frag} {H : Hp} : ∀ {xs : List D} {us : List Value}, PySem.W.EachIs (fun (v : Value) (d : D) => ∃ y, RelV y v ∧ Vw K H d y) us xs → ∃ ys, Vws K H xs ys ∧ Vals ys us
  | _, _, .nil => ⟨[], .nil, .nil⟩
  | _, _, .cons ⟨y, a, h⟩ t => by
    obtain ⟨ys, r, q⟩ := each_back t
    exact ⟨y :: ys, Reps.cons (F := []) (G := []) h r, .cons a q⟩
theorem hts_mem {n : Nat} : ∀ {xs : List D}, D.hts n xs = true → ∀ x ∈ xs, x.ht n = true
  | x :: xs, h, y, hy => by
    simp only [D.hts, Bool.and_eq_true] at h
    rcases List.mem_cons.mp hy with rfl | hy
    · exact h.1
    · exact hts_mem h.2 y hy
theorem each_reads {X : Cx} {pins : List (Addr × Obj)} {σ : L2.St} {H : Hp} {s : Shared} (I : Inv X pins σ H s) : ∀ {xs : List D} {us : List Value}, PySem.W.EachIs (fun (v : Value) (d : D) => ∃ y, RelV y v ∧ Vw X.K H d y) us xs → D.hts 60 xs = true → PySem.W.EachIs (fun v d => ∃ as, Reads s.heap v (D.py d) as) us xs
  | _, _, .nil, _ => .nil
  | _, _, .cons ⟨y, a, h⟩ t, hh => by
    simp only [D.hts, Bool.and_eq_true] at hh
    obtain ⟨h1, _, _⟩ := py_shape 60 h hh.1
    exact .cons (h1.reads I _ _ _ a) (each_reads I t hh.2)
theorem cr_sort {X : Cx} (hu : X.A.units + 65 < cLine) : CallR X (.builtin "sorted") (rSort X.K) := by
  intro pins s σ H vs us Q I r h
  obtain ⟨a, ys, xs, rfl, hs, hv, ⟨h1, h2⟩, ⟨h3, h4⟩, q⟩ := h
  obtain ⟨its, rv, pl, hz⟩ := I.list hs
  obtain ⟨u, rfl, ru⟩ := vals1 r
  obtain rfl : u = Value.ref a := ru
  have ee := each_of hv rv
  refine PySem.W.sorted_data (R := fun (v : Value) (d : D) => ∃ y, RelV y v ∧ Vw X.K H d y) (enc := D.py) pl.isList ee (each_reads I ee h3) h1 h2 h4 (fun b hb => ?_) fun out hl eo => ?_
  · obtain ⟨i, hi⟩ := List.mem_iff_getElem?.mp hb
    obtain ⟨v, G, _, rb, _⟩ := Reps.get hv hi
    have := (py_shape 60 rb (hts_mem h3 b hb)).2.2
    omega
  · obtain ⟨zs, r1, r2⟩ := each_back eo
    obtain ⟨e, he⟩ := sortedAll_at s.heap its out.toArray
    have hn : zs.length ≤ sizeLine := by rw [← r1.len, List.length_mergeSort]; exact h4
    refine ⟨.ref (s.heap.objs.size + 1), _, I.laid (a := s.heap.objs.size + 1) (o := .lst zs) (h' := sortedAll s.heap its out.toArray) (t' := s.toks) (fun b o e => sortedAll_old e) (Nat.le_succ _) (show ObjOk X.prog X.w _ _ _ (.lst zs) from ⟨hn, out, e, r2, he⟩), rfl, q _ zs (I.hok.fresh (Nat.le_succ _)) r1⟩
end Pm

namespace Pm
open PySem L2
variable [W : Wd]
section
open PySem.Spec PyProof.Rows
theorem fm_congr {α β : Type} {f g : α → Option β} : ∀ {xs : List α}, (∀ x ∈ xs, f x = g x) → xs.filterMap f = xs.filterMap g
  | [], _ => rfl
  | x :: xs, h => by
    rw [List.filterMap_cons, List.filterMap_cons, h x List.mem_cons_self, fm_congr fun y hy => h y (List.mem_cons_of_mem _ hy)]
theorem rev_idx (z : Str) : ((PySem.Builtin.Str.strSliceIndices none none (-1) z.length).filterMap (z.cps[·]?)).toArray = z.cps.toList.reverse.toArray := by
  have e : PySem.Builtin.Str.strSliceIndices none none (-1) z.length = (List.range z.length).map fun k => z.length - 1 - k := by
    unfold PySem.Builtin.Str.strSliceIndices
    show PySem.sliceRange ((z.length : Int) - 1) (-1) (-1) = _
    unfold PySem.sliceRange
    dsimp only
    have c : (if (-1 : Int) > 0 then (if ((z.length : Int) - 1) < -1 then ((-1) - ((z.length : Int) - 1) + (-1) - 1) / (-1) else 0) else (if ((z.length : Int) - 1) > -1 then (((z.length : Int) - 1) - (-1) - (-1) - 1) / (-(-1)) else 0)).toNat = z.length := by
      rw [if_neg (by decide)]
      split
      · have : (((z.length : Int) - 1) - (-1) - (-1) - 1) / (-(-1)) = z.length := by
          rw [show (-(-1) : Int) = 1 from rfl, Int.ediv_one]; omega
        rw [this]; rfl
      · show 0 = z.length
        omega
    rw [c]
    refine List.map_congr_left fun k hk => ?_
    have := List.mem_range.mp hk
    omega
  rw [e]
  refine congrArg List.toArray ?_
  have hz : z.length = z.cps.toList.length := rfl
  rw [hz]
  generalize hc : z.cps.toList = cs
  have : (fun i : Nat => z.cps[i]?) = fun i : Nat => cs[i]? := by
    funext i; rw [← hc]; simp
  rw [this, List.filterMap_map]
  have : List.filterMap ((fun i => cs[i]?) ∘ fun k => cs.length - 1 - k) (List.range cs.length) = List.filterMap (fun k => cs.reverse[k]?) (List.range cs.length) := by
    refine fm_congr fun k hk => ?_
    have := List.mem_range.mp hk
    show cs[cs.length - 1 - k]? = _
    rw [List.getElem?_reverse this]
  rw [this]
  have gen : ∀ xs : List Nat, List.filterMap (fun k => xs[k]?) (List.range xs.length) = xs := by
    intro xs
    induction xs with
    | nil => rfl
    | cons x xs ih =>
      rw [List.length_cons, List.range_succ_eq_map, List.filterMap_cons]
      simp only [List.getElem?_cons_zero, List.filterMap_map]
      congr 1
  have := gen cs.reverse
  rw [List.length_reverse] at this
  exact this
variable {X : Cx}
def tRevS (te : TE) : TE := fun σ H Q => te σ H fun x H1 => ∃ z : Str, x = .str z ∧ z.length ≤ sizeLine ∧ Q (.str ⟨z.cps.toList.reverse.toArray⟩) H1
theorem pe_revS {e : Expr} {te : TE} {k : Nat} {p1 p2 p3 pos : Pos} (he : PE X e te) : PE X (.Subscript e (.Slice none none (some (.UnaryOp .USub (.Constant (.int 1) k p1) p2)) p3) pos) (tRevS te) := by
  refine ⟨fun pins s σ H Q I h => ?_⟩
  refine Subscript_ (thn (he.run pins s σ H _ I h) fun v s1 ⟨x, H1, I1, r1, q1⟩ => ?_)
  obtain ⟨z, ex, hz, q⟩ := q1
  subst ex
  obtain ⟨t, rfl⟩ := r1
  have hst : PO X (some (.UnaryOp .USub (.Constant (.int 1) k p1) p2)) (tPart (tUn (rU fun i => .int (-i)) (tC (.int 1)))) := po_some (pe_un un_neg pe_int)
  refine wpAny_Slice (thn (po_none.run pins s1 σ H1 (fun o H2 => o = none ∧ H2 = H1) I1 ⟨rfl, rfl⟩) fun vl s2 ⟨l, H2, I2, pl, el, e2⟩ => ?_)
  subst el e2
  refine thn (po_none.run pins s2 σ H2 (fun o H3 => o = none ∧ H3 = H2) I2 ⟨rfl, rfl⟩) fun vu s3 ⟨u, H3, I3, pu, eu, e3⟩ => ?_
  subst eu e3
  refine thn (hst.run pins s3 σ H3 (fun o H4 => o = some (-1) ∧ H4 = H3) I3 ⟨1, rfl, -1, rfl, rfl, rfl⟩) fun vs s4 ⟨o, H4, I4, ps, eo, e4⟩ => ?_
  subst eo e4
  have I5 : Inv X pins σ H4 { s4 with heap := s4.heap.push { cls := .type "slice", data := .fields #[vl, vu, vs] } } := I4.kept (t' := s4.toks) fun b ob q => Heap.get?_push_of_some _ q
  show wpAny (model X.prog X.w) X.A (subscriptTail e (.Slice none none (some (.UnaryOp .USub (.Constant (.int 1) k p1) p2)) p3) (.str z t) (.ref s4.heap.objs.size)) (EP X pins σ Q) X.xe { s4 with heap := s4.heap.push { cls := .type "slice", data := .fields #[vl, vu, vs] } }
  refine tail_any (ops := [.str z t, .ref s4.heap.objs.size]) (typeIs_str _ _ _) (PySem.F.slot_str_getitem.lookup) ?_ (by with_unfolding_all rfl)
  obtain ⟨l', rfl, el⟩ := IsPart.raw pl
  obtain ⟨u', rfl, eu⟩ := IsPart.raw pu
  obtain ⟨st', rfl, es⟩ := IsPart.raw ps
  refine wpAny_getItem_str_slice (l := l') (u := u') (st := st') ⟨_, Heap.get?_push_size _ rfl, rfl, rfl⟩ (by rw [es]; rfl) ?_
  unfold sliceMade slicePicked
  rw [el, eu, es]
  show Made.post (if ((-1 : Int) == 1 && (PySem.Builtin.Str.strSliceIndices none none (-1) z.length).length == z.length) = true then Made.val (.str z t)
    else Made.str ⟨((PySem.Builtin.Str.strSliceIndices none none (-1) z.length).filterMap (z.cps[·]?)).toArray⟩) (EP X pins σ Q) _
  rw [if_neg (by simp), rev_idx]
  refine ⟨?_, .str _, _, I5.tok _, ⟨_, rfl⟩, q⟩
  show z.cps.toList.reverse.toArray.size ≤ sizeLine
  rw [List.size_toArray, List.length_reverse]
  exact hz
theorem call_list_txt (hc : X.calm = true) : CallR X (.type "list") (fun xs H Q => ∃ z : Str, xs = [.str z] ∧ z.length ≤ sizeLine ∧ ∀ l, H l = none → Q (.ref l) (upd H l (.lst (z.cps.toList.map fun c => V.str ⟨#[c]⟩)))) := by
  intro pins s σ H xs us Q I r h
  obtain ⟨z, rfl, hz, q⟩ := h
  obtain ⟨u, rfl, rx⟩ := vals1 r
  obtain ⟨t, rfl⟩ := rx
  refine PySem.call_list_str (I.ok.hd hc) z t (hn := hz) fun h' tk acc c' hk e hi => ?_
  refine ⟨.ref s.heap.objs.size, upd H s.heap.objs.size (.lst (z.cps.toList.map fun c => V.str ⟨#[c]⟩)), I.laid hk (Nat.le_refl _) ⟨by rw [List.length_map]; exact hz, acc.toList, c', ?_, by rw [Array.toArray_toList]; exact e⟩, rfl, q _ (I.hok.fresh (Nat.le_refl _))⟩
  refine vals_of_idx _ _ (by simp [hi.1]) fun j u hj => ?_
  obtain ⟨c, t', hc, rfl⟩ := hi.2 j u (by rw [← Array.getElem?_toList]; exact hj)
  exact ⟨.str ⟨#[c]⟩, by simp [hc], ⟨_, rfl⟩⟩
end
def D.tyName : D → String
  | .non => "NoneType"
  | .bl _ => "bool"
  | .int _ => "int"
  | .str _ => "str"
  | .tup _ => "tuple"
  | .lst _ => "list"
  | _ => ""
theorem Rep.tyx {K : PySem.W.Frag} {H : Hp} {d : D} {v : V} (r : Vw K H d v) (hp : d.pl = true) : TyX K H v (.type d.tyName) := by
  cases r with
  | non => exact .base .non
  | bl b => exact .base (.bl b)
  | int i => exact .base (.int i)
  | str s h => exact .base (.str _)
  | tup h r =>
    rcases h with (h | ⟨o, h⟩) | ⟨o, its, n, h1, h2, _⟩
    · exact .base (.tup h)
    · exact .fTuple h
    · exact .kTuple h1 h2
  | lst0 _ h r => exact .base (.lst h)
  | dic0 _ _ _ _ _ _ => cases hp
  | dicW _ _ _ _ _ => cases hp
  | ins0 _ _ _ _ _ => cases hp
  | lstF h r => exact .base (.frz h)
  | lstW _ h r =>
    rcases h (fun _ => none) with (h | ⟨o, h⟩) | ⟨o, its, n, h1, h2, _⟩
    · cases h
    · cases h
    · exact .kList h1 h2
def isTy : Bi → Option String
  | .isbool => some "bool"
  | .isint => some "int"
  | .isstr => some "str"
  | .islist => some "list"
  | .istup => some "tuple"
  | _ => none
def rIs1 (K : PySem.W.Frag) (T : String) : List V → Hp → VK → Prop := fun vs H Q => rIsi K (vs ++ [.ty T]) H Q
theorem kitAll : (["NoneType", "bool", "int", "str", "tuple", "list"].all fun a => ["bool", "int", "str", "list", "tuple"].all fun b => kitB a b == some (a == b || (a == "bool" && b == "int"))) = true := by decide +kernel
theorem kit_of {a b : String} (ha : a ∈ ["NoneType", "bool", "int", "str", "tuple", "list"]) (hb : b ∈ ["bool", "int", "str", "list", "tuple"]) : kitB a b = some (a == b || (a == "bool" && b == "int")) := by
  have := List.all_eq_true.mp (List.all_eq_true.mp kitAll a ha) b hb
  simpa using this
section
variable {K : PySem.W.Frag}
theorem bi_is (b : Bi) (T : String) (e : isTy b = some T) : BiSem K b (rIs1 K T) := fun H ds vs k Q r _ hk q => by
  obtain ⟨d, rfl⟩ : ∃ d, ds = [d] := by
    rcases ds with _ | ⟨d, _ | ⟨e, ds⟩⟩
    · cases b <;> first | (cases e; done) | exact False.elim hk
    · exact ⟨d, rfl⟩
    · cases b <;> first | (cases e; done) | (cases d <;> exact False.elim hk)
  have r0 := r
  clear r
  obtain ⟨v, rfl, r⟩ := Vws.one r0
  have hb : b.k = 0 := by cases b <;> first | rfl | cases e
  have hp : d.pl = true := by cases b <;> first | (cases e; done) | exact hk.1
  have hm : d.tyName ∈ ["NoneType", "bool", "int", "str", "tuple", "list"] := by cases d <;> first | (cases hp; done) | simp [D.tyName]
  have hT : T ∈ ["bool", "int", "str", "list", "tuple"] := by cases b <;> simp [isTy] at e <;> subst e <;> simp
  refine ⟨v, .ty T, _, _, _, rfl, .ty T, r.tyx hp, kit_ty (kit_of hm hT), ?_⟩
  have key : ∃ c, k (.bl c) ∧ c = (d.tyName == T || (d.tyName == "bool" && T == "int")) := by
    cases b <;> simp [isTy] at e <;> subst e <;> cases d <;> first | (cases hp; done) | exact ⟨_, hk.2, by simp [D.tyName]⟩
  obtain ⟨c, h1, rfl⟩ := key
  refine q _ _ _ h1 ?_
  rw [hb]; exact New0.bl
theorem char_lt (c : Char) : c.toNat < 0x110000 := by
  rcases c.valid with h | h
  · exact Nat.lt_trans h (by decide)
  · exact h.2
theorem intTxt_ok (i : Int) : toStr (intTxt i) = (toString i : String) ∧ ∀ c ∈ intTxt i, c < 0x110000 := by
  unfold intTxt
  constructor
  · simp [toStr]
  · rw [Str.ofString_eq_toList]
    intro c hc
    simp at hc
    obtain ⟨a, _, rfl⟩ := hc
    exact char_lt a
theorem bi_str : BiSem K .str (fun xs H Q => ∃ i : Int, xs = [.int i] ∧ i.natAbs.log2 < 1920 ∧ Q (.str (toString i : String)) H) := fun H ds vs k Q r hn hk q => by
  obtain ⟨d, rfl⟩ : ∃ d, ds = [d] := by
    rcases ds with _ | ⟨d, _ | ⟨e, ds⟩⟩
    · exact False.elim hk
    · exact ⟨d, rfl⟩
    · cases d <;> exact False.elim hk
  have r0 := r
  clear r
  obtain ⟨v, rfl, r⟩ := Vws.one r0
  cases d <;> try exact False.elim hk
  rename_i i
  rw [r.int_inv]
  refine ⟨i, rfl, hk.1, ?_⟩
  rw [← (intTxt_ok i).1]
  exact q _ _ _ hk.2 (New0.str (intTxt_ok i).2)
theorem reprC (c : Nat) (h1 : 97 ≤ c) (h2 : c ≤ 122) : Builtin.Str.reprChar 39 c = [c] := by
  have : ∀ c : Fin 26, Builtin.Str.reprChar 39 (97 + c) = [97 + (c : Nat)] := by decide +kernel
  have := this ⟨c - 97, by omega⟩
  simpa [show 97 + (c - 97) = c by omega] using this
theorem letters_repr {s : List Nat} (h : ∀ c ∈ s, 97 ≤ c ∧ c ≤ 122) : reprText (toStr s) = toStr (39 :: (s ++ [39])) := by
  have hq : reprQuote (toStr s) = 39 := by
    unfold reprQuote
    rw [if_neg]
    rw [Bool.and_eq_true]
    rintro ⟨h1, _⟩
    have h1 : 39 ∈ s := by simpa [toStr] using h1
    have := h 39 h1
    omega
  unfold reprText
  rw [hq]
  have go : ∀ (l : List Nat) (acc : Array Nat), (∀ c ∈ l, 97 ≤ c ∧ c ≤ 122) → l.foldl (fun out c => out ++ (Builtin.Str.reprChar 39 c).toArray) acc = acc ++ l.toArray := by
    intro l
    induction l with
    | nil => intro acc _; simp
    | cons c l ih =>
      intro acc hl
      rw [List.foldl_cons, ih _ fun d hd => hl d (List.mem_cons_of_mem _ hd), reprC c (hl c List.mem_cons_self).1 (hl c List.mem_cons_self).2]
      simp
  rw [← Array.foldl_toList, show (toStr s).cps.toList = s by simp [toStr], go s _ h]
  simp [toStr]
theorem bi_reprS {K : PySem.W.Frag} {H : Hp} {s : List Nat} {v : V} {k : D → Prop} {Q : VK} (r : Vw K H (.str s) v) (hk : biK .repr [.str s] k) (q : ∀ d v H', k d → New0 K H H' d v → Q v H') : ∃ z : List Nat, [v] = [V.str (toStr z)] ∧ (∀ c ∈ z, 97 ≤ c ∧ c ≤ 122) ∧ z.length ≤ 100000 ∧ Q (.str (toStr (39 :: (z ++ [39])))) H := by
  obtain ⟨rfl, hs⟩ := r.str_inv
  have hl : ∀ c ∈ s, 97 ≤ c ∧ c ≤ 122 := fun c hc => of_decide_eq_true (List.all_eq_true.mp hk.1.1 c hc)
  refine ⟨s, rfl, hl, hk.1.2, q _ _ _ hk.2 (New0.str fun c hc => ?_)⟩
  rcases List.mem_cons.mp hc with rfl | hc
  · omega
  · rcases List.mem_append.mp hc with hc | hc
    · have := hl c hc; omega
    · simp at hc; omega
theorem bi_repr : BiSem K .repr (fun xs H Q => (∃ i, xs = [.int i] ∧ i.natAbs.log2 < 1920 ∧ Q (.str (toStr (intTxt i))) H) ∨ ((xs = [.non] ∧ Q (.str (toStr [78, 111, 110, 101])) H) ∨ ((∃ b, xs = [.bl b] ∧ Q (.str (toStr (if b then [84, 114, 117, 101] else [70, 97, 108, 115, 101]))) H) ∨ ∃ s : List Nat, xs = [.str (toStr s)] ∧ (∀ c ∈ s, 97 ≤ c ∧ c ≤ 122) ∧ s.length ≤ 100000 ∧ Q (.str (toStr (39 :: (s ++ [39])))) H))) := fun H ds vs k Q r _ hk q => by
  obtain ⟨d, rfl⟩ : ∃ d, ds = [d] := by
    rcases ds with _ | ⟨d, _ | ⟨e, ds⟩⟩
    · exact False.elim hk
    · exact ⟨d, rfl⟩
    · cases d <;> exact False.elim hk
  have r0 := r
  clear r
  obtain ⟨v, rfl, r⟩ := Vws.one r0
  cases d <;> try exact False.elim hk
  · rw [r.non_inv]
    exact .inr (.inl ⟨rfl, q _ _ _ hk (New0.str (by decide))⟩)
  · rename_i b
    rw [r.bl_inv]
    exact .inr (.inr (.inl ⟨_, rfl, q _ _ _ hk (New0.str (by intro c hc; split at hc <;> (simp at hc; omega)))⟩))
  · rw [r.int_inv]
    exact .inl ⟨_, rfl, hk.1, q _ _ _ hk.2 (New0.str (intTxt_ok _).2)⟩
  · exact .inr (.inr (.inr (bi_reprS r hk q)))
theorem cr_repr {X : Cx} : CallR X (.builtin "repr") (fun xs H Q => (∃ i, xs = [.int i] ∧ i.natAbs.log2 < 1920 ∧ Q (.str (toStr (intTxt i))) H) ∨ ((xs = [.non] ∧ Q (.str (toStr [78, 111, 110, 101])) H) ∨ ((∃ b, xs = [.bl b] ∧ Q (.str (toStr (if b then [84, 114, 117, 101] else [70, 97, 108, 115, 101]))) H) ∨ ∃ s : List Nat, xs = [.str (toStr s)] ∧ (∀ c ∈ s, 97 ≤ c ∧ c ≤ 122) ∧ s.length ≤ 100000 ∧ Q (.str (toStr (39 :: (s ++ [39])))) H))) := by
  intro pins s σ H xs us Q I r h
  rcases h with ⟨i, rfl, hz, q⟩ | ⟨rfl, q⟩ | ⟨b, rfl, q⟩ | ⟨z, rfl, hl, hz, q⟩
  · obtain ⟨u, rfl, t, rfl⟩ := vals1 r
    rw [(intTxt_ok i).1] at q
    exact PySem.P.repr_of_int hz ⟨.str _, H, I.tok _, ⟨_, rfl⟩, q⟩
  · obtain ⟨u, rfl, e⟩ := vals1 r
    obtain rfl : u = Value.none := e
    exact PySem.P.repr_of_none ⟨.str _, H, I.tok _, ⟨_, rfl⟩, q⟩
  · obtain ⟨u, rfl, e⟩ := vals1 r
    obtain rfl : u = Value.bool b := e
    refine PySem.P.repr_of_bool ⟨.str _, H, I.tok _, ⟨_, rfl⟩, ?_⟩
    cases b <;> exact q
  · obtain ⟨u, rfl, t, rfl⟩ := vals1 r
    rw [← letters_repr hl] at q
    refine PySem.P.repr_of_str ⟨.str _, H, I.tok _, ⟨_, rfl⟩, q⟩ ?_
    rw [letters_repr hl, toStr_len]
    have : 1000000 ≤ sizeLine := by decide
    simp; omega
def rBi (K : PySem.W.Frag) : Bi → List V → Hp → VK → Prop
  | .dict => fun xs H Q => rDictT K W.w xs H Q ∨ rDictF K W.w xs H Q
  | .sorted => rSort K
  | .len => fun xs H Q => rLenD K W.w xs H Q ∨ ((∃ p ys, xs = [.ref p] ∧ (SqL K H p ys ∨ SqT K H p ys) ∧ Q (.int ys.length) H) ∨ (∃ z, xs = [.str z] ∧ z.length ≤ sizeLine ∧ Q (.int z.length) H))
  | .int => fun xs H Q => (∃ i, xs = [.int i] ∧ Q (.int i) H) ∨ ∃ k, xs = [.bl k] ∧ Q (.int (if k then 1 else 0)) H
  | .str => fun xs H Q => ∃ i, xs = [.int i] ∧ i.natAbs.log2 < 1920 ∧ Q (.str (toString i)) H
  | .list _ => fun xs H Q => (∃ p ys, xs = [.ref p] ∧ (SqL K H p ys ∨ SqT K H p ys) ∧ ∀ l, H l = none → Q (.ref l) (upd H l (.lst ys))) ∨ ∃ z : Str, xs = [.str z] ∧ z.length ≤ sizeLine ∧ ∀ l, H l = none → Q (.ref l) (upd H l (.lst (z.cps.toList.map fun c => V.str ⟨#[c]⟩)))
  | .tuple _ => fun xs H Q => ∃ p ys, xs = [.ref p] ∧ ((SqL K H p ys ∧ ∀ l, H l = none → Q (.ref l) (upd H l (.tup ys))) ∨ (SqT K H p ys ∧ Q (.ref p) H))
  | .max => fun xs H Q => rMax K xs H Q ∨ ∃ i j, xs = [.int i, .int j] ∧ Q (.int (if j > i then j else i)) H
  | .min => fun xs H Q => rMin K xs H Q ∨ ∃ i j, xs = [.int i, .int j] ∧ Q (.int (if j < i then j else i)) H
  | .sum => rSum K
  | .repr => fun xs H Q => (∃ i, xs = [.int i] ∧ i.natAbs.log2 < 1920 ∧ Q (.str (toStr (intTxt i))) H) ∨ ((xs = [.non] ∧ Q (.str (toStr [78, 111, 110, 101])) H) ∨ ((∃ b, xs = [.bl b] ∧ Q (.str (toStr (if b then [84, 114, 117, 101] else [70, 97, 108, 115, 101]))) H) ∨ ∃ s : List Nat, xs = [.str (toStr s)] ∧ (∀ c ∈ s, 97 ≤ c ∧ c ≤ 122) ∧ s.length ≤ 100000 ∧ Q (.str (toStr (39 :: (s ++ [39])))) H))
  | .all => rAll K
  | .any => rAny K
  | .isbool => rIs1 K "bool"
  | .isint => rIs1 K "int"
  | .isstr => rIs1 K "str"
  | .islist => rIs1 K "list"
  | .istup => rIs1 K "tuple"
/-- the name of the built-in, its value -/
def Bi.name : Bi → Str
  | .len => "len" | .int => "int" | .str => "str" | .list _ => "list" | .tuple _ => "tuple" | .max => "max" | .min => "min" | .sum => "sum" | .all => "all" | .any => "any" | .repr => "repr" | .dict => "dict" | .sorted => "sorted"
  | _ => "isinstance"
inductive BiHow where | fn (id : String) | ty (T : String) | is (T : String)
def Bi.how : Bi → BiHow
  | .len => .fn "len" | .int => .ty "int" | .str => .ty "str" | .list _ => .ty "list" | .tuple _ => .ty "tuple" | .max => .fn "max" | .min => .fn "min" | .sum => .fn "sum" | .all => .fn "all" | .any => .fn "any" | .repr => .fn "repr" | .dict => .ty "dict" | .sorted => .fn "sorted"
  | .isbool => .is "bool" | .isint => .is "int" | .isstr => .is "str" | .islist => .is "list" | .istup => .is "tuple"
theorem bi_sem (b : Bi) : BiSem K b (rBi K b) := by
  cases b with
  | len => exact bi_len
  | int => exact bi_int
  | str => exact bi_str
  | list l => exact bi_list l
  | tuple l => exact bi_tuple l
  | max => exact bi_max
  | min => exact bi_min
  | sum => exact bi_sum
  | all => exact bi_all
  | any => exact bi_any
  | repr => exact bi_repr
  | dict => exact bi_dict
  | sorted => exact bi_sorted
  | isbool => exact bi_is _ _ rfl
  | isint => exact bi_is _ _ rfl
  | isstr => exact bi_is _ _ rfl
  | islist => exact bi_is _ _ rfl
  | istup => exact bi_is _ _ rfl
theorem bi_ok {X : Cx} (hc : X.calm = true) (hw : X.w = W.w) (hu : X.A.units + 65 < cLine) (b : Bi) : (match b.how with
    | .fn id => CallR X (.builtin id) (rBi X.K b) ∧ bootBuiltins b.name = some (.builtin id)
    | .ty T => CallR X (.type T) (rBi X.K b) ∧ bootBuiltins b.name = some (.type T)
    | .is T => rBi X.K b = rIs1 X.K T ∧ bootBuiltins T = some (.type T)) := by
  cases b with
  | len => exact ⟨by have := (cr_lenD (X := X)).or (call_len_seq.or call_len_str); rw [hw] at this; exact this, by decide +kernel⟩
  | dict => exact ⟨by have := (cr_dictT hc hu).or (cr_dictF hc); rw [hw] at this; exact this, by decide +kernel⟩
  | sorted => exact ⟨cr_sort hu, by decide +kernel⟩
  | int => exact ⟨call_int1, by decide +kernel⟩
  | str => exact ⟨call_str_int, by decide +kernel⟩
  | list l => exact ⟨call_list_of.or (call_list_txt hc), by show bootBuiltins "list" = _; decide +kernel⟩
  | tuple l => exact ⟨call_tuple_of, by show bootBuiltins "tuple" = _; decide +kernel⟩
  | max => exact ⟨(cr_max hc).or (call_max2 hc), by decide +kernel⟩
  | min => exact ⟨(cr_min hc).or (call_min2 hc), by decide +kernel⟩
  | sum => exact ⟨cr_sum hc, by decide +kernel⟩
  | all => exact ⟨cr_all hc, by decide +kernel⟩
  | any => exact ⟨cr_any hc, by decide +kernel⟩
  | repr => exact ⟨cr_repr, by decide +kernel⟩
  | isbool => exact ⟨rfl, by decide +kernel⟩
  | isint => exact ⟨rfl, by decide +kernel⟩
  | isstr => exact ⟨rfl, by decide +kernel⟩
  | islist => exact ⟨rfl, by decide +kernel⟩
  | istup => exact ⟨rfl, by decide +kernel⟩
end

/-! ### join -/
theorem glued_join (sep : List Nat) : ∀ ys : List (List Nat), Txt.join (toStr sep) (ys.map toStr) = toStr (joinL sep ys) := by
  have go : ∀ (ys : List (List Nat)) (acc : List Nat), (ys.map toStr).foldl (fun a p => a ++ (toStr sep).cps ++ p.cps) acc.toArray = (acc ++ (ys.map fun y => sep ++ y).flatten).toArray := by
    intro ys
    induction ys with
    | nil => intro acc; simp
    | cons y ys ih =>
      intro acc
      rw [List.map_cons, List.foldl_cons]
      have : acc.toArray ++ (toStr sep).cps ++ (toStr y).cps = (acc ++ sep ++ y).toArray := by simp [toStr]
      rw [this, ih]
      simp
  have jl : ∀ (y : List Nat) (ys : List (List Nat)), joinL sep (y :: ys) = y ++ (ys.map fun y => sep ++ y).flatten := by
    intro y ys
    induction ys generalizing y with
    | nil => simp [joinL]
    | cons z ys ih => rw [joinL, ih]; simp
  intro ys
  cases ys with
  | nil => rfl
  | cons y ys =>
    show Builtin.Str.glued _ _ = _
    unfold Builtin.Str.glued
    simp only [List.map_cons, List.drop_succ_cons, List.drop_zero, List.headD_cons]
    have := go ys y
    rw [show (toStr y).cps = y.toArray from rfl, this, jl]
    rfl
theorem Reps.strs {K : PySem.W.Frag} {H : Hp} : ∀ {ds : List D} {ys : List (List Nat)} {vs : List V}, Vws K H ds vs → strsOf ds = some ys → vs = (ys.map toStr).map V.str ∧ ∀ y ∈ ys, ∀ c ∈ y, c < 0x110000
  | [], _, _, r, e => by
    cases r
    have e : some [] = some _ := e
    cases e
    exact ⟨rfl, fun _ h => by simp at h⟩
  | d :: ds, ys, _, r, e => by
    obtain ⟨v, us, rfl, h, t⟩ := Vws.cons_inv r
    cases d <;> try (exact absurd (show (none : Option (List (List Nat))) = some ys from e) (by simp))
    rename_i s
    have e : (strsOf ds).map (s :: ·) = some ys := e
    cases e2 : strsOf ds with
    | none => rw [e2] at e; cases e
    | some zs =>
      rw [e2] at e
      cases e
      obtain ⟨rfl, h1⟩ := h.str_inv
      obtain ⟨h2, h3⟩ := Reps.strs t e2
      refine ⟨by rw [h2]; rfl, fun y hy c hc => ?_⟩
      rcases List.mem_cons.mp hy with rfl | hy
      · exact h1 c hc
      · exact h3 y hy c hc
theorem join_mem {sep : List Nat} {P : Nat → Prop} (hs : ∀ c ∈ sep, P c) : ∀ {ys : List (List Nat)}, (∀ y ∈ ys, ∀ c ∈ y, P c) → ∀ c ∈ joinL sep ys, P c
  | [], _, c, h => by simp [joinL] at h
  | [y], hy, c, h => hy y (by simp) c (by simpa [joinL] using h)
  | y :: z :: r, hy, c, h => by
    rw [joinL] at h
    rcases List.mem_append.mp h with h | h
    · rcases List.mem_append.mp h with h | h
      · exact hy y (by simp) c h
      · exact hs c h
    · exact join_mem hs (fun w hw => hy w (List.mem_cons_of_mem _ hw)) c h
end Pm

namespace Pm
open PySem L2
variable [W : Wd]

/-! ### the tree is this code -/
structure Code where
  N : List Str
  gn : List Str
  fn : List Str
def locB (sc : Scope) (x : Str) : Bool := sc.names.lookup x == some .local || sc.names.lookup x == some .cell
def visB (sc : Scope) (x : Str) : Bool := locB sc x || sc.names.lookup x == some .free
def glB (sc : Scope) (x : Str) : Bool := sc.names.lookup x == some .globalImplicit
def nomg (x : Str) : Bool := (x == ("__debug__" : Str)) == false && (x == ("__classdict__" : Str)) == false
def Bm.name : Bm → Str | .join => "join" | .index => "index" | .rev => ""
def Mu.name : Mu → Str | .append => "append" | .extend => "extend" | .pop => "pop" | .popAt => "pop" | .clear => "clear"
def Tgt.own (N : List Str) (t : Tgt) : List (Str × Nat) := t.slots.filterMap fun i => (N[i]?).map (·, i)
def isSl : Expr → Bool | .Slice .. => true | _ => false
def isLc : Expr → Bool | .ListComp .. => true | .SetComp .. => true | .DictComp .. => true | _ => false
def isDp : E → Bool | .dp _ _ => true | _ => false
def nmB (A : Code) (sc : Scope) (i : Nat) : Expr → Bool
  | .Name x _ => A.N[i]? == some x && locB sc x
  | _ => false
def nmsB (A : Code) (sc : Scope) : List Nat → List Expr → Bool
  | [], [] => true
  | i :: is, e :: es => nmB A sc i e && nmsB A sc is es
  | _, _ => false
def mtT (A : Code) (sc : Scope) : Tgt → Expr → Bool
  | .nm i, e => nmB A sc i e
  | .tp is, .Tuple es _ _ => nmsB A sc is es
  | .tpo ps, .Tuple es _ _ => nmsB A sc (ps.map (·.1)) es
  | _, _ => false
def isTup : Expr → Bool | .Tuple .. => true | _ => false
def notSet : Expr → Bool | .Set .. => false | _ => true
def plainBase : Expr → Bool | .Call (.Name _ _) [] [] _ => false | _ => true
mutual
def mtE (A : Code) (sc : Scope) : E → Expr → Bool
  | .dnew, .Dict [] [] _ => true
  | .done a b, .Dict [some x] [y] _ => mtE A sc a x && mtE A sc b y
  | .dp _ a, x => mtE A sc a x
  | .ife c a b, .IfExp x y z _ => mtE A sc c x && mtE A sc a y && mtE A sc b z
  | .var i _, .Name x _ => A.N[i]? == some x && visB sc x && nomg x
  | .non, .Constant .none _ _ => true
  | .bl b, .Constant (.bool c) _ _ => b == c
  | .int i, .Constant (.int j) _ _ => i == j
  | .str s, .Constant (.str x) _ _ => x.cps.toList == s && s.all fun c => decide (c < 0x110000)
  | .glb g, .Name x _ => A.gn[g]? == some x && glB sc x && nomg x
  | .tup es, .Tuple xs _ _ => mtEs A sc es xs
  | .lst es, .List xs _ => mtEs A sc es xs
  | .bin _ op a b, .BinOp x o y _ => op == o && mtE A sc a x && mtE A sc b y
  | .cmp op a b, .Compare x [o] [y] _ => op == o && mtE A sc a x && mtE A sc b y && behindInMarks o y == false
  | .chn o1 o2 a b c, .Compare x [p1, p2] [y, z] _ => o1 == p1 && o2 == p2 && mtE A sc a x && mtE A sc b y && mtE A sc c z && lastMarks [p1, p2] [y, z] == false
  | .lrng es, .Call (.Name x _) [.Call (.Name y _) xs [] _] [] _ => x == ("list" : Str) && glB sc x && y == ("range" : Str) && glB sc y && (match xs with | [_] => true | [_, _] => true | _ => false) && mtEs A sc es xs
  | .maxd a, .Call (.Name x _) [y] [⟨some kw, .UnaryOp .USub (.Constant (.int 1) _ _) _, _⟩] _ => x == ("max" : Str) && glB sc x && kw == ("default" : Str) && mtE A sc a y
  | .sset a, .Call (.Name x _) [.Call (.Name y _) [z] [] _] [] _ => x == ("sorted" : Str) && glB sc x && y == ("set" : Str) && glB sc y && mtE A sc a z
  | .lset a, .Call (.Name x _) [.Call (.Name y _) [z] [] _] [] _ => x == ("len" : Str) && glB sc x && y == ("set" : Str) && glB sc y && mtE A sc a z
  | .revl a, .Subscript x (.Slice none none (some (.UnaryOp .USub (.Constant (.int 1) _ _) _)) _) _ => mtE A sc a x
  | .neg a, .UnaryOp .USub x _ => mtE A sc a x
  | .not_ a, .UnaryOp .Not x _ => mtE A sc a x
  | .bop o a b, .BoolOp op (x :: y :: rest) pos => (if o then op == .Or else op == .And) && mtE A sc a x && (if rest.isEmpty then mtE A sc b y else mtE A sc b (.BoolOp op (y :: rest) pos))
  | .idx _ a i, .Subscript x y _ => mtE A sc a x && mtE A sc i y && !isSl y
  | .slc _ a lo hi, .Subscript x (.Slice l u none _) _ => mtE A sc a x && mtOE A sc lo l && mtOE A sc hi u
  | .call f as, .Call (.Name x _) (e :: es) [] _ => A.fn[f]? == some x && glB sc x && nomg x && mtAs A sc as (e :: es)
  | .bi b es, .Call (.Name x _) xs [] _ => x == b.name && glB sc x && (match b.how, xs with
    | .is T, [e, .Name y _] => y == (T : Str) && glB sc y && (match es with | .cons a .nil => mtE A sc a e | _ => false)
    | .is _, _ => false
    | _, e :: es' => mtEs A sc es (e :: es')
    | _, [] => false)
  | .bm m o es, .Call (.Attribute x nm ap) (e :: es') [] cp => nm == m.name && plainBase x && mtE A sc o x && mtEs A sc es (e :: es') && ap.endLine == cp.line && decide ((e :: es').length < 30) && m != .rev
  | .bm m o .nil, .Subscript x (.Slice none none (some (.UnaryOp .USub (.Constant (.int 1) _ _) _)) _) _ => m == .rev && mtE A sc o x
  | .mu m i es, .Call (.Attribute (.Name x _) nm ap) xs [] cp => nm == m.name && A.N[i]? == some x && visB sc x && nomg x && mtEs A sc es xs && ap.endLine == cp.line && decide (xs.length < 30)
  | .comp t it c e, .ListComp elt [⟨tg, iter, ifs, 0⟩] scope _ => mtT A scope t tg && mtIt A sc it tg iter && (match ifs with | [] => mtOE A (relS scope sc) c none | [x] => mtOE A (relS scope sc) c (some x) | _ => false) && mtE A (relS scope sc) e elt && blkC A.N sc scope (t.own A.N) && decide ((t.own A.N).map (·.2) = t.slots)
  | _, _ => false
def mtEs (A : Code) (sc : Scope) : Es → List Expr → Bool
  | .nil, [] => true
  | .cons e es, x :: xs => mtE A sc e x && mtEs A sc es xs
  | _, _ => false
def mtOE (A : Code) (sc : Scope) : OE → Option Expr → Bool
  | .none, none => true
  | .some e, some x => mtE A sc e x
  | _, _ => false
def mtAs (A : Code) (sc : Scope) : As → List Expr → Bool
  | .nil, [] => true
  | .val e as, x :: xs => mtE A sc e x && mtAs A sc as xs
  | .own e as, x :: xs => mtE A sc e x && mtAs A sc as xs
  | .ino i as, .Name x _ :: xs => A.N[i]? == some x && visB sc x && nomg x && mtAs A sc as xs
  | _, _ => false
def mtIt (A : Code) (sc : Scope) : It → Expr → Expr → Bool
  | .low _ it, tg, x => mtIt A sc it tg x
  | .val _ e, _, x => mtE A sc e x && notSet x
  | .rng es, _, .Call (.Name x _) xs [] _ => x == ("range" : Str) && glB sc x && (match xs with | [_] => true | [_, _] => true | _ => false) && mtEs A sc es xs
  | .enum true e, tg, .Call (.Name x _) [y] [] _ => x == ("enumerate" : Str) && glB sc x && isTup tg && mtE A sc e y
  | .enum false e, tg, .Call (.Name x _) [y] [] _ => x == ("enumerate" : Str) && glB sc x && isTup tg && mtE A sc e y
  | .zip3 _ _ _ a b c, tg, .Call (.Name x _) [y, z, u] [] _ => x == ("zip" : Str) && glB sc x && isTup tg && mtE A sc a y && mtE A sc b z && mtE A sc c u
  | .zip _ _ a b, tg, .Call (.Name x _) [y, z] [] _ => x == ("zip" : Str) && glB sc x && isTup tg && mtE A sc a y && mtE A sc b z
  | _, _, _ => false
end
/-- `name = [.. for ..]` on one line -/
def swB (sc : Scope) (t : Expr) (v : Expr) (line : Nat) : Option Bool := match v with
  | .ListComp _ _ scope _ => match t with
    | .Name x p => some (sc.names.lookup x == some .local && p.line == v.pos.line && !(scope.names.any fun (n, k) => n == x && (k == .local || k == .cell)))
    | _ => some false
  | .SetComp .. => none
  | .DictComp .. => none
  | _ => some false
mutual
def mtS (A : Code) (sc : Scope) : S → Stmt → Bool
  | .asg t e, .Assign [tg] v pos => mtT A sc t tg && mtE A sc e v && (swB sc tg v pos.line).isSome && !(isTup tg && isTup v) && !(isDp e && isLc v)
  | .setI i k e, .Assign [.Subscript (.Name x _) j _] v _ => A.N[i]? == some x && visB sc x && nomg x && mtE A sc k j && !isSl j && mtE A sc e v
  | .expr e, .Expr v _ => mtE A sc e v && !isLc v
  | .ret e, .Return (some v) _ => mtE A sc e v
  | .retN, .Return none _ => true
  | .if_ c a b, .If v x y _ => mtE A sc c v && mtSs A sc a x && mtSs A sc b y
  | .for_ _ t it b, .For tg v x [] _ => mtT A sc t tg && mtIt A sc it tg v && mtSs A sc b x
  | .while_ _ c b, .While v x [] _ => mtE A sc c v && mtSs A sc b x
  | .brk, .Break _ => true
  | .cnt, .Continue _ => true
  | .pass, .Pass _ => true
  | .dead, _ => true
  | _, _ => false
def mtSs (A : Code) (sc : Scope) : Ss → List Stmt → Bool
  | .nil, [] => true
  | .cons s ss, x :: xs => mtS A sc s x && mtSs A sc ss xs
  | _, _ => false
end

/-! ### what a def promises -/
def rdZ (M : Fp) (H : Hp) : Option Addr → Prop
  | none => True
  | some a => a ∉ M ∧ H a ≠ none
def fzP (Zf : Addr → Prop) (H : Hp) : Option Addr → Prop
  | none => False
  | some a => Zf a ∧ H a ≠ none
def ArgsR (K : PySem.W.Frag) (H : Hp) (M : Fp) (Zc : Addr → Prop) : List PM → List D → List V → Fp → Prop
  | [], [], [], F => F = []
  | .inn k :: ps, d :: ds, v :: vs, F => (Rep K H (rdZ M H) 0 d v [] ∧ d.dep k = true) ∧ ArgsR K H M Zc ps ds vs F
  | .ino n k :: ps, d :: ds, v :: vs, F => ∃ F1 F2, F = F1 ++ F2 ∧ Rep K H (fzP Zc H) (n + 1) d v F1 ∧ d.dep k = true ∧ ArgsR K H M Zc ps ds vs F2
  | _, _, _, _ => False
def OutsR (K : PySem.W.Frag) (H : Hp) (Zf : Addr → Prop) : List PM → List V → List D → Fp → Prop
  | [], [], [], F => F = []
  | .inn _ :: ps, _ :: vs, ds, F => OutsR K H Zf ps vs ds F
  | .ino n k :: ps, v :: vs, d :: ds, F => ∃ F1 F2, F = F1 ++ F2 ∧ Rep K H (fzP Zf H) (n + 1) d v F1 ∧ d.dep k = true ∧ OutsR K H Zf ps vs ds F2
  | _, _, _, _ => False
structure PostR (K : PySem.W.Frag) (H H' : Hp) (s : Sig) (vs : List V) (F : Fp) (Zc : Addr → Prop) (d : D) (outs : List D) (v : V) (Fr F' : Fp) (Zf : Addr → Prop) : Prop where
  rep : Rep K H' (fzP Zf H') (mkT s.p s.k).p.lv d v Fr
  dep : d.dep s.k = true
  own : (mkT s.p s.k).p.isOwn = true ∨ (Fr = [] ∧ (mkT s.p s.k).p.inSlot = true)
  outs : OutsR K H' Zf s.ps vs outs F'
  nd : (Fr ++ F').Nodup
  new : ∀ a ∈ Fr, a ∈ F ∨ H a = none
  old : ∀ a ∈ F', a ∈ F ∨ H a = none
  zf : ∀ a, Zf a → H' a ≠ none → (a ∈ F ∨ H a = none ∨ Zc a) ∧ a ∉ Fr ∧ a ∉ F'
  ext : Ext (· ∈ F) H H'
/-- how an exception looks: its class, its dict -/
abbrev XRel := Exc → Value → Option Addr → Hp → Prop
def spOf (K : PySem.W.Frag) (XR : XRel) (s : Sig) (S : List D → (FOut → Prop) → Prop) : Sp := fun vs H Q E => ∃ ds Post F Zc, S ds Post ∧ ArgsR K H F Zc s.ps ds vs F ∧ F.Nodup ∧ (∀ a ∈ F, ¬ Zc a) ∧
  (∀ d outs, Post (.ret d outs) → ∀ v H' Fr F' Zf, PostR K H H' s vs F Zc d outs v Fr F' Zf → Q v H') ∧ ∀ x, Post (.exc x) → ∀ c o H', Ext (· ∈ F) H H' → XR x c o H' → E c o H'
theorem ArgsR.len {K : PySem.W.Frag} {H : Hp} {M : Fp} {Zc : Addr → Prop} : ∀ {ps : List PM} {ds : List D} {vs : List V} {F : Fp}, ArgsR K H M Zc ps ds vs F → vs.length = ps.length
  | [], [], [], _, _ => rfl
  | .inn _ :: ps, _ :: ds, _ :: vs, _, h => by simp [ArgsR.len h.2]
  | .ino _ _ :: ps, _ :: ds, _ :: vs, _, h => by
    obtain ⟨_, _, _, _, _, h⟩ := h
    simp [ArgsR.len h]
  | [], _ :: _, _, _, h => h.elim
  | [], [], _ :: _, _, h => h.elim
  | .inn _ :: _, [], _, _, h => h.elim
  | .inn _ :: _, _ :: _, [], _, h => h.elim
  | .ino _ _ :: _, [], _, _, h => h.elim
  | .ino _ _ :: _, _ :: _, [], _, h => h.elim

/-- the context is of this code -/
structure Good (P : Program) (w : World) (K : PySem.W.Frag) (mg : Str → Option Value) (base : Heap) (A : Code) (kk : Nat) (E : XK) (sc : Scope) (X : Cx) : Prop where
  prog : X.prog = P
  wld : X.w = w
  eK : X.K = K
  emg : X.mg = mg
  ebase : X.base = base
  hN : X.N = A.N
  nd : A.N.Nodup
  esc : X.env.scope = sc
  calm : X.calm = true
  room : Room kk X.A
  pass : Passes (L2.CX P w) X E
  wd : X.w = W.w
/-- .. of a def's own body -/
structure GoodF (P : Program) (w : World) (K : PySem.W.Frag) (mg : Str → Option Value) (base : Heap) (A : Code) (kk : Nat) (E : XK) (sc : Scope) (X : Cx) : Prop where
  good : Good P w K mg base A kk E sc X
  fnl : ∀ x, L2.Loc sc x → X.fn x = true ∨ List.lookup x sc.names = some NameKind.local
  kind : sc.kind = .function
  own : PassesOwn (model X.prog X.w) X.A X.env X.xe
structure Facts (P : Program) (w : World) (K : PySem.W.Frag) (mg : Str → Option Value) (base : Heap) (A : Code) (C : Ctx) (G : TC) (kk : Nat) (XR : XRel) : Prop where
  hP : P = W.P
  hw : w = W.w
  glob : ∀ g d x, C.glob g = some d → A.gn[g]? = some x → ∃ v u, mg x = some u ∧ RelV v u ∧ (∀ H Z, Rep K H Z 0 d v []) ∧ d.dep (G.gk g) = true
  blt : ∀ b : Bi, mg b.name = none
  tys : ∀ T ∈ ["bool", "int", "str", "list", "tuple", "set"], mg (Str.ofString T) = none
  its : mg "range" = none ∧ mg "enumerate" = none ∧ mg "zip" = none
  calls : ∀ f s x, G.sig f = some s → A.fn[f]? = some x → ∃ addr fd ps, mg x = some (.ref addr) ∧ PySem.W.keepIn K (.ref addr) = true ∧ Binds K fd ps [] ∧ FnOk P w K mg base (L2.CX P w) kk addr fd ps (spOf K XR s (C.spec f))
end Pm

namespace Pm
open PySem L2
variable [W : Wd]
variable (P : Program) (w : World) (K : PySem.W.Frag) (mg : Str → Option Value) (base : Heap) (A : Code) (C : Ctx) (G : TC) (kk : Nat) (XR : XRel)
def ExcOk (Ex : XK) (M : Mz) (H0 : Hp) (Xk : Exc → Penv → Prop) : Prop := ∀ x ρ' c o H', Ext M.m H0 H' → Xk x ρ' → XR x c o H' → Ex c o H'
theorem ExcOk.no {Ex : XK} {M : Mz} {H0 : Hp} : ExcOk XR Ex M H0 (fun _ _ => False) := fun _ _ _ _ _ _ h => h.elim
def RdE (Ex : XK) (e : E) (t : TE) : Prop := ∀ H0 M Γ Θ ty Γ' ρ σ θ H (Kk : D → Penv → Prop) (Xk : Exc → Penv → Prop) (Q : VK), tyE G Γ Θ e = some (ty, Γ') → Rel K H0 M Γ ρ σ Θ θ H → evalE C e ρ Kk Xk → ExcOk XR Ex M H0 Xk →
  (∀ d ρ' v H', Rel K H0 M Γ' ρ' σ (ty :: Θ) ((d, v) :: θ) H' → Kk d ρ' → Q v H') → t σ H Q
def SE (e : E) : Prop := ∀ Ex sc pe, mtE A sc e pe = true → ∃ t : TE, (∀ X, Good P w K mg base A kk Ex sc X → PE X pe t) ∧ RdE K C G XR Ex e t
def RdT (Ex : XK) (e : E) (t : TT) : Prop := ∀ H0 M Γ Θ ty Γ' ρ σ θ H (Kk : D → Penv → Prop) (Xk : Exc → Penv → Prop) (Q : Bool → Hp → Prop), tyE G Γ Θ e = some (ty, Γ') → Rel K H0 M Γ ρ σ Θ θ H → evalE C e ρ Kk Xk → ExcOk XR Ex M H0 Xk →
  (∀ d ρ' H', Rel K H0 M Γ' ρ' σ Θ θ H' → Kk d ρ' → ∃ b, d.truth = some b ∧ Q b H') → t σ H Q
def isBop : Expr → Bool | .BoolOp .. => true | _ => false
def ST (e : E) : Prop := ∀ Ex sc pe, mtE A sc e pe = true → ∃ t : TT, (∀ X, Good P w K mg base A kk Ex sc X → PT X pe t ∧ (isBop pe = true → PW X pe t)) ∧ RdT K C G XR Ex e t
def plainTest : Expr → Bool
  | .UnaryOp .Not _ _ => false
  | .BoolOp .. => false
  | .IfExp .. => false
  | .Compare .. => false
  | _ => true
theorem plain_isTrue {pe : Expr} (h : plainTest pe = true) (env : Env) : ∀ whole, isTrue pe env whole = (do let v ← whole; standAt pe.pos; holding [v] (truthy v)) := by
  intro whole
  cases pe with
  | UnaryOp op x pos => cases op <;> first | rfl | cases h
  | BoolOp _ _ _ => cases h
  | IfExp _ _ _ _ => cases h
  | Compare _ _ _ _ => cases h
  | _ => rfl
theorem tru_of {K : PySem.W.Frag} {H : Hp} {d : D} {v : V} (r : Vw K H d v) {b : Bool} (h : d.truth = some b) : TruV K v H b := by
  have empt : ∀ {n : Nat} {Z : Option Addr → Prop} {ds : List D} {vs : List V} {F : Fp}, Reps K H Z n ds vs F → ds.isEmpty = vs.isEmpty := fun r => by cases r <;> rfl
  cases r with
  | non => cases h; rfl
  | bl c => cases h; rfl
  | int i => cases h; rfl
  | str s _ => cases h
  | tup s r => cases h; exact .inr (.inl ⟨_, s, by rw [empt r]⟩)
  | lst0 _ s r => cases h; exact .inl ⟨_, .inl (.inl s), by rw [empt r]⟩
  | lstF s r => cases h; exact .inl ⟨_, .inl (.inr ⟨_, s⟩), by rw [empt r]⟩
  | lstW _ s r => cases h; exact .inl ⟨_, s H, by rw [empt r]⟩
  | dic0 _ _ _ _ _ _ => cases h
  | dicW _ _ _ _ _ => cases h
  | ins0 _ _ _ _ _ => cases h
variable {P w K mg base A C G kk XR}
theorem st_of_se {e : E} (h : SE P w K mg base A C G kk XR e) (hp : ∀ sc pe, mtE A sc e pe = true → plainTest pe = true) : ST P w K mg base A C G kk XR e := fun Ex sc pe hm => by
  obtain ⟨t, h1, h2⟩ := h Ex sc pe hm
  have hpl := hp sc pe hm
  refine ⟨fun σ H Q => t σ H fun x H' => ∃ k, TruV K x H' k ∧ Q k H', fun X g => ⟨?_, fun hb => ?_⟩, ?_⟩
  · have := pt_truth (h1 X g) (plain_isTrue hpl X.env)
    rw [g.eK] at this
    exact this
  · cases pe <;> first | (cases hpl; done) | (cases hb; done)
  · intro H0 M Γ Θ ty Γ' ρ σ θ H Kk Xk Q ht R he hx hq
    refine h2 _ _ _ _ _ _ _ _ _ _ _ _ _ ht R he hx fun d ρ' v H' R' hk => ?_
    obtain ⟨b, e, q⟩ := hq d ρ' H' R'.pop hk
    exact ⟨b, tru_of R'.len1.1 e, q⟩

theorem mt_name {sc : Scope} {N : List Str} {i : Nat} {x : Str} (h : (N[i]? == some x && visB sc x && nomg x) = true) : N[i]? = some x ∧ Vis sc x ∧ (x == ("__debug__" : Str)) = false ∧ (x == ("__classdict__" : Str)) = false := by
  simp only [Bool.and_eq_true, beq_iff_eq, visB, locB, nomg, Bool.or_eq_true] at h
  obtain ⟨⟨h1, h2⟩, h3, h4⟩ := h
  refine ⟨h1, ?_, h3, h4⟩
  rcases h2 with (h2 | h2) | h2
  · exact .inl h2
  · exact .inr (.inl h2)
  · exact .inr (.inr h2)
theorem mt_gl {sc : Scope} {x : Str} (h : glB sc x = true) : sc.names.lookup x = some .globalImplicit := by simpa [glB] using h
theorem Good.gl {Ex : XK} {sc : Scope} {X : Cx} (g : Good P w K mg base A kk Ex sc X) {x : Str} (h : glB sc x = true) : Gl X x := by
  show X.env.scope.names.lookup x = _
  rw [g.esc]; exact mt_gl h
theorem Good.pv {Ex : XK} {sc : Scope} {X : Cx} (g : Good P w K mg base A kk Ex sc X) {i : Nat} {x : Str} {pos : Pos} (h : (A.N[i]? == some x && visB sc x && nomg x) = true) : PE X (.Name x pos) (tVar i) := by
  obtain ⟨h1, h2, h3, h4⟩ := mt_name h
  exact pe_var (by rw [g.hN]; exact h1) (by rw [g.esc]; exact h2) h3 h4
theorem Good.hu {Ex : XK} {sc : Scope} {X : Cx} (g : Good P w K mg base A kk Ex sc X) : X.A.units + 65 < cLine := by have := g.room.un; omega

theorem se_var (i : Nat) (m : UM) : SE P w K mg base A C G kk XR (.var i m) := fun Ex sc pe hm => by
  cases pe <;> try exact absurd hm Bool.false_ne_true
  rename_i x pos
  have hm : (A.N[i]? == some x && visB sc x && nomg x) = true := hm
  refine ⟨tVar i, fun X g => g.pv hm, ?_⟩
  intro H0 M Γ Θ ty Γ' ρ σ θ H Kk Xk Q ht R he hx hq
  have he : (match ρ[i]? with | some (some d) => Kk d ρ | _ => False) := he
  obtain ⟨ow, R⟩ := R
  have hd : ∃ d, ρ[i]? = some (some d) ∧ Kk d ρ := by
    cases e : ρ[i]? with
    | none => rw [e] at he; exact he.elim
    | some o => cases o with
      | none => rw [e] at he; exact he.elim
      | some d => rw [e] at he; exact ⟨d, rfl, he⟩
  obtain ⟨d, e, hk⟩ := hd
  unfold tyE at ht
  split at ht <;> try (cases ht; done)
  rename_i t hΓ
  have hlt := (List.getElem?_eq_some_iff.mp hΓ).1
  obtain ⟨p, k⟩ := t
  by_cases h0 : k = 0
  · rw [if_pos h0] at ht
    cases ht
    obtain ⟨v, hv, R'⟩ := R.borrow (ty' := imm) hΓ e h0.symm (.inl rfl)
    exact ⟨v, hv, hq d ρ v H ⟨ow, R'⟩ hk⟩
  · rw [if_neg h0] at ht
    have frz : p = .frz → some ((⟨.frz, k⟩ : Ty), Γ) = some (ty, Γ') → ∃ v, σ[i]? = some (some v) ∧ Q v H := fun hp ht => by
      cases ht
      obtain ⟨v, hv, R'⟩ := R.borrow (ty' := ⟨.frz, k⟩) hΓ e rfl (.inr (.inr (.inl ⟨hp, rfl⟩)))
      exact ⟨v, hv, hq d ρ v H ⟨ow, R'⟩ hk⟩
    have rdc : p = .rd → some ((⟨.rd, k⟩ : Ty), Γ) = some (ty, Γ') → ∃ v, σ[i]? = some (some v) ∧ Q v H := fun hp ht => by
      cases ht
      obtain ⟨v, hv, R'⟩ := R.borrow (ty' := ⟨.rd, k⟩) hΓ e rfl (.inr (.inr (.inr ⟨hp, rfl⟩)))
      exact ⟨v, hv, hq d ρ v H ⟨ow, R'⟩ hk⟩
    cases p with
    | frz => cases m <;> exact frz rfl ht
    | rd => cases m <;> exact rdc rfl ht
    | bor n xs => cases m <;> cases ht
    | own n =>
      cases m with
      | bor =>
        cases ht
        obtain ⟨v, hv, R'⟩ := R.borrow (ty' := ⟨.bor n [i], k⟩) hΓ e rfl (.inr (.inl ⟨n, rfl, rfl⟩))
        exact ⟨v, hv, hq d ρ v H ⟨ow, R'⟩ hk⟩
      | frz =>
        cases ht
        obtain ⟨S, R2⟩ := R.lower hΓ e (Nat.le_refl _) (p := .frz) (.inr (.inl rfl))
        have hΓ2 : (Γ.set i (some ⟨.frz, k⟩))[i]? = some (some ⟨.frz, k⟩) := List.getElem?_set_self hlt
        obtain ⟨v, hv, R'⟩ := R2.borrow (ty' := ⟨.frz, k⟩) hΓ2 e rfl (.inr (.inr (.inl ⟨rfl, rfl⟩)))
        exact ⟨v, hv, hq d ρ v H ⟨_, R'⟩ hk⟩
      | shl =>
        cases ht
        obtain ⟨S, R2⟩ := R.lower hΓ e (Nat.le_refl _) (p := .own 0) (.inl ⟨0, rfl, by simp [lowOk]⟩)
        have hΓ2 : (Γ.set i (some ⟨.own 0, k⟩))[i]? = some (some ⟨.own 0, k⟩) := List.getElem?_set_self hlt
        obtain ⟨v, hv, R'⟩ := R2.borrow (ty' := ⟨.bor 0 [i], k⟩) hΓ2 e rfl (.inr (.inl ⟨0, rfl, rfl⟩))
        exact ⟨v, hv, hq d ρ v H ⟨_, R'⟩ hk⟩
      | mov =>
        have ht : (if noBor i Θ then some ((⟨.own n, k⟩ : Ty), Γ.set i none) else none) = some (ty, Γ') := ht
        by_cases hb : noBor i Θ = true
        · rw [if_pos hb] at ht
          cases ht
          obtain ⟨v, ow', hv, R'⟩ := R.move hΓ e hb
          exact ⟨v, hv, hq d ρ v H ⟨ow', R'⟩ hk⟩
        · rw [if_neg hb] at ht; cases ht
/-- a value without lists -/
theorem se_cst {e : E} {d : D} {v : V} (hty : ∀ Γ Θ, tyE G Γ Θ e = some (imm, Γ)) (hev : ∀ ρ Kk Xk, evalE C e ρ Kk Xk → Kk d ρ)
    (hpe : ∀ sc pe, mtE A sc e pe = true → (∀ X, PE X pe (tC v)) ∧ ∀ K H, Vw K H d v) (hd : d.dep 0 = true) : SE P w K mg base A C G kk XR e := fun Ex sc pe hm => by
  refine ⟨tC v, fun X _ => (hpe sc pe hm).1 X, ?_⟩
  intro H0 M Γ Θ ty Γ' ρ σ θ H Kk Xk Q ht R he hx hq
  rw [hty] at ht
  cases ht
  exact hq d ρ v H (R.imm ((hpe sc pe hm).2 _ _) hd) (hev _ _ _ he)
theorem se_non : SE P w K mg base A C G kk XR .non := se_cst (d := .non) (v := .non) (fun _ _ => by unfold tyE; rfl) (fun _ _ _ h => by unfold evalE at h; exact h)
  (fun sc pe hm => ⟨fun X => by
    unfold mtE at hm
    split at hm <;> first | exact absurd hm Bool.false_ne_true | skip
    all_goals first | exact pe_non | (rename_i h; cases h)
    , fun _ _ => .non⟩) (by simp [D.dep])
end Pm

namespace Pm
open PySem L2
variable [W : Wd] {P : Program} {w : World} {K : PySem.W.Frag} {mg : Str → Option Value} {base : Heap} {A : Code} {C : Ctx} {G : TC} {kk : Nat} {XR : XRel}

theorem se_bl (b : Bool) : SE P w K mg base A C G kk XR (.bl b) := se_cst (d := .bl b) (v := .bl b) (fun _ _ => by unfold tyE; rfl) (fun _ _ _ h => by unfold evalE at h; exact h)
  (fun sc pe hm => ⟨fun X => by
    unfold mtE at hm
    split at hm <;> first | exact absurd hm Bool.false_ne_true | skip
    all_goals first | (rename_i h; cases h; done) | skip
    rename_i h
    injection h with h
    subst h
    have := eq_of_beq hm
    subst this
    exact pe_bl, fun _ _ => .bl b⟩) (by simp [D.dep])
theorem se_int (i : Int) : SE P w K mg base A C G kk XR (.int i) := se_cst (d := .int i) (v := .int i) (fun _ _ => by unfold tyE; rfl) (fun _ _ _ h => by unfold evalE at h; exact h)
  (fun sc pe hm => ⟨fun X => by
    unfold mtE at hm
    split at hm <;> first | exact absurd hm Bool.false_ne_true | skip
    all_goals first | (rename_i h; cases h; done) | skip
    rename_i h
    injection h with h
    subst h
    have := eq_of_beq hm
    subst this
    exact pe_int, fun _ _ => .int i⟩) (by simp [D.dep])
theorem se_str (s : List Nat) : SE P w K mg base A C G kk XR (.str s) := fun Ex sc pe hm => by
  unfold mtE at hm
  split at hm <;> first | exact absurd hm Bool.false_ne_true | skip
  all_goals first | (rename_i h; cases h; done) | skip
  rename_i h
  injection h with h
  subst h
  simp only [Bool.and_eq_true, beq_iff_eq, List.all_eq_true, decide_eq_true_eq] at hm
  obtain ⟨h1, h2⟩ := hm
  rename_i x _ _
  have hx : x = toStr s := by
    rw [← h1]; rfl
  refine ⟨tC (.str (toStr s)), fun X _ => by rw [hx]; exact pe_str, ?_⟩
  intro H0 M Γ Θ ty Γ' ρ σ θ H Kk Xk Q ht R he hx hq
  unfold tyE at ht
  cases ht
  unfold evalE at he
  exact hq _ ρ _ H (R.immV (.str s h2) (by simp [D.dep])) he
theorem se_glb (F : Facts P w K mg base A C G kk XR) (n : Nat) : SE P w K mg base A C G kk XR (.glb n) := fun Ex sc pe hm => by
  unfold mtE at hm
  split at hm <;> first | exact absurd hm Bool.false_ne_true | skip
  all_goals first | (rename_i h; cases h; done) | skip
  rename_i h
  injection h with h
  subst h
  rename_i x _
  simp only [Bool.and_eq_true, beq_iff_eq] at hm
  obtain ⟨⟨h1, h2⟩, h3⟩ := hm
  simp only [nomg, Bool.and_eq_true, beq_iff_eq] at h3
  cases e : C.glob n with
  | none =>
    refine ⟨fun _ _ _ => False, fun X g => ⟨fun _ _ _ _ _ _ h => h.elim⟩, ?_⟩
    intro H0 M Γ Θ ty Γ' ρ σ θ H Kk Xk Q ht R he hx hq
    unfold evalE at he
    rw [e] at he; exact he
  | some d =>
    obtain ⟨v, u, f1, f2, f3, f4⟩ := F.glob n d x e h1
    refine ⟨tC v, fun X g => pe_glob (g.gl h2) (by rw [g.emg]; exact f1) f2 h3.1, ?_⟩
    intro H0 M Γ Θ ty Γ' ρ σ θ H Kk Xk Q ht R he hx hq
    unfold tyE at ht
    cases ht
    unfold evalE at he
    rw [e] at he
    obtain ⟨ow, R⟩ := R
    refine hq d ρ v H ⟨ow, R.push ?_⟩ he
    unfold mkT
    split
    · next h0 => rw [h0] at f4; exact ⟨[], f3 H _, f4, LabOk.nil⟩
    · exact ⟨[], f3 H _, f4, LabOk.nil⟩

/-! ### lists of expressions -/
def RdEs (K : PySem.W.Frag) (C : Ctx) (G : TC) (XR : XRel) (Ex : XK) (es : Es) (t : TA) : Prop := ∀ H0 M Γ Θ ts Γ' ρ σ θ H (Kk : List D → Penv → Prop) (Xk : Exc → Penv → Prop) (Q : List V → Hp → Prop), tyEs G Γ Θ es = some (ts, Γ') → Rel K H0 M Γ ρ σ Θ θ H → evalEs C es ρ Kk Xk → ExcOk XR Ex M H0 Xk →
  (∀ ds ρ' vs H', ds.length = ts.length → vs.length = ts.length → Rel K H0 M Γ' ρ' σ (ts.reverse ++ Θ) ((ds.zip vs).reverse ++ θ) H' → Kk ds ρ' → Q vs H') → t σ H Q
def SEs (P : Program) (w : World) (K : PySem.W.Frag) (mg : Str → Option Value) (base : Heap) (A : Code) (C : Ctx) (G : TC) (kk : Nat) (XR : XRel) (es : Es) : Prop :=
  ∀ Ex sc pes, mtEs A sc es pes = true → (∀ pe ∈ pes, ∀ e pos, pe ≠ .Starred e pos) ∧ ∃ t : TA, (∀ X, Good P w K mg base A kk Ex sc X → PA X pes t) ∧ RdEs K C G XR Ex es t
theorem mt_nostar {sc : Scope} {x : Expr} {pos : Pos} : ∀ {e : E}, ¬ mtE A sc e (.Starred x pos) = true
  | .dp k a, h => mt_nostar (e := a) h
  | .var _ _, h | .non, h | .bl _, h | .int _, h | .str _, h | .glb _, h | .tup _, h | .lst _, h | .bin _ _ _ _, h | .cmp _ _ _, h | .chn _ _ _ _ _, h | .neg _, h | .not_ _, h | .bop _ _ _, h | .ife _ _ _, h | .idx _ _ _, h | .slc _ _ _ _, h | .revl _, h | .maxd _, h | .sset _, h | .lset _, h | .lrng _, h | .call _ _, h | .bi _ _, h | .bm _ _ _, h | .mu _ _ _, h | .comp _ _ _ _, h => absurd h Bool.false_ne_true
theorem star_cons {e : Expr} {es : List Expr} {env : Env} (h : ∀ x pos, e ≠ .Starred x pos) : starEach (e :: es) env = (false, eval e env) :: starEach es env := by
  cases e <;> first | rfl | exact absurd rfl (h _ _)
theorem star_any {es : List Expr} {env : Env} (h : ∀ pe ∈ es, ∀ e pos, pe ≠ .Starred e pos) (pos : Pos) : (backTo pos (starEach es env)).any (·.1) = false := by
  induction es with
  | nil => rfl
  | cons e es ih =>
    rw [star_cons (h e List.mem_cons_self)]
    show (false || (backTo pos (starEach es env)).any (·.1)) = false
    rw [ih fun pe hp => h pe (List.mem_cons_of_mem _ hp)]; rfl
theorem ses_nil : SEs P w K mg base A C G kk XR .nil := fun Ex sc pes hm => by
  cases pes with
  | cons _ _ => exact absurd hm Bool.false_ne_true
  | nil =>
    refine ⟨fun _ h => by simp at h, tNil, fun X g => pa_nil, ?_⟩
    intro H0 M Γ Θ ts Γ' ρ σ θ H Kk Xk Q ht R he hx hq
    unfold tyEs at ht
    cases ht
    unfold evalEs at he
    exact hq [] ρ [] H rfl rfl R he
theorem ses_cons {e : E} {es : Es} (h1 : SE P w K mg base A C G kk XR e) (h2 : SEs P w K mg base A C G kk XR es) : SEs P w K mg base A C G kk XR (.cons e es) := fun Ex sc pes hm => by
  cases pes with
  | nil => exact absurd hm Bool.false_ne_true
  | cons pe pes =>
    have hm : (mtE A sc e pe && mtEs A sc es pes) = true := hm
    rw [Bool.and_eq_true] at hm
    obtain ⟨t1, p1, r1⟩ := h1 Ex sc pe hm.1
    obtain ⟨ns, t2, p2, r2⟩ := h2 Ex sc pes hm.2
    have ns1 : ∀ x pos, pe ≠ .Starred x pos := fun x pos e' => by subst e'; exact mt_nostar hm.1
    refine ⟨fun q hq x pos => ?_, tCons t1 t2, fun X g => pa_cons (p1 X g) (p2 X g) (star_cons ns1), ?_⟩
    · rcases List.mem_cons.mp hq with rfl | hq
      · exact ns1 x pos
      · exact ns q hq x pos
    · intro H0 M Γ Θ ts Γ' ρ σ θ H Kk Xk Q ht R he hx hq
      unfold tyEs at ht
      split at ht <;> try (cases ht; done)
      rename_i t Γ1 ht1
      split at ht <;> try (cases ht; done)
      rename_i ts' Γ2 ht2
      cases ht
      unfold evalEs at he
      refine r1 _ _ _ _ _ _ _ _ _ _ _ _ _ ht1 R he hx fun d ρ1 v H1 R1 he1 => ?_
      refine r2 _ _ _ _ _ _ _ _ _ _ _ _ _ ht2 R1 he1 hx fun ds ρ2 vs H2 l1 l2 R2 hk => ?_
      refine hq (d :: ds) ρ2 (v :: vs) H2 (by simp [l1]) (by simp [l2]) ?_ hk
      rw [stack_cons, zip_cons]; exact R2
theorem Rw.tup1 {H0 H : Hp} {M : Mz} {ow : Addr → Id} {Γ : List STy} {ρ : Penv} {σ : St} {Θ ts : List Ty} {θ : List (D × V)} {ds : List D} {vs : List V} (R : Rw K H0 M ow Γ ρ σ (ts.reverse ++ Θ) ((ds.zip vs).reverse ++ θ) H) (l1 : ds.length = ts.length) (l2 : vs.length = ts.length) (hf : ts.all Ty.free = true) {p : Addr} (hp : H p = none) :
    Rel K H0 M Γ ρ σ ((if maxk ts = 0 then imm else if levs ts = 0 then ⟨.frz, maxk ts⟩ else ⟨.own (levs ts - 1), maxk ts⟩) :: Θ) ((.tup ds, .ref p) :: θ) (upd H p (.tup vs)) := by
  obtain ⟨rr, hd⟩ := R.temp.reps l1 l2
  have hd' := hd _ maxk_le
  have hx : Ext (fun a => hiTmp Θ.length (ow a)) H (upd H p (.tup vs)) := Ext.upd (.inl hp)
  by_cases h0 : maxk ts = 0
  · rw [if_pos h0]
    rw [h0] at hd'
    exact R.resI (zlen l1 l2) (.tup (.inl (.inl upd_same)) (rr.new hp)) (by rw [dep_tup]; exact hd') hx
  · rw [if_neg h0]
    obtain ⟨F, r, nd, hl⟩ := R.temp.repsO l1 l2 hf levs_le
    have zo : ∀ {pp : Perm} o, zC (hiTmp Θ.length) ow H F o → zT H (upd H p (.tup vs)) [] Θ.length F [] ow pp o := fun {pp} o z =>
      z.out (fun i h => hi_touch h) (Ext.upd (.inl hp)) fun a h1 h2 _ => ⟨h2, by simp [allL]⟩
    by_cases h1 : levs ts = 0
    · rw [if_pos h1]
      rw [h1] at r
      have e := r.nil0
      subst e
      exact R.res (zlen l1 l2) (ty := ⟨.frz, maxk ts⟩) (.tup (.inl (.inl upd_same)) ((r.new hp).z zo)) (by rw [dep_tup]; exact hd') (.inr ⟨rfl, rfl⟩) nd (fun a ha => by simp at ha) hx
    · rw [if_neg h1]
      refine R.res (zlen l1 l2) (ty := ⟨.own (levs ts - 1), maxk ts⟩) (.tup (.inl (.inl upd_same)) ?_) (by rw [dep_tup]; exact hd') (.inl rfl) nd (fun a ha => .inr (hl a ha).1) hx
      have e : (Perm.own (levs ts - 1)).lv = levs ts := by show levs ts - 1 + 1 = levs ts; omega
      rw [e]
      exact (r.new hp).z zo
theorem se_tup {es : Es} (h : SEs P w K mg base A C G kk XR es) : SE P w K mg base A C G kk XR (.tup es) := fun Ex sc pe hm => by
  unfold mtE at hm
  split at hm <;> first | exact absurd hm Bool.false_ne_true | skip
  all_goals first | (rename_i h; cases h; done) | skip
  rename_i h'
  injection h' with h'
  subst h'
  obtain ⟨_, t, p, r⟩ := h Ex sc _ hm
  refine ⟨tTup t, fun X g => pe_tup (p X g), ?_⟩
  intro H0 M Γ Θ ty Γ' ρ σ θ H Kk Xk Q ht R he hx hq
  unfold tyE at ht
  split at ht <;> try (cases ht; done)
  rename_i ts Γ1 ht1
  split at ht <;> try (cases ht; done)
  rename_i hf
  unfold evalE at he
  refine r _ _ _ _ _ _ _ _ _ _ _ _ _ ht1 R he hx fun ds ρ1 vs H1 l1 l2 R1 hk => ?_
  obtain ⟨ow, R1⟩ := R1
  have hz : vs.length ≤ sizeLine := by rw [l2, ← l1]; exact hk.1
  refine ⟨hz, fun p hp => hq (.tup ds) ρ1 (.ref p) _ ?_ hk.2⟩
  have T := R1.tup1 l1 l2 hf hp
  by_cases h0 : maxk ts = 0
  · rw [if_pos h0] at ht T; cases ht; exact T
  · rw [if_neg h0] at ht T
    by_cases h1 : levs ts = 0
    · rw [if_pos h1] at ht T; cases ht; exact T
    · rw [if_neg h1] at ht T; cases ht; exact T
theorem se_lst {es : Es} (h : SEs P w K mg base A C G kk XR es) : SE P w K mg base A C G kk XR (.lst es) := fun Ex sc pe hm => by
  unfold mtE at hm
  split at hm <;> first | exact absurd hm Bool.false_ne_true | skip
  all_goals first | (rename_i h; cases h; done) | skip
  rename_i h'
  injection h' with h'
  subst h'
  obtain ⟨_, t, p, r⟩ := h Ex sc _ hm
  refine ⟨tLst t, fun X g => pe_lst (p X g), ?_⟩
  intro H0 M Γ Θ ty Γ' ρ σ θ H Kk Xk Q ht R he hx hq
  unfold tyE at ht
  split at ht <;> try (cases ht; done)
  rename_i ts Γ1 ht1
  split at ht <;> try (cases ht; done)
  rename_i hf
  cases ht
  unfold evalE at he
  refine r _ _ _ _ _ _ _ _ _ _ _ _ _ ht1 R he hx fun ds ρ1 vs H1 l1 l2 R1 hk => ?_
  obtain ⟨ow, R1⟩ := R1
  have hz : vs.length ≤ sizeLine := by rw [l2, ← l1]; exact hk.1
  refine ⟨hz, fun p hp => hq (.lst ds) ρ1 (.ref p) _ ?_ hk.2⟩
  obtain ⟨rr, hd⟩ := R1.temp.reps l1 l2
  obtain ⟨F, r, nd, hl⟩ := R1.temp.repsO l1 l2 hf levs_le
  exact R1.newC (zlen l1 l2) hp (fun Z' zz => .lst upd_same ((r.new hp).z zz)) (by rw [dep_lst]; exact hd _ maxk_le) nd hl
/-- two expressions, one behind the other, then an operation of their values -/
theorem two {Ex : XK} {a b : E} {ta tb : TE} (r1 : RdE K C G XR Ex a ta) (r2 : RdE K C G XR Ex b tb) {H0 : Hp} {M : Mz} {Γ : List STy} {Θ : List Ty} {t u : Ty} {Γ1 Γ2 : List STy} {ρ : Penv} {σ : St} {θ : List (D × V)} {H : Hp} {Kk : D → D → Penv → Prop} {Xk : Exc → Penv → Prop} {Q : V → V → Hp → Prop}
    (h1 : tyE G Γ Θ a = some (t, Γ1)) (h2 : tyE G Γ1 (t :: Θ) b = some (u, Γ2)) (R : Rel K H0 M Γ ρ σ Θ θ H) (he : evalE C a ρ (fun x ρ1 => evalE C b ρ1 (fun y ρ2 => Kk x y ρ2) Xk) Xk) (hx : ExcOk XR Ex M H0 Xk)
    (hq : ∀ x y ρ' v v' H', Rel K H0 M Γ2 ρ' σ (u :: t :: Θ) ((y, v') :: (x, v) :: θ) H' → Kk x y ρ' → Q v v' H') : ta σ H fun x H1 => tb σ H1 fun y H2 => Q x y H2 := by
  refine r1 _ _ _ _ _ _ _ _ _ _ _ _ _ h1 R he hx fun d ρ1 v H1 R1 he1 => ?_
  refine r2 _ _ _ _ _ _ _ _ _ _ _ _ _ h2 R1 he1 hx fun d2 ρ2 v2 H2 R2 hk => ?_
  exact hq d d2 ρ2 v v2 H2 R2 hk
theorem two' {Ex : XK} {a b : E} {ta tb : TE} (r1 : RdE K C G XR Ex a ta) (r2 : RdE K C G XR Ex b tb) {H0 : Hp} {M : Mz} {Γ : List STy} {Θ : List Ty} {t u : Ty} {Γ1 Γ2 : List STy} {ρ : Penv} {σ : St} {θ : List (D × V)} {H : Hp} {Kk : D → D → Penv → Prop} {Xk : Exc → Penv → Prop} {Q : V → V → Hp → Prop}
    (h1 : tyE G Γ Θ a = some (t, Γ1)) (h2 : tyE G Γ1 (t.rd :: Θ) b = some (u, Γ2)) (R : Rel K H0 M Γ ρ σ Θ θ H) (he : evalE C a ρ (fun x ρ1 => evalE C b ρ1 (fun y ρ2 => Kk x y ρ2) Xk) Xk) (hx : ExcOk XR Ex M H0 Xk)
    (hq : ∀ x y ρ' v v' H', Rel K H0 M Γ2 ρ' σ (u :: t.rd :: Θ) ((y, v') :: (x, v) :: θ) H' → Kk x y ρ' → Q v v' H') : ta σ H fun x H1 => tb σ H1 fun y H2 => Q x y H2 := by
  refine r1 _ _ _ _ _ _ _ _ _ _ _ _ _ h1 R he hx fun d ρ1 v H1 R1 he1 => ?_
  refine r2 _ _ _ _ _ _ _ _ _ _ _ _ _ h2 R1.rd he1 hx fun d2 ρ2 v2 H2 R2 hk => ?_
  exact hq d d2 ρ2 v v2 H2 R2 hk
theorem se_bin {l : Bool} {op : Operator} {a b : E} (ha : SE P w K mg base A C G kk XR a) (hb : SE P w K mg base A C G kk XR b) : SE P w K mg base A C G kk XR (.bin l op a b) := fun Ex sc pe hm => by
  unfold mtE at hm
  split at hm <;> first | exact absurd hm Bool.false_ne_true | skip
  all_goals first | (rename_i h; cases h; done) | skip
  rename_i h'
  injection h' with g1 g2 g3 g4
  subst g1 g2 g3 g4
  simp only [Bool.and_eq_true, beq_iff_eq] at hm
  obtain ⟨⟨e, m1⟩, m2⟩ := hm
  subst e
  obtain ⟨ta, p1, r1⟩ := ha Ex sc _ m1
  obtain ⟨tb, p2, r2⟩ := hb Ex sc _ m2
  cases l with
  | false =>
    refine ⟨tOp (rBin K op) ta tb, fun X g => pe_op ((bin_ok K op).1 X g.eK) (p1 X g) (p2 X g), ?_⟩
    intro H0 M Γ Θ ty Γ' ρ σ θ H Kk Xk Q ht R he hx hq
    unfold tyE at ht
    split at ht <;> try (cases ht; done)
    rename_i t Γ1 ht1
    split at ht <;> try (cases ht; done)
    rename_i u Γ2 ht2
    simp only [Bool.false_eq_true, if_false] at ht
    split at ht <;> try (cases ht; done)
    rename_i hc
    cases ht
    unfold evalE at he
    refine two r1 r2 ht1 ht2 R he hx fun x y ρ' v v' H' R' hk => ?_
    obtain ⟨q2, d2⟩ := R'.len1
    obtain ⟨q1, d1⟩ := R'.len2
    refine (bin_ok K op).2 _ _ _ _ _ _ _ q1 q2 ⟨by rw [← hc.1]; exact d1, by rw [← hc.2]; exact d2⟩ hk fun d v'' H'' hd n => ?_
    exact hq d ρ' v'' H'' (Rel.new0 (Θs := [u, t]) (θs := [(y, v'), (x, v)]) R' rfl n) hd
  | true =>
    refine ⟨tOp (fun x y H Q => (op = .Add ∧ rCatS K x y H Q) ∨ (op = .Mult ∧ rRepR x y H Q)) ta tb, fun X g => pe_op ?_ (p1 X g) (p2 X g), ?_⟩
    · intro pins s σ H x y v u Q I rx ry q
      rcases q with ⟨rfl, q⟩ | ⟨rfl, q⟩
      · exact op_catS pins s σ H x y v u Q I rx ry (by rw [g.eK]; exact q)
      · exact op_repR pins s σ H x y v u Q I rx ry q
    intro H0 M Γ Θ ty Γ' ρ σ θ H Kk Xk Q ht R he hx hq
    unfold tyE at ht
    split at ht <;> try (cases ht; done)
    rename_i t Γ1 ht1
    split at ht <;> try (cases ht; done)
    rename_i u Γ2 ht2
    simp only [if_true] at ht
    split at ht <;> try (cases ht; done)
    rename_i hc
    cases ht
    unfold evalE at he
    refine two r1 r2 ht1 ht2 R he hx fun x y ρ' v v' H' R' hk => ?_
    obtain ⟨ow, R1⟩ := R'
    obtain ⟨c1, c2, c3, c4⟩ := hc
    have hT : ∀ j, Θ.length ≤ j → hiTmp Θ.length (.tmp j) := fun j h => h
    have e2 := R1.temp.2.1
    have e1 := R1.temp.1
    have hcs : (op = .Add ∧ ∃ xs ys, x = .lst xs ∧ y = .lst ys ∧ xs.length + ys.length ≤ sizeLine ∧ Kk (.lst (xs ++ ys)) ρ') ∨ (op = .Mult ∧ ∃ xs n, x = .lst xs ∧ y = .int n ∧ (-(2 ^ 63) ≤ n ∧ n < 2 ^ 63 ∧ xs.length * n.toNat ≤ sizeLine) ∧ Kk (.lst (List.replicate n.toNat xs).flatten) ρ') := by
      cases op <;> cases x <;> cases y <;> first | exact False.elim hk | exact .inl ⟨rfl, _, _, rfl, rfl, hk⟩ | exact .inr ⟨rfl, _, _, rfl, rfl, hk⟩
    clear hk
    rcases hcs with ⟨rfl, xs, ys, rfl, rfl, hz, hk⟩ | ⟨rfl, xs, n, rfl, rfl, hz, hk⟩
    · obtain ⟨a1, vs1, rfl, s1, _, q1, g1, _⟩ := e2.copyL c1 (T := hiTmp Θ.length) (hT _ (Nat.le_refl _))
      obtain ⟨a2, vs2, rfl, s2, _, q2, g2, _⟩ := e1.copyL c2 (T := hiTmp Θ.length) (hT _ (by simp))
      refine .inl ⟨rfl, a1, a2, vs1, vs2, rfl, rfl, s1, s2, by rw [← q1.len, ← q2.len]; exact hz, fun p hp => hq _ ρ' _ _ ?_ hk⟩
      refine R1.newC (Θs := [u, t]) (θs := [_, _]) rfl hp (fun Z' zz => .lst upd_same (((q1.app q2).new hp).z zz)) ?_ List.nodup_nil (fun a ha => by simp at ha)
      have hm : max t.k u.k = max t.k u.k - 1 + 1 := by omega
      rw [hm, dep_lst, deps_app, D.deps_mono (by omega) xs g1, D.deps_mono (by omega) ys g2]; rfl
    · obtain ⟨a1, vs1, rfl, s1, sr, q1, g1, _⟩ := e2.copyL c1 (T := hiTmp Θ.length) (hT _ (Nat.le_refl _))
      have ev : v' = .int n := e1.vw.1.int_inv
      subst ev
      obtain ⟨r2', d2'⟩ := reps_replicate q1 g1 n.toNat
      refine .inr ⟨rfl, a1, n, vs1, rfl, rfl, sr (c4 rfl), hz.1, hz.2.1, by rw [← q1.len]; exact hz.2.2, fun p hp => hq _ ρ' _ _ ?_ hk⟩
      refine R1.newC (Θs := [u, t]) (θs := [_, _]) rfl hp (fun Z' zz => .lst upd_same ((r2'.new hp).z zz)) ?_ List.nodup_nil (fun a ha => by simp at ha)
      have hm : max t.k u.k = max t.k u.k - 1 + 1 := by omega
      rw [hm, dep_lst]
      exact D.deps_mono (by omega) _ d2'
theorem se_cmp {op : CmpOp} {a b : E} (ha : SE P w K mg base A C G kk XR a) (hb : SE P w K mg base A C G kk XR b) : SE P w K mg base A C G kk XR (.cmp op a b) := fun Ex sc pe hm => by
  unfold mtE at hm
  split at hm <;> first | exact absurd hm Bool.false_ne_true | skip
  all_goals first | (rename_i h; cases h; done) | skip
  rename_i h'
  injection h' with g1 g3 g4
  subst g1 g3 g4
  simp only [Bool.and_eq_true, beq_iff_eq] at hm
  obtain ⟨⟨⟨e, m1⟩, m2⟩, m3⟩ := hm
  subst e
  obtain ⟨ta, p1, r1⟩ := ha Ex sc _ m1
  obtain ⟨tb, p2, r2⟩ := hb Ex sc _ m2
  refine ⟨tOp (rCmp K op) ta tb, fun X g => pe_cmpR ((cmp_ok K op).1 X g.eK g.wd g.hu) (p1 X g) (p2 X g) m3, ?_⟩
  intro H0 M Γ Θ ty Γ' ρ σ θ H Kk Xk Q ht R he hx hq
  unfold tyE at ht
  split at ht <;> try (cases ht; done)
  rename_i t Γ1 ht1
  split at ht <;> try (cases ht; done)
  rename_i u Γ2 ht2
  cases ht
  unfold evalE at he
  refine two r1 r2 ht1 ht2 R he hx fun x y ρ' v v' H' R' hk => ?_
  obtain ⟨q2, d2⟩ := R'.len1
  obtain ⟨q1, d1⟩ := R'.len2
  refine (cmp_ok K op).2 _ _ _ _ _ _ _ q1 q2 hk fun c hc => ?_
  exact hq _ ρ' _ H' (Rel.new0 (Θs := [u, t]) (θs := [(y, v'), (x, v)]) R' rfl New0.bl) hc
/-- .. as a test -/
theorem st_cmp {op : CmpOp} {a b : E} (ha : SE P w K mg base A C G kk XR a) (hb : SE P w K mg base A C G kk XR b) : ST P w K mg base A C G kk XR (.cmp op a b) := fun Ex sc pe hm => by
  obtain ⟨t, p, r⟩ := se_cmp ha hb Ex sc pe hm
  unfold mtE at hm
  split at hm <;> first | exact absurd hm Bool.false_ne_true | skip
  all_goals first | (rename_i h; cases h; done) | skip
  rename_i h'
  injection h' with g1 g3 g4
  subst g1 g3 g4
  simp only [Bool.and_eq_true, beq_iff_eq] at hm
  obtain ⟨⟨⟨e, m1⟩, m2⟩, m3⟩ := hm
  subst e
  obtain ⟨ta, p1, r1⟩ := ha Ex sc _ m1
  obtain ⟨tb, p2, r2⟩ := hb Ex sc _ m2
  refine ⟨tTest (tOp (rCmp K op) ta tb), fun X g => ⟨pt_cmpR ((cmp_ok K op).1 X g.eK g.wd g.hu) (p1 X g) (p2 X g) m3, fun h => by cases h⟩, ?_⟩
  intro H0 M Γ Θ ty Γ' ρ σ θ H Kk Xk Q ht R he hx hq
  unfold tyE at ht
  split at ht <;> try (cases ht; done)
  rename_i t Γ1 ht1
  split at ht <;> try (cases ht; done)
  rename_i u Γ2 ht2
  cases ht
  unfold evalE at he
  refine two r1 r2 ht1 ht2 R he hx fun x y ρ' v v' H' R' hk => ?_
  obtain ⟨q2, d2⟩ := R'.len1
  obtain ⟨q1, d1⟩ := R'.len2
  refine (cmp_ok K op).2 _ _ _ _ _ _ _ q1 q2 hk fun c hc => ?_
  obtain ⟨b, e, q⟩ := hq _ ρ' H' (Rel.drop (Θs := [u, t]) (θs := [(y, v'), (x, v)]) rfl R') hc
  cases e
  exact ⟨_, rfl, q⟩
theorem se_neg {a : E} (ha : SE P w K mg base A C G kk XR a) : SE P w K mg base A C G kk XR (.neg a) := fun Ex sc pe hm => by
  unfold mtE at hm
  split at hm <;> first | exact absurd hm Bool.false_ne_true | skip
  all_goals first | (rename_i h; cases h; done) | skip
  rename_i h'
  injection h' with g1
  subst g1
  obtain ⟨ta, p1, r1⟩ := ha Ex sc _ hm
  refine ⟨tUn (rU fun i => .int (-i)) ta, fun X g => pe_un un_neg (p1 X g), ?_⟩
  intro H0 M Γ Θ ty Γ' ρ σ θ H Kk Xk Q ht R he hx hq
  unfold tyE at ht
  split at ht <;> try (cases ht; done)
  rename_i t Γ1 ht1
  cases ht
  unfold evalE at he
  refine r1 _ _ _ _ _ _ _ _ _ _ _ _ _ ht1 R he hx fun d ρ1 v H1 R1 hk => ?_
  obtain ⟨q1, d1⟩ := R1.len1
  cases d <;> try exact hk.elim
  have e := q1.int_inv
  have e : v = .int _ := e
  subst e
  exact ⟨_, rfl, hq _ ρ1 _ H1 (Rel.new0 (Θs := [t]) (θs := [(_, _)]) R1 rfl New0.int) hk⟩
theorem se_not {a : E} (ha : SE P w K mg base A C G kk XR a) : SE P w K mg base A C G kk XR (.not_ a) := fun Ex sc pe hm => by
  unfold mtE at hm
  split at hm <;> first | exact absurd hm Bool.false_ne_true | skip
  all_goals first | (rename_i h; cases h; done) | skip
  rename_i h'
  injection h' with g1
  subst g1
  obtain ⟨ta, p1, r1⟩ := ha Ex sc _ hm
  refine ⟨tNotT K ta, fun X g => by
    rw [← g.eK]
    exact pe_notT (p1 X g), ?_⟩
  intro H0 M Γ Θ ty Γ' ρ σ θ H Kk Xk Q ht R he hx hq
  unfold tyE at ht
  split at ht <;> try (cases ht; done)
  rename_i t Γ1 ht1
  cases ht
  unfold evalE at he
  refine r1 _ _ _ _ _ _ _ _ _ _ _ _ _ ht1 R he hx fun d ρ1 v H1 R1 hk => ?_
  obtain ⟨q1, d1⟩ := R1.len1
  cases e : d.truth with
  | none => simp only [e] at hk
  | some c =>
    simp only [e] at hk
    exact ⟨c, tru_of q1 e, hq _ ρ1 _ H1 (Rel.new0 (Θs := [t]) (θs := [(_, _)]) R1 rfl New0.bl) hk⟩
theorem st_not {a : E} (ha : ST P w K mg base A C G kk XR a) : ST P w K mg base A C G kk XR (.not_ a) := fun Ex sc pe hm => by
  unfold mtE at hm
  split at hm <;> first | exact absurd hm Bool.false_ne_true | skip
  all_goals first | (rename_i h; cases h; done) | skip
  rename_i h'
  injection h' with g1
  subst g1
  obtain ⟨ta, p1, r1⟩ := ha Ex sc _ hm
  refine ⟨tNot ta, fun X g => ⟨pt_not (p1 X g).1, fun h => by cases h⟩, ?_⟩
  intro H0 M Γ Θ ty Γ' ρ σ θ H Kk Xk Q ht R he hx hq
  unfold tyE at ht
  split at ht <;> try (cases ht; done)
  rename_i t Γ1 ht1
  cases ht
  unfold evalE at he
  refine r1 _ _ _ _ _ _ _ _ _ _ _ _ _ ht1 R he hx fun d ρ1 H1 R1 hk => ?_
  cases e : d.truth with
  | none => simp only [e] at hk
  | some c =>
    simp only [e] at hk
    obtain ⟨b, e1, q⟩ := hq _ ρ1 H1 R1 hk
    cases e1
    exact ⟨c, rfl, q⟩
theorem se_bop {o : Bool} {a b : E} (ha : SE P w K mg base A C G kk XR a) (hb : SE P w K mg base A C G kk XR b) : SE P w K mg base A C G kk XR (.bop o a b) := fun Ex sc pe hm => by
  unfold mtE at hm
  split at hm <;> first | exact absurd hm Bool.false_ne_true | skip
  all_goals first | (rename_i h; cases h; done) | skip
  rename_i op x y rest pos h'
  injection h' with g1 g2 g3
  subst g1 g2 g3
  simp only [Bool.and_eq_true] at hm
  obtain ⟨⟨m0, m1⟩, m2⟩ := hm
  obtain ⟨ta, p1, r1⟩ := ha Ex sc _ m1
  have hb' : ∃ tb, (∀ X, Good P w K mg base A kk Ex sc X → PE X (.BoolOp op (y :: rest) pos) tb) ∧ RdE K C G XR Ex b tb := by
    cases rest with
    | nil =>
      obtain ⟨tb, p, r⟩ := hb Ex sc y (by simpa using m2)
      exact ⟨tb, fun X g => pe_one (p X g), r⟩
    | cons z rest => exact hb Ex sc _ (by simpa using m2)
  obtain ⟨tb, p2, r2⟩ := hb'
  refine ⟨if o = true then tOrT K ta tb else tAndT K ta tb, fun X g => ?_, ?_⟩
  · cases o with
    | true =>
      have : op = .Or := by simpa using m0
      subst this
      rw [← g.eK]
      exact pe_orT (p1 X g) (p2 X g)
    | false =>
      have : op = .And := by simpa using m0
      subst this
      rw [← g.eK]
      exact pe_andT (p1 X g) (p2 X g)
  · intro H0 M Γ Θ ty Γ' ρ σ θ H Kk Xk Q ht R he hx hq
    unfold tyE at ht
    split at ht <;> try (cases ht; done)
    rename_i t Γ1 ht1
    split at ht <;> try (cases ht; done)
    rename_i u Γ2 ht2
    split at ht <;> try (cases ht; done)
    rename_i hc
    obtain ⟨c1, c2, rfl⟩ := hc
    cases ht
    unfold evalE at he
    have key : ∀ (d : D) ρ1 v H1, Rel K H0 M Γ' ρ1 σ (t :: Θ) ((d, v) :: θ) H1 → (match d.truth with | some c => if c = o then Kk d ρ1 else evalE C b ρ1 Kk Xk | none => False) → ∃ k, TruV K v H1 k ∧ if k = o then Q v H1 else tb σ H1 Q := by
      intro d ρ1 v H1 R1 hk
      obtain ⟨q1, d1⟩ := R1.len1
      cases e : d.truth with
      | none => simp only [e] at hk
      | some c =>
        simp only [e] at hk
        refine ⟨c, tru_of q1 e, ?_⟩
        by_cases hco : c = o
        · rw [if_pos hco] at hk ⊢
          refine hq d ρ1 v H1 ?_ hk
          rw [c1] at d1
          exact Rel.new0 (Θs := [t]) (θs := [(d, v)]) R1 rfl (New0.same q1 d1)
        · rw [if_neg hco] at hk ⊢
          refine r2 _ _ _ _ _ _ _ _ _ _ _ _ _ ht2 R1.pop hk hx fun d2 ρ2 v2 H2 R2 hk2 => ?_
          refine hq d2 ρ2 v2 H2 ?_ hk2
          obtain ⟨q2, d2'⟩ := R2.len1
          rw [c2] at d2'
          exact Rel.new0 (Θs := [u]) (θs := [(d2, v2)]) R2 rfl (New0.same q2 d2')
    cases o with
    | true =>
      refine r1 _ _ _ _ _ _ _ _ _ _ _ _ _ ht1 R he hx fun d ρ1 v H1 R1 hk => ?_
      exact key d ρ1 v H1 R1 hk
    | false =>
      refine r1 _ _ _ _ _ _ _ _ _ _ _ _ _ ht1 R he hx fun d ρ1 v H1 R1 hk => ?_
      obtain ⟨k, h1, h2⟩ := key d ρ1 v H1 R1 hk
      refine ⟨k, h1, ?_⟩
      cases k with
      | true => simpa using h2
      | false => simpa using h2
theorem st_bop {o : Bool} {a b : E} (ha : ST P w K mg base A C G kk XR a) (hb : ST P w K mg base A C G kk XR b) : ST P w K mg base A C G kk XR (.bop o a b) := fun Ex sc pe hm => by
  unfold mtE at hm
  split at hm <;> first | exact absurd hm Bool.false_ne_true | skip
  all_goals first | (rename_i h; cases h; done) | skip
  rename_i op x y rest pos h'
  injection h' with g1 g2 g3
  subst g1 g2 g3
  simp only [Bool.and_eq_true] at hm
  obtain ⟨⟨m0, m1⟩, m2⟩ := hm
  obtain ⟨ta, p1, r1⟩ := ha Ex sc _ m1
  have hb' : ∃ tb, (∀ X, Good P w K mg base A kk Ex sc X → PW X (.BoolOp op (y :: rest) pos) tb) ∧ RdT K C G XR Ex b tb := by
    cases rest with
    | nil =>
      obtain ⟨tb, p, r⟩ := hb Ex sc y (by simpa using m2)
      refine ⟨tb, fun X g => ?_, r⟩
      cases o with
      | true =>
        have : op = .Or := by simpa using m0
        subst this
        exact pw_or1 (p X g).1
      | false =>
        have : op = .And := by simpa using m0
        subst this
        exact pw_and1 (p X g).1
    | cons z rest =>
      obtain ⟨tb, p, r⟩ := hb Ex sc _ (by simpa using m2)
      exact ⟨tb, fun X g => (p X g).2 rfl, r⟩
  obtain ⟨tb, p2, r2⟩ := hb'
  have hpw : ∀ X, Good P w K mg base A kk Ex sc X → PW X (.BoolOp op (x :: y :: rest) pos) (if o = true then tOr ta tb else tAnd ta tb) := fun X g => by
    cases o with
    | true =>
      have : op = .Or := by simpa using m0
      subst this
      exact pw_or (p1 X g).1 (p2 X g)
    | false =>
      have : op = .And := by simpa using m0
      subst this
      exact pw_and (p1 X g).1 (p2 X g)
  refine ⟨if o = true then tOr ta tb else tAnd ta tb, fun X g => ⟨(hpw X g).pt, fun _ => hpw X g⟩, ?_⟩
  intro H0 M Γ Θ ty Γ' ρ σ θ H Kk Xk Q ht R he hx hq
  unfold tyE at ht
  split at ht <;> try (cases ht; done)
  rename_i t Γ1 ht1
  split at ht <;> try (cases ht; done)
  rename_i u Γ2 ht2
  split at ht <;> try (cases ht; done)
  rename_i hc
  obtain ⟨c1, c2, rfl⟩ := hc
  cases ht
  unfold evalE at he
  have key : ∀ (d : D) ρ1 H1, Rel K H0 M Γ' ρ1 σ Θ θ H1 → (match d.truth with | some c => if c = o then Kk d ρ1 else evalE C b ρ1 Kk Xk | none => False) → ∃ k, d.truth = some k ∧ if k = o then Q k H1 else tb σ H1 Q := by
    intro d ρ1 H1 R1 hk
    cases e : d.truth with
    | none => simp only [e] at hk
    | some c =>
      simp only [e] at hk
      refine ⟨c, rfl, ?_⟩
      by_cases hco : c = o
      · rw [if_pos hco] at hk ⊢
        obtain ⟨b, e1, q⟩ := hq d ρ1 H1 R1 hk
        rw [e] at e1; cases e1
        exact q
      · rw [if_neg hco] at hk ⊢
        exact r2 _ _ _ _ _ _ _ _ _ _ _ _ _ ht2 R1 hk hx hq
  cases o with
  | true =>
    refine r1 _ _ _ _ _ _ _ _ _ _ _ _ _ ht1 R he hx fun d ρ1 H1 R1 hk => ?_
    obtain ⟨k, h1, h2⟩ := key d ρ1 H1 R1 hk
    refine ⟨k, h1, ?_⟩
    cases k with
    | true => simpa using h2
    | false => simpa using h2
  | false =>
    refine r1 _ _ _ _ _ _ _ _ _ _ _ _ _ ht1 R he hx fun d ρ1 H1 R1 hk => ?_
    obtain ⟨k, h1, h2⟩ := key d ρ1 H1 R1 hk
    refine ⟨k, h1, ?_⟩
    cases k with
    | true => simpa using h2
    | false => simpa using h2
end Pm

namespace Pm
open PySem L2
variable [W : Wd] {P : Program} {w : World} {K : PySem.W.Frag} {mg : Str → Option Value} {base : Heap} {A : Code} {C : Ctx} {G : TC} {kk : Nat} {XR : XRel}

theorem rd_chain {Ex : XK} {o1 o2 : CmpOp} {a b c : E} {ta tb tc : TE} (r1 : RdE K C G XR Ex a ta) (r2 : RdE K C G XR Ex b tb) (r3 : RdE K C G XR Ex c tc)
    {H0 : Hp} {M : Mz} {Γ : List STy} {Θ : List Ty} {ty : Ty} {Γ' : List STy} {ρ : Penv} {σ : St} {θ : List (D × V)} {H : Hp} {Kk : D → Penv → Prop} {Xk : Exc → Penv → Prop} {Q : VK}
    (ht : tyE G Γ Θ (.chn o1 o2 a b c) = some (ty, Γ')) (R : Rel K H0 M Γ ρ σ Θ θ H) (he : evalE C (.chn o1 o2 a b c) ρ Kk Xk) (hx : ExcOk XR Ex M H0 Xk)
    (hq : ∀ z ρ' H', Rel K H0 M Γ' ρ' σ (ty :: Θ) ((.bl z, .bl z) :: θ) H' → Kk (.bl z) ρ' → Q (.bl z) H') : tChain (rCmp K o1) (rCmp K o2) ta tb tc σ H Q := by
  unfold tyE at ht
  split at ht <;> try (cases ht; done)
  rename_i t Γ1 ht1
  split at ht <;> try (cases ht; done)
  rename_i u Γ2 ht2
  split at ht <;> try (cases ht; done)
  rename_i s Γ3 ht3
  split at ht <;> try (cases ht; done)
  rename_i hc
  subst hc
  cases ht
  unfold evalE at he
  refine two r1 r2 ht1 ht2 R he hx fun x y ρ' v v' H' R' hk => ?_
  obtain ⟨q2, d2⟩ := R'.len1
  obtain ⟨q1, d1⟩ := R'.len2
  refine (cmp_ok K o1).2 _ _ _ _ _ _ _ q1 q2 hk fun z hz => ?_
  refine ⟨z, rfl, ?_⟩
  cases z with
  | false =>
    rw [if_neg Bool.false_ne_true]
    exact hq false ρ' H' (Rel.new0 (Θs := [u, t]) (θs := [(y, v'), (x, v)]) R' rfl New0.bl) hz
  | true =>
    rw [if_pos rfl]
    refine r3 _ _ _ _ _ _ _ _ _ _ _ _ _ ht3 R' hz hx fun d3 ρ3 v3 H3 R3 hk3 => ?_
    obtain ⟨q3, d3'⟩ := R3.len1
    obtain ⟨q4, d4⟩ := R3.len2
    refine (cmp_ok K o2).2 _ _ _ _ _ _ _ q4 q3 hk3 fun z hz => ?_
    exact hq z ρ3 H3 (Rel.new0 (Θs := [s, u, t]) (θs := [(d3, v3), (y, v'), (x, v)]) R3 rfl New0.bl) hz
theorem se_chn {o1 o2 : CmpOp} {a b c : E} (ha : SE P w K mg base A C G kk XR a) (hb : SE P w K mg base A C G kk XR b) (hc : SE P w K mg base A C G kk XR c) : SE P w K mg base A C G kk XR (.chn o1 o2 a b c) := fun Ex sc pe hm => by
  unfold mtE at hm
  split at hm <;> first | exact absurd hm Bool.false_ne_true | skip
  all_goals first | (rename_i h; cases h; done) | skip
  rename_i h'
  injection h' with g1 g2 g3 g4 g5
  subst g1 g2 g3 g4 g5
  simp only [Bool.and_eq_true, beq_iff_eq] at hm
  obtain ⟨⟨⟨⟨⟨e1, e2⟩, m1⟩, m2⟩, m3⟩, m4⟩ := hm
  subst e1 e2
  obtain ⟨ta, p1, r1⟩ := ha Ex sc _ m1
  obtain ⟨tb, p2, r2⟩ := hb Ex sc _ m2
  obtain ⟨tc, p3, r3⟩ := hc Ex sc _ m3
  refine ⟨tChain (rCmp K o1) (rCmp K o2) ta tb tc, fun X g => pe_chain ((cmp_ok K o1).1 X g.eK g.wd g.hu) ((cmp_ok K o2).1 X g.eK g.wd g.hu) (p1 X g) (p2 X g) (p3 X g) m4, ?_⟩
  intro H0 M Γ Θ ty Γ' ρ σ θ H Kk Xk Q ht R he hx hq
  exact rd_chain r1 r2 r3 ht R he hx fun z ρ' H' R' hk => hq _ ρ' _ H' R' hk
theorem st_chn {o1 o2 : CmpOp} {a b c : E} (ha : SE P w K mg base A C G kk XR a) (hb : SE P w K mg base A C G kk XR b) (hc : SE P w K mg base A C G kk XR c) : ST P w K mg base A C G kk XR (.chn o1 o2 a b c) := fun Ex sc pe hm => by
  unfold mtE at hm
  split at hm <;> first | exact absurd hm Bool.false_ne_true | skip
  all_goals first | (rename_i h; cases h; done) | skip
  rename_i h'
  injection h' with g1 g2 g3 g4 g5
  subst g1 g2 g3 g4 g5
  simp only [Bool.and_eq_true, beq_iff_eq] at hm
  obtain ⟨⟨⟨⟨⟨e1, e2⟩, m1⟩, m2⟩, m3⟩, m4⟩ := hm
  subst e1 e2
  obtain ⟨ta, p1, r1⟩ := ha Ex sc _ m1
  obtain ⟨tb, p2, r2⟩ := hb Ex sc _ m2
  obtain ⟨tc, p3, r3⟩ := hc Ex sc _ m3
  refine ⟨tTest (tChain (rCmp K o1) (rCmp K o2) ta tb tc), fun X g => ⟨pt_chain ((cmp_ok K o1).1 X g.eK g.wd g.hu) ((cmp_ok K o2).1 X g.eK g.wd g.hu) (p1 X g) (p2 X g) (p3 X g) m4, fun h => by cases h⟩, ?_⟩
  intro H0 M Γ Θ ty Γ' ρ σ θ H Kk Xk Q ht R he hx hq
  refine rd_chain r1 r2 r3 ht R he hx fun z ρ' H' R' hk => ?_
  obtain ⟨b, e, q⟩ := hq _ ρ' H' R'.pop hk
  cases e
  exact ⟨_, rfl, q⟩

/-! ### items -/
section
variable {H0 H : Hp} {M : Mz} {ow : Addr → Id} {Γ : List STy} {ρ : Penv} {σ : St} {Θ Θs : List Ty} {θ θs : List (D × V)}
theorem Rw.frzR (R : Rw K H0 M ow Γ ρ σ (Θs ++ Θ) (θs ++ θ) H) (hl : Θs.length = θs.length) {p : Perm} {k : Nat} {d : D} {v : V} {E : Fp} (hp : p = .frz ∨ p = .rd) (re : Rep K H (zOf ow H p) 0 d v E) (hd : d.dep k = true) : Rel K H0 M Γ ρ σ (mkT p k :: Θ) ((d, v) :: θ) H := by
  have e := re.nil0
  subst e
  unfold mkT
  split
  · next h0 => rw [h0] at hd; exact R.resI hl re hd Ext.refl
  · refine R.res hl (ty := ⟨p, k⟩) (F := []) ?_ hd (.inr ⟨rfl, ?_⟩) List.nodup_nil (fun a h => by simp at h) Ext.refl
    · rcases hp with rfl | rfl <;> exact re.z fun _ z => .inr z
    · rcases hp with rfl | rfl <;> rfl
theorem Rw.borR (R : Rw K H0 M ow Γ ρ σ (Θs ++ Θ) (θs ++ θ) H) (hl : Θs.length = θs.length) {n : Nat} {xs : List Nat} {k : Nat} {d : D} {v : V} {E : Fp} (re : Rep K H (zOf ow H (.bor n xs)) (n + 1) d v E) (hd : d.dep k = true) (l : ∀ a ∈ E, ow a = .frz ∨ ∃ i ∈ xs, ow a = .slot i) : Rel K H0 M Γ ρ σ (mkT (.bor n xs) k :: Θ) ((d, v) :: θ) H := by
  unfold mkT
  split
  · next h0 => rw [h0] at hd; exact R.resI hl re hd Ext.refl
  · exact R.squash hl (ty := ⟨.bor n xs, k⟩) ⟨E, re, hd, rfl, l⟩
theorem Rw.itemR (R : Rw K H0 M ow Γ ρ σ (Θs ++ Θ) (θs ++ θ) H) (hl : Θs.length = θs.length) {id : Id} {t r : Ty} {d : D} {v : V} {E F : Fp} (re : Rep K H (zOf ow H t.p) (t.p.lv - 1) d v E) (hE : ∀ z ∈ E, z ∈ F) (l1 : LabOk ow id F t.p) (hd : d.dep (t.k - 1) = true) (hr : t.item = some r) : Rel K H0 M Γ ρ σ (r :: Θ) ((d, v) :: θ) H := by
  obtain ⟨p, k⟩ := t
  cases p with
  | own n =>
    cases n with
    | zero => cases hr; exact R.frzR hl (.inl rfl) (re : Rep K H (zOf ow H .frz) 0 d v E) hd
    | succ n => cases hr
  | frz => cases hr; exact R.frzR hl (.inl rfl) re hd
  | rd => cases hr; exact R.frzR hl (.inr rfl) re hd
  | bor n xs =>
    cases n with
    | zero => cases hr; exact R.frzR hl (.inl rfl) (re : Rep K H (zOf ow H .frz) 0 d v E) hd
    | succ n => cases hr; exact R.borR hl (re : Rep K H (zOf ow H (.bor n xs)) (n + 1) d v E) hd fun a ha => l1 a (hE a ha)
theorem Rw.partR (R : Rw K H0 M ow Γ ρ σ (Θs ++ Θ) (θs ++ θ) H) (hl : Θs.length = θs.length) {id : Id} {t r : Ty} {d : D} {v : V} {E F : Fp} (re : Rep K H (zOf ow H t.p) t.p.lv d v E) (hE : ∀ z ∈ E, z ∈ F) (l1 : LabOk ow id F t.p) (hd : d.dep t.k = true) (hr : t.part = some r) : Rel K H0 M Γ ρ σ (r :: Θ) ((d, v) :: θ) H := by
  obtain ⟨p, k⟩ := t
  unfold Ty.part at hr
  by_cases h0 : k = 0
  · rw [if_pos h0] at hr
    cases hr
    subst h0
    exact R.resI hl re hd Ext.refl
  · rw [if_neg h0] at hr
    have em : ∀ q : Perm, mkT q k = ⟨q, k⟩ := fun q => if_neg h0
    cases p with
    | own n => cases hr
    | frz => cases hr; rw [← em]; exact R.frzR hl (.inl rfl) re hd
    | rd => cases hr; rw [← em]; exact R.frzR hl (.inr rfl) re hd
    | bor n xs => cases hr; rw [← em]; exact R.borR hl re hd fun a ha => l1 a (hE a ha)
end
theorem plainIx {y : Expr} (h : isSl y = false) : PlainIx y := fun o i => by
  cases y <;> first | rfl | cases h
theorem se_idx {h : Bool} {a i : E} (ha : SE P w K mg base A C G kk XR a) (hi : SE P w K mg base A C G kk XR i) : SE P w K mg base A C G kk XR (.idx h a i) := fun Ex sc pe hm => by
  unfold mtE at hm
  split at hm <;> first | exact absurd hm Bool.false_ne_true | skip
  all_goals first | (rename_i h; cases h; done) | skip
  rename_i h'
  injection h' with g1 g2 g3
  subst g1 g2 g3
  simp only [Bool.and_eq_true, Bool.not_eq_true'] at hm
  obtain ⟨⟨m1, m2⟩, m3⟩ := hm
  obtain ⟨ta, p1, r1⟩ := ha Ex sc _ m1
  obtain ⟨tb, p2, r2⟩ := hi Ex sc _ m2
  refine ⟨tOp (rIxW K) ta tb, fun X g => pe_ix ((idx_ok K h).1 X g.eK g.wd g.hu) (p1 X g) (p2 X g) (plainIx m3), ?_⟩
  intro H0 M Γ Θ ty Γ' ρ σ θ H Kk Xk Q ht R he hx hq
  unfold tyE at ht
  split at ht <;> try (cases ht; done)
  rename_i t Γ1 ht1
  split at ht <;> try (cases ht; done)
  rename_i u Γ2 ht2
  split at ht <;> try (cases ht; done)
  rename_i r hr
  split at ht <;> try (cases ht; done)
  rename_i hu0
  cases ht
  unfold evalE at he
  refine two' r1 r2 ht1 ht2 R he hx fun x y ρ' v v' H' R' hk => ?_
  clear ht1 ht2
  have hr : (if h = true then t.rd.item else t.rd.part) = some ty := by
    cases h with
    | true =>
      simp only [if_true] at hr ⊢
      split at hr <;> first | cases hr; done | exact hr
    | false => exact hr
  generalize t.rd = t at *
  obtain ⟨ow, R''⟩ := id R'
  obtain ⟨q2, d2⟩ := R'.len1
  obtain ⟨F1, q1, d1, l1⟩ := R''.temp.2.1
  refine (idx_ok K h).2 _ _ _ _ _ _ _ _ _ _ q1 q2 hk fun d v'' E hd re hE hdep => ?_
  have dd := hdep _ d1
  refine hq d ρ' v'' H' ?_ hd
  cases h with
  | true => exact Rw.itemR (Θs := [u, t]) (θs := [_, _]) R'' rfl re hE l1 dd hr
  | false => exact Rw.partR (Θs := [u, t]) (θs := [_, _]) R'' rfl re hE l1 dd hr

/-! ### slices -/
def RdO (K : PySem.W.Frag) (C : Ctx) (G : TC) (XR : XRel) (Ex : XK) (e : OE) (t : TO) : Prop := ∀ H0 M Γ Θ Γ' ρ σ θ H (Kk : Option Int → Penv → Prop) (Xk : Exc → Penv → Prop) (Q : Option Int → Hp → Prop), tyOE G Γ Θ e = some Γ' → Rel K H0 M Γ ρ σ Θ θ H → evalOE C e ρ Kk Xk → ExcOk XR Ex M H0 Xk →
  (∀ o ρ' H', Rel K H0 M Γ' ρ' σ Θ θ H' → Kk o ρ' → Q o H') → t σ H Q
def SO (P : Program) (w : World) (K : PySem.W.Frag) (mg : Str → Option Value) (base : Heap) (A : Code) (C : Ctx) (G : TC) (kk : Nat) (XR : XRel) (e : OE) : Prop :=
  ∀ Ex sc pe, mtOE A sc e pe = true → ∃ t : TO, (∀ X, Good P w K mg base A kk Ex sc X → PO X pe t) ∧ RdO K C G XR Ex e t
theorem so_none : SO P w K mg base A C G kk XR .none := fun Ex sc pe hm => by
  cases pe with
  | some _ => exact absurd hm Bool.false_ne_true
  | none =>
    refine ⟨tNoPart, fun X g => po_none, ?_⟩
    intro H0 M Γ Θ Γ' ρ σ θ H Kk Xk Q ht R he hx hq
    unfold tyOE at ht
    cases ht
    unfold evalOE at he
    exact hq none ρ H R he
theorem so_some {e : E} (h : SE P w K mg base A C G kk XR e) : SO P w K mg base A C G kk XR (.some e) := fun Ex sc pe hm => by
  cases pe with
  | none => exact absurd hm Bool.false_ne_true
  | some pe =>
    obtain ⟨t, p, r⟩ := h Ex sc pe hm
    refine ⟨tPart t, fun X g => po_some (p X g), ?_⟩
    intro H0 M Γ Θ Γ' ρ σ θ H Kk Xk Q ht R he hx hq
    unfold tyOE at ht
    split at ht <;> try (cases ht; done)
    rename_i t0 Γ1 ht1
    cases ht
    unfold evalOE at he
    refine r _ _ _ _ _ _ _ _ _ _ _ _ _ ht1 R he hx fun d ρ1 v H1 R1 hk => ?_
    obtain ⟨q1, d1⟩ := R1.len1
    cases d <;> try exact hk.elim
    exact ⟨_, q1.int_inv, hq _ ρ1 H1 R1.pop hk⟩
theorem reps_rev {K : PySem.W.Frag} {H : Hp} {Z : Option Addr → Prop} {k : Nat} : ∀ {ds : List D} {vs : List V}, Reps K H Z 0 ds vs [] → D.deps k ds = true → Reps K H Z 0 ds.reverse vs.reverse [] ∧ D.deps k ds.reverse = true
  | [], vs, r, _ => by
    have := r.len
    have e : vs = [] := List.length_eq_zero_iff.mp this.symm
    subst e
    exact ⟨.nil, rfl⟩
  | d :: ds, vs, r, e => by
    have e' : d.dep k = true ∧ D.deps k ds = true := by simpa [D.deps] using e
    have go : ∀ {F : Fp}, Reps K H Z 0 (d :: ds) vs F → ∃ v us, vs = v :: us ∧ Rep K H Z 0 d v [] ∧ Reps K H Z 0 ds us [] := fun r => by
      cases r with
      | cons r1 t1 =>
        have e1 := r1.nil0
        have e2 := t1.nil0
        subst e1 e2
        exact ⟨_, _, rfl, r1, t1⟩
    obtain ⟨v, us, rfl, h0, r0⟩ := go r
    obtain ⟨r1, d1⟩ := reps_rev r0 e'.2
    rw [List.reverse_cons, List.reverse_cons]
    refine ⟨Reps.app r1 (.cons (F := []) (G := []) h0 .nil), ?_⟩
    rw [deps_app, d1]
    simp [D.deps, e'.1]
theorem se_revl {a : E} (ha : SE P w K mg base A C G kk XR a) : SE P w K mg base A C G kk XR (.revl a) := fun Ex sc pe hm => by
  unfold mtE at hm
  split at hm <;> first | exact absurd hm Bool.false_ne_true | skip
  all_goals first | (rename_i h; cases h; done) | skip
  rename_i h'
  injection h' with g1
  subst g1
  obtain ⟨ta, p1, r1⟩ := ha Ex sc _ hm
  refine ⟨tRevL K ta, fun X g => by rw [← g.eK]; exact pe_revL (p1 X g), ?_⟩
  intro H0 M Γ Θ ty Γ' ρ σ θ H Kk Xk Q ht R he hx hq
  unfold tyE at ht
  split at ht <;> try (cases ht; done)
  rename_i t Γ1 ht1
  split at ht <;> try (cases ht; done)
  rename_i hc
  cases ht
  unfold evalE at he
  refine r1 _ _ _ _ _ _ _ _ _ _ _ _ _ ht1 R he hx fun d ρ1 v H1 R1 hk => ?_
  obtain ⟨ow, R1⟩ := R1
  cases d <;> try exact hk.elim
  rename_i xs
  obtain ⟨p, vs, rfl, s, _, rs, hd, _⟩ := R1.temp.1.copyL hc.1 (T := hiTmp Θ.length) (Nat.le_refl Θ.length)
  obtain ⟨r2, d2⟩ := reps_rev rs hd
  refine ⟨p, vs, rfl, s, fun q hq2 => hq (.lst xs.reverse) ρ1 (.ref q) _ ?_ hk⟩
  refine R1.newC (Θs := [t]) (θs := [_]) rfl hq2 (fun Z' zz => .lst upd_same ((r2.new hq2).z zz)) ?_ List.nodup_nil (fun a ha => by simp at ha)
  have hm : t.k = t.k - 1 + 1 := by omega
  rw [hm, dep_lst]; exact d2
theorem se_slc {l : Bool} {a : E} {lo hi : OE} (ha : SE P w K mg base A C G kk XR a) (h1 : SO P w K mg base A C G kk XR lo) (h2 : SO P w K mg base A C G kk XR hi) : SE P w K mg base A C G kk XR (.slc l a lo hi) := fun Ex sc pe hm => by
  unfold mtE at hm
  split at hm <;> first | exact absurd hm Bool.false_ne_true | skip
  all_goals first | (rename_i h; cases h; done) | skip
  rename_i h'
  injection h' with g1 g2 g3 g4
  subst g1 g2 g3 g4
  simp only [Bool.and_eq_true] at hm
  obtain ⟨⟨m1, m2⟩, m3⟩ := hm
  obtain ⟨ta, p1, r1⟩ := ha Ex sc _ m1
  obtain ⟨tl, p2, r2⟩ := h1 Ex sc _ m2
  obtain ⟨tu, p3, r3⟩ := h2 Ex sc _ m3
  refine ⟨tSl (rSlc K) ta tl tu, fun X g => by rw [← g.eK]; exact pe_slice slc_rule (p1 X g) (p2 X g) (p3 X g), ?_⟩
  intro H0 M Γ Θ ty Γ' ρ σ θ H Kk Xk Q ht R he hx hq
  unfold tyE at ht
  split at ht <;> try (cases ht; done)
  rename_i t Γ1 ht1
  split at ht <;> try (cases ht; done)
  rename_i Γ2 ht2
  split at ht <;> try (cases ht; done)
  rename_i Γ3 ht3
  unfold evalE at he
  refine r1 _ _ _ _ _ _ _ _ _ _ _ _ _ ht1 R he hx fun d ρ1 v H1 R1 he1 => ?_
  refine r2 _ _ _ _ _ _ _ _ _ _ _ _ ht2 R1 he1 hx fun o1 ρ2 H2 R2 he2 => ?_
  refine r3 _ _ _ _ _ _ _ _ _ _ _ _ ht3 R2 he2 hx fun o2 ρ3 H3 R3 hk => ?_
  cases l with
  | true =>
    simp only [if_true] at ht
    split at ht <;> try (cases ht; done)
    rename_i hc
    cases ht
    obtain ⟨ow, R4⟩ := R3
    have hk2 : (∃ ds, d = .lst ds ∧ Kk (.lst (cutL ds o1 o2)) ρ3) ∨ ∃ ds, d = .tup ds ∧ D.deps 0 ds = true ∧ Kk (.tup (cutL ds o1 o2)) ρ3 := by cases d <;> first | exact False.elim hk | exact .inl ⟨_, rfl, hk⟩ | exact .inr ⟨_, rfl, hk.1, hk.2⟩
    clear hk
    rcases hk2 with ⟨ds, rfl, hk⟩ | ⟨ds, rfl, hd0, hk⟩
    rotate_left
    · have R3 : Rel K H0 M Γ' ρ3 σ (t :: Θ) ((D.tup ds, v) :: θ) H3 := ⟨ow, R4⟩
      obtain ⟨q1, d1⟩ := R3.len1
      refine slc_imm q1 (by rw [dep_tup]; exact hd0) (show slcK false (.tup ds) o1 o2 fun z => Kk z ρ3 from hk) fun d' v' H' hd n => ?_
      exact hq d' ρ3 v' H' ((Rel.new0 (Θs := [t]) (θs := [(D.tup ds, v)]) R3 rfl n).as0 n.dep rfl) hd
    obtain ⟨p, vs, rfl, s, _, rs, hd, _⟩ := R4.temp.1.copyL hc.1 (T := hiTmp Θ.length) (Nat.le_refl Θ.length)
    refine slc_lst s rs fun us p' r2 hp => hq _ ρ3 _ _ ?_ hk
    refine R4.newC (Θs := [t]) (θs := [_]) rfl hp (fun Z' zz => .lst upd_same ((r2.new hp).z zz)) ?_ List.nodup_nil (fun a ha => by simp at ha)
    have hm : t.k = t.k - 1 + 1 := by omega
    rw [hm, dep_lst]; exact deps_cut _ _ hd
  | false =>
    simp only [Bool.false_eq_true, if_false] at ht
    split at ht <;> try (cases ht; done)
    rename_i hc
    cases ht
    obtain ⟨q1, d1⟩ := R3.len1
    refine slc_imm q1 (by rw [← hc]; exact d1) hk fun d' v' H' hd n => ?_
    exact hq d' ρ3 v' H' (Rel.new0 (Θs := [t]) (θs := [(d, v)]) R3 rfl n) hd
end Pm

namespace Pm
open PySem L2
variable [W : Wd] {P : Program} {w : World} {K : PySem.W.Frag} {mg : Str → Option Value} {base : Heap} {A : Code} {C : Ctx} {G : TC} {kk : Nat} {XR : XRel}

/-! ### built-in functions -/
theorem fresh0 : fresh 0 = imm := rfl
theorem fresh1 : fresh 1 = ⟨.own 0, 1⟩ := rfl
theorem Rel.newB {H0 H H' : Hp} {M : Mz} {Γ : List STy} {ρ : Penv} {σ : St} {Θ Θs : List Ty} {θ θs : List (D × V)} (R : Rel K H0 M Γ ρ σ (Θs ++ Θ) (θs ++ θ) H) (hl : Θs.length = θs.length) {b : Bi} {d : D} {v : V} (n : NewB b.k K H H' d v) : Rel K H0 M Γ ρ σ (fresh b.k :: Θ) ((d, v) :: θ) H' := by
  have hk : b.k = 0 ∨ b.k = 1 := by cases b <;> first | exact .inl rfl | exact .inr rfl
  rcases hk with e | e
  · rw [e] at n ⊢; exact R.new0 hl n
  · rw [e] at n ⊢
    obtain ⟨ow, R⟩ := R
    rcases n with ⟨p, vs, ds, rfl, rfl, hp, rfl, r, hd⟩ | ⟨p, ep, es, ks, vs, kv, vv, rfl, rfl, hp, rfl, o, dk, rk, rv, dv⟩
    rotate_left
    · exact R.newC hl hp (fun Z' zz => .dic upd_same o dk (((rk.imm _ _ dk).2 : Reps K H Z' 0 ks kv []).new hp) (((rv.imm _ _ dv).2 : Reps K H Z' 0 vs vv []).new hp)) (by simp [D.dep, dk, dv]) List.nodup_nil (fun a ha => by simp at ha)
    exact R.newC hl hp (fun Z' zz => .lst upd_same (((r.imm _ _ hd).2 : Reps K H Z' 0 ds vs []).new hp)) (by rw [dep_lst]; exact hd) List.nodup_nil (fun a ha => by simp at ha)
theorem name_ok (b : Bi) : b.name ≠ ("__name__" : Str) ∧ (b.name == ("__debug__" : Str)) = false := by
  cases b with
  | list l => cases l <;> decide
  | tuple l => cases l <;> decide
  | _ => decide
theorem rd_bi {Ex : XK} {b : Bi} {es : Es} {t : TA} (r : RdEs K C G XR Ex es t) : RdE K C G XR Ex (.bi b es) (tCB (rBi K b) t) := by
  intro H0 M Γ Θ ty Γ' ρ σ θ H Kk Xk Q ht R he hx hq
  unfold tyE at ht
  split at ht <;> try (cases ht; done)
  rename_i ts Γ1 ht1
  unfold evalE at he
  refine r _ _ _ _ _ _ _ _ _ _ _ _ _ ht1 R he hx fun ds ρ1 vs H1 l1 l2 R1 hk => ?_
  obtain ⟨ow, R1'⟩ := id R1
  obtain ⟨rr, hd⟩ := R1'.temp.reps l1 l2
  have need : b.need ds ∧ (ty, Γ') = (fresh b.k, Γ1) := by
    cases b with
    | list l =>
      simp only at ht
      split at ht <;> try (cases ht; done)
      rename_i hc
      cases ht
      rw [List.all_eq_true] at hc
      refine ⟨?_, rfl⟩
      unfold Bi.need
      cases l with
      | true => exact hd 1 fun t ht => by have := hc t ht; simp at this; exact this
      | false => exact hd 0 fun t ht => by have := hc t ht; simp at this; omega
    | tuple l =>
      simp only at ht
      split at ht <;> try (cases ht; done)
      rename_i hc
      cases ht
      rw [List.all_eq_true] at hc
      refine ⟨?_, rfl⟩
      unfold Bi.need
      cases l with
      | true => exact hd 1 fun t ht => by have := hc t ht; simp at this; exact this
      | false => exact hd 0 fun t ht => by have := hc t ht; simp at this; omega
    | dict =>
      simp only at ht
      split at ht <;> try (cases ht; done)
      rename_i hc
      cases ht
      rw [List.all_eq_true] at hc
      exact ⟨hd 1 fun t ht => by have := hc t ht; simp at this; exact this, rfl⟩
    | sorted =>
      simp only at ht
      split at ht <;> try (cases ht; done)
      rename_i hc
      cases ht
      rw [List.all_eq_true] at hc
      exact ⟨hd 1 fun t ht => by have := hc t ht; simp at this; exact this, rfl⟩
    | _ => simp only at ht; cases ht; exact ⟨trivial, rfl⟩
  obtain ⟨n1, n2⟩ := need
  cases n2
  refine bi_sem b H1 ds vs _ Q rr n1 hk fun d v H' hd' n => ?_
  exact hq d ρ1 v H' (Rel.newB R1 (zlen l1 l2) n) hd'
theorem se_bi (F : Facts P w K mg base A C G kk XR) {b : Bi} {es : Es} (h : SEs P w K mg base A C G kk XR es) (h1 : ∀ e, es = .cons e .nil → SE P w K mg base A C G kk XR e) : SE P w K mg base A C G kk XR (.bi b es) := fun Ex sc pe hm => by
  unfold mtE at hm
  split at hm <;> first | exact absurd hm Bool.false_ne_true | skip
  all_goals first | (rename_i h; cases h; done) | skip
  rename_i x p xs pos h'
  injection h' with g1 g2
  subst g1 g2
  simp only [Bool.and_eq_true, beq_iff_eq] at hm
  obtain ⟨⟨e1, hg⟩, hm⟩ := hm
  subst e1
  obtain ⟨nn, nd⟩ := name_ok b
  cases hb : b.how with
  | fn id =>
    rw [hb] at hm
    cases xs with
    | nil => exact absurd hm Bool.false_ne_true
    | cons e es' =>
      obtain ⟨ns, t, pr, rd⟩ := h Ex sc (e :: es') hm
      refine ⟨_, fun X g => ?_, rd_bi rd⟩
      have := bi_ok g.calm g.wd g.hu b
      rw [hb] at this
      rw [← g.eK]
      exact pe_callB this.1 (g.gl hg) (by rw [g.emg]; exact F.blt b) this.2 (pr X g) nn nd (star_cons (ns e List.mem_cons_self)) (star_any (fun q hq => ns q (List.mem_cons_of_mem _ hq)) _)
  | ty T =>
    rw [hb] at hm
    cases xs with
    | nil => exact absurd hm Bool.false_ne_true
    | cons e es' =>
      obtain ⟨ns, t, pr, rd⟩ := h Ex sc (e :: es') hm
      refine ⟨_, fun X g => ?_, rd_bi rd⟩
      have := bi_ok g.calm g.wd g.hu b
      rw [hb] at this
      rw [← g.eK]
      exact pe_callTy this.1 (g.gl hg) (by rw [g.emg]; exact F.blt b) this.2 (pr X g) nn nd (star_cons (ns e List.mem_cons_self)) (star_any (fun q hq => ns q (List.mem_cons_of_mem _ hq)) _)
  | is T =>
    rw [hb] at hm
    obtain ⟨e, y, py, a, rfl, rfl, hy, hgy, hma⟩ : ∃ e y py a, xs = [e, .Name y py] ∧ es = .cons a .nil ∧ y = (T : Str) ∧ glB sc y = true ∧ mtE A sc a e = true := by
      rcases xs with _ | ⟨e, _ | ⟨f, _ | ⟨g, xs⟩⟩⟩
      · exact absurd hm Bool.false_ne_true
      · exact absurd hm Bool.false_ne_true
      · cases f <;> try exact absurd hm Bool.false_ne_true
        rename_i y py
        simp only [Bool.and_eq_true, beq_iff_eq] at hm
        obtain ⟨⟨m1, m2⟩, m3⟩ := hm
        cases es with
        | nil => exact absurd m3 Bool.false_ne_true
        | cons a es2 => cases es2 with
          | nil => exact ⟨e, y, py, a, rfl, rfl, m1, m2, m3⟩
          | cons _ _ => exact absurd m3 Bool.false_ne_true
      · cases f <;> exact absurd hm Bool.false_ne_true
    subst hy
    obtain ⟨t, p1, r1⟩ := h1 a rfl Ex sc e hma
    have ns1 : ∀ z pos, e ≠ .Starred z pos := fun z pos e' => by subst e'; exact mt_nostar hma
    have hT : T ∈ ["bool", "int", "str", "list", "tuple"] := by cases b <;> simp [Bi.how] at hb <;> subst hb <;> simp
    have hnm : b.name = ("isinstance" : Str) := by cases b <;> simp [Bi.how] at hb <;> rfl
    refine ⟨tCB (rIsi K) (tCons t (tCons (tC (.ty T)) tNil)), fun X g => ?_, ?_⟩
    · have hbo := bi_ok g.calm g.wd g.hu b
      rw [hb] at hbo
      have hTm : X.mg (T : Str) = none := by rw [g.emg]; exact F.tys T (List.mem_append_left ["set"] hT)
      have hne : (T : Str) ≠ ("__name__" : Str) ∧ ((T : Str) == ("__debug__" : Str)) = false := by
        simp at hT
        rcases hT with rfl | rfl | rfl | rfl | rfl <;> decide
      have hm2 : X.mg b.name = none := by rw [g.emg]; exact F.blt b
      rw [hnm] at hm2 hg ⊢
      rw [← g.eK]
      exact pe_callB call_isi (g.gl hg) hm2 (by decide +kernel) (pa_cons (p1 X g) (pa_cons (pe_bltn (g.gl hgy) hTm hbo.2 rfl hne.1 hne.2) pa_nil) (star_cons ns1)) (by decide) (by decide) (star_cons ns1) rfl
    · have rs : RdEs K C G XR Ex (.cons a .nil) (tCons t tNil) := by
        intro H0 M Γ Θ ts Γ' ρ σ θ H Kk Xk Q ht R he hx hq
        unfold tyEs at ht
        split at ht <;> try (cases ht; done)
        rename_i t' Γ1 ht1
        split at ht <;> try (cases ht; done)
        rename_i ts' Γ2 ht2
        cases ht
        unfold tyEs at ht2
        cases ht2
        unfold evalEs at he
        refine r1 _ _ _ _ _ _ _ _ _ _ _ _ _ ht1 R he hx fun d ρ1 v H1 R1 he1 => ?_
        unfold evalEs at he1
        exact hq [d] ρ1 [v] H1 rfl rfl R1 he1
      have := rd_bi (b := b) rs
      have hr : rBi K b = rIs1 K T := by cases b <;> simp [Bi.how] at hb <;> subst hb <;> rfl
      rw [hr] at this
      exact this

/-! ### methods that change nothing -/
theorem idxOf_get {c : Nat} : ∀ {s : List Nat} {i : Nat}, idxOf c s = some i → s[i]? = some c ∧ ∀ j, j < i → s[j]? ≠ some c
  | [], i, h => by cases h
  | x :: s, i, h => by
    unfold idxOf at h
    by_cases e : x = c
    · rw [if_pos e] at h; cases h; exact ⟨by simp [e], fun j hj => by omega⟩
    · rw [if_neg e] at h
      cases e2 : idxOf c s with
      | none => rw [e2] at h; cases h
      | some k =>
        rw [e2] at h; cases h
        obtain ⟨h1, h2⟩ := idxOf_get e2
        refine ⟨by simpa using h1, fun j hj => ?_⟩
        cases j with
        | zero => simpa using e
        | succ j => simpa using h2 j (Nat.lt_of_succ_lt_succ hj)
theorem occ_one {c : Nat} {s : List Nat} {i : Nat} (h : idxOf c s = some i) : ∃ rest, Builtin.Str.occurrences (toStr s) (toStr [c]) 0 (toStr s).length 1 = i :: rest := by
  obtain ⟨h1, h2⟩ := idxOf_get h
  have at_iff : ∀ j, StrLaws.At (toStr s) (toStr [c]) (toStr s).length j ↔ s[j]? = some c := fun j => by
    have := StrLaws.subAt_one (toStr s) c j
    rw [toStr_list] at this
    exact this
  rcases StrLaws.occ_head (toStr s) (toStr [c]) 1 (Nat.le_refl _) with ⟨_, hn⟩ | ⟨j, r, e, ha, hn⟩
  · exact absurd ((at_iff i).mpr h1) (hn i)
  · have hj : s[j]? = some c := (at_iff j).mp ha
    have e1 : ¬ j < i := fun q => h2 j q hj
    have e2 : ¬ i < j := fun q => hn i q ((at_iff i).mpr h1)
    have : j = i := by omega
    subst this
    exact ⟨r, e⟩
def Bm.k : Bm → Nat | _ => 0
def BmSem (K : PySem.W.Frag) (m : Bm) (r : V → List V → Hp → VK → Prop) : Prop := ∀ (H : Hp) (o : D) (x : V) (ds : List D) (vs : List V) (k : D → Prop) (Q : VK), Vw K H o x → Vws K H ds vs →
  bmK m o ds k → (∀ d v H', k d → New0 K H H' d v → Q v H') → r x vs H Q
def rBm (K : PySem.W.Frag) : Bm → V → List V → Hp → VK → Prop
  | .join => fun x xs H Q => ∃ a p, ∃ ys : List Str, x = .str a ∧ xs = [.ref p] ∧ (SqL K H p (ys.map V.str) ∨ SqT K H p (ys.map V.str)) ∧ (ys.map (·.length)).sum + ys.length * a.length ≤ 16777216 ∧ Q (.str (Txt.join a ys)) H
  | .index => fun x xs H Q => ∃ a b i rest, x = .str a ∧ xs = [.str b] ∧ Builtin.Str.occurrences a b 0 a.length 1 = i :: rest ∧ Q (.int (i : Nat)) H
  | .rev => fun x xs H Q => ∃ z : Str, x = .str z ∧ xs = [] ∧ z.length ≤ sizeLine ∧ Q (.str ⟨z.cps.toList.reverse.toArray⟩) H
theorem bm_join : BmSem K .join (rBm K .join) := fun H o x ds vs k Q ro rs hk q => by
  cases o <;> try exact False.elim hk
  rename_i sep
  obtain ⟨xs, rfl⟩ : ∃ xs, ds = [.lst xs] := by
    rcases ds with _ | ⟨d, _ | ⟨e, ds⟩⟩
    · exact False.elim hk
    · cases d <;> first | exact False.elim hk | exact ⟨_, rfl⟩
    · cases d <;> exact False.elim hk
  obtain ⟨v, rfl, r⟩ := Vws.one rs
  obtain ⟨rfl, h1⟩ := ro.str_inv
  obtain ⟨a, ys, rfl, s, t⟩ := r.lst_inv
  have hk : (match strsOf xs with | some ys => (ys.map List.length).sum + ys.length * sep.length ≤ 16777216 ∧ k (.str (joinL sep ys)) | none => False) := hk
  cases e : strsOf xs with
  | none => rw [e] at hk; exact hk.elim
  | some zs =>
    rw [e] at hk
    obtain ⟨h2, h3⟩ := Reps.strs t e
    subst h2
    refine ⟨toStr sep, a, zs.map toStr, rfl, rfl, .inl s, ?_, ?_⟩
    · rw [List.map_map, List.length_map, toStr_len]
      have : (zs.map ((fun (x : Str) => x.length) ∘ toStr)) = zs.map List.length := List.map_congr_left fun y _ => toStr_len y
      rw [this]; exact hk.1
    · rw [glued_join]
      exact q _ _ _ hk.2 (New0.str (join_mem h1 h3))
theorem bm_index : BmSem K .index (rBm K .index) := fun H o x ds vs k Q ro rs hk q => by
  cases o <;> try exact False.elim hk
  rename_i s
  obtain ⟨c, rfl⟩ : ∃ c, ds = [.str [c]] := by
    rcases ds with _ | ⟨d, _ | ⟨e, ds⟩⟩
    · exact False.elim hk
    · cases d <;> try exact False.elim hk
      rename_i z
      rcases z with _ | ⟨c, _ | ⟨_, _⟩⟩ <;> first | exact False.elim hk | exact ⟨_, rfl⟩
    · cases d <;> try exact False.elim hk
      rename_i z
      rcases z with _ | ⟨c, _ | ⟨_, _⟩⟩ <;> exact False.elim hk
  obtain ⟨v, rfl, r⟩ := Vws.one rs
  obtain ⟨rfl, h1⟩ := ro.str_inv
  obtain ⟨rfl, h2⟩ := r.str_inv
  have hk : (match idxOf c s with | some i => k (.int i) | none => False) := hk
  cases e : idxOf c s with
  | none => rw [e] at hk; exact hk.elim
  | some i =>
    rw [e] at hk
    obtain ⟨rest, ho⟩ := occ_one e
    exact ⟨_, _, i, rest, rfl, rfl, ho, q _ _ _ hk New0.int⟩
theorem bm_rev : BmSem K .rev (rBm K .rev) := fun H o x ds vs k Q ro rs hk q => by
  cases o <;> try exact False.elim hk
  rename_i s
  obtain rfl : ds = [] := by
    rcases ds with _ | ⟨d, ds⟩
    · rfl
    · exact False.elim hk
  cases rs
  obtain ⟨rfl, h1⟩ := ro.str_inv
  refine ⟨_, rfl, rfl, by rw [toStr_len]; exact hk.1, ?_⟩
  have e : (⟨(toStr s).cps.toList.reverse.toArray⟩ : Str) = toStr s.reverse := by simp [toStr]
  rw [e]
  exact q _ _ _ hk.2 (New0.str fun c hc => h1 c (List.mem_reverse.mp hc))
theorem bm_sem (m : Bm) : BmSem K m (rBm K m) := by
  cases m with
  | join => exact bm_join
  | index => exact bm_index
  | rev => exact bm_rev
theorem base_ok {x : Expr} {nm : Str} {env : Env} (h : plainBase x = true) : attributeBase x nm env (eval x env) = eval x env := by
  unfold attributeBase
  split
  · cases h
  · rfl
theorem few_ok {pes : List Expr} {cp : Pos} {env : Env} (ns : ∀ pe ∈ pes, ∀ e pos, pe ≠ .Starred e pos) (h : pes.length < 30) : ((backTo cp (starEach pes env)).all (fun x => !x.1) && (backToKw cp (keywordEach [] env)).all (fun x => x.1.isSome)
      && decide (pes.length + ([] : List Keyword).length + (if ([] : List Keyword).isEmpty then 0 else 1) < 30)) = true := by
  have h1 : (backTo cp (starEach pes env)).all (fun x => !x.1) = true := by
    have := star_any (env := env) ns cp
    rw [List.any_eq_false] at this
    rw [List.all_eq_true]
    intro x hx
    have := this x hx
    simpa using this
  have h2 : (backToKw cp (keywordEach [] env)).all (fun x => x.1.isSome) = true := rfl
  rw [h1, h2]
  simpa using h
def rMaxD (K : PySem.W.Frag) : List V → List V → Hp → VK → Prop := fun vs zs H Q => ∃ a, ∃ is : List Int, vs = [.ref a] ∧ zs = [.int (-1)] ∧ SqL K H a (is.map .int) ∧ Q (.int (maxD is)) H
theorem cr_maxD {X : Cx} (hc : X.calm = true) (hu : X.A.units + 65 < cLine) : CallRK X (.builtin "max") [Str.ofString "default"] (rMaxD X.K) := by
  intro pins s σ H vs zs us ws Q I r rz h
  obtain ⟨a, is, rfl, rfl, hs, q⟩ := h
  obtain rfl := Vals.ref1 r
  obtain ⟨w1, rfl, t, rfl⟩ := vals1 rz
  obtain ⟨its, rv, pl, hz⟩ := I.list hs
  have hd : PySem.W.Datum.depth Int ≤ 10 := by decide
  refine PySem.W.max_list_datum_default (xs := is) (I.ok.hd hc) pl.isList (by simpa using hold_ints (h := s.heap) rv) (by omega) (fun e h' tk hk => ?_) (fun y ys i v h' tk e hv Hv hk => ?_)
  · subst e
    exact ⟨.int (-1), H, I.kept hk, ⟨_, rfl⟩, q⟩
  · subst e
    obtain ⟨as, rd⟩ := Hv
    have : ∃ t, v = .int (PySem.W.maxOf y ys) t := by
      cases rd with
      | int n t => exact ⟨_, rfl⟩
    obtain ⟨t, rfl⟩ := this
    exact ⟨.int (PySem.W.maxOf y ys), H, I.kept hk, ⟨_, rfl⟩, q⟩
theorem se_maxd (F : Facts P w K mg base A C G kk XR) {a : E} (ha : SE P w K mg base A C G kk XR a) : SE P w K mg base A C G kk XR (.maxd a) := fun Ex sc pe hm => by
  unfold mtE at hm
  split at hm <;> first | exact absurd hm Bool.false_ne_true | skip
  all_goals first | (rename_i h; cases h; done) | skip
  rename_i x _ y kw _ _ _ _ pos h'
  injection h' with g1
  subst g1
  simp only [Bool.and_eq_true, beq_iff_eq] at hm
  obtain ⟨⟨⟨e1, hg⟩, e2⟩, m1⟩ := hm
  subst e1 e2
  obtain ⟨ta, p1, r1⟩ := ha Ex sc _ m1
  have ns : ∀ z pos, y ≠ .Starred z pos := fun z pos e' => by subst e'; exact mt_nostar m1
  refine ⟨tCKw (rMaxD K) (tCons ta tNil) (tCons (tUn (rU fun i => .int (-i)) (tC (.int 1))) tNil), fun X g => ?_, ?_⟩
  · rw [← g.eK]
    exact pe_callBK (id := "max") (cr_maxD g.calm g.hu) (g.gl hg) (by rw [g.emg]; exact F.blt .max) (by decide +kernel) (pa_cons (p1 X g) pa_nil (star_cons ns)) (pk_cons (pe_un un_neg pe_int) pk_nil) (by decide) (by decide) (by have := star_cons (env := X.env) (es := []) ns; rw [this]; rfl) (by have := star_cons (env := X.env) (es := []) ns; rw [this]; rfl)
  intro H0 M Γ Θ ty Γ' ρ σ θ H Kk Xk Q ht R he hx hq
  unfold tyE at ht
  split at ht <;> try (cases ht; done)
  rename_i t Γ1 ht1
  cases ht
  unfold evalE at he
  refine r1 _ _ _ _ _ _ _ _ _ _ _ _ _ ht1 R he hx fun d ρ1 v H1 R1 hk => ?_
  obtain ⟨q1, d1⟩ := R1.len1
  cases d <;> try exact hk.elim
  rename_i xs
  obtain ⟨is, rfl, hk⟩ := hk
  obtain ⟨q, vs, ev, s, rs⟩ := q1.lst_inv
  have ev : v = .ref q := ev
  subst ev
  rw [ints_inv rs] at s
  refine ⟨1, rfl, q, is, rfl, rfl, s, hq (.int (maxD is)) ρ1 _ H1 ?_ hk⟩
  have R3 : Rel K H0 M Γ' ρ1 σ ([t] ++ Θ) ([(D.lst (is.map .int), .ref q)] ++ θ) H1 := R1
  exact Rel.new0 R3 rfl New0.int
theorem bmO_ty {m : Bm} {o : D} {x : V} {H : Hp} (h : bmO m o = true) (r : Vw K H o x) : tyV K "str" x H := by
  cases m <;> cases o <;> first | (simp [bmO] at h; done) | skip
  all_goals
    obtain ⟨rfl, _⟩ := r.str_inv
    rfl
theorem se_bm {m : Bm} {o : E} {es : Es} (ho : SE P w K mg base A C G kk XR o) (h : SEs P w K mg base A C G kk XR es) : SE P w K mg base A C G kk XR (.bm m o es) := fun Ex sc pe hm => by
  unfold mtE at hm
  split at hm <;> first | exact absurd hm Bool.false_ne_true | skip
  all_goals first | (rename_i h; cases h; done) | skip
  rotate_left
  · rename_i x _ _ _ _ _ h'
    injection h' with g1 g2 g3
    subst g1 g2 g3
    simp only [Bool.and_eq_true, beq_iff_eq] at hm
    obtain ⟨rfl, m1⟩ := hm
    obtain ⟨to, p1, r1⟩ := ho Ex sc _ m1
    refine ⟨tRevS to, fun X g => pe_revS (p1 X g), ?_⟩
    intro H0 M Γ Θ ty Γ' ρ σ θ H Kk Xk Q ht R he hx hq
    unfold tyE at ht
    split at ht <;> try (cases ht; done)
    rename_i t0 Γ1 ht1
    split at ht <;> try (cases ht; done)
    rename_i ts Γ2 ht2
    cases ht
    unfold tyEs at ht2
    cases ht2
    unfold evalE at he
    refine r1 _ _ _ _ _ _ _ _ _ _ _ _ _ ht1 R he hx fun d ρ1 v H1 R1 he1 => ?_
    obtain ⟨hb, hk⟩ := he1
    unfold evalEs at hk
    obtain ⟨q1, d1⟩ := R1.len1
    obtain ⟨z, a, _, b, c⟩ := bm_rev (K := K) _ _ _ _ _ _ Q q1 .nil hk fun d' v' H' hd n => by
      refine hq d' ρ1 v' H' ?_ hd
      have R3 : Rel K H0 M Γ' ρ1 σ ([t0] ++ Θ) ([(d, v)] ++ θ) H1 := R1
      exact Rel.new0 R3 rfl n
    exact ⟨z, a, b, c⟩
  rename_i x nm ap e es' cp h'
  injection h' with g1 g2 g3
  subst g1 g2 g3
  simp only [Bool.and_eq_true, beq_iff_eq, decide_eq_true_eq] at hm
  obtain ⟨⟨⟨⟨⟨⟨e1, hb⟩, m1⟩, m2⟩, hl⟩, hfew⟩, hnr⟩ := hm
  subst e1
  obtain ⟨to, p1, r1⟩ := ho Ex sc _ m1
  obtain ⟨ns, t, p2, r2⟩ := h Ex sc (e :: es') m2
  refine ⟨tBM K "str" (rBm K m) to t, fun X g => ?_, ?_⟩
  · have st1 := star_cons (env := X.env) (es := es') (ns e List.mem_cons_self)
    have st2 := star_any (env := X.env) (fun q hq => ns q (List.mem_cons_of_mem _ hq)) cp
    have hl' : (ap.endLine == cp.line) = true := by rw [hl]; exact beq_self_eq_true _
    have fw := few_ok (cp := cp) (env := X.env) ns hfew
    rw [← g.eK]
    cases m with
    | join => exact pe_bm PySem.F.plainAttrs_str PySem.F.slot_str_join PySem.F.type_str_join mt_join (p1 X g) (p2 X g) (base_ok hb) fw hl' st1 st2
    | index => exact pe_bm PySem.F.plainAttrs_str PySem.F.slot_str_index PySem.F.type_str_index mt_sindex (p1 X g) (p2 X g) (base_ok hb) fw hl' st1 st2
    | rev => exact absurd hnr (by decide)
  · intro H0 M Γ Θ ty Γ' ρ σ θ H Kk Xk Q ht R he hx hq
    unfold tyE at ht
    split at ht <;> try (cases ht; done)
    rename_i t0 Γ1 ht1
    split at ht <;> try (cases ht; done)
    rename_i ts Γ2 ht2
    cases ht
    unfold evalE at he
    refine r1 _ _ _ _ _ _ _ _ _ _ _ _ _ ht1 R he hx fun d ρ1 v H1 R1 he1 => ?_
    obtain ⟨q1, d1⟩ := R1.len1
    refine ⟨bmO_ty he1.1 q1, ?_⟩
    refine r2 _ _ _ _ _ _ _ _ _ _ _ _ _ ht2 R1 he1.2 hx fun ds ρ2 vs H2 l1 l2 R2 hk => ?_
    obtain ⟨ow, R2'⟩ := id R2
    obtain ⟨rr, _⟩ := R2'.temp.reps l1 l2
    obtain ⟨q0, _⟩ := (R2'.temp.drop (zlen l1 l2) |>.1).vw
    refine bm_sem m _ _ _ _ _ _ _ q0 rr hk fun d' v' H' hd n => ?_
    refine hq d' ρ2 v' H' ?_ hd
    have hlen : (ts.reverse ++ [t0]).length = ((ds.zip vs).reverse ++ [(d, v)]).length := by simp [zlen l1 l2, l1, l2]
    have R3 : Rel K H0 M Γ' ρ2 σ ((ts.reverse ++ [t0]) ++ Θ) (((ds.zip vs).reverse ++ [(d, v)]) ++ θ) H2 := by simpa using R2
    exact Rel.new0 R3 hlen n
end Pm

namespace Pm
open PySem L2
variable [W : Wd] {P : Program} {w : World} {K : PySem.W.Frag} {mg : Str → Option Value} {base : Heap} {A : Code} {C : Ctx} {G : TC} {kk : Nat} {XR : XRel}

/-! ### methods that change their list -/
theorem Reps.updO {H : Hp} {Z : Option Addr → Prop} {n : Nat} {p : Addr} {o : HO} {ds : List D} {vs : List V} {F : Fp} (r : Reps K H Z n ds vs F) (hm : Mut (H p)) (h : p ∉ F) (hz : ¬ Z (some p)) : Reps K (upd H p o) Z n ds vs F :=
  r.ext (M := (· = p)) (Ext.upd (.inr rfl)) (fun a e => by subst e; exact hm) (fun a z e => by subst e; exact hz z) (fun _ z => z) fun a ha e => by subst e; exact h ha
theorem Rep.updO {H : Hp} {Z : Option Addr → Prop} {n : Nat} {p : Addr} {o : HO} {d : D} {v : V} {F : Fp} (r : Rep K H Z n d v F) (hm : Mut (H p)) (h : p ∉ F) (hz : ¬ Z (some p)) : Rep K (upd H p o) Z n d v F :=
  r.ext (M := (· = p)) (Ext.upd (.inr rfl)) (fun a e => by subst e; exact hm) (fun a z e => by subst e; exact hz z) (fun _ z => z) fun a ha e => by subst e; exact h ha
section
variable {H0 H H' : Hp} {M : Mz} {ow : Addr → Id} {Γ : List STy} {ρ : Penv} {σ : St} {Θ Θs : List Ty} {θ θs : List (D × V)}
/-- a slot's own list -/
theorem Rw.own_lst (R : Rw K H0 M ow Γ ρ σ Θ θ H) {i : Nat} {n k : Nat} {xs : List D} (hΓ : Γ[i]? = some (some ⟨.own n, k⟩)) (hρ : ρ[i]? = some (some (.lst xs))) :
    ∃ a vs F, σ[i]? = some (some (.ref a)) ∧ H a = some (.lst vs) ∧ Reps K H (zOf ow H .frz) n xs vs F ∧ D.deps (k - 1) xs = true ∧ 1 ≤ k ∧ (a :: F).Nodup ∧ ∀ b ∈ a :: F, ow b = .slot i := by
  obtain ⟨v, hσ, F, r, hd, hL⟩ := R.slot i _ _ hΓ hρ
  have go : ∀ {m : Nat} {Z : Option Addr → Prop}, Rep K H Z (m + 1) (.lst xs) v F → ∃ a vs F', v = .ref a ∧ F = a :: F' ∧ H a = some (.lst vs) ∧ Reps K H Z m xs vs F' := fun r0 => by
    cases r0 with
    | lst h r1 => exact ⟨_, _, _, rfl, rfl, h, r1⟩
  obtain ⟨a, vs, F', rfl, rfl, ha, rs⟩ := go r
  have hL : (a :: F').Nodup ∧ ∀ b ∈ a :: F', ow b = .slot i := hL
  have hd : D.dep k (.lst xs) = true := hd
  refine ⟨a, vs, F', hσ, ha, rs, ?_, ?_, hL.1, hL.2⟩
  · cases k with
    | zero => simp [D.dep] at hd
    | succ k => simpa [D.dep] using hd
  · cases k with
    | zero => simp [D.dep] at hd
    | succ k => omega
/-- .. gets other items; what is told of it stands on top -/
theorem Rw.relist (R : Rw K H0 M ow Γ ρ σ (Θs ++ Θ) (θs ++ θ) H) (hl : Θs.length = θs.length) {i : Nat} {n k m k' : Nat} {xs : List D} {vs us : List V} {E : Fp} {a : Addr} {o : D} {ty : Ty} {d : D} {v : V} (hΓ : Γ[i]? = some (some ⟨.own n, k⟩)) (hρ : ρ[i]? = some (some (.lst xs)))
    (hb : Pm.noBor i Θ = true) (hσ : σ[i]? = some (some (.ref a))) (ha : H a = some (.lst vs)) (hs : ow a = .slot i) (hz : D.dep k' o = true)
    (ndE : E.Nodup) (hE : ∀ b ∈ E, (b ≠ a ∧ ow b = .slot i) ∨ hiTmp Θ.length (ow b)) {h' : HO} (hmu : Mut (some h'))
    (rz : ∀ Z : Option Addr → Prop, (∀ q, zOf ow H .frz q → Z q) → (∀ b, H b ≠ none → b ∉ a :: E → (ow b = .slot i ∨ hiTmp Θ.length (ow b)) → Z (some b)) → Rep K (upd H a h') Z (m + 1) o (.ref a) (a :: E))
    (rt : ∀ Z : Option Addr → Prop, (∀ q, zOf ow H .frz q → Z q) → (∀ b, H b ≠ none → b ∉ a :: E → (ow b = .slot i ∨ hiTmp Θ.length (ow b)) → Z (some b)) → Rep K (upd H a h') Z ty.p.lv d v []) (hd : d.dep ty.k = true) (hi : ty.p.inSlot = true) :
    Rel K H0 M (Γ.set i (some ⟨.own m, k'⟩)) (ρ.set i (some o)) σ (ty :: Θ) ((d, v) :: θ) (upd H a h') := by
  have hmut : Mut (H a) := by rw [ha]; trivial
  have aE : a ∉ E := fun q => by
    rcases hE a q with z | z
    · exact z.1 rfl
    · rw [hs] at z; exact z
  have hil : i < Γ.length := (List.getElem?_eq_some_iff.mp hΓ).1
  have x : Ext (fun b => touch [i] Θ.length (ow b)) H (upd H a h') := Ext.upd (.inr (by rw [hs]; exact List.mem_singleton.mpr rfl))
  have zz : ∀ (pp : Perm) q, zOf ow H .frz q → zT H (upd H a h') [i] Θ.length [] [(i, a :: E)] ow pp q := fun pp q z => .inr z.frz
  have zn : ∀ (pp : Perm) b, H b ≠ none → b ∉ a :: E → (ow b = .slot i ∨ hiTmp Θ.length (ow b)) → zT H (upd H a h') [i] Θ.length [] [(i, a :: E)] ow pp (some b) := fun pp b h1 h2 h3 =>
    .inl ⟨x.there b h1, by simp, by simpa [allL] using h2, .inr (.inl (h3.elim (fun e => by rw [e]; exact List.mem_singleton.mpr rfl) fun z => hi_touch z))⟩
  refine ⟨_, R.tr hl (is := [i]) (L := [(i, a :: E)]) (Fr := []) (fun j hj => by simp at hj; subst hj; exact hb) (fun p hp => by simp at hp; subst hp; exact List.mem_singleton.mpr rfl) x
    (by simpa [allL] using ⟨aE, ndE⟩) (fun b h => by simp at h) (fun b h => ?_) (rt _ (zz _) (zn _)) hd (.inr ⟨rfl, hi⟩) List.length_set List.length_set rfl (fun j hj ty' h => ?_) (fun b h => ?_) fun j hj => ?_⟩
  · right
    have h : b ∈ a :: E := by simpa [allL] using h
    rcases List.mem_cons.mp h with rfl | h
    · rw [hs]; exact List.mem_singleton.mpr rfl
    · rcases hE b h with ⟨_, z⟩ | z
      · rw [z]; exact List.mem_singleton.mpr rfl
      · exact hi_touch z
  · simp at hj; subst hj
    rw [List.getElem?_set_self hil] at h
    cases h
    refine ⟨rfl, fun d' h2 => ?_⟩
    rw [List.getElem?_set_self (by rw [R.lρ]; exact hil)] at h2
    cases h2
    exact ⟨.ref a, a :: E, hσ, rz _ (zz _) (zn _), hz, .inr ⟨List.mem_singleton.mpr rfl, rfl⟩⟩
  · have h : b ∈ a :: E := by simpa [allL] using h
    exact (rz _ (zz .frz) (zn .frz)).mut b h
  · simp at hj
    exact ⟨List.getElem?_set_ne (Ne.symm hj), List.getElem?_set_ne (Ne.symm hj), rfl⟩
/-- .. of a list: other items, some of the old ones, some of temporaries -/
theorem Rw.relst (R : Rw K H0 M ow Γ ρ σ (Θs ++ Θ) (θs ++ θ) H) (hl : Θs.length = θs.length) {i : Nat} {n k m k' : Nat} {xs zs : List D} {vs us : List V} {E : Fp} {a : Addr} {ty : Ty} {d : D} {v : V} (hΓ : Γ[i]? = some (some ⟨.own n, k⟩)) (hρ : ρ[i]? = some (some (.lst xs)))
    (hb : Pm.noBor i Θ = true) (hσ : σ[i]? = some (some (.ref a))) (ha : H a = some (.lst vs)) (hs : ow a = .slot i) (hz : D.dep k' (.lst zs) = true)
    (ndE : E.Nodup) (hE : ∀ b ∈ E, (b ≠ a ∧ ow b = .slot i) ∨ hiTmp Θ.length (ow b))
    (rz : ∀ Z : Option Addr → Prop, (∀ q, zOf ow H .frz q → Z q) → (∀ b, H b ≠ none → b ∉ a :: E → (ow b = .slot i ∨ hiTmp Θ.length (ow b)) → Z (some b)) → ¬ Z (some a) → Reps K H Z m zs us E)
    (rt : ∀ Z : Option Addr → Prop, (∀ q, zOf ow H .frz q → Z q) → (∀ b, H b ≠ none → b ∉ a :: E → (ow b = .slot i ∨ hiTmp Θ.length (ow b)) → Z (some b)) → ¬ Z (some a) → Rep K H Z ty.p.lv d v []) (hd : d.dep ty.k = true) (hi : ty.p.inSlot = true) :
    Rel K H0 M (Γ.set i (some ⟨.own m, k'⟩)) (ρ.set i (some (.lst zs))) σ (ty :: Θ) ((d, v) :: θ) (upd H a (.lst us)) := by
  have hmut : Mut (H a) := by rw [ha]; trivial
  have aE : a ∉ E := fun q => by
    rcases hE a q with z | z
    · exact z.1 rfl
    · rw [hs] at z; exact z
  -- the least Z
  have z1 : ∀ q, zOf ow H .frz q → (fun q => zOf ow H .frz q ∨ ∃ b, q = some b ∧ H b ≠ none ∧ b ∉ a :: E ∧ (ow b = .slot i ∨ hiTmp Θ.length (ow b))) q := fun q z => .inl z
  have z2 : ¬ (fun q => zOf ow H .frz q ∨ ∃ b, q = some b ∧ H b ≠ none ∧ b ∉ a :: E ∧ (ow b = .slot i ∨ hiTmp Θ.length (ow b))) (some a) := fun z => by
    rcases z with z | ⟨b, e, _, h, _⟩
    · have : ow a = .frz := z.1
      rw [hs] at this; cases this
    · cases e; exact h List.mem_cons_self
  have rz1 := rz _ z1 (fun b h1 h2 h3 => .inr ⟨b, rfl, h1, h2, h3⟩) z2
  have rt1 := rt _ z1 (fun b h1 h2 h3 => .inr ⟨b, rfl, h1, h2, h3⟩) z2
  have up : ∀ Z : Option Addr → Prop, (∀ q, zOf ow H .frz q → Z q) → (∀ b, H b ≠ none → b ∉ a :: E → (ow b = .slot i ∨ hiTmp Θ.length (ow b)) → Z (some b)) → ∀ q, (fun q => zOf ow H .frz q ∨ ∃ b, q = some b ∧ H b ≠ none ∧ b ∉ a :: E ∧ (ow b = .slot i ∨ hiTmp Θ.length (ow b))) q → Z q := fun Z g1 g2 q z => by
    rcases z with z | ⟨b, rfl, h1, h2, h3⟩
    · exact g1 q z
    · exact g2 b h1 h2 h3
  exact R.relist hl (us := us) hΓ hρ hb hσ ha hs hz ndE hE (h' := .lst us) trivial (fun Z g1 g2 => .lst upd_same ((rz1.updO hmut aE z2).z (up Z g1 g2))) (fun Z g1 g2 => (rt1.updO hmut (by simp) z2).z (up Z g1 g2)) hd hi
end
def rMu (K : PySem.W.Frag) : Mu → V → List V → Hp → VK → Prop
  | .append => rAppend
  | .extend => rExtS K
  | .pop => rPop
  | .popAt => rPopAt
  | .clear => rClear
theorem rdes_nil {Ex : XK} : RdEs K C G XR Ex .nil tNil := by
  intro H0 M Γ Θ ts Γ' ρ σ θ H Kk Xk Q ht R he hx hq
  unfold tyEs at ht
  cases ht
  unfold evalEs at he
  exact hq [] ρ [] H rfl rfl R he
theorem depT {p : Perm} {k : Nat} {d : D} (h : d.dep k = true) : d.dep (mkT p k).k = true := by
  unfold mkT; split
  · next e => rw [e] at h; exact h
  · exact h
theorem repT {H : Hp} {Z : Option Addr → Prop} {k : Nat} {d : D} {v : V} (r : Rep K H Z 0 d v []) (h : d.dep k = true) : Rep K H Z (mkT .frz k).p.lv d v [] := by
  unfold mkT; split <;> exact r
theorem list1 {α : Type} {xs : List α} (h : xs.length = 1) : ∃ x, xs = [x] := match xs, h with | [x], _ => ⟨x, rfl⟩
theorem own_eq {t : Ty} {n : Nat} (h : t.p = .own n) : t = ⟨.own n, t.k⟩ := by cases t; simp at h; subst h; rfl
theorem rd_mu {Ex : XK} {m : Mu} {i : Nat} {es : Es} {t : TA} (r : RdEs K C G XR Ex es t) : RdE K C G XR Ex (.mu m i es) (tBM K "list" (rMu K m) (tVar i) t) := by
  intro H0 M Γ Θ ty Γ' ρ σ θ H Kk Xk Q ht R he hx hq
  unfold tyE at ht
  split at ht <;> try (cases ht; done)
  rename_i hsome
  split at ht <;> try (cases ht; done)
  rename_i ts Γ1 ht1
  split at ht <;> try (cases ht; done)
  rename_i u hu
  split at ht <;> try (cases ht; done)
  rename_i n hp
  split at ht <;> try (cases ht; done)
  rename_i hc
  obtain ⟨hk1, hb, hbt⟩ := hc
  unfold evalE at he
  split at he <;> try exact he.elim
  rename_i xs0 hρ0
  obtain ⟨t0, hΓ0⟩ : ∃ t0, Γ[i]? = some (some t0) := by
    cases e : Γ[i]? with
    | none => simp [e] at hsome
    | some o => cases o with
      | none => simp [e] at hsome
      | some t0 => exact ⟨t0, rfl⟩
  obtain ⟨ow0, R0⟩ := id R
  obtain ⟨v0, hσ0, q0⟩ := R0.slot i t0 _ hΓ0 hρ0
  obtain ⟨a0, vs0, rfl, s0, _⟩ := q0.vw.1.lst_inv
  refine ⟨.ref a0, hσ0, .inl ⟨rfl, _, s0⟩, ?_⟩
  refine r _ _ _ _ _ _ _ _ _ _ _ _ _ ht1 R he hx fun ds ρ1 vs H1 l1 l2 R1 hk => ?_
  split at hk <;> try exact hk.elim
  rename_i x hρ1
  obtain ⟨ow, R1'⟩ := id R1
  have hu' : Γ1[i]? = some (some ⟨.own n, u.k⟩) := by rw [hu, ← own_eq hp]
  have zl := zlen l1 l2
  obtain ⟨xs, rfl⟩ : ∃ xs, x = .lst xs := by
    cases m <;> cases x <;> first | exact ⟨_, rfl⟩ | exact hk.elim
  obtain ⟨a, us, F, hσ1, ha, rs, dxs, h1k, nd, hL⟩ := R1'.own_lst hu' hρ1
  rw [hσ0] at hσ1
  cases hσ1
  have hsl := hL a0 List.mem_cons_self
  have aF := (List.nodup_cons.mp nd).1
  have ndF := (List.nodup_cons.mp nd).2
  have hmut : Mut (H1 a0) := by rw [ha]; trivial
  have hlev : u.lev = if u.k ≤ n + 1 then 9 else n + 1 := by
    unfold Ty.lev; rw [if_neg (by omega), hp]
  have hsF : ∀ b ∈ F, ow b = .slot i := fun b hb => hL b (List.mem_cons_of_mem _ hb)
  -- the old items at a level
  have low : ∀ q : Nat, q + 1 ≤ u.lev → ∃ F', F'.Sublist F ∧ ∀ Z : Option Addr → Prop, (∀ o, zOf ow H1 .frz o → Z o) → (∀ b ∈ F, b ∉ F' → Z (some b)) → Reps K H1 Z q xs us F' := fun q hq => by
    obtain ⟨F', s, g⟩ := rs.to (m := q) ndF (by
      rw [hlev] at hq
      by_cases hh : u.k ≤ n + 1
      · exact .inr (D.deps_mono (by omega) xs dxs)
      · rw [if_neg hh] at hq; exact .inl (by omega))
    exact ⟨F', s, g⟩
  have immZ : ∀ {Z : Option Addr → Prop} {q : Nat}, Rep K H1 Z q .non .non [] := .non
  cases m with
  | append =>
    simp only at ht
    split at ht <;> try (cases ht; done)
    rename_i hall
    cases ht
    obtain ⟨d, rfl, hk⟩ : ∃ d, ds = [d] ∧ xs.length < sizeLine ∧ Kk .non (ρ1.set i (some (.lst (xs ++ [d])))) := by
      rcases ds with _ | ⟨d, _ | ⟨e, ds⟩⟩
      · exact hk.elim
      · exact ⟨d, rfl, hk⟩
      · exact hk.elim
    obtain ⟨y, rfl⟩ := list1 (xs := vs) (by rw [l2, ← l1]; rfl)
    have lev1 : 1 ≤ u.lev := by rw [hlev]; split <;> omega
    obtain ⟨q, hq'⟩ : ∃ q, q = min u.lev (levs ts + 1) - 1 := ⟨_, rfl⟩
    obtain ⟨F', sF, gF⟩ := low q (by omega)
    obtain ⟨Fd, rd, ndd, hld⟩ := R1'.temp.repsO (m := q) l1 l2 hall fun t ht => by have := levs_le t ht; omega
    obtain ⟨_, hdd⟩ := R1'.temp.reps l1 l2
    have dd := hdd _ maxk_le
    have dj : ∀ b ∈ F', b ∉ Fd := fun b hb hc => by
      have h1 := hsF b (sF.subset hb)
      have h2 := (hld b hc).1
      rw [h1] at h2; exact h2
    rw [← hq'] at hq
    refine ⟨a0, us, y, rfl, rfl, ha, by rw [← rs.len]; exact hk.1, hq .non _ _ _ ?_ hk.2⟩
    refine R1'.relst zl (zs := xs ++ [d]) (us := us ++ [y]) (E := F' ++ Fd) (ty := imm) hu' hρ1 hb hσ0 ha hsl ?_ (List.nodup_append.mpr ⟨ndF.sublist sF, ndd, fun b hb c hc e => by subst e; exact dj b hb hc⟩) (fun b hb => ?_) (fun Z g1 g2 g3 => (gF Z g1 fun b h1 h2 => g2 b (mut_ne (rs.mut b h1)) (fun hm => ?_) (.inl (hsF b h1))).app (rd.z fun o z => ?_)) (fun _ _ _ _ => .non) rfl rfl
    · have hm : max u.k (maxk ts + 1) = max u.k (maxk ts + 1) - 1 + 1 := by omega
      rw [hm, dep_lst, deps_app, D.deps_mono (by omega) xs dxs, D.deps_mono (by omega) [d] dd]; rfl
    · rcases List.mem_append.mp hb with hb | hb
      · exact .inl ⟨fun e => aF (e ▸ sF.subset hb), hsF b (sF.subset hb)⟩
      · exact .inr (hld b hb).1
    · rcases List.mem_cons.mp hm with rfl | hm
      · exact aF h1
      · rcases List.mem_append.mp hm with hm | hm
        · exact h2 hm
        · have h3 := (hld b hm).1
          rw [hsF b h1] at h3; exact h3
    · cases o with
      | none => exact z.elim
      | some b =>
        obtain ⟨z1, z2, z3⟩ := z
        rcases z3 with z3 | z3
        · exact g1 _ ⟨z3, z1⟩
        · refine g2 b z1 (fun hm => ?_) (.inr z3)
          rcases List.mem_cons.mp hm with rfl | hm
          · rw [hsl] at z3; exact z3
          · rcases List.mem_append.mp hm with hm | hm
            · rw [hsF b (sF.subset hm)] at z3; exact z3
            · exact z2 hm
  | extend =>
    simp only at ht
    split at ht <;> try (cases ht; done)
    rename_i hall
    cases ht
    obtain ⟨ys, rfl, hk⟩ : ∃ ys, ds = [.lst ys] ∧ xs.length + ys.length ≤ sizeLine ∧ Kk .non (ρ1.set i (some (.lst (xs ++ ys)))) := by
      rcases ds with _ | ⟨d, _ | ⟨e, ds⟩⟩
      · exact hk.elim
      · cases d <;> first | exact hk.elim | exact ⟨_, rfl, hk⟩
      · cases d <;> exact hk.elim
    obtain ⟨y, rfl⟩ := list1 (xs := vs) (by rw [l2, ← l1]; rfl)
    obtain ⟨t1, rfl⟩ := list1 (xs := ts) (by rw [← l1]; rfl)
    have hall : t1.copy = true ∧ 1 ≤ t1.k := by simpa using hall
    obtain ⟨b0, zs, rfl, sb, _, rys, dys, _⟩ := R1'.temp.1.copyL hall.1 (T := hiTmp Θ.length) (Nat.le_refl Θ.length)
    obtain ⟨F', sF, gF⟩ := low 0 (by rw [hlev]; split <;> omega)
    have mk1 : maxk [t1] = t1.k := by simp [maxk]
    refine ⟨a0, b0, us, zs, rfl, rfl, ha, sb, by rw [← rs.len, ← rys.len]; exact hk.1, hq .non _ _ _ ?_ hk.2⟩
    have eF : F' = [] := (gF (fun _ => True) (fun _ _ => trivial) fun _ _ _ => trivial).nil0
    subst eF
    refine R1'.relst zl (zs := xs ++ ys) (us := us ++ zs) (E := [] ++ []) (ty := imm) hu' hρ1 hb hσ0 ha hsl ?_ List.nodup_nil (fun b hb => by simp at hb) (fun Z g1 g2 g3 => (gF Z g1 fun b h1 h2 => g2 b (mut_ne (rs.mut b h1)) (fun hm => ?_) (.inl (hsF b h1))).app (rys.z fun o z => ?_)) (fun _ _ _ _ => .non) rfl rfl
    · rw [mk1]
      have hm : max u.k t1.k = max u.k t1.k - 1 + 1 := by omega
      rw [hm, dep_lst, deps_app, D.deps_mono (by omega) xs dxs, D.deps_mono (by omega) ys dys]; rfl
    · rcases List.mem_cons.mp hm with rfl | hm
      · exact aF h1
      · simp at hm
    · cases o with
      | none => exact z.elim
      | some b =>
        obtain ⟨z1, z2, z3⟩ := z
        rcases z3 with z3 | z3
        · exact g1 _ ⟨z3, z1⟩
        · refine g2 b z1 (fun hm => ?_) (.inr z3)
          rcases List.mem_cons.mp hm with rfl | hm
          · rw [hsl] at z3; exact z3
          · simp at hm
  | pop =>
    simp only at ht
    cases ht
    obtain ⟨y, rfl, hy, hk⟩ : ∃ y, ds = [] ∧ xs[xs.length - 1]? = some y ∧ Kk y (ρ1.set i (some (.lst xs.dropLast))) := by
      rcases ds with _ | ⟨d, ds⟩
      · have hk : (match xs[xs.length - 1]? with | some y => Kk y (ρ1.set i (some (.lst xs.dropLast))) | none => False) := hk
        cases e : xs[xs.length - 1]? with
        | none => rw [e] at hk; exact hk.elim
        | some y => rw [e] at hk; exact ⟨y, rfl, rfl, hk⟩
      · exact hk.elim
    have hvs : vs = [] := List.length_eq_zero_iff.mp (by rw [l2, ← l1]; rfl)
    subst hvs
    obtain ⟨F', sF, gF⟩ := low 0 (by rw [hlev]; split <;> omega)
    have eF : F' = [] := (gF (fun _ => True) (fun _ _ => trivial) fun _ _ _ => trivial).nil0
    subst eF
    have e1 : xs.dropLast = (xs.drop 0).take (xs.length - 1) := by simp [List.dropLast_eq_take]
    have e2 : us.dropLast = (us.drop 0).take (xs.length - 1) := by simp [List.dropLast_eq_take, rs.len]
    have dz : D.deps (u.k - 1) xs.dropLast = true := deps_iff.mpr fun x hx => deps_iff.mp dxs x (List.dropLast_subset _ hx)
    have base : ∀ Z : Option Addr → Prop, (∀ q, zOf ow H1 .frz q → Z q) → (∀ b, H1 b ≠ none → b ∉ [a0] → (ow b = .slot i ∨ hiTmp Θ.length (ow b)) → Z (some b)) → Reps K H1 Z 0 xs us [] := fun Z g1 g2 => gF Z g1 fun b h1 _ => g2 b (mut_ne (rs.mut b h1)) (fun hm => by simp at hm; subst hm; exact aF h1) (.inl (hsF b h1))
    obtain ⟨v, Gv, ev, _, _⟩ := rs.get hy
    refine ⟨a0, us, v, rfl, rfl, ha, by rw [← rs.len]; exact ev, hq y _ _ _ ?_ hk⟩
    refine R1'.relst zl (zs := xs.dropLast) (us := us.dropLast) (E := []) hu' hρ1 hb hσ0 ha hsl (by
      have hm : u.k = u.k - 1 + 1 := by omega
      rw [hm, dep_lst]; exact dz) List.nodup_nil (fun b hb => by simp at hb) (fun Z g1 g2 g3 => by rw [e1, e2]; exact (base Z g1 g2).cut0 _ _) (fun Z g1 g2 g3 => ?_) (depT (deps_get dxs hy)) (inSlot_mkT rfl)
    obtain ⟨v', G', ev', rv, sv⟩ := (base Z g1 g2).get hy
    rw [ev] at ev'; cases ev'
    rw [List.eq_nil_of_sublist_nil sv] at rv
    exact repT rv (deps_get dxs hy)
  | popAt =>
    simp only at ht
    cases ht
    obtain ⟨nn, j, y, rfl, hj, hy, hk⟩ : ∃ n j y, ds = [.int n] ∧ ixN xs.length n = some j ∧ xs[j]? = some y ∧ (-(2 ^ 63) ≤ n ∧ n < 2 ^ 63) ∧ Kk y (ρ1.set i (some (.lst (xs.eraseIdx j)))) := by
      rcases ds with _ | ⟨d, _ | ⟨e, ds⟩⟩
      · exact hk.elim
      · cases d <;> try exact hk.elim
        rename_i n
        have hk : (match ixN xs.length n with | some j => (match xs[j]? with | some y => (-(2 ^ 63) ≤ n ∧ n < 2 ^ 63) ∧ Kk y (ρ1.set i (some (.lst (xs.eraseIdx j)))) | none => False) | none => False) := hk
        cases e : ixN xs.length n with
        | none => rw [e] at hk; exact hk.elim
        | some j =>
          rw [e] at hk
          simp only at hk
          cases e2 : xs[j]? with
          | none => rw [e2] at hk; exact hk.elim
          | some y => rw [e2] at hk; exact ⟨n, j, y, rfl, e, e2, hk⟩
      · cases d <;> exact hk.elim
    obtain ⟨v0, rfl⟩ := list1 (xs := vs) (by rw [l2, ← l1]; rfl)
    obtain ⟨t1, rfl⟩ := list1 (xs := ts) (by rw [← l1]; rfl)
    have ev0 : v0 = .int nn := R1'.temp.1.vw.1.int_inv
    subst ev0
    obtain ⟨F', sF, gF⟩ := low 0 (by rw [hlev]; split <;> omega)
    have eF : F' = [] := (gF (fun _ => True) (fun _ _ => trivial) fun _ _ _ => trivial).nil0
    subst eF
    have dz : D.deps (u.k - 1) (xs.eraseIdx j) = true := deps_iff.mpr fun x hx => deps_iff.mp dxs x (List.mem_of_mem_eraseIdx hx)
    have base : ∀ Z : Option Addr → Prop, (∀ q, zOf ow H1 .frz q → Z q) → (∀ b, H1 b ≠ none → b ∉ [a0] → (ow b = .slot i ∨ hiTmp Θ.length (ow b)) → Z (some b)) → Reps K H1 Z 0 xs us [] := fun Z g1 g2 => gF Z g1 fun b h1 _ => g2 b (mut_ne (rs.mut b h1)) (fun hm => by simp at hm; subst hm; exact aF h1) (.inl (hsF b h1))
    obtain ⟨v, Gv, ev, _, _⟩ := rs.get hy
    refine ⟨a0, us, nn, j, v, rfl, rfl, ha, hk.1.1, hk.1.2, by rw [← rs.len]; exact (ixN_seq hj).1, ev, hq y _ _ _ ?_ hk.2⟩
    refine R1'.relst zl (zs := xs.eraseIdx j) (us := us.eraseIdx j) (E := []) hu' hρ1 hb hσ0 ha hsl (by
      have hm : u.k = u.k - 1 + 1 := by omega
      rw [hm, dep_lst]; exact dz) List.nodup_nil (fun b hb => by simp at hb) (fun Z g1 g2 g3 => ?_) (fun Z g1 g2 g3 => ?_) (depT (deps_get dxs hy)) (inSlot_mkT rfl)
    · have q1 := (base Z g1 g2).cut0 0 j
      have q2 := (base Z g1 g2).cut0 (j + 1) xs.length
      have := q1.app q2
      have e1 : (xs.drop (j + 1)).take xs.length = xs.drop (j + 1) := List.take_of_length_le (by simp)
      have e2 : (us.drop (j + 1)).take xs.length = us.drop (j + 1) := List.take_of_length_le (by simp [rs.len])
      rw [e1, e2, List.drop_zero, List.drop_zero] at this
      rw [List.eraseIdx_eq_take_drop_succ, List.eraseIdx_eq_take_drop_succ]
      exact this
    · obtain ⟨v', G', ev', rv, sv⟩ := (base Z g1 g2).get hy
      rw [ev] at ev'; cases ev'
      rw [List.eq_nil_of_sublist_nil sv] at rv
      exact repT rv (deps_get dxs hy)
  | clear =>
    simp only at ht
    cases ht
    obtain ⟨rfl, hk⟩ : ds = [] ∧ Kk .non (ρ1.set i (some (.lst []))) := by
      rcases ds with _ | ⟨d, ds⟩
      · exact ⟨rfl, hk⟩
      · exact hk.elim
    have hvs : vs = [] := List.length_eq_zero_iff.mp (by rw [l2, ← l1]; rfl)
    subst hvs
    refine ⟨a0, us, rfl, rfl, ha, hq .non _ _ _ ?_ hk⟩
    have T := R1'.relst zl (zs := []) (us := []) (E := []) (m := n) (k' := u.k) (ty := imm) (d := .non) (v := .non) hu' hρ1 hb hσ0 ha hsl (by
      have hm : u.k = u.k - 1 + 1 := by omega
      rw [hm, dep_lst]; rfl) List.nodup_nil (fun b hb => by simp at hb) (fun _ _ _ _ => .nil) (fun _ _ _ _ => .non) rfl rfl
    have e : Γ'.set i (some ⟨.own n, u.k⟩) = Γ' := by
      apply List.ext_getElem?
      intro j
      by_cases hj : i = j
      · subst hj; rw [List.getElem?_set_self (List.getElem?_eq_some_iff.mp hu').1, hu']
      · rw [List.getElem?_set_ne hj]
    rw [e] at T
    exact T
theorem name_base {x : Str} {p : Pos} {nm : Str} {env : Env} : attributeBase (.Name x p) nm env (eval (.Name x p) env) = eval (.Name x p) env := rfl
theorem se_mu {m : Mu} {i : Nat} {es : Es} (h : SEs P w K mg base A C G kk XR es) : SE P w K mg base A C G kk XR (.mu m i es) := fun Ex sc pe hm => by
  unfold mtE at hm
  split at hm <;> first | exact absurd hm Bool.false_ne_true | skip
  all_goals first | (rename_i h; cases h; done) | skip
  rename_i x p nm ap xs cp h'
  injection h' with g1 g2 g3
  subst g1 g2 g3
  simp only [Bool.and_eq_true, beq_iff_eq, decide_eq_true_eq] at hm
  obtain ⟨⟨⟨⟨⟨⟨e1, n1⟩, n2⟩, n3⟩, m2⟩, hl⟩, hfew⟩ := hm
  subst e1
  have hn : (A.N[i]? == some x && visB sc x && nomg x) = true := by simp [n1, n2, n3]
  have hl' : (ap.endLine == cp.line) = true := by rw [hl]; exact beq_self_eq_true _
  cases xs with
  | nil =>
    cases es with
    | cons _ _ => exact absurd m2 Bool.false_ne_true
    | nil =>
      refine ⟨tBM K "list" (rMu K m) (tVar i) tNil, fun X g => ?_, rd_mu rdes_nil⟩
      rw [← g.eK]
      cases m with
      | append => exact pe_bm0 PySem.F.plainAttrs_list PySem.F.slot_list_append PySem.F.type_list_append mt_append (g.pv hn) name_base hl'
      | extend => exact pe_bm0 PySem.F.plainAttrs_list PySem.F.slot_list_extend PySem.F.type_list_extend mt_extS (g.pv hn) name_base hl'
      | pop => exact pe_bm0 PySem.F.plainAttrs_list PySem.F.slot_list_pop PySem.F.type_list_pop mt_pop (g.pv hn) name_base hl'
      | popAt => exact pe_bm0 PySem.F.plainAttrs_list PySem.F.slot_list_pop PySem.F.type_list_pop mt_popAt (g.pv hn) name_base hl'
      | clear => exact pe_bm0 PySem.F.plainAttrs_list PySem.F.slot_list_clear PySem.F.type_list_clear mt_clear (g.pv hn) name_base hl'
  | cons e es' =>
    obtain ⟨ns, t, p2, r2⟩ := h Ex sc (e :: es') m2
    refine ⟨tBM K "list" (rMu K m) (tVar i) t, fun X g => ?_, rd_mu r2⟩
    have st1 := star_cons (env := X.env) (es := es') (ns e List.mem_cons_self)
    have st2 := star_any (env := X.env) (fun q hq => ns q (List.mem_cons_of_mem _ hq)) cp
    have fw := few_ok (cp := cp) (env := X.env) ns hfew
    rw [← g.eK]
    cases m with
    | append => exact pe_bm PySem.F.plainAttrs_list PySem.F.slot_list_append PySem.F.type_list_append mt_append (g.pv hn) (p2 X g) name_base fw hl' st1 st2
    | extend => exact pe_bm PySem.F.plainAttrs_list PySem.F.slot_list_extend PySem.F.type_list_extend mt_extS (g.pv hn) (p2 X g) name_base fw hl' st1 st2
    | pop => exact pe_bm PySem.F.plainAttrs_list PySem.F.slot_list_pop PySem.F.type_list_pop mt_pop (g.pv hn) (p2 X g) name_base fw hl' st1 st2
    | popAt => exact pe_bm PySem.F.plainAttrs_list PySem.F.slot_list_pop PySem.F.type_list_pop mt_popAt (g.pv hn) (p2 X g) name_base fw hl' st1 st2
    | clear => exact pe_bm PySem.F.plainAttrs_list PySem.F.slot_list_clear PySem.F.type_list_clear mt_clear (g.pv hn) (p2 X g) name_base fw hl' st1 st2
end Pm

namespace Pm
open PySem L2
variable [W : Wd] {P : Program} {w : World} {K : PySem.W.Frag} {mg : Str → Option Value} {base : Heap} {A : Code} {C : Ctx} {G : TC} {kk : Nat} {XR : XRel}

/-! ### calls -/
def argT : As → List D → List V → List (D × V)
  | .val _ as, d :: ds, v :: vs => (d, v) :: argT as ds vs
  | .own _ as, d :: ds, v :: vs => (d, v) :: argT as ds vs
  | .ino _ as, _ :: ds, _ :: vs => (.non, .non) :: argT as ds vs
  | _, _, _ => []
/-- the temporaries that are handed on -/
def ownIx : Nat → As → List Nat
  | _, .nil => []
  | n, .val _ as => ownIx (n + 1) as
  | n, .own _ as => n :: ownIx (n + 1) as
  | n, .ino _ as => ownIx (n + 1) as
theorem ownIx_ge : ∀ {n : Nat} {as : As}, ∀ j ∈ ownIx n as, n ≤ j
  | n, .nil, j, h => by simp [ownIx] at h
  | n, .val _ as, j, h => Nat.le_of_succ_le (ownIx_ge (n := n + 1) (as := as) j h)
  | n, .ino _ as, j, h => Nat.le_of_succ_le (ownIx_ge (n := n + 1) (as := as) j h)
  | n, .own _ as, j, h => by
    rcases List.mem_cons.mp h with rfl | h
    · exact Nat.le_refl _
    · exact Nat.le_of_succ_le (ownIx_ge (n := n + 1) (as := as) j h)
theorem ownIx_mono {n : Nat} {as : As} {i : Nat} {j : Nat} (h : j ∈ ownIx (n + 1) as) : j ∈ ownIx n (.ino i as) := h
def ArgsAt (Γ : List STy) (ρ : Penv) (σ : St) : List PM → As → List Ty → List D → List V → Prop
  | [], .nil, [], [], [] => True
  | .inn k :: ps, .val _ as, t :: ts, _ :: ds, _ :: vs => t.k ≤ k ∧ ArgsAt Γ ρ σ ps as ts ds vs
  | .ino n k :: ps, .own _ as, t :: ts, _ :: ds, _ :: vs => (∃ m, t.p = .own m ∧ t.k ≤ k ∧ lowOk t.k m n = true) ∧ ArgsAt Γ ρ σ ps as ts ds vs
  | .ino n k :: ps, .ino i as, t :: ts, d :: ds, v :: vs => t = imm ∧ Γ[i]? = some (some ⟨.own n, k⟩) ∧ ρ[i]? = some (some d) ∧ σ[i]? = some (some v) ∧ ArgsAt Γ ρ σ ps as ts ds vs
  | _, _, _, _, _ => False
theorem ArgsAt.ext {Γ Γ' : List STy} {ρ ρ' : Penv} {σ : St} : ∀ {ps : List PM} {as : As} {ts : List Ty} {ds : List D} {vs : List V}, ArgsAt Γ ρ σ ps as ts ds vs → (∀ i ∈ as.inos, Γ'[i]? = Γ[i]? ∧ ρ'[i]? = ρ[i]?) → ArgsAt Γ' ρ' σ ps as ts ds vs
  | [], .nil, [], [], [], _, _ => trivial
  | .inn k :: ps, .val _ as, t :: ts, _ :: ds, _ :: vs, h, q => ⟨h.1, ArgsAt.ext h.2 q⟩
  | .ino n k :: ps, .own _ as, t :: ts, _ :: ds, _ :: vs, h, q => ⟨h.1, ArgsAt.ext h.2 q⟩
  | .ino n k :: ps, .ino i as, t :: ts, d :: ds, v :: vs, h, q => by
    obtain ⟨h1, h2, h3, h4, h5⟩ := h
    obtain ⟨q1, q2⟩ := q i List.mem_cons_self
    exact ⟨h1, by rw [q1]; exact h2, by rw [q2]; exact h3, h4, ArgsAt.ext h5 fun j hj => q j (List.mem_cons_of_mem _ hj)⟩
theorem ArgsAt.lens {Γ : List STy} {ρ : Penv} {σ : St} : ∀ {ps : List PM} {as : As} {ts : List Ty} {ds : List D} {vs : List V}, ArgsAt Γ ρ σ ps as ts ds vs → (argT as ds vs).length = ts.length
  | [], .nil, [], [], [], _ => rfl
  | .inn k :: ps, .val _ as, t :: ts, _ :: ds, _ :: vs, h => by simp [argT, ArgsAt.lens h.2]
  | .ino n k :: ps, .own _ as, t :: ts, _ :: ds, _ :: vs, h => by simp [argT, ArgsAt.lens h.2]
  | .ino n k :: ps, .ino i as, t :: ts, d :: ds, v :: vs, h => by simp [argT, ArgsAt.lens h.2.2.2.2]
def RdAs (K : PySem.W.Frag) (C : Ctx) (G : TC) (XR : XRel) (Ex : XK) (as : As) (t : TA) : Prop := ∀ ps H0 M Γ Θ ts Γ' ρ σ θ H (Kk : List D → Penv → Prop) (Xk : Exc → Penv → Prop) (Q : List V → Hp → Prop), tyAs G Γ Θ ps as = some (ts, Γ') → Rel K H0 M Γ ρ σ Θ θ H → evalAs C as ρ Kk Xk → ExcOk XR Ex M H0 Xk →
  (∀ ds ρ' vs H', ArgsAt Γ' ρ' σ ps as ts ds vs → as.inos.Nodup → (∀ i ∈ as.inos, noBor i ts = true ∧ noBor i Θ = true) → Rel K H0 M Γ' ρ' σ (ts.reverse ++ Θ) ((argT as ds vs).reverse ++ θ) H' → Kk ds ρ' → Q vs H') → t σ H Q
def SAs (P : Program) (w : World) (K : PySem.W.Frag) (mg : Str → Option Value) (base : Heap) (A : Code) (C : Ctx) (G : TC) (kk : Nat) (XR : XRel) (as : As) : Prop :=
  ∀ Ex sc pes, mtAs A sc as pes = true → (∀ pe ∈ pes, ∀ e pos, pe ≠ .Starred e pos) ∧ ∃ t : TA, (∀ X, Good P w K mg base A kk Ex sc X → PA X pes t) ∧ RdAs K C G XR Ex as t
theorem sas_nil : SAs P w K mg base A C G kk XR .nil := fun Ex sc pes hm => by
  cases pes with
  | cons _ _ => exact absurd hm Bool.false_ne_true
  | nil =>
    refine ⟨fun _ h => by simp at h, tNil, fun X g => pa_nil, ?_⟩
    intro ps H0 M Γ Θ ts Γ' ρ σ θ H Kk Xk Q ht R he hx hq
    cases ps with
    | cons p ps => cases p <;> (unfold tyAs at ht; cases ht)
    | nil =>
      unfold tyAs at ht
      cases ht
      unfold evalAs at he
      exact hq [] ρ [] H trivial List.nodup_nil (fun i h => by cases h) R he
theorem argT_cons {p : D × V} {l : List (D × V)} {θ : List (D × V)} : (p :: l).reverse ++ θ = l.reverse ++ (p :: θ) := by simp
theorem noBor_cons {i : Nat} {t : Ty} {Θ : List Ty} : noBor i (t :: Θ) = true ↔ noBor i [t] = true ∧ noBor i Θ = true := by simp [noBor]
theorem sas_val {e : E} {as : As} (h1 : SE P w K mg base A C G kk XR e) (h2 : SAs P w K mg base A C G kk XR as) : SAs P w K mg base A C G kk XR (.val e as) := fun Ex sc pes hm => by
  cases pes with
  | nil => exact absurd hm Bool.false_ne_true
  | cons pe pes =>
    have hm : (mtE A sc e pe && mtAs A sc as pes) = true := hm
    rw [Bool.and_eq_true] at hm
    obtain ⟨t1, p1, r1⟩ := h1 Ex sc pe hm.1
    obtain ⟨ns, t2, p2, r2⟩ := h2 Ex sc pes hm.2
    have ns1 : ∀ x pos, pe ≠ .Starred x pos := fun x pos e' => by subst e'; exact mt_nostar hm.1
    refine ⟨fun q hq x pos => ?_, tCons t1 t2, fun X g => pa_cons (p1 X g) (p2 X g) (star_cons ns1), ?_⟩
    · rcases List.mem_cons.mp hq with rfl | hq
      · exact ns1 x pos
      · exact ns q hq x pos
    · intro ps H0 M Γ Θ ts Γ' ρ σ θ H Kk Xk Q ht R he hx hq
      cases ps with
      | nil => unfold tyAs at ht; cases ht
      | cons p ps =>
        cases p with
        | ino n k => unfold tyAs at ht; cases ht
        | inn k =>
          unfold tyAs at ht
          split at ht <;> try (cases ht; done)
          rename_i t Γ1 ht1
          split at ht <;> try (cases ht; done)
          rename_i hk
          split at ht <;> try (cases ht; done)
          rename_i ts' Γ2 ht2
          cases ht
          unfold evalAs at he
          refine r1 _ _ _ _ _ _ _ _ _ _ _ _ _ ht1 R he hx fun d ρ1 v H1 R1 he1 => ?_
          refine r2 ps _ _ _ _ _ _ _ _ _ _ _ _ _ ht2 R1 he1 hx fun ds ρ2 vs H2 at2 nd nb R2 hk2 => ?_
          refine hq (d :: ds) ρ2 (v :: vs) H2 ⟨hk, at2⟩ nd (fun i hi => ?_) ?_ hk2
          · obtain ⟨n1, n2⟩ := nb i hi
            obtain ⟨n3, n4⟩ := noBor_cons.mp n2
            exact ⟨noBor_cons.mpr ⟨n3, n1⟩, n4⟩
          · rw [stack_cons]
            show Rel K H0 M Γ' ρ2 σ _ (((d, v) :: argT as ds vs).reverse ++ θ) H2
            rw [argT_cons]; exact R2
theorem sas_own {e : E} {as : As} (h1 : SE P w K mg base A C G kk XR e) (h2 : SAs P w K mg base A C G kk XR as) : SAs P w K mg base A C G kk XR (.own e as) := fun Ex sc pes hm => by
  cases pes with
  | nil => exact absurd hm Bool.false_ne_true
  | cons pe pes =>
    have hm : (mtE A sc e pe && mtAs A sc as pes) = true := hm
    rw [Bool.and_eq_true] at hm
    obtain ⟨t1, p1, r1⟩ := h1 Ex sc pe hm.1
    obtain ⟨ns, t2, p2, r2⟩ := h2 Ex sc pes hm.2
    have ns1 : ∀ x pos, pe ≠ .Starred x pos := fun x pos e' => by subst e'; exact mt_nostar hm.1
    refine ⟨fun q hq x pos => ?_, tCons t1 t2, fun X g => pa_cons (p1 X g) (p2 X g) (star_cons ns1), ?_⟩
    · rcases List.mem_cons.mp hq with rfl | hq
      · exact ns1 x pos
      · exact ns q hq x pos
    · intro ps H0 M Γ Θ ts Γ' ρ σ θ H Kk Xk Q ht R he hx hq
      cases ps with
      | nil => unfold tyAs at ht; cases ht
      | cons p ps =>
        cases p with
        | inn k => unfold tyAs at ht; cases ht
        | ino n k =>
          unfold tyAs at ht
          split at ht <;> try (cases ht; done)
          rename_i t Γ1 ht1
          split at ht <;> try (cases ht; done)
          rename_i mm hp
          split at ht <;> try (cases ht; done)
          rename_i hk0
          have hk : ∃ m, t.p = .own m ∧ t.k ≤ k ∧ lowOk t.k m n = true := ⟨mm, hp, hk0.1, hk0.2⟩
          split at ht <;> try (cases ht; done)
          rename_i ts' Γ2 ht2
          cases ht
          unfold evalAs at he
          refine r1 _ _ _ _ _ _ _ _ _ _ _ _ _ ht1 R he hx fun d ρ1 v H1 R1 he1 => ?_
          refine r2 ps _ _ _ _ _ _ _ _ _ _ _ _ _ ht2 R1 he1 hx fun ds ρ2 vs H2 at2 nd nb R2 hk2 => ?_
          refine hq (d :: ds) ρ2 (v :: vs) H2 ⟨hk, at2⟩ nd (fun i hi => ?_) ?_ hk2
          · obtain ⟨n1, n2⟩ := nb i hi
            obtain ⟨n3, n4⟩ := noBor_cons.mp n2
            exact ⟨noBor_cons.mpr ⟨n3, n1⟩, n4⟩
          · rw [stack_cons]
            show Rel K H0 M Γ' ρ2 σ _ (((d, v) :: argT as ds vs).reverse ++ θ) H2
            rw [argT_cons]; exact R2
theorem tyAs_keep : ∀ {ps : List PM} {as : As} {Γ Γ' : List STy} {Θ ts : List Ty}, tyAs G Γ Θ ps as = some (ts, Γ') → True := fun _ => trivial
theorem sas_ino {i : Nat} {as : As} (h2 : SAs P w K mg base A C G kk XR as) : SAs P w K mg base A C G kk XR (.ino i as) := fun Ex sc pes hm => by
  cases pes with
  | nil => exact absurd hm Bool.false_ne_true
  | cons pe pes =>
    cases pe <;> try exact absurd hm Bool.false_ne_true
    rename_i x pos
    have hm : (A.N[i]? == some x && visB sc x && nomg x && mtAs A sc as pes) = true := hm
    rw [Bool.and_eq_true] at hm
    obtain ⟨ns, t2, p2, r2⟩ := h2 Ex sc pes hm.2
    refine ⟨fun q hq y p e => ?_, tCons (tVar i) t2, fun X g => pa_cons (g.pv hm.1) (p2 X g) (star_cons fun _ _ e => by cases e), ?_⟩
    · rcases List.mem_cons.mp hq with rfl | hq
      · cases e
      · exact ns q hq y p e
    · intro ps H0 M Γ Θ ts Γ' ρ σ θ H Kk Xk Q ht R he hx hq
      cases ps with
      | nil => unfold tyAs at ht; cases ht
      | cons p ps =>
        cases p with
        | inn k => unfold tyAs at ht; cases ht
        | ino n k =>
          unfold tyAs at ht
          split at ht <;> try (cases ht; done)
          rename_i t0 hΓ0
          split at ht <;> try (cases ht; done)
          rename_i ts' Γ2 ht2
          split at ht <;> try (cases ht; done)
          rename_i u hu
          split at ht <;> try (cases ht; done)
          rename_i mm hp
          split at ht <;> try (cases ht; done)
          rename_i hc
          obtain ⟨c2, c1, c3, c4, c5⟩ := hc
          cases ht
          unfold evalAs at he
          split at he <;> try exact he.elim
          rename_i d0 hρ0
          obtain ⟨ow0, R0⟩ := id R
          obtain ⟨v, hσ, _⟩ := R0.slot i t0 _ hΓ0 hρ0
          refine ⟨v, hσ, ?_⟩
          refine r2 ps _ _ _ _ _ _ _ _ _ _ _ _ _ ht2 (R.immV (d := .non) (v := .non) .non rfl) he hx fun ds ρ2 vs H2 at2 nd nb R2 hk2 => ?_
          split at hk2 <;> try exact hk2.elim
          rename_i d hρ2
          obtain ⟨ow2, R2'⟩ := id R2
          have hlt := (List.getElem?_eq_some_iff.mp hu).1
          have hni : i ∉ as.inos := by simpa using c5
          have hu' : Γ2[i]? = some (some ⟨.own mm, u.k⟩) := by rw [hu, ← own_eq hp]
          refine hq (d :: ds) ρ2 (v :: vs) H2 ⟨rfl, List.getElem?_set_self hlt, hρ2, hσ, at2.ext fun j hj => ⟨List.getElem?_set_ne fun e => hni (by rw [e]; exact hj), rfl⟩⟩ (List.nodup_cons.mpr ⟨hni, nd⟩) (fun j hj => ?_) ?_ hk2
          · rcases List.mem_cons.mp hj with rfl | hj
            · exact ⟨noBor_cons.mpr ⟨rfl, c4⟩, c3⟩
            · obtain ⟨n1, n2⟩ := nb j hj
              obtain ⟨n3, n4⟩ := noBor_cons.mp n2
              exact ⟨noBor_cons.mpr ⟨n3, n1⟩, n4⟩
          · rw [stack_cons]
            show Rel K H0 M _ ρ2 σ _ (((.non, .non) :: argT as ds vs).reverse ++ θ) H2
            rw [argT_cons]
            obtain ⟨S, R3⟩ := R2'.lower hu' hρ2 c2 (p := .own n) (.inl ⟨n, rfl, c1⟩)
            exact ⟨_, R3⟩
section
variable {H0 H H' : Hp} {M : Mz} {ow : Addr → Id} {Γ : List STy} {ρ : Penv} {σ : St} {Θ : List Ty} {θ : List (D × V)}
theorem args_fp (hslot : ∀ (i : Nat) (ty : Ty) (d : D), Γ[i]? = some (some ty) → ρ[i]? = some (some d) → ∃ v, σ[i]? = some (some v) ∧ EntOk K H ow (.slot i) ty d v) {I J : List Nat} :
    ∀ {ps : List PM} {as : As} {ts Θ : List Ty} {θ : List (D × V)} {ds : List D} {vs : List V}, ArgsAt Γ ρ σ ps as ts ds vs → TempOk K H ow (ts.reverse ++ Θ) ((argT as ds vs).reverse ++ θ) → (∀ i ∈ I, noBor i ts = true) → as.inos.Nodup → (∀ j ∈ J, j < Θ.length ∨ j ∈ ownIx Θ.length as) →
      ∃ E, (∀ (M' : Fp) (Zc : Addr → Prop), (∀ a ∈ M', (∃ i ∈ I, ow a = .slot i) ∨ ∃ j ∈ J, ow a = .tmp j) → (∀ a, ow a = .frz → H a ≠ none → Zc a) → (∀ a, H a ≠ none → (∃ j ∈ ownIx Θ.length as, ow a = .tmp j) → a ∉ E → Zc a) → ArgsR K H M' Zc ps ds vs E) ∧ E.Nodup ∧ ∀ a ∈ E, (∃ i ∈ as.inos, ow a = .slot i) ∨ ∃ j ∈ ownIx Θ.length as, ow a = .tmp j
  | [], .nil, [], _, _, [], [], _, _, _, _, _ => ⟨[], fun _ _ _ _ _ => rfl, List.nodup_nil, fun _ h => by simp at h⟩
  | .inn k :: ps, .val e as, t :: ts, Θ, θ, d :: ds, v :: vs, h, q, nb, nd, hJ => by
    rw [stack_cons] at q
    have q : TempOk K H ow (ts.reverse ++ (t :: Θ)) (((d, v) :: argT as ds vs).reverse ++ θ) := q
    rw [argT_cons] at q
    obtain ⟨E, e1, e2, e3⟩ := args_fp hslot (I := I) (J := J) h.2 q (fun i hi => (noBor_cons.mp (nb i hi)).2) nd (fun j hj => by
      rcases hJ j hj with z | z
      · exact .inl (by simp; omega)
      · exact .inr z)
    refine ⟨E, fun M' Zc hM z1 z2 => ⟨?_, e1 M' Zc hM z1 z2⟩, e2, e3⟩
    obtain ⟨G, r, hd, hl⟩ := q.at (by simp [ArgsAt.lens h.2])
    have cold : ∀ a, ow a = .frz ∨ ow a = .rd → a ∉ M' := fun a e hm => by
      rcases hM a hm with ⟨i, _, z⟩ | ⟨j, _, z⟩ <;> rw [z] at e <;> rcases e with e | e <;> cases e
    refine ⟨r.fz (fun o z => ?_) fun a ha => ⟨fun hm => ?_, mut_ne (r.mut a ha)⟩, D.dep_mono h.1 d hd⟩
    · cases o with
      | none => trivial
      | some a =>
        cases hp : t.p with
        | rd => rw [hp] at z; exact ⟨cold a z.1, z.2⟩
        | own n => rw [hp] at z; exact ⟨cold a (.inl z.1), z.2⟩
        | frz => rw [hp] at z; exact ⟨cold a (.inl z.1), z.2⟩
        | bor n xs => rw [hp] at z; exact ⟨cold a (.inl z.1), z.2⟩
    · rcases hM a hm with ⟨i, hi, e⟩ | ⟨j, hj, e⟩
      · cases hp : t.p with
        | own n => rw [hp] at hl; rw [hl.2 a ha] at e; cases e
        | frz => rw [hp] at r; rw [r.nil0] at ha; simp at ha
        | rd => rw [hp] at r; rw [r.nil0] at ha; simp at ha
        | bor n xs =>
          rw [hp] at hl
          rcases hl a ha with z | ⟨j, hj, z⟩
          · rw [z] at e; cases e
          · rw [z] at e
            cases e
            have := (noBor_cons.mp (nb i hi)).1
            simp [noBor, hp] at this
            exact this hj
      · cases hp : t.p with
        | own n =>
          rw [hp] at hl
          rw [hl.2 a ha] at e
          have e : Θ.length = j := Id.tmp.inj e
          subst e
          rcases hJ _ hj with z | z
          · exact absurd z (Nat.lt_irrefl _)
          · have := ownIx_ge (n := Θ.length + 1) (as := as) _ z
            omega
        | frz => rw [hp] at r; rw [r.nil0] at ha; simp at ha
        | rd => rw [hp] at r; rw [r.nil0] at ha; simp at ha
        | bor n xs =>
          rw [hp] at hl
          rcases hl a ha with z | ⟨j, hj, z⟩
          · rw [z] at e; cases e
          · rw [z] at e; cases e
  | .ino n k :: ps, .own e as, t :: ts, Θ, θ, d :: ds, v :: vs, h, q, nb, nd, hJ => by
    rw [stack_cons] at q
    have q : TempOk K H ow (ts.reverse ++ (t :: Θ)) (((d, v) :: argT as ds vs).reverse ++ θ) := q
    rw [argT_cons] at q
    obtain ⟨E, e1, e2, e3⟩ := args_fp hslot (I := I) (J := J) h.2 q (fun i hi => (noBor_cons.mp (nb i hi)).2) nd (fun j hj => by
      rcases hJ j hj with z | z
      · exact .inl (by simp; omega)
      · rcases List.mem_cons.mp z with rfl | z
        · exact .inl (by simp)
        · exact .inr z)
    obtain ⟨G0, r, hd, hl⟩ := q.at (by simp [ArgsAt.lens h.2])
    obtain ⟨m, hp, hk, hm⟩ := h.1
    rw [hp] at r hl
    have hl : G0.Nodup ∧ ∀ a ∈ G0, ow a = .tmp Θ.length := hl
    obtain ⟨G, sG, gG⟩ := r.to (m := n + 1) hl.1 (by
      unfold lowOk at hm
      rw [Bool.or_eq_true, decide_eq_true_eq, decide_eq_true_eq] at hm
      rcases hm with hm | hm
      · exact .inl (Nat.succ_le_succ hm)
      · exact .inr (D.dep_mono hm d hd))
    have dE : ∀ a ∈ E, ow a ≠ .tmp Θ.length := fun a hb z0 => by
      rcases e3 a hb with ⟨i, _, z⟩ | ⟨j, hj, z⟩
      · rw [z0] at z; cases z
      · rw [z0] at z
        have z : Θ.length = j := Id.tmp.inj z
        subst z
        have := ownIx_ge (n := Θ.length + 1) (as := as) _ hj
        omega
    refine ⟨G ++ E, fun M' Zc hM z1 z2 => ⟨G, E, rfl, gG _ (fun o z => ?_) (fun a ha hn => ⟨z2 a (mut_ne (r.mut a ha)) ⟨_, List.mem_cons_self, hl.2 a ha⟩ fun hm => ?_, mut_ne (r.mut a ha)⟩), D.dep_mono hk d hd, e1 M' Zc hM z1 fun a h1 h2 h3 => ?_⟩, List.nodup_append.mpr ⟨hl.1.sublist sG, e2, fun a ha b hb e => ?_⟩, fun a ha => ?_⟩
    · cases o with
      | none => exact z.elim
      | some a => exact ⟨z1 a z.1 z.2, z.2⟩
    · rcases List.mem_append.mp hm with hm | hm
      · exact hn hm
      · exact dE a hm (hl.2 a ha)
    · obtain ⟨j, hj, ej⟩ := h2
      refine z2 a h1 ⟨j, List.mem_cons_of_mem _ hj, ej⟩ fun hm => ?_
      rcases List.mem_append.mp hm with hm | hm
      · have e0 := hl.2 a (sG.subset hm)
        rw [ej] at e0
        have e0 : j = Θ.length := Id.tmp.inj e0
        have := ownIx_ge (n := Θ.length + 1) (as := as) _ hj
        omega
      · exact h3 hm
    · subst e
      exact dE a hb (hl.2 a (sG.subset ha))
    · rcases List.mem_append.mp ha with ha | ha
      · exact .inr ⟨_, List.mem_cons_self, hl.2 a (sG.subset ha)⟩
      · rcases e3 a ha with z | ⟨j, hj, z⟩
        · exact .inl z
        · exact .inr ⟨j, List.mem_cons_of_mem _ hj, z⟩
  | .ino n k :: ps, .ino i as, t :: ts, Θ, θ, d :: ds, v :: vs, h, q, nb, nd, hJ => by
    obtain ⟨rfl, h2, h3, h4, h5⟩ := h
    rw [stack_cons] at q
    have q : TempOk K H ow (ts.reverse ++ (imm :: Θ)) (((.non, .non) :: argT as ds vs).reverse ++ θ) := q
    rw [argT_cons] at q
    have nd' : (i :: as.inos).Nodup := nd
    obtain ⟨n1, n2⟩ := List.nodup_cons.mp nd'
    obtain ⟨E, e1, e2, e3⟩ := args_fp hslot (I := I) (J := J) h5 q (fun i hi => (noBor_cons.mp (nb i hi)).2) n2 (fun j hj => by
      rcases hJ j hj with z | z
      · exact .inl (by simp; omega)
      · exact .inr z)
    obtain ⟨v', hv, G, r, hd, hl⟩ := hslot i _ _ h2 h3
    rw [h4] at hv; cases hv
    have hl : G.Nodup ∧ ∀ a ∈ G, ow a = .slot i := hl
    refine ⟨G ++ E, fun M' Zc hM z1 z2 => ⟨G, E, rfl, r.z (fun o z => ?_), hd, e1 M' Zc hM z1 fun a h1 h2 h3 => ?_⟩, List.nodup_append.mpr ⟨hl.1, e2, fun a ha b hb e => ?_⟩, fun a ha => ?_⟩
    · cases o with
      | none => exact z.elim
      | some a => exact ⟨z1 a z.1 z.2, z.2⟩
    · obtain ⟨j, hj, ej⟩ := h2
      refine z2 a h1 ⟨j, ownIx_mono hj, ej⟩ fun hm => ?_
      rcases List.mem_append.mp hm with hm | hm
      · have e0 := hl.2 a hm
        rw [ej] at e0; cases e0
      · exact h3 hm
    · subst e
      rcases e3 a hb with ⟨j, hj, z⟩ | ⟨j, hj, z⟩
      · rw [hl.2 a ha] at z
        cases z
        exact n1 hj
      · rw [hl.2 a ha] at z; cases z
    · rcases List.mem_append.mp ha with ha | ha
      · exact .inl ⟨i, List.mem_cons_self, hl.2 a ha⟩
      · rcases e3 a ha with ⟨j, hj, z⟩ | z
        · exact .inl ⟨j, List.mem_cons_of_mem _ hj, z⟩
        · exact .inr z
theorem setOuts_ne : ∀ {is : List (Option Nat)} {outs : List D} {ρ : Penv} {j : Nat}, some j ∉ is → (setOuts is outs ρ)[j]? = ρ[j]?
  | [], _, _, _, _ => by simp [setOuts]
  | some _ :: _, [], _, _, _ => by simp [setOuts]
  | none :: _, [], _, _, _ => by simp [setOuts]
  | none :: is, d :: ds, ρ, j, h => by
    unfold setOuts
    exact setOuts_ne (is := is) (outs := ds) fun q => h (List.mem_cons_of_mem _ q)
  | some i :: is, d :: ds, ρ, j, h => by
    unfold setOuts
    rw [setOuts_ne (is := is) (outs := ds) fun q => h (List.mem_cons_of_mem _ q)]
    exact List.getElem?_set_ne fun e => h (by rw [e]; exact List.mem_cons_self)
theorem setOuts_len : ∀ {is : List (Option Nat)} {outs : List D} {ρ : Penv}, (setOuts is outs ρ).length = ρ.length
  | [], _, _ => by simp [setOuts]
  | some _ :: _, [], _ => by simp [setOuts]
  | none :: _, [], _ => by simp [setOuts]
  | none :: is, d :: ds, ρ => by
    unfold setOuts
    exact setOuts_len (is := is) (outs := ds)
  | some i :: is, d :: ds, ρ => by
    unfold setOuts
    rw [setOuts_len (is := is) (outs := ds)]; simp
theorem outs_inos : ∀ {as : As} {i : Nat}, some i ∈ as.outs ↔ i ∈ as.inos
  | .nil, i => by simp [As.outs, As.inos]
  | .val _ as, i => outs_inos (as := as)
  | .own _ as, i => by simp [As.outs, As.inos, outs_inos (as := as)]
  | .ino j as, i => by simp [As.outs, As.inos, outs_inos (as := as)]
theorem outs_list {Zf : Addr → Prop} : ∀ {ps : List PM} {as : As} {ts : List Ty} {ds : List D} {vs : List V} {outs : List D} {F' : Fp} {ρ : Penv}, ArgsAt Γ ρ σ ps as ts ds vs → OutsR K H' Zf ps vs outs F' → as.inos.Nodup →
    ∃ L : List (Nat × Fp), L.map (·.1) = as.inos ∧ (allL L).Sublist F' ∧ ∀ p ∈ L, ∃ n kk d' v', Γ[p.1]? = some (some ⟨.own n, kk⟩) ∧ σ[p.1]? = some (some v') ∧ (setOuts as.outs outs ρ)[p.1]? = some (some d') ∧ Rep K H' (fzP Zf H') (n + 1) d' v' p.2 ∧ d'.dep kk = true
  | [], .nil, [], [], [], [], F', ρ, _, h, _ => ⟨[], rfl, by simp [allL], fun _ h => by simp at h⟩
  | .inn k :: ps, .val _ as, t :: ts, d :: ds, v :: vs, outs, F', ρ, h, q, nd => outs_list (as := as) h.2 q nd
  | .ino n k :: ps, .own _ as, t :: ts, d :: ds, v :: vs, o :: outs, F', ρ, h, q, nd => by
    obtain ⟨F1, F2, rfl, r, hd, q2⟩ := q
    obtain ⟨L, l1, l2, l3⟩ := outs_list (as := as) h.2 q2 nd
    exact ⟨L, l1, l2.trans (List.sublist_append_right _ _), l3⟩
  | .ino n k :: ps, .ino i as, t :: ts, d :: ds, v :: vs, o :: outs, F', ρ, h, q, nd => by
    obtain ⟨rfl, h2, h3, h4, h5⟩ := h
    obtain ⟨F1, F2, rfl, r, hd, q2⟩ := q
    have nd' : (i :: as.inos).Nodup := nd
    obtain ⟨n1, n2⟩ := List.nodup_cons.mp nd'
    have h5' : ArgsAt Γ (ρ.set i (some o)) σ ps as ts ds vs := h5.ext fun j hj => ⟨rfl, List.getElem?_set_ne fun e => n1 (by rw [e]; exact hj)⟩
    obtain ⟨L, l1, l2, l3⟩ := outs_list h5' q2 n2
    refine ⟨(i, F1) :: L, ?_, by simpa [allL] using l2, fun p hp => ?_⟩
    · show i :: L.map (·.1) = i :: as.inos
      rw [l1]
    rcases List.mem_cons.mp hp with rfl | hp
    · refine ⟨n, k, o, v, h2, h4, ?_, r, hd⟩
      show (setOuts as.outs outs (ρ.set i (some o)))[i]? = _
      rw [setOuts_ne (fun z => n1 (outs_inos.mp z))]
      exact List.getElem?_set_self (List.getElem?_eq_some_iff.mp h3).1
    · exact l3 p hp
  | [], .nil, [], [], [], _ :: _, _, _, _, h, _ => h.elim
  | .ino _ k :: ps, .ino i as, t :: ts, d :: ds, v :: vs, [], _, _, _, h, _ => h.elim
  | .ino _ k :: ps, .own i as, t :: ts, d :: ds, v :: vs, [], _, _, _, h, _ => h.elim
end
theorem rd_call (F : Facts P w K mg base A C G kk XR) {Ex : XK} {f : Nat} {as : As} {s : Sig} {t : TA} (hs : G.sig f = some s) (r : RdAs K C G XR Ex as t) : RdE K C G XR Ex (.call f as) (tCall (spOf K XR s (C.spec f)) [] Ex t) := by
  intro H0 M Γ Θ ty Γ' ρ σ θ H Kk Xk Q ht R he hx hq
  unfold tyE at ht
  rw [hs] at ht
  simp only at ht
  split at ht <;> try (cases ht; done)
  rename_i ts Γ1 ht1
  cases ht
  unfold evalE at he
  refine r s.ps _ _ _ _ _ _ _ _ _ _ _ _ _ ht1 R he hx fun ds ρ1 vs H1 at1 nd nb R1 hk => ?_
  obtain ⟨ow, R1'⟩ := id R1
  obtain ⟨E, e1, e2, e3⟩ := args_fp R1'.slot (I := as.inos) (J := ownIx Θ.length as) at1 R1'.temp (fun i hi => (nb i hi).1) nd (fun j hj => .inr hj)
  rw [List.append_nil]
  have zl : ts.reverse.length = ((argT as ds vs).reverse).length := by simp [at1.lens]
  have tch : ∀ a ∈ E, touch as.inos Θ.length (ow a) := fun a ha => by
    rcases e3 a ha with ⟨i, hi, z⟩ | ⟨j, hj, z⟩
    · rw [z]; exact hi
    · rw [z]; exact ownIx_ge j hj
  obtain ⟨Zc, hZc⟩ : ∃ Zc : Addr → Prop, Zc = fun a => H1 a ≠ none ∧ a ∉ E ∧ (ow a = .frz ∨ ∃ j ∈ ownIx Θ.length as, ow a = .tmp j) := ⟨_, rfl⟩
  have nE : ∀ a ∈ E, ow a ≠ .frz := fun a ha z => by have := touch_hot (tch a ha); rw [z] at this; cases this
  refine ⟨ds, _, E, Zc, hk, e1 E Zc e3 (fun a h1 h2 => by rw [hZc]; exact ⟨h2, fun hm => nE a hm h1, .inl h1⟩) (fun a h1 h2 h3 => by rw [hZc]; exact ⟨h1, h3, .inr h2⟩), e2, fun a ha z => by rw [hZc] at z; exact z.2.1 ha, fun d outs hk v H' Fr F' Zf post => ?_, fun x hk c o H' hext hxr => ?_⟩
  rotate_left
  · have hk : Xk x ρ1 := hk
    refine hx x ρ1 c o H' ?_ hk hxr
    refine ⟨fun a h m => ?_, fun a h => hext.there a (R1'.ext.there a h)⟩
    rw [hext.keep a (R1'.ext.there a h) fun z => ?_]
    · exact R1'.ext.keep a h m
    · rcases R1'.hm a (touch_hot (tch a z)) with q | q
      · exact m q
      · exact h q
  · have hk : Kk d (setOuts as.outs outs ρ1) := hk
    obtain ⟨L, l1, l2, l3⟩ := outs_list at1 post.outs nd
    have oldL : ∀ a ∈ allL L, H1 a = none ∨ touch as.inos Θ.length (ow a) := fun a ha => by
      rcases post.old a (l2.subset ha) with z | z
      · exact .inr (tch a z)
      · exact .inl z
    have zo : ∀ {pp : Perm} o, fzP Zf H' o → zT H1 H' as.inos Θ.length Fr L ow pp o := fun {pp} o z => by
      cases o with
      | none => exact z.elim
      | some a =>
        obtain ⟨z1, z2⟩ := z
        obtain ⟨g1, g2, g3⟩ := post.zf a z1 z2
        refine .inl ⟨z2, g2, fun h => g3 (l2.subset h), ?_⟩
        rcases g1 with g1 | g1 | g1
        · exact .inr (.inl (tch a g1))
        · exact .inr (.inr g1)
        · rw [hZc] at g1
          rcases g1.2.2 with g | ⟨j, hj, e⟩
          · exact .inl g
          · exact .inr (.inl (by rw [e]; exact ownIx_ge j hj))
    have dT : d.dep (mkT s.p s.k).k = true := depT post.dep
    refine hq d _ v H' ⟨_, R1'.tr zl (is := as.inos) (L := L) (Fr := Fr) (Γ' := Γ') (ρ' := setOuts as.outs outs ρ1) (σ' := σ)
      (fun i hi => (nb i hi).2) (fun p hp => by rw [← l1]; exact List.mem_map.mpr ⟨p, hp, rfl⟩) (post.ext.mono tch) (post.nd.sublist ((List.Sublist.refl _).append l2)) (fun a ha => by
        rcases post.new a ha with z | z
        · exact .inr (tch a z)
        · exact .inl z) oldL (post.rep.z zo) dT post.own rfl setOuts_len rfl (fun i hi ty' hty => ?_) (fun a ha => ?_) fun i hi => ⟨rfl, setOuts_ne (fun z => hi (outs_inos.mp z)), rfl⟩⟩ hk
    · rw [← l1] at hi
      obtain ⟨p, hp, rfl⟩ := List.mem_map.mp hi
      obtain ⟨n, kk', d', v', g1, g2, g3, g4, g5⟩ := l3 p hp
      rw [g1] at hty
      cases hty
      refine ⟨rfl, fun d2 h2 => ?_⟩
      rw [g3] at h2
      cases h2
      exact ⟨v', p.2, g2, g4.z zo, g5, .inr ⟨hp, rfl⟩⟩
    · obtain ⟨p, hp, hap⟩ := mem_allL.mp ha
      obtain ⟨n, kk', d', v', _, _, _, g4, _⟩ := l3 p hp
      exact g4.mut a hap
theorem se_call (F : Facts P w K mg base A C G kk XR) {f : Nat} {as : As} (h : SAs P w K mg base A C G kk XR as) : SE P w K mg base A C G kk XR (.call f as) := fun Ex sc pe hm => by
  unfold mtE at hm
  split at hm <;> first | exact absurd hm Bool.false_ne_true | skip
  all_goals first | (rename_i h; cases h; done) | skip
  rename_i x p e es pos h'
  injection h' with g1 g2
  subst g1 g2
  simp only [Bool.and_eq_true, beq_iff_eq] at hm
  obtain ⟨⟨⟨n1, n2⟩, n3⟩, hm⟩ := hm
  simp only [nomg, Bool.and_eq_true, beq_iff_eq] at n3
  obtain ⟨ns, t, pr, rd⟩ := h Ex sc (e :: es) hm
  cases hs : G.sig f with
  | none =>
    refine ⟨fun _ _ _ => False, fun X g => ⟨fun _ _ _ _ _ _ h => h.elim⟩, ?_⟩
    intro H0 M Γ Θ ty Γ' ρ σ θ H Kk Xk Q ht
    unfold tyE at ht
    rw [hs] at ht
    cases ht
  | some s =>
    obtain ⟨addr, fd, ps, f1, f2, f3, f4⟩ := F.calls f s x hs n1
    refine ⟨_, fun X g => ?_, rd_call F hs rd⟩
    obtain ⟨e1, e2, e3, e4, e5⟩ := (⟨g.prog, g.wld, g.eK, g.emg, g.ebase⟩ : X.prog = P ∧ X.w = w ∧ X.K = K ∧ X.mg = mg ∧ X.base = base)
    have f4' : FnOk X.prog X.w X.K X.mg X.base (L2.CX P w) kk addr fd ps (spOf K XR s (C.spec f)) := by rw [e1, e2, e3, e4, e5]; exact f4
    exact pe_call f4' g.room (g.gl n2) (by rw [e4]; exact f1) (by rw [e3]; exact f2) (by rw [e3]; exact f3) .nil g.pass (pr X g) n3.1 (star_cons (ns e List.mem_cons_self)) (star_any (fun q hq => ns q (List.mem_cons_of_mem _ hq)) _)
end Pm

namespace Pm
open PySem PySem.Spec PyProof.Rows L2
variable [W : Wd] {P : Program} {w : World} {K : PySem.W.Frag} {mg : Str → Option Value} {base : Heap} {A : Code} {C : Ctx} {G : TC} {kk : Nat} {XR : XRel}

/-! ### what is walked -/
/-- a list, a tuple, a text -/
def iAny (K : PySem.W.Frag) (w : World) (tl : TE) : TI := fun σ H R => tl σ H fun x H1 => (∃ a, x = .ref a ∧ (∃ xs, SqL K H1 a xs) ∧ R (Itl K a) H1) ∨ (∃ a, x = .ref a ∧ (∃ xs, SqT K H1 a xs) ∧ R (Itt K a) H1) ∨ (∃ z, x = .str z ∧ R (Its z) H1) ∨
  ∃ a ep ns ks vs es, x = .ref a ∧ DicV K H1 w a ep ns ks vs es ∧ R (Itd K w a ep es.length) H1
theorem pi_any {X : Cx} {tg l : Expr} {tl : TE} (hl : PE X l tl) : PI X tg l (iAny X.K X.w tl) := by
  refine ⟨fun pins s σ H R I h => ?_⟩
  refine thn (hl.run pins s σ H _ I h) fun v s1 ⟨x, H1, I1, r1, q1⟩ => ?_
  rcases q1 with ⟨a, e, ⟨xs, hq⟩, q⟩ | ⟨a, e, ⟨xs, hq⟩, q⟩ | ⟨z, e, q⟩ | ⟨a, ep, ns, ks, vs, es, e, dv, q⟩
  · subst e
    cases r1
    obtain ⟨its, rv, p, hz⟩ := I1.list hq
    refine wpAny_pyIter_list p.isList ?_
    refine ⟨s1.heap.objs.size, [s1.heap.objs.size], _, _, H1, rfl, I1.kept (t' := s1.toks) fun b o e => Heap.get?_push_of_some _ e, turn_list a _, ⟨_, Heap.get?_push_size _ rfl, rfl, rfl⟩, fun b hb => ?_, q⟩
    have e : b = s1.heap.objs.size := by simpa using hb
    subst e
    exact I1.fpOk (Nat.le_refl _) (I1.hok.fresh (Nat.le_refl _))
  · subst e
    cases r1
    obtain ⟨its, rv, p, hz⟩ := I1.tuple hq
    refine wpAny_pyIter_tuple (show s1.heap.IsTuple a its.toArray from p) ?_
    refine ⟨s1.heap.objs.size, [s1.heap.objs.size], _, _, H1, rfl, I1.kept (t' := s1.toks) fun b o e => Heap.get?_push_of_some _ e, turn_tuple a _, ⟨_, Heap.get?_push_size _ rfl, rfl, rfl⟩, fun b hb => ?_, q⟩
    have e : b = s1.heap.objs.size := by simpa using hb
    subst e
    exact I1.fpOk (Nat.le_refl _) (I1.hok.fresh (Nat.le_refl _))
  · subst e
    obtain ⟨t, rfl⟩ := r1
    cases ha : z.cps.all (· < 128)
    · exact wpAny_pyIter_wide ha (pi_one (tk := s1.toks) I1 _ (turn_str _ z t "str_iterator" (.inr rfl)) ⟨_, Heap.get?_push_size _ rfl, rfl, rfl⟩ q)
    · exact wpAny_pyIter_ascii ha (pi_one (tk := s1.toks) I1 _ (turn_str _ z t "str_ascii_iterator" (.inl rfl)) ⟨_, Heap.get?_push_size _ rfl, rfl, rfl⟩ q)
  · subst e
    cases r1
    refine wpAny_pyIter_dict_raw dv.sys (dv.raw I1).dict ?_
    refine ⟨s1.heap.objs.size, [s1.heap.objs.size], _, _, H1, rfl, I1.kept (t' := s1.toks) fun b o e => Heap.get?_push_of_some _ e, turn_dict a _ ep es.length, ⟨_, Heap.get?_push_size _ rfl, rfl, by simp⟩, fun b hb => ?_, q⟩
    have e : b = s1.heap.objs.size := by simpa using hb
    subst e
    exact I1.fpOk (Nat.le_refl _) (I1.hok.fresh (Nat.le_refl _))

def WalkOk (K : PySem.W.Frag) (us : List Ty) (θs : List (D × V)) (u : Ty) (xs : List D) (J : L2.It) : Prop :=
  ∀ H0 M Γ ρ σ Θa θa Θ θ H i, Θa.length = θa.length → Rel K H0 M Γ ρ σ (Θa ++ (us ++ Θ)) (θa ++ (θs ++ θ)) H →
    (∀ d, xs[i]? = some d → J.go i H ∧ ∀ x H', J.yld i H x H' → Rel K H0 M Γ ρ σ (u :: (Θa ++ (us ++ Θ))) ((d, x) :: (θa ++ (θs ++ θ))) H') ∧ (xs.length = i → J.stop i H)
def RdIt (K : PySem.W.Frag) (C : Ctx) (G : TC) (XR : XRel) (Ex : XK) (it : Pm.It) (t : TI) : Prop := ∀ H0 M Γ Θ us u Γ' ρ σ θ H (Kk : List D → Penv → Prop) (Xk : Exc → Penv → Prop) (R : L2.It → Hp → Prop), tyIt G Γ Θ it = some (us, u, Γ') → Rel K H0 M Γ ρ σ Θ θ H → evalIt C it ρ Kk Xk → ExcOk XR Ex M H0 Xk →
  (∀ xs ρ' (J : L2.It) H' θs, us.length = θs.length → Rel K H0 M Γ' ρ' σ (us ++ Θ) (θs ++ θ) H' → WalkOk K us θs u xs J → Kk xs ρ' → R J H') → t σ H R
def SIt (P : Program) (w : World) (K : PySem.W.Frag) (mg : Str → Option Value) (base : Heap) (A : Code) (C : Ctx) (G : TC) (kk : Nat) (XR : XRel) (it : Pm.It) : Prop :=
  ∀ Ex sc tg pe, mtIt A sc it tg pe = true → ∃ t : TI, (∀ X, Good P w K mg base A kk Ex sc X → PI X tg pe t ∧ ∀ x, foldedSetIterable pe X.env x = pure x) ∧ RdIt K C G XR Ex it t
theorem TempOk.mid {H : Hp} {ow : Addr → Id} {Θa : List Ty} {θa : List (D × V)} {ty : Ty} {p : D × V} {Θ : List Ty} {θ : List (D × V)} (h : TempOk K H ow (Θa ++ ([ty] ++ Θ)) (θa ++ ([p] ++ θ))) (e : Θa.length = θa.length) : EntOk K H ow (.tmp Θ.length) ty p.1 p.2 :=
  TempOk.at (d := p.1) (v := p.2) h e
theorem walk_list {t r : Ty} {ds : List D} {a : Addr} (hk : t.k ≠ 0) (hr : t.item = some r) (hi : r.p.inSlot = true) : WalkOk K [t] [(.lst ds, .ref a)] r ds (Itl K a) := by
  intro H0 M Γ ρ σ Θa θa Θ θ H i hl R
  obtain ⟨ow, R⟩ := id R
  obtain ⟨F, rp, hd, hL⟩ := R.temp.mid hl
  have rp : Rep K H (zOf ow H t.p) t.p.lv (.lst ds) (.ref a) F := rp
  obtain ⟨a', vs, E, e, s, rs, hE⟩ := rp.lst_inv2
  cases e
  have hd' : D.deps (t.k - 1) ds = true := by
    have hd : D.dep t.k (.lst ds) = true := hd
    cases e : t.k with
    | zero => exact absurd e hk
    | succ k => rw [e] at hd; simpa [D.dep] using hd
  refine ⟨fun d hd1 => ?_, fun hle0 => have hle := Nat.le_of_eq hle0; ⟨vs, s, by rw [← rs.len]; exact hle⟩⟩
  obtain ⟨v, E', e1, rv, hE'⟩ := rs.get hd1
  refine ⟨⟨vs, v, s, e1⟩, fun x H' y => ?_⟩
  obtain ⟨rfl, y⟩ := y
  have ex : x = v := Option.some.inj ((y _ s).symm.trans e1)
  subst ex
  exact R.itemR (Θs := []) (θs := []) (id := .tmp Θ.length) rfl rv (fun z hz => hE z (hE'.subset hz)) hL (deps_get hd' hd1) hr
theorem walk_dic {t r : Ty} {ep : Nat} {ks vs : List D} {a : Addr} (hr : t.item = some r) : WalkOk K [t] [(.dic ep ks vs, .ref a)] r ks (Itd K W.w a ep ks.length) := by
  intro H0 M Γ ρ σ Θa θa Θ θ H i hl R
  obtain ⟨ow, R⟩ := id R
  obtain ⟨F, rp, hd, hL⟩ := R.temp.mid hl
  have rp : Rep K H (zOf ow H t.p) t.p.lv (.dic ep ks vs) (.ref a) F := rp
  obtain ⟨a', es, kv, vv, G', e, ha, o, dk, rk, rv, hG⟩ := rp.dic_inv
  cases e
  obtain ⟨ns, e1, dv, _, _⟩ := dicV_of ha o rk
  obtain ⟨l1, l2, _⟩ := dv.ents.len
  have l3 := rk.len
  refine ⟨fun d hd1 => ?_, fun hle0 => ⟨ns, kv, vv, es, dv, by omega, by omega⟩⟩
  obtain ⟨v, E', g1, rv', hE'⟩ := rk.get hd1
  refine ⟨⟨ns, kv, vv, es, v, dv, by omega, g1⟩, fun x H' y => ?_⟩
  obtain ⟨rfl, y⟩ := y
  have ex : x = v := Option.some.inj ((y _ _ _ _ dv).symm.trans g1)
  subst ex
  have d0 := deps_get dk hd1
  exact R.itemR (Θs := []) (θs := []) (id := .tmp Θ.length) rfl (rv'.imm (zOf ow H' t.p) (t.p.lv - 1) d0).2 (fun z hz => by simp at hz) hL (D.dep_mono (Nat.zero_le _) _ d0) hr
theorem walk_tup {t r : Ty} {ds : List D} {a : Addr} (hr : t.part = some r) : WalkOk K [t] [(.tup ds, .ref a)] r ds (Itt K a) := by
  intro H0 M Γ ρ σ Θa θa Θ θ H i hl R
  obtain ⟨ow, R⟩ := id R
  obtain ⟨F, rp, hd, hL⟩ := R.temp.mid hl
  have rp : Rep K H (zOf ow H t.p) t.p.lv (.tup ds) (.ref a) F := rp
  obtain ⟨a', vs, e, s, rs⟩ := rp.tup_inv
  cases e
  have hd' : D.deps t.k ds = true := by
    have hd : D.dep t.k (.tup ds) = true := hd
    rwa [dep_tup] at hd
  refine ⟨fun d hd1 => ?_, fun hle0 => have hle := Nat.le_of_eq hle0; ⟨vs, s, by rw [← rs.len]; exact hle⟩⟩
  obtain ⟨v, E', e1, rv, hE'⟩ := rs.get hd1
  refine ⟨⟨vs, v, s, e1⟩, fun x H' y => ?_⟩
  obtain ⟨rfl, y⟩ := y
  have ex : x = v := Option.some.inj ((y _ s).symm.trans e1)
  subst ex
  exact R.partR (Θs := []) (θs := []) (id := .tmp Θ.length) rfl rv (fun z hz => hE'.subset hz) hL (deps_get hd' hd1) hr
theorem walk_tup0 {t r : Ty} {ds : List D} {a : Addr} (d0 : D.deps 0 ds = true) (hr : t.item = some r) : WalkOk K [t] [(.tup ds, .ref a)] r ds (Itt K a) := by
  intro H0 M Γ ρ σ Θa θa Θ θ H i hl R
  obtain ⟨ow, R⟩ := id R
  obtain ⟨F, rp, hd, hL⟩ := R.temp.mid hl
  have rp : Rep K H (zOf ow H t.p) t.p.lv (.tup ds) (.ref a) F := rp
  obtain ⟨a', vs, e, s, rs⟩ := rp.tup_inv
  cases e
  refine ⟨fun d hd1 => ?_, fun hle0 => have hle := Nat.le_of_eq hle0; ⟨vs, s, by rw [← rs.len]; exact hle⟩⟩
  obtain ⟨v, E', e1, rv, hE'⟩ := rs.get hd1
  refine ⟨⟨vs, v, s, e1⟩, fun x H' y => ?_⟩
  obtain ⟨rfl, y⟩ := y
  have ex : x = v := Option.some.inj ((y _ s).symm.trans e1)
  subst ex
  have q0 := deps_get d0 hd1
  exact R.itemR (Θs := []) (θs := []) (id := .tmp Θ.length) rfl (rv.imm (zOf ow H' t.p) (t.p.lv - 1) q0).2 (fun z hz => by simp at hz) hL (D.dep_mono (Nat.zero_le _) _ q0) hr
theorem walk_str {t r : Ty} {s : List Nat} (hr : r = imm ∨ (r.k ≠ 0 ∧ t.part = some r)) : WalkOk K [t] [(.str s, .str (toStr s))] r (s.map fun c => .str [c]) (Its (toStr s)) := by
  intro H0 M Γ ρ σ Θa θa Θ θ H i hl R
  obtain ⟨ow, R⟩ := id R
  obtain ⟨F, rp, hd, hL⟩ := R.temp.mid hl
  have rp : Rep K H (zOf ow H t.p) t.p.lv (.str s) (.str (toStr s)) F := rp
  obtain ⟨_, hc⟩ := rp.str_inv
  have sz : (toStr s).cps.size = s.length := by simp [toStr]
  refine ⟨fun d hd1 => ?_, fun hle0 => have hle := Nat.le_of_eq hle0; by show (toStr s).cps.size ≤ i; rw [sz]; simpa using hle⟩
  rw [List.getElem?_map] at hd1
  cases e : s[i]? with
  | none => rw [e] at hd1; cases hd1
  | some c =>
    rw [e] at hd1
    cases hd1
    refine ⟨?_, fun x H' y => ?_⟩
    · show i < (toStr s).cps.size
      rw [sz]; exact (List.getElem?_eq_some_iff.mp e).1
    · obtain ⟨rfl, c', e1, rfl⟩ := y
      have : c' = c := by
        have h2 : (toStr s).cps[i]? = s[i]? := by simp [toStr]
        rw [h2, e] at e1; exact (Option.some.inj e1).symm
      subst this
      have hcc : ∀ c ∈ [c'], c < 0x110000 := fun c hc' => by simp at hc'; subst hc'; exact hc _ (List.mem_of_getElem? e)
      rcases hr with rfl | ⟨_, hr⟩
      · exact Rel.immV ⟨ow, R⟩ (.str [c'] hcc) (by simp [D.dep])
      · exact R.partR (Θs := []) (θs := []) (id := .tmp Θ.length) (F := F) (E := []) rfl (.str [c'] hcc) (fun z hz => by cases hz) hL (by simp [D.dep]) hr
theorem walk_rng {lo : Int} {n : Nat} : WalkOk K [] [] imm ((List.range n).map fun (i : Nat) => .int (lo + (i : Int))) (Itr lo n) := by
  intro H0 M Γ ρ σ Θa θa Θ θ H i hl R
  refine ⟨fun d hd1 => ?_, fun hle0 => have hle := Nat.le_of_eq hle0; by show n ≤ i; simpa using hle⟩
  rw [List.getElem?_map] at hd1
  by_cases hi : i < n
  · rw [List.getElem?_range hi] at hd1
    cases hd1
    refine ⟨hi, fun x H' y => ?_⟩
    obtain ⟨rfl, rfl⟩ := y
    exact R.immV (.int _) (by simp [D.dep])
  · rw [List.getElem?_eq_none (by simpa using hi)] at hd1
    cases hd1
theorem ihead {X : Cx} {tg e : Expr} {t : TI} (h : PI X tg e t) (hs : notSet e = true) : PI X tg e t ∧ ∀ x, foldedSetIterable e X.env x = pure x := ⟨h, fun x => by
  unfold foldedSetIterable
  cases e <;> first | rfl | cases hs⟩
theorem sit_val {l : Bool} {e : E} (h : SE P w K mg base A C G kk XR e) : SIt P w K mg base A C G kk XR (.val l e) := fun Ex sc tg pe hm => by
  have hm : (mtE A sc e pe && notSet pe) = true := hm
  rw [Bool.and_eq_true] at hm
  obtain ⟨t, p, r⟩ := h Ex sc pe hm.1
  refine ⟨iAny K W.w t, fun X g => ihead (by rw [← g.eK, ← g.wd]; exact pi_any (p X g)) hm.2, ?_⟩
  intro H0 M Γ Θ us u Γ' ρ σ θ H Kk Xk R ht Rl he hx hq
  unfold tyIt at ht
  split at ht <;> try (cases ht; done)
  rename_i t0 Γ1 ht1
  unfold evalIt at he
  split at ht <;> try (cases ht; done)
  rename_i u0 hu0
  split at ht <;> try (cases ht; done)
  rename_i hsl
  cases ht
  refine r _ _ _ _ _ _ _ _ _ _ _ _ _ ht1 Rl he hx fun d ρ1 v H1 R1 hk => ?_
  have R1 := R1.rd
  have rk : t0.rd.k = t0.k := by unfold Ty.rd; split <;> rfl
  clear ht1
  cases l with
  | true =>
    simp only [if_true] at hu0
    split at hu0 <;> try (cases hu0; done)
    rename_i h0
    rw [← rk] at h0
    generalize t0.rd = t0 at *
    have hc : (∃ ds, d = .tup ds ∧ D.deps 0 ds = true ∧ Kk ds ρ1) ∨ (∃ ds, d = .lst ds ∧ Kk ds ρ1) ∨ ∃ ep ks vs, d = .dic ep ks vs ∧ Kk ks ρ1 := by
      cases d with
      | lst ds => exact .inr (.inl ⟨_, rfl, hk⟩)
      | dic ep ks vs => exact .inr (.inr ⟨_, _, _, rfl, hk⟩)
      | tup xs =>
        by_cases h0 : D.deps 0 xs = true
        · refine .inl ⟨_, rfl, h0, ?_⟩
          have e : D.items true (.tup xs) = some xs := if_pos h0
          rw [e] at hk
          exact hk
        · have e : D.items true (.tup xs) = none := if_neg h0
          rw [e] at hk
          exact hk.elim
      | _ => exact hk.elim
    clear hk
    rcases hc with ⟨ds, rfl, hd0, hk⟩ | ⟨ds, rfl, hk⟩ | ⟨ep, ks, vs, rfl, hk⟩
    · obtain ⟨a, vs, ev, s, _⟩ := R1.len1.1.tup_inv
      have ev : v = .ref a := ev
      subst ev
      exact .inr (.inl ⟨a, rfl, ⟨vs, s⟩, hq ds ρ1 _ H1 [(.tup ds, .ref a)] rfl R1 (walk_tup0 hd0 hu0) hk⟩)
    · obtain ⟨a, vs, ev, s, _⟩ := R1.len1.1.lst_inv
      have ev : v = .ref a := ev
      subst ev
      exact .inl ⟨a, rfl, ⟨vs, s⟩, hq ds ρ1 _ H1 [(.lst ds, .ref a)] rfl R1 (walk_list h0 hu0 hsl) hk⟩
    · obtain ⟨ow, R1'⟩ := id R1
      obtain ⟨F, rp, _⟩ := R1'.temp.mid (Θa := []) (θa := []) rfl
      obtain ⟨a, es, kv, vv, G', e, ha, o, dk, rk, rv, hG⟩ := Rep.dic_inv rp
      have ev : v = .ref a := e
      subst ev
      obtain ⟨ns, e1, dv, _, _⟩ := dicV_of ha o rk
      obtain ⟨l1, l2, _⟩ := dv.ents.len
      have l3 := rk.len
      refine .inr (.inr (.inr ⟨a, ep, ns, kv, vv, es, rfl, dv, ?_⟩))
      rw [show es.length = ks.length by omega]
      exact hq ks ρ1 _ H1 [(.dic ep ks vs, .ref a)] rfl R1 (walk_dic hu0) hk
  | false =>
    simp only [Bool.false_eq_true, if_false] at hu0
    generalize t0.rd = t0 at *
    have hc : (∃ ds, d = .tup ds ∧ Kk ds ρ1) ∨ ∃ s, d = .str s ∧ Kk (s.map fun c => .str [c]) ρ1 := by
      cases d <;> first | exact .inl ⟨_, rfl, hk⟩ | exact .inr ⟨_, rfl, hk⟩ | exact hk.elim
    clear hk
    rcases hc with ⟨ds, rfl, hk⟩ | ⟨s, rfl, hk⟩
    · obtain ⟨a, vs, ev, s, _⟩ := R1.len1.1.tup_inv
      have ev : v = .ref a := ev
      subst ev
      exact .inr (.inl ⟨a, rfl, ⟨vs, s⟩, hq ds ρ1 _ H1 [(.tup ds, .ref a)] rfl R1 (walk_tup hu0) hk⟩)
    · obtain ⟨ev, _⟩ := R1.len1.1.str_inv
      have ev : v = .str (toStr s) := ev
      subst ev
      refine .inr (.inr (.inl ⟨_, rfl, hq _ ρ1 _ H1 [(.str s, .str (toStr s))] rfl R1 (walk_str ?_) hk⟩))
      by_cases h0 : t0.k = 0
      · unfold Ty.part at hu0
        rw [if_pos h0] at hu0
        cases hu0; exact .inl rfl
      · right
        refine ⟨?_, hu0⟩
        unfold Ty.part at hu0
        rw [if_neg h0] at hu0
        split at hu0 <;> first | (cases hu0; done) | (cases hu0; exact h0)
theorem sit_low {i : Nat} {it : Pm.It} (h : SIt P w K mg base A C G kk XR it) : SIt P w K mg base A C G kk XR (.low i it) := fun Ex sc tg pe hm => by
  have hm : mtIt A sc it tg pe = true := by unfold mtIt at hm; exact hm
  obtain ⟨t, p, r⟩ := h Ex sc tg pe hm
  refine ⟨t, p, ?_⟩
  intro H0 M Γ Θ us u Γ' ρ σ θ H Kk Xk R ht Rl he hx hq
  unfold tyIt at ht
  split at ht <;> try (cases ht; done)
  rename_i us1 u1 Γ1 ht1
  split at ht <;> try (cases ht; done)
  rename_i t0 hi
  split at ht <;> try (cases ht; done)
  rename_i n hp
  cases ht
  unfold evalIt at he
  refine r _ _ _ _ _ _ _ _ _ _ _ _ _ _ ht1 Rl he hx fun xs ρ' J H' θs hl R1 W hk => hq xs ρ' J H' θs hl ?_ W hk
  obtain ⟨ow, R1⟩ := R1
  obtain ⟨p0, k0⟩ := t0
  cases hp
  by_cases hd : ∃ d, ρ'[i]? = some (some d)
  · obtain ⟨d, hd⟩ := hd
    obtain ⟨S, R2⟩ := R1.lower hi hd (Nat.le_refl _) (p := .own 0) (.inl ⟨0, rfl, by simp [lowOk]⟩)
    exact ⟨_, R2⟩
  · have hlt := (List.getElem?_eq_some_iff.mp hi).1
    refine ⟨ow, { lρ := by rw [List.length_set]; exact R1.lρ, lσ := by rw [List.length_set]; exact R1.lσ, nb := fun j ty e => ?_, slot := fun j ty d e1 e2 => ?_, temp := R1.temp, ext := R1.ext, mt := R1.mt, hm := R1.hm, old := R1.old, hiT := R1.hiT }⟩
    · by_cases e' : i = j
      · subst e'
        rw [List.getElem?_set_self hlt] at e; cases e; rfl
      · rw [List.getElem?_set_ne e'] at e; exact R1.nb j ty e
    · by_cases e' : i = j
      · subst e'; exact absurd ⟨d, e2⟩ hd
      · rw [List.getElem?_set_ne e'] at e1; exact R1.slot j ty d e1 e2
def Es.len : Es → Nat | .nil => 0 | .cons _ es => es.len + 1
theorem tyEs_len : ∀ {es : Es} {Γ Γ' : List STy} {Θ ts : List Ty}, tyEs G Γ Θ es = some (ts, Γ') → ts.length = es.len
  | .nil, _, _, _, _, h => by unfold tyEs at h; cases h; rfl
  | .cons e es, _, _, _, _, h => by
    unfold tyEs at h
    split at h <;> try (cases h; done)
    split at h <;> try (cases h; done)
    rename_i h2
    cases h
    simp [tyEs_len h2, Es.len]
theorem mtEs_len {sc : Scope} : ∀ {es : Es} {xs : List Expr}, mtEs A sc es xs = true → es.len = xs.length
  | .nil, [], _ => rfl
  | .cons e es, x :: xs, h => by
    have h : (mtE A sc e x && mtEs A sc es xs) = true := h
    rw [Bool.and_eq_true] at h
    simp [Es.len, mtEs_len h.2]
  | .nil, _ :: _, h => absurd h Bool.false_ne_true
  | .cons _ _, [], h => absurd h Bool.false_ne_true
theorem sit_rng (F : Facts P w K mg base A C G kk XR) {es : Es} (h : SEs P w K mg base A C G kk XR es) : SIt P w K mg base A C G kk XR (.rng es) := fun Ex sc tg pe hm => by
  unfold mtIt at hm
  split at hm <;> first | exact absurd hm Bool.false_ne_true | skip
  all_goals first | (rename_i h; cases h; done) | skip
  rename_i x p xs pos h'
  injection h' with g1
  subst g1
  simp only [Bool.and_eq_true, beq_iff_eq] at hm
  obtain ⟨⟨⟨e1, hg⟩, hl⟩, m2⟩ := hm
  subst e1
  obtain ⟨ns, t, pr, rd⟩ := h Ex sc xs m2
  have rng : ∀ {H0 M Γ Θ us u Γ' ρ σ θ H} {Kk : List D → Penv → Prop} {Xk : Exc → Penv → Prop} {R : L2.It → Hp → Prop} {Q : List V → Hp → Prop}, tyIt G Γ Θ (.rng es) = some (us, u, Γ') → Rel K H0 M Γ ρ σ Θ θ H → evalIt C (.rng es) ρ Kk Xk → ExcOk XR Ex M H0 Xk →
      (∀ xs ρ' (J : L2.It) H' θs, us.length = θs.length → Rel K H0 M Γ' ρ' σ (us ++ Θ) (θs ++ θ) H' → WalkOk K us θs u xs J → Kk xs ρ' → R J H') →
      (es.len = 1 → ∀ (j : Int) H1, -(2 ^ 62) ≤ j → j < 2 ^ 62 → R (Itr 0 j.toNat) H1 → Q [.int j] H1) → (es.len = 2 → ∀ (i j : Int) H1, (-(2 ^ 62) ≤ i ∧ i < 2 ^ 62 ∧ -(2 ^ 62) ≤ j ∧ j < 2 ^ 62) → R (Itr i (j - i).toNat) H1 → Q [.int i, .int j] H1) →
      t σ H Q := by
    intro H0 M Γ Θ us u Γ' ρ σ θ H Kk Xk R Q ht Rl he hx hq hq1 hq2
    unfold tyIt at ht
    split at ht <;> try (cases ht; done)
    rename_i ts Γ1 ht1
    split at ht <;> try (cases ht; done)
    cases ht
    have hlen := tyEs_len ht1
    unfold evalIt at he
    refine rd _ _ _ _ _ _ _ _ _ _ _ _ _ ht1 Rl he hx fun ds ρ1 vs H1 l1 l2 R1 hk => ?_
    obtain ⟨ow, R1'⟩ := id R1
    obtain ⟨rr, _⟩ := R1'.temp.reps l1 l2
    have R2 := R1.drop (zlen l1 l2)
    have hc : (∃ j, ds = [.int j] ∧ -(2 ^ 62) ≤ j ∧ j < 2 ^ 62 ∧ Kk ((List.range j.toNat).map fun (i : Nat) => .int (i : Int)) ρ1) ∨
        ∃ i j, ds = [.int i, .int j] ∧ (-(2 ^ 62) ≤ i ∧ i < 2 ^ 62 ∧ -(2 ^ 62) ≤ j ∧ j < 2 ^ 62) ∧ Kk ((List.range (j - i).toNat).map fun (t : Nat) => .int (i + (t : Int))) ρ1 := by
      rcases ds with _ | ⟨d, _ | ⟨e, _ | ⟨f, ds⟩⟩⟩
      · exact hk.elim
      · cases d <;> first | exact .inl ⟨_, rfl, hk⟩ | exact hk.elim
      · cases d <;> cases e <;> first | exact .inr ⟨_, _, rfl, hk⟩ | exact hk.elim
      · cases d <;> cases e <;> exact hk.elim
    rcases hc with ⟨j, rfl, b1, b2, hk⟩ | ⟨i, j, rfl, b, hk⟩
    · obtain ⟨v, rfl, r1⟩ := Vws.one rr
      have ev := r1.int_inv
      subst ev
      have W := walk_rng (K := K) (lo := 0) (n := j.toNat)
      simp only [Int.zero_add] at W
      exact hq1 (by rw [← hlen, ← l1]; rfl) j H1 b1 b2 (hq _ ρ1 _ H1 [] rfl R2 W hk)
    · obtain ⟨v, u, rfl, r1, r2⟩ := Vws.two rr
      have ev := r1.int_inv
      have eu := r2.int_inv
      subst ev eu
      exact hq2 (by rw [← hlen, ← l1]; rfl) i j H1 b (hq _ ρ1 _ H1 [] rfl R2 walk_rng hk)
  have hel := mtEs_len m2
  rcases xs with _ | ⟨e, _ | ⟨f, _ | ⟨g, xs⟩⟩⟩
  · exact absurd hl Bool.false_ne_true
  · refine ⟨iRng1 t, fun X g => ⟨pi_range1 (g.gl hg) (by rw [g.emg]; exact F.its.1) (pr X g) (star_cons (ns e (by simp))), fun _ => rfl⟩, ?_⟩
    intro H0 M Γ Θ us u Γ' ρ σ θ H Kk Xk R ht Rl he hx hq
    exact rng ht Rl he hx hq (fun _ j H1 b1 b2 q => ⟨j, rfl, b1, b2, q⟩) (fun e2 => by rw [hel] at e2; cases e2)
  · refine ⟨iRng2 t, fun X g => ⟨pi_range2 (g.gl hg) (by rw [g.emg]; exact F.its.1) (pr X g) (by rw [star_cons (ns e (by simp)), star_cons (ns f (by simp))]; rfl) (star_cons (ns f (by simp))), fun _ => rfl⟩, ?_⟩
    intro H0 M Γ Θ us u Γ' ρ σ θ H Kk Xk R ht Rl he hx hq
    exact rng ht Rl he hx hq (fun e2 => by rw [hel] at e2; cases e2) (fun _ i j H1 b q => ⟨i, j, rfl, b, q⟩)
  · exact absurd hl Bool.false_ne_true
end Pm

namespace Pm
open PySem PySem.Spec PyProof.Rows L2
variable [W : Wd] {P : Program} {w : World} {K : PySem.W.Frag} {mg : Str → Option Value} {base : Heap} {A : Code} {C : Ctx} {G : TC} {kk : Nat} {XR : XRel}
/-! ### list(range(..)) -/
theorem prgA1 {X : Cx} {a : Expr} {ta : TA} {p pos : Pos} (hg : Gl X "range") (hm : X.mg "range" = none) (ha : PA X [a] ta) (hs : starEach [a] X.env = [(false, eval a X.env)]) : PRg X (.Call (.Name "range" p) [a] [] pos) (fun σ H Q => ta σ H fun vs H1 => ∃ j : Int, vs = [.int j] ∧ Q 0 j H1) := by
  intro pins s σ H Q I h
  refine Call_ (ld_blt I hg hm boot_range (PyProof.Rows.callWith_type1 (thn (ha.run pos pins s σ H _ I h) fun us s1 ⟨vs, H1, I1, r1, q1⟩ => ?_) hs rfl))
  obtain ⟨j, e, q⟩ := q1
  subst e
  cases r1 with
  | cons r rr =>
    cases rr
    obtain ⟨t, rfl⟩ := r
    exact call_range_1 ⟨_, 0, j, _, _, _, H1, rfl, IsRange.new _ _ _ _ _ _ _, I1.kept fun b u e => Heap.get?_push_of_some _ e, q⟩
theorem prgA2 {X : Cx} {a b : Expr} {ta : TA} {p pos : Pos} (hg : Gl X "range") (hm : X.mg "range" = none) (ha : PA X [a, b] ta) (hs : starEach [a, b] X.env = [(false, eval a X.env), (false, eval b X.env)]) (hs2 : starEach [b] X.env = [(false, eval b X.env)]) :
    PRg X (.Call (.Name "range" p) [a, b] [] pos) (fun σ H Q => ta σ H fun vs H1 => ∃ i j : Int, vs = [.int i, .int j] ∧ Q i j H1) := by
  intro pins s σ H Q I h
  refine Call_ (ld_blt I hg hm boot_range (PyProof.Rows.callWith_type1 (thn (ha.run pos pins s σ H _ I h) fun us s1 ⟨vs, H1, I1, r1, q1⟩ => ?_) (by rw [hs, hs2]) (by rw [hs2]; rfl)))
  obtain ⟨i, j, e, q⟩ := q1
  subst e
  cases r1 with
  | cons r rr =>
    cases rr with
    | cons r' rr =>
      cases rr
      obtain ⟨t, rfl⟩ := r
      obtain ⟨t', rfl⟩ := r'
      exact call_range_2 ⟨_, i, j, _, _, _, H1, rfl, IsRange.new _ _ _ _ _ _ _, I1.kept fun b u e => Heap.get?_push_of_some _ e, q⟩
theorem rng_reps {H : Hp} {Z : Option Addr → Prop} (lo : Int) : ∀ n : Nat, Reps K H Z 0 ((List.range n).map fun (i : Nat) => D.int (lo + (i : Int))) ((List.range n).map fun (i : Nat) => V.int (lo + (i : Int))) [] := by
  intro n
  induction n with
  | zero => exact .nil
  | succ n ih =>
    rw [List.range_succ, List.map_append, List.map_append]
    exact ih.app (.cons (F := []) (G := []) (.int _) .nil)
theorem rng_deps (lo : Int) (n : Nat) : D.deps 0 ((List.range n).map fun (i : Nat) => D.int (lo + (i : Int))) = true := deps_iff.mpr fun x hx => by
  obtain ⟨i, _, rfl⟩ := List.mem_map.mp hx
  rfl
theorem se_lrng (F : Facts P w K mg base A C G kk XR) {es : Es} (h : SEs P w K mg base A C G kk XR es) : SE P w K mg base A C G kk XR (.lrng es) := fun Ex sc pe hm => by
  unfold mtE at hm
  split at hm <;> first | exact absurd hm Bool.false_ne_true | skip
  all_goals first | (rename_i h; cases h; done) | skip
  rename_i x _ y _ xs _ _ h'
  injection h' with g1
  subst g1
  simp only [Bool.and_eq_true, beq_iff_eq] at hm
  obtain ⟨⟨⟨⟨⟨e1, hg1⟩, e2⟩, hg2⟩, hl⟩, m2⟩ := hm
  subst e1 e2
  obtain ⟨ns, t, pr, rd⟩ := h Ex sc xs m2
  have rng : ∀ {H0 M Γ Θ ty Γ' ρ σ θ H} {Kk : D → Penv → Prop} {Xk : Exc → Penv → Prop} {Q : VK}, tyE G Γ Θ (.lrng es) = some (ty, Γ') → Rel K H0 M Γ ρ σ Θ θ H → evalE C (.lrng es) ρ Kk Xk → ExcOk XR Ex M H0 Xk →
      (∀ d ρ' v H', Rel K H0 M Γ' ρ' σ (ty :: Θ) ((d, v) :: θ) H' → Kk d ρ' → Q v H') →
      ∀ QQ : List V → Hp → Prop, (es.len = 1 → ∀ (j : Int) H1, RgOk 0 j → (∀ q, H1 q = none → Q (.ref q) (upd H1 q (.lst (rgV 0 j)))) → QQ [.int j] H1) → (es.len = 2 → ∀ (i j : Int) H1, RgOk i j → (∀ q, H1 q = none → Q (.ref q) (upd H1 q (.lst (rgV i j)))) → QQ [.int i, .int j] H1) → t σ H QQ := by
    intro H0 M Γ Θ ty Γ' ρ σ θ H Kk Xk Q ht Rl he hx hq QQ q1 q2
    unfold tyE at ht
    split at ht <;> try (cases ht; done)
    rename_i ts Γ1 ht1
    split at ht <;> try (cases ht; done)
    cases ht
    have hlen := tyEs_len ht1
    unfold evalE at he
    refine rd _ _ _ _ _ _ _ _ _ _ _ _ _ ht1 Rl he hx fun ds ρ1 vs H1 l1 l2 R1 hk => ?_
    obtain ⟨ow, R1'⟩ := id R1
    obtain ⟨rr, _⟩ := R1'.temp.reps l1 l2
    have R2 := R1.drop (zlen l1 l2)
    have fin : ∀ (i j : Int), Kk (.lst ((List.range (j - i).toNat).map fun (t : Nat) => .int (i + (t : Int)))) ρ1 → ∀ q, H1 q = none → Q (.ref q) (upd H1 q (.lst (rgV i j))) := fun i j hk q hqn => by
      refine hq _ ρ1 _ _ ?_ hk
      obtain ⟨ow2, R2'⟩ := R2
      exact R2'.newC (Θs := []) (θs := []) rfl hqn (fun Z' _ => .lst upd_same (rng_reps i _)) (by rw [dep_lst]; exact rng_deps i _) List.nodup_nil (fun a ha => by simp at ha)
    have hc : (∃ j, ds = [.int j] ∧ (-(2 ^ 62) ≤ j ∧ j < 2 ^ 62 ∧ ((List.range j.toNat).map fun (i : Nat) => D.int (i : Int)).length ≤ 2 ^ 24 ∧ Kk (.lst ((List.range j.toNat).map fun (i : Nat) => .int (i : Int))) ρ1)) ∨
        ∃ i j, ds = [.int i, .int j] ∧ (-(2 ^ 62) ≤ i ∧ i < 2 ^ 62 ∧ -(2 ^ 62) ≤ j ∧ j < 2 ^ 62) ∧ ((List.range (j - i).toNat).map fun (t : Nat) => D.int (i + (t : Int))).length ≤ 2 ^ 24 ∧ Kk (.lst ((List.range (j - i).toNat).map fun (t : Nat) => .int (i + (t : Int)))) ρ1 := by
      rcases ds with _ | ⟨d, _ | ⟨e, _ | ⟨f, ds⟩⟩⟩
      · exact hk.elim
      · cases d <;> first | exact .inl ⟨_, rfl, hk⟩ | exact hk.elim
      · cases d <;> cases e <;> first | exact .inr ⟨_, _, rfl, hk⟩ | exact hk.elim
      · cases d <;> cases e <;> exact hk.elim
    rcases hc with ⟨j, rfl, b1, b2, b3, hk⟩ | ⟨i, j, rfl, ⟨b1, b2, b3, b4⟩, b5, hk⟩
    · obtain ⟨v, rfl, r1⟩ := Vws.one rr
      have ev := r1.int_inv
      subst ev
      exact q1 (by rw [← hlen, ← l1]; rfl) j H1 ⟨by omega, by omega, b1, b2, by simpa using b3⟩ (fin 0 j (by simpa using hk))
    · obtain ⟨v, u, rfl, r1, r2⟩ := Vws.two rr
      have ev := r1.int_inv
      have eu := r2.int_inv
      subst ev eu
      exact q2 (by rw [← hlen, ← l1]; rfl) i j H1 ⟨b1, b2, b3, b4, by simpa using b5⟩ (fin i j hk)
  have hel := mtEs_len m2
  rcases xs with _ | ⟨e, _ | ⟨f, _ | ⟨g, xs⟩⟩⟩
  · exact absurd hl Bool.false_ne_true
  · refine ⟨tLstRg (fun σ H Q => t σ H fun vs H1 => ∃ j : Int, vs = [.int j] ∧ Q 0 j H1), fun X g => pe_listRg g.calm (g.gl hg1) (by rw [g.emg]; exact F.blt (.list true)) (prgA1 (g.gl hg2) (by rw [g.emg]; exact F.its.1) (pr X g) (star_cons (ns e (by simp)))) rfl, ?_⟩
    intro H0 M Γ Θ ty Γ' ρ σ θ H Kk Xk Q ht Rl he hx hq
    exact rng ht Rl he hx hq _ (fun _ j H1 b q => ⟨j, rfl, b, q⟩) (fun e2 => by rw [hel] at e2; cases e2)
  · refine ⟨tLstRg (fun σ H Q => t σ H fun vs H1 => ∃ i j : Int, vs = [.int i, .int j] ∧ Q i j H1), fun X g => pe_listRg g.calm (g.gl hg1) (by rw [g.emg]; exact F.blt (.list true)) (prgA2 (g.gl hg2) (by rw [g.emg]; exact F.its.1) (pr X g) (by rw [star_cons (ns e (by simp)), star_cons (ns f (by simp))]; rfl) (star_cons (ns f (by simp)))) rfl, ?_⟩
    intro H0 M Γ Θ ty Γ' ρ σ θ H Kk Xk Q ht Rl he hx hq
    exact rng ht Rl he hx hq _ (fun e2 => by rw [hel] at e2; cases e2) (fun _ i j H1 b q => ⟨i, j, rfl, b, q⟩)
  · exact absurd hl Bool.false_ne_true
end Pm

set_option maxRecDepth 100000
namespace Pm
open PySem PySem.Spec PyProof.Rows L2

/-! ### sets of flat keys: l tells the keys that are in it, each with its value, as they came -/
section
variable {P : Program} {w : World} {κ : Type} [DecidableEq κ]
/-- what a set's cell holds -/
structure FSet (kd : PySem.KeyKind P w κ) (z : Obj) (l : List (κ × Value)) (es : Array (Int × Value)) (ep : Nat) (t : SetTable) : Prop where
  ex : z.ExactSet
  dt : z.data = .set es ep t
  pm : es.toList.Perm (l.map fun p => (kd.hash p.1, p.2))
  ok : ∀ p ∈ l, kd.is p.1 p.2 = true ∧ p.2.scannable = true
  nd : (l.map Prod.fst).Nodup
  few : l.length < scanBound
  fit : t.fits es.size = true
  ris : Ris t.place.toList
  led : w.params.followText "set-order" = true ∨ t.led = true
def SetL (kd : PySem.KeyKind P w κ) (h : Heap) (a : Addr) (l : List (κ × Value)) : Prop := ∃ z es ep t, h.get? a = some z ∧ FSet kd z l es ep t
variable {kd : PySem.KeyKind P w κ} {h h' : Heap} {a : Addr} {l : List (κ × Value)} {z : Obj} {es : Array (Int × Value)} {ep : Nat} {t : SetTable}
theorem SetL.at (r : SetL kd h a l) (k : ∀ o, h.get? a = some o → h'.get? a = some o) : SetL kd h' a l := by
  obtain ⟨z, es, ep, t, hz, q⟩ := r
  exact ⟨z, es, ep, t, k z hz, q⟩
theorem FSet.size (q : FSet kd z l es ep t) : es.size = l.length := by
  have := q.pm.length_eq
  simpa using this
theorem FSet.elems (q : FSet kd z l es ep t) : ElemsOf kd es.toList := fun e he => by
  obtain ⟨p, hp, rfl⟩ := List.mem_map.mp (q.pm.mem_iff.mp he)
  exact ⟨⟨p.1, (q.ok p hp).1, rfl⟩, (q.ok p hp).2⟩
theorem FSet.bound (q : FSet kd z l es ep t) : es.size < scanBound := by rw [q.size]; exact q.few
/-- the scan meets k just where it is in l -/
theorem FSet.met (q : FSet kd z l es ep t) (k : κ) : (List.findIdx? (fun e : Int × Value => kd.is k e.2) es.toList).isSome = decide (k ∈ l.map Prod.fst) := by
  rw [List.findIdx?_isSome, Bool.eq_iff_iff, decide_eq_true_eq, List.any_eq_true, List.mem_map]
  constructor
  · rintro ⟨e, he, hk⟩
    obtain ⟨p, hp, rfl⟩ := List.mem_map.mp (q.pm.mem_iff.mp he)
    exact ⟨p, hp, kd.inj _ _ _ (q.ok p hp).1 hk⟩
  · rintro ⟨p, hp, rfl⟩
    exact ⟨_, q.pm.mem_iff.mpr (List.mem_map_of_mem hp), (q.ok p hp).1⟩
variable {A : Around} {E : Value → Shared → Prop} {s : Shared}
/-- what an add leaves behind, where the key was not there -/
theorem putL_tail {gv : Bool → Sem Unit} (hg : ∀ (b : Bool) (s₁ : Shared) (Q' : Unit → Shared → Prop), Q' () s₁ → wpAny (model P w) A (gv b) Q' E s₁) (hz : s.heap.get? a = some z) (hex : z.ExactSet) (hd : z.data = .set es ep t)
    {es1 : Array (Int × Value)} {t2 : SetTable} {l' : List (κ × Value)} (mk : ∀ z' ep', z'.ExactSet → z'.data = .set es1 ep' t2 → FSet kd z' l' es1 ep' t2) {dm : Bool} {R : Option Bool → Shared → Prop}
    (hR : ∀ h2, Heap.SameBut a s.heap h2 → SetL kd h2 a l' → R (some true) { s with heap := h2 }) :
    wpAny (model P w) A (do storeSet a es1 t2; if (!dm && t2.tooFull) = true then do gv (relayAll t2 es1 (SetTable.grown es1.size)).2.2; storeSet a (relayAll t2 es1 (SetTable.grown es1.size)).1 (relayAll t2 es1 (SetTable.grown es1.size)).2.1; pure (some true) else pure (some true)) R E s := by
  have q1 := mk { z with data := .set es1 (ep + 1) t2 } (ep + 1) hex rfl
  have g1 := store_at (es' := es1) (t' := t2) hz hd
  have b1 := Heap.SameBut.update s.heap a (Obj.putSet es1 t2)
  refine wpAny_bind (wpAny_storeSet_of hz hd ?_ (fits_of_scanBound q1.bound))
  by_cases c : (!dm && t2.tooFull) = true
  · rw [if_pos c]
    have f1 := relayAll_perm t2 es1 (SetTable.grown es1.size)
    have f2 := relayAll_fits t2 es1 (SetTable.grown es1.size)
    have f3 := relayAll_ris t2 es1 (SetTable.grown es1.size)
    have f4 := relayAll_led t2 es1 (SetTable.grown es1.size)
    generalize relayAll t2 es1 (SetTable.grown es1.size) = N at f1 f2 f3 f4 ⊢
    obtain ⟨es3, t3, gave⟩ := N
    have n3 : es3.size = es1.size := by simpa using f1.length_eq
    refine wpAny_bind (hg _ _ _ (wpAny_bind (wpAny_storeSet_of g1 rfl ?_ (fits_of_scanBound (by show es3.size < _; rw [n3]; exact q1.bound)))))
    have b2 := b1.trans (Heap.SameBut.update (s.heap.update a (Obj.putSet es1 t2)) a (Obj.putSet es3 t3))
    have q3 : FSet kd { z with data := .set es3 (ep + 1 + 1) t3 } l' es3 (ep + 1 + 1) t3 := ⟨hex, rfl, f1.trans q1.pm, q1.ok, q1.nd, q1.few, f2, f3, q1.led.imp id fun e => by rw [f4]; exact e⟩
    exact wpAny_pure (hR _ b2 ⟨{ z with data := .set es3 (ep + 1 + 1) t3 }, es3, ep + 1 + 1, t3, store_at (es := es1) (ep := ep + 1) (t := t2) (o := { z with data := .set es1 (ep + 1) t2 }) g1 rfl, q3⟩)
  · rw [if_neg c]
    exact wpAny_pure (hR _ b1 ⟨{ z with data := .set es1 (ep + 1) t2 }, es1, ep + 1, t2, g1, q1⟩)
/-- set.add's work -/
theorem putL_ok {k : κ} {v : Value} {Q : Bool → Shared → Prop} (r : SetL kd s.heap a l) (hk : kd.is k v = true) (hv : v.scannable = true) (room : l.length + 1 < scanBound)
    (h1 : k ∈ l.map Prod.fst → Q false s) (h2 : k ∉ l.map Prod.fst → ∀ hp, Heap.SameBut a s.heap hp → SetL kd hp a (l ++ [(k, v)]) → Q true { s with heap := hp }) :
    wpAny (model P w) A (setAddHashed a v (kd.hash k)) Q E s := by
  obtain ⟨z, es, ep, t, hz, q⟩ := r
  have hel := q.elems
  have hmet := q.met k
  unfold setAddHashed setAddHashedIn
  refine wpAny_holding (wpAny_bind (wpAny_setState_of hz q.dt q.fit ?_))
  dsimp only
  rw [byScan_of hv q.bound hel, if_pos rfl]
  unfold setAddByScan
  refine wpAny_bind (wpAny_bind (wpAny_rule (wpAny_bind (wpAny_setScan_of hk hz q.dt q.fit hel ?_))))
  cases hi : List.findIdx? (fun e : Int × Value => kd.is k e.2) es.toList with
  | some j =>
    rw [hi] at hmet
    exact wpAny_pure (wpAny_pure (h1 (of_decide_eq_true hmet.symm)))
  | none =>
    rw [hi] at hmet
    have hn : k ∉ l.map Prod.fst := of_decide_eq_false hmet.symm
    have silent : ∀ (b : Bool) (s₁ : Shared) (Q' : Unit → Shared → Prop), Q' () s₁ → wpAny (model P w) A (match b with | true => rule "set.scan.the-table-gave-way" | false => pure ()) Q' E s₁ := fun b _ _ y => by
      cases b
      · exact wpAny_pure y
      · exact wpAny_rule y
    have f1 := layNew_perm t es (kd.hash k) v
    have f2 := layNew_fits t es (kd.hash k) v
    have f3 := layNew_ris t es (kd.hash k) v q.ris
    have f4 := layNew_led t es (kd.hash k) v
    dsimp only
    generalize layNew t es (kd.hash k) v = N at f1 f2 f3 f4 ⊢
    obtain ⟨es1, t1, dm, gave⟩ := N
    dsimp only at f1 f2 f3 f4 ⊢
    have pm1 : es1.toList.Perm ((l ++ [(k, v)]).map fun p => (kd.hash p.1, p.2)) := by
      rw [List.map_append]
      refine f1.trans ?_
      rw [Array.toList_push]
      exact q.pm.append_right _
    have mk : ∀ (t2 : SetTable), t2.place = t1.place → t2.led = t1.led → t2.fits es1.size = true → ∀ z' ep', z'.ExactSet → z'.data = .set es1 ep' t2 → FSet kd z' (l ++ [(k, v)]) es1 ep' t2 := fun t2 e1 e2 e3 z' ep' x d =>
      ⟨x, d, pm1, fun p hp => by
        rcases List.mem_append.mp hp with hp | hp
        · exact q.ok p hp
        · rw [List.mem_singleton.mp hp]; exact ⟨hk, hv⟩, by
        rw [List.map_append, List.nodup_append]
        refine ⟨q.nd, by simp, fun x hx y hy e => ?_⟩
        have hy : y = k := by simpa using hy
        subst hy; subst e
        exact hn hx, by rw [List.length_append]; exact room, e3, by rw [e1]; exact f3, q.led.imp id fun y => by rw [e2, f4]; exact y⟩
    have fin := h2 hn
    refine wpAny_bind (silent _ _ _ ?_)
    by_cases c : t1.plain = true
    · rw [if_pos c]
      refine wpAny_bind ?_
      rw [hashByValue_scannable 8 hv]
      refine wpAny_pure (putL_tail (l' := l ++ [(k, v)]) silent hz q.ex q.dt (mk _ ?_ ?_ ?_) fun hp b y => wpAny_pure (fin hp b y))
      · split <;> rfl
      · split <;> rfl
      · split
        · exact f2
        · exact SetTable.fits_plain_off f2
    · rw [if_neg c]
      refine wpAny_bind (wpAny_pure ?_)
      rw [if_pos rfl]
      exact putL_tail (l' := l ++ [(k, v)]) silent hz q.ex q.dt (mk _ rfl rfl f2) fun hp b y => wpAny_pure (fin hp b y)
end
end Pm

set_option maxRecDepth 100000
namespace Pm
open PySem PySem.Spec PyProof.Rows L2
section
variable {P : Program} {w : World} {κ : Type} [DecidableEq κ] {kd : PySem.KeyKind P w κ} {A : Around} {E : Value → Shared → Prop} {s : Shared}
/-- the keys told one by one, each kept where it comes first -/
def putK (l : List (κ × Value)) (p : κ × Value) : List (κ × Value) := if p.1 ∈ l.map Prod.fst then l else l ++ [p]
def dedK (ps : List (κ × Value)) : List (κ × Value) := ps.foldl putK []
theorem dedK_snoc (ps : List (κ × Value)) (p : κ × Value) : dedK (ps ++ [p]) = putK (dedK ps) p := by
  unfold dedK; rw [List.foldl_append]; rfl
theorem dedK_len (ps : List (κ × Value)) : (dedK ps).length ≤ ps.length := by
  have : ∀ (ps l : List (κ × Value)), (ps.foldl putK l).length ≤ l.length + ps.length := by
    intro ps
    induction ps with
    | nil => intro l; simp
    | cons p ps ih =>
      intro l
      have h1 := ih (putK l p)
      have h2 : (putK l p).length ≤ l.length + 1 := by unfold putK; split <;> simp
      simp only [List.foldl_cons, List.length_cons]
      omega
  simpa [dedK] using this ps []
theorem dedK_sub (ps : List (κ × Value)) : ∀ p ∈ dedK ps, p ∈ ps := by
  have : ∀ (ps l : List (κ × Value)), ∀ p ∈ ps.foldl putK l, p ∈ l ∨ p ∈ ps := by
    intro ps
    induction ps with
    | nil => intro l p h; exact .inl h
    | cons q ps ih =>
      intro l p h
      rcases ih _ p h with h | h
      · unfold putK at h
        split at h
        · exact .inl h
        · rcases List.mem_append.mp h with h | h
          · exact .inl h
          · exact .inr (by rw [List.mem_singleton.mp h]; exact List.mem_cons_self)
      · exact .inr (List.mem_cons_of_mem _ h)
  intro p h
  rcases this ps [] p h with h | h
  · cases h
  · exact h
theorem dedK_all (ps : List (κ × Value)) : ∀ p ∈ ps, p.1 ∈ (dedK ps).map Prod.fst := by
  have mono : ∀ (ps l : List (κ × Value)) (k : κ), k ∈ l.map Prod.fst → k ∈ (ps.foldl putK l).map Prod.fst := by
    intro ps
    induction ps with
    | nil => intro l k h; exact h
    | cons q ps ih =>
      intro l k h
      refine ih _ k ?_
      unfold putK
      split
      · exact h
      · rw [List.map_append]; exact List.mem_append_left _ h
  have : ∀ (ps l : List (κ × Value)), ∀ p ∈ ps, p.1 ∈ (ps.foldl putK l).map Prod.fst := by
    intro ps
    induction ps with
    | nil => intro l p h; cases h
    | cons q ps ih =>
      intro l p h
      rcases List.mem_cons.mp h with rfl | h
      · refine mono ps _ _ ?_
        unfold putK
        split
        · assumption
        · simp
      · exact ih _ p h
  exact this ps []
/-- set.update's loop over any walk -/
theorem fill_ok {I Z : Addr} {fp wr : List Addr} {G : Array GenState → Array GenState → Prop} {n : Nat} {Pv : Nat → Value → Prop} {St : Nat → Shared → Prop} {R : Result → Shared → Prop} (V : WalksS P w A.in1 I fp wr G n Pv St) (zf : Z ∉ fp)
    (ps : List (κ × Value)) (hn : n = ps.length) (few : ps.length < scanBound) (hv : ∀ i v, Pv i v → (ps[i]?).map Prod.snd = some v) (hk : ∀ p ∈ ps, kd.is p.1 p.2 = true ∧ p.2.scannable = true) :
    ∀ (m i : Nat) (s : Shared), n - i = m → i ≤ n → St i s → SetL kd s.heap Z (dedK (ps.take i)) → (∀ s', Moved (Z :: wr) G s s' → SetL kd s'.heap Z (dedK ps) → R (.ok (.ret .none)) s') →
      codeAny (model P w) A (.builtin "set.update.loop" ⟨[.ref Z, .ref I], []⟩) R s := by
  have zw : Z ∉ wr := fun h => zf (V.sub _ h)
  have wide : ∀ b ∈ wr, b ∈ Z :: wr := fun b hb => List.mem_cons_of_mem _ hb
  intro m
  induction m with
  | zero =>
    intro i s hm hi st hS hR
    obtain rfl : i = n := by omega
    refine codeAny_builtin F.entry_set_update_loop ?_
    rw [Around.under_plainId F.plain_set_update_loop _]
    show wpAny _ A.in1 (pyNext (.ref I) >>= _) _ _ s
    refine wpAny_bind (V.done s _ _ st fun s' mv => wpAny_pure (hR s' (mv.mono wide) ?_))
    have : ps.take i = ps := List.take_of_length_le (by omega)
    rw [this] at hS
    exact hS.at fun o e => mv.heap Z o zw e
  | succ m ih =>
    intro i s hm hi st hS hR
    have hlt : i < n := by omega
    refine codeAny_builtin F.entry_set_update_loop ?_
    rw [Around.under_plainId F.plain_set_update_loop _]
    show wpAny _ A.in1 (pyNext (.ref I) >>= _) _ _ s
    refine wpAny_bind (V.item i s _ _ hlt st fun v s' hp st' mv => ?_)
    obtain ⟨p, he, rfl⟩ : ∃ p, ps[i]? = some p ∧ p.2 = v := by
      have := hv i v hp
      cases e : ps[i]? with
      | none => rw [e] at this; cases this
      | some p => rw [e] at this; exact ⟨p, rfl, Option.some.inj this⟩
    obtain ⟨k1, k2⟩ := hk p (List.mem_of_getElem? he)
    have eT : dedK (ps.take (i + 1)) = putK (dedK (ps.take i)) p := by rw [List.take_add_one, he]; exact dedK_snoc _ p
    have hS' : SetL kd s'.heap Z (dedK (ps.take i)) := hS.at fun o e => mv.heap Z o zw e
    have room : (dedK (ps.take i)).length + 1 < scanBound := by
      have := dedK_len (ps.take i)
      rw [List.length_take] at this
      omega
    show wpAny _ A.in1 (holding [p.2] (setAdd Z p.2) >>= _) _ _ s'
    unfold setAdd
    refine wpAny_bind (wpAny_holding (wpAny_holding (wpAny_bind (kd.pyHash k1 ?_))))
    have next : ∀ (b : Bool) (hp : Heap), Heap.SameBut Z s'.heap hp → SetL kd hp Z (dedK (ps.take (i + 1))) → codeAny (model P w) A (.builtin "set.update.loop" ⟨[.ref Z, .ref I], []⟩) R { s' with heap := hp, toks := s'.toks + 1 } := fun b hp sb q => by
      have other : ∀ c, c ≠ Z → ∀ o, s'.heap.get? c = some o → hp.get? c = some o := fun c hc o e => (sb.2 c hc).trans e
      refine ih (i + 1) _ (by omega) hlt (V.frame _ s' _ _ st' (Nat.le_succ _) fun c hc o e => other c (fun x => zf (x ▸ hc)) o e) q fun s'' mv2 q2 => hR s'' ?_ q2
      exact Moved.trans V.gtrans ((mv.mono wide).then_heap (Nat.le_succ _) fun c o hc e => other c (fun x => hc (by rw [x]; exact List.mem_cons_self)) o e) mv2
    refine putL_ok (s := { s' with toks := s'.toks + 1 }) hS' k1 k2 room (fun hin => ?_) fun hout hp sb q => ?_
    · exact wpAny_pure ⟨plainId_quiet F.plain_set_update_loop _, next false s'.heap (Heap.SameBut.refl Z _) (by rw [eT]; unfold putK; rw [if_pos hin]; exact hS')⟩
    · exact wpAny_pure ⟨plainId_quiet F.plain_set_update_loop _, next true hp sb (by rw [eT]; unfold putK; rw [if_neg hout]; exact q)⟩
theorem setL_new {h : Heap} {a : Addr} (e : h.get? a = some { cls := .type "set", dict := none, data := .set #[] 0 (.fresh 0 0 (!w.params.followText "set-order")) }) : SetL kd h a [] :=
  ⟨_, #[], 0, _, e, ⟨rfl, rfl, rfl⟩, rfl, List.Perm.nil, (fun p hp => by cases hp), List.nodup_nil, (show (0 : Nat) < scanBound by decide), rfl, List.Pairwise.nil, (by
    show _ ∨ (!w.params.followText "set-order") = true
    cases w.params.followText "set-order"
    · exact .inr rfl
    · exact .inl rfl)⟩
set_option maxHeartbeats 3200000 in
/-- set(xs), xs a list -/
theorem set_of_list {l : Addr} {its : Array Value} (ps : List (κ × Value)) {Q : Value → Shared → Prop} (hh : A.handled = none) (hl : s.heap.IsList l its) (hi : its.toList = ps.map Prod.snd) (few : ps.length < scanBound) (hk : ∀ p ∈ ps, kd.is p.1 p.2 = true ∧ p.2.scannable = true)
    (h : ∀ (hp : Heap) (tk : Nat), SetL kd hp s.heap.objs.size (dedK ps) → (∀ b o, s.heap.get? b = some o → hp.get? b = some o) → Q (.ref s.heap.objs.size) { s with heap := hp, toks := tk }) :
    wpAny (model P w) A (call (.type "set") [.ref l]) Q E s := by
  have hn : its.size = ps.length := by
    have := congrArg List.length hi
    simpa using this
  obtain ⟨c, tl, hmro⟩ := F.called_set.mro
  have hmade := F.called_set.made
  have hsub := F.called_set.sub
  refine wpAny_call (codeAny_of_tree ?_)
  show wpAny _ _ (callAny (.type "set") _) _ _ _
  refine wpAny_pure ⟨Code.quiet_builtin _ (by decide +kernel), codeAny_builtin F.entry_type_call ?_⟩
  rw [Around.under_plain (weight_type_call_type "set" [.ref l] []) rfl]
  have h1 := F.called_set.notType
  have h2 := F.called_set.canCreate
  have hct := F.typeCall_set_1 (.ref l)
  repeat (any_goals (first | assumption | wp_step))
  have made : Q = Q := rfl
  let O : Obj := { cls := .type "set", dict := none, data := .set #[] 0 (.fresh 0 0 (!w.params.followText "set-order")) }
  refine codeAny_mono (code_set_led1 (.ref l) (E := E) (Q₁ := fun v s₁ => v = .ref s.heap.objs.size ∧ s₁ = { s with heap := s.heap.push O }) ⟨rfl, rfl⟩) fun r s₁ hr => ?_
  cases r with
  | error e => exact hr
  | ok fl =>
    cases fl with
    | ret v =>
      obtain ⟨rfl, rfl⟩ := hr
      have gO : (s.heap.push O).get? s.heap.objs.size = some O := Heap.get?_push_size _ rfl
      have hT : Shared.TypeIs { s with heap := s.heap.push O } (.ref s.heap.objs.size) "set" := ⟨O, gO, rfl⟩
      have hli := F.called_set.init.lookup
      have hbi := F.called_set.init.bind (.ref s.heap.objs.size)
      repeat (any_goals (first | assumption | wp_step))
      refine codeAny_mono (codeAny_call_builtin (R := wants (fun r s₂ => r = .none ∧ ∃ hp tk, s₂ = { s with heap := hp, toks := tk } ∧ SetL kd hp s.heap.objs.size (dedK ps) ∧ (∀ b o, s.heap.get? b = some o → hp.get? b = some o)) E) F.called_set.init.plain F.entry_set_init (check_set_init_1 hT ?_)) fun r₂ s₂ hr₂ => ?_
      · obtain ⟨ol, gl, cl, nl, dl⟩ := hl
        obtain ⟨ocls, odict, odata, oslots⟩ := ol
        simp only at cl dl
        subst cl; subst dl
        have gl1 : (s.heap.push O).get? l = some { cls := .type "list", dict := odict, data := .seq its nl, slots := oslots } := Heap.get?_push_of_some _ gl
        have hsls := F.sub_list_set
        have hslf := F.sub_list_frozenset
        have hne : (Value.type "list" == Value.type "dict") = false := by decide
        have hl1 : (s.heap.push O).IsList l its := ⟨_, gl1, rfl, nl, rfl⟩
        unfold Builtin.«set.__init__» noKeywords Builtin.Frozenset.updateFrom
        generalize hPI : pyIter = PI
        wp_walk
        subst hPI
        refine wpAny_pyIter_list hl1 (wpAny_bind (wpAny_runValue ?_))
        have hh3 : A.in1.in1.in1.handled = none := by simp [hh]
        have lt : l < s.heap.objs.size := Heap.lt_size gl
        have n1 : (s.heap.push O).objs.size = s.heap.objs.size + 1 := Heap.size_push ..
        refine fill_ok (kd := kd) ((Walks.list hh3 _ l (by rw [n1]; exact Nat.ne_of_lt (Nat.lt_succ_of_lt lt)) its).toS) (Z := s.heap.objs.size) (by rw [n1]; simp; exact fun e => absurd lt (by rw [e]; exact Nat.lt_irrefl _)) ps hn few (fun i v e => ?_) hk _ 0 _ rfl (Nat.zero_le _)
          ⟨⟨_, Heap.get?_push_size _ rfl, rfl, rfl⟩, (hl1.push _)⟩ ?_ fun s' mv q => ?_
        · have e : its.toList[i]? = some v := by rw [Array.getElem?_toList]; exact e
          rw [hi, List.getElem?_map] at e
          exact e
        · rw [List.take_zero]
          exact setL_new (Heap.get?_push_of_some _ gO)
        · have keep : ∀ b o, s.heap.get? b = some o → s'.heap.get? b = some o := fun b o e => mv.heap b o (fun x => by
            have q := Heap.lt_size e
            rw [List.mem_cons, List.mem_singleton, n1] at x
            rcases x with x | x
            · exact absurd q (by rw [x]; exact Nat.lt_irrefl _)
            · exact absurd q (by rw [x]; exact Nat.not_lt.mpr (Nat.le_succ _))) (Heap.get?_push_of_some _ (Heap.get?_push_of_some _ e))
          obtain ⟨h', g2, d', tk', os'⟩ := s'
          have eg : g2 = s.gens := mv.gens
          have ed : d' = s.drawn := mv.drawn
          have eo : os' = s.os := mv.os
          subst eg; subst ed; subst eo
          refine wpAny_pure ?_
          show wpAny _ _ (ret Value.none) _ _ _
          exact wpAny_pure ⟨rfl, h', tk', rfl, q, keep⟩
      · cases r₂ with
        | error e => exact hr₂
        | ok fl₂ =>
          cases fl₂ with
          | ret r =>
            obtain ⟨rfl, hp, tk, rfl, q, keep⟩ := hr₂
            repeat (any_goals (first | assumption | wp_step))
            exact h _ _ q keep
          | _ => exact hr₂.elim
    | _ => exact hr.elim
end
end Pm

set_option maxRecDepth 100000
namespace Pm
open PySem PySem.Spec PyProof.Rows L2
section
variable {P : Program} {w : World} {κ : Type} [DecidableEq κ] {kd : PySem.KeyKind P w κ} {A : Around} {E : Value → Shared → Prop} {s : Shared}
set_option maxHeartbeats 3200000 in
/-- set(xs), xs a tuple -/
theorem set_of_tuple {l : Addr} {its : Array Value} (ps : List (κ × Value)) {Q : Value → Shared → Prop} (hh : A.handled = none) (hl : s.heap.IsTuple l its) (hi : its.toList = ps.map Prod.snd) (few : ps.length < scanBound) (hk : ∀ p ∈ ps, kd.is p.1 p.2 = true ∧ p.2.scannable = true)
    (h : ∀ (hp : Heap) (tk : Nat), SetL kd hp s.heap.objs.size (dedK ps) → (∀ b o, s.heap.get? b = some o → hp.get? b = some o) → Q (.ref s.heap.objs.size) { s with heap := hp, toks := tk }) :
    wpAny (model P w) A (call (.type "set") [.ref l]) Q E s := by
  have hn : its.size = ps.length := by
    have := congrArg List.length hi
    simpa using this
  obtain ⟨c, tl, hmro⟩ := F.called_set.mro
  have hmade := F.called_set.made
  have hsub := F.called_set.sub
  refine wpAny_call (codeAny_of_tree ?_)
  show wpAny _ _ (callAny (.type "set") _) _ _ _
  refine wpAny_pure ⟨Code.quiet_builtin _ (by decide +kernel), codeAny_builtin F.entry_type_call ?_⟩
  rw [Around.under_plain (weight_type_call_type "set" [.ref l] []) rfl]
  have h1 := F.called_set.notType
  have h2 := F.called_set.canCreate
  have hct := F.typeCall_set_1 (.ref l)
  repeat (any_goals (first | assumption | wp_step))
  have made : Q = Q := rfl
  let O : Obj := { cls := .type "set", dict := none, data := .set #[] 0 (.fresh 0 0 (!w.params.followText "set-order")) }
  refine codeAny_mono (code_set_led1 (.ref l) (E := E) (Q₁ := fun v s₁ => v = .ref s.heap.objs.size ∧ s₁ = { s with heap := s.heap.push O }) ⟨rfl, rfl⟩) fun r s₁ hr => ?_
  cases r with
  | error e => exact hr
  | ok fl =>
    cases fl with
    | ret v =>
      obtain ⟨rfl, rfl⟩ := hr
      have gO : (s.heap.push O).get? s.heap.objs.size = some O := Heap.get?_push_size _ rfl
      have hT : Shared.TypeIs { s with heap := s.heap.push O } (.ref s.heap.objs.size) "set" := ⟨O, gO, rfl⟩
      have hli := F.called_set.init.lookup
      have hbi := F.called_set.init.bind (.ref s.heap.objs.size)
      repeat (any_goals (first | assumption | wp_step))
      refine codeAny_mono (codeAny_call_builtin (R := wants (fun r s₂ => r = .none ∧ ∃ hp tk, s₂ = { s with heap := hp, toks := tk } ∧ SetL kd hp s.heap.objs.size (dedK ps) ∧ (∀ b o, s.heap.get? b = some o → hp.get? b = some o)) E) F.called_set.init.plain F.entry_set_init (check_set_init_1 hT ?_)) fun r₂ s₂ hr₂ => ?_
      · obtain ⟨ol, gl, cl, nl, dl⟩ := hl
        obtain ⟨ocls, odict, odata, oslots⟩ := ol
        simp only at cl dl
        subst cl; subst dl
        have gl1 : (s.heap.push O).get? l = some { cls := .type "tuple", dict := odict, data := .seq its nl, slots := oslots } := Heap.get?_push_of_some _ gl
        have hsls := F.sub_tuple_set
        have hslf := F.sub_tuple_frozenset
        have hne : (Value.type "tuple" == Value.type "dict") = false := by decide
        have hl1 : (s.heap.push O).IsTuple l its := ⟨_, gl1, rfl, nl, rfl⟩
        unfold Builtin.«set.__init__» noKeywords Builtin.Frozenset.updateFrom
        generalize hPI : pyIter = PI
        wp_walk
        subst hPI
        refine wpAny_pyIter_tuple hl1 (wpAny_bind (wpAny_runValue ?_))
        have hh3 : A.in1.in1.in1.handled = none := by simp [hh]
        have lt : l < s.heap.objs.size := Heap.lt_size gl
        have n1 : (s.heap.push O).objs.size = s.heap.objs.size + 1 := Heap.size_push ..
        refine fill_ok (kd := kd) ((Walks.tuple hh3 _ l (by rw [n1]; exact Nat.ne_of_lt (Nat.lt_succ_of_lt lt)) its).toS) (Z := s.heap.objs.size) (by rw [n1]; simp; exact fun e => absurd lt (by rw [e]; exact Nat.lt_irrefl _)) ps hn few (fun i v e => ?_) hk _ 0 _ rfl (Nat.zero_le _)
          ⟨⟨_, Heap.get?_push_size _ rfl, rfl, rfl⟩, (hl1.push _)⟩ ?_ fun s' mv q => ?_
        · have e : its.toList[i]? = some v := by rw [Array.getElem?_toList]; exact e
          rw [hi, List.getElem?_map] at e
          exact e
        · rw [List.take_zero]
          exact setL_new (Heap.get?_push_of_some _ gO)
        · have keep : ∀ b o, s.heap.get? b = some o → s'.heap.get? b = some o := fun b o e => mv.heap b o (fun x => by
            have q := Heap.lt_size e
            rw [List.mem_cons, List.mem_singleton, n1] at x
            rcases x with x | x
            · exact absurd q (by rw [x]; exact Nat.lt_irrefl _)
            · exact absurd q (by rw [x]; exact Nat.not_lt.mpr (Nat.le_succ _))) (Heap.get?_push_of_some _ (Heap.get?_push_of_some _ e))
          obtain ⟨h', g2, d', tk', os'⟩ := s'
          have eg : g2 = s.gens := mv.gens
          have ed : d' = s.drawn := mv.drawn
          have eo : os' = s.os := mv.os
          subst eg; subst ed; subst eo
          refine wpAny_pure ?_
          show wpAny _ _ (ret Value.none) _ _ _
          exact wpAny_pure ⟨rfl, h', tk', rfl, q, keep⟩
      · cases r₂ with
        | error e => exact hr₂
        | ok fl₂ =>
          cases fl₂ with
          | ret r =>
            obtain ⟨rfl, hp, tk, rfl, q, keep⟩ := hr₂
            repeat (any_goals (first | assumption | wp_step))
            exact h _ _ q keep
          | _ => exact hr₂.elim
    | _ => exact hr.elim
end
end Pm

set_option maxRecDepth 100000
namespace Pm
open PySem PySem.Spec PyProof.Rows L2
/-! ### the rules: set(list), sorted(set), len(set), for whole numbers and texts -/
section
variable {P : Program} {w : World} {κ : Type} [DecidableEq κ] {kd : PySem.KeyKind P w κ} {A : Around} {E : Value → Shared → Prop} {s : Shared}
/-- sorted(s) -/
theorem sorted_of_set {a : Addr} {l : List (κ × Value)} {enc : κ → PyData} {Q : Value → Shared → Prop} (r : SetL kd s.heap a l) (hh : A.handled = none) (hu : A.units + 4 < cLine)
    (rd : ∀ (hp : Heap) k v, kd.is k v = true → Reads hp v (enc k) []) (hal : ∀ bs : List κ, PySem.W.AllAlike (bs.map enc)) (hso : ∀ bs : List κ, PySem.W.Sortable (bs.map enc)) (h0 : ∀ k, (enc k).depth = 0)
    (hQ : ∀ s' p c (out : Array Value) (bs : List κ), (∀ b o, s.heap.get? b = some o → s'.heap.get? b = some o) → s'.gens = s.gens → s'.os = s.os → s.heap.objs.size ≤ p → s'.heap.get? p = some (seqObj "list" out c) → bs.Perm (l.map Prod.fst) →
      PySem.W.EachIs (fun v k => kd.is k v = true) out.toList (bs.mergeSort (PySem.W.dataLe false enc)) → Q (.ref p) s') :
    wpAny (model P w) A (call (.builtin "sorted") [.ref a]) Q E s := by
  obtain ⟨z, es, ep, t, hz, q⟩ := r
  have hb := q.bound
  refine Calls.call_function_entry kind_sorted plain_sorted entry_sorted (args_sorted1 _) ?_
  unfold Builtin.«sorted»
  refine wpAny_bind (m := checkCount "sorted" 1 1 _) (wpAny_pure (wpAny_bind (collect_set (A := A.in1) hh ⟨z, hz, q.ex.1, q.dt⟩ q.fit hb q.ris q.led fun s1 vs k1 n1 g1 o1 pm => ?_)))
  -- each value has its key
  have key : ∀ vs : List Value, (∀ v ∈ vs, ∃ p ∈ l, v = p.2) → ∃ bs : List κ, PySem.W.EachIs (fun v k => kd.is k v = true) vs bs := by
    intro vs
    induction vs with
    | nil => intro _; exact ⟨[], .nil⟩
    | cons v vs ih =>
      intro hv
      obtain ⟨p, hp, e⟩ := hv v List.mem_cons_self
      obtain ⟨bs, hbs⟩ := ih fun u hu => hv u (List.mem_cons_of_mem _ hu)
      exact ⟨p.1 :: bs, .cons (by rw [e]; exact (q.ok p hp).1) hbs⟩
  have pm2 : vs.Perm (l.map Prod.snd) := by
    have := pm.trans (q.pm.map (·.2))
    rw [List.map_map] at this
    exact this
  obtain ⟨bs, hbs⟩ := key vs fun v hv => by
    obtain ⟨p, hp, e⟩ := List.mem_map.mp (pm2.mem_iff.mp hv)
    exact ⟨p, hp, e.symm⟩
  have hlen : vs.length < scanBound := by
    rw [pm2.length_eq, List.length_map]; exact q.few
  have hbl : bs.length = vs.length := hbs.length.symm
  -- the keys are those of l
  have pk : bs.Perm (l.map Prod.fst) := by
    have one : ∀ (us : List Value) (cs : List κ), PySem.W.EachIs (fun v k => kd.is k v = true) us cs → ∀ f : Value → Option κ, (∀ v k, kd.is k v = true → f v = some k) → us.map f = cs.map some := by
      intro us cs e f hf
      induction e with
      | nil => rfl
      | cons h _ ih => rw [List.map_cons, List.map_cons, hf _ _ h, ih]
    let f : Value → Option κ := fun v => (l.find? fun p => kd.is p.1 v).map Prod.fst
    have hf1 : ∀ p ∈ l, f p.2 = some p.1 := fun p hp => by
      have : ∃ q', l.find? (fun x => kd.is x.1 p.2) = some q' := by
        cases e : l.find? (fun x => kd.is x.1 p.2) with
        | some q' => exact ⟨q', rfl⟩
        | none => exact absurd (q.ok p hp).1 (List.find?_eq_none.mp e p hp)
      obtain ⟨q', e⟩ := this
      show (l.find? fun x => kd.is x.1 p.2).map Prod.fst = some p.1
      rw [e]
      exact congrArg some (kd.inj _ _ _ (List.find?_some (p := fun x : κ × Value => kd.is x.1 p.2) e) (q.ok p hp).1)
    have e1 : (l.map Prod.snd).map f = (l.map Prod.fst).map some := by
      rw [List.map_map, List.map_map]
      exact List.map_congr_left fun p hp => hf1 p hp
    have e2 : vs.map f = bs.map some := by
      have : ∀ (us : List Value) (cs : List κ), (∀ v ∈ us, v ∈ vs) → PySem.W.EachIs (fun v k => kd.is k v = true) us cs → us.map f = cs.map some := by
        intro us cs hs e
        induction e with
        | nil => rfl
        | cons h _ ih =>
          rename_i v k us cs _
          obtain ⟨p, hp, e⟩ := List.mem_map.mp (pm2.mem_iff.mp (hs _ List.mem_cons_self))
          rw [List.map_cons, List.map_cons, ih fun u hu => hs u (List.mem_cons_of_mem _ hu)]
          have hv : f v = some k := by
            rw [← e, hf1 p hp]
            rw [← e] at h
            exact congrArg some (kd.inj _ _ _ (q.ok p hp).1 h)
          rw [hv]
      exact this vs bs (fun v hv => hv) hbs
    have := pm2.map f
    rw [e1, e2] at this
    have := this.filterMap id
    rw [List.filterMap_map, List.filterMap_map] at this
    simpa [Function.comp_def] using this
  refine wpAny_bind (wpAny_newList ?_ (fits_of_scanBound hlen))
  have gL : (s1.heap.push (seqObj "list" vs.toArray 0)).get? s1.heap.objs.size = some (seqObj "list" vs.toArray 0) := Heap.get?_push_size _ rfl
  refine wpAny_bind (wpAny_holding (PySem.W.list_sort_data (s := { s1 with heap := s1.heap.push (seqObj "list" vs.toArray 0) }) gL hbs (hbs.mono fun v k hk => ⟨[], rd _ k v hk, by simp⟩) (hal bs) (hso bs) (by rw [hbl]; exact fits_of_scanBound hlen)
    (fun b _ => by rw [h0]; show A.in1.units + 1 + 0 < cLine; show A.units + _ + 1 + 0 < cLine; omega) fun out ho eo => ?_))
  obtain ⟨c, hc⟩ := sortedHeap_at (vs := vs) (out := out.toArray) gL
  refine wpAny_pure ⟨_, rfl, hQ _ s1.heap.objs.size c out.toArray bs (fun b u e => ?_) g1 o1 n1 hc pk eo⟩
  have e1 := k1 b u e
  have lt := Heap.lt_size e1
  show (sortedHeap (s1.heap.push (seqObj "list" vs.toArray 0)) s1.heap.objs.size vs out.toArray).get? b = some u
  rw [sortedHeap_old (Nat.ne_of_lt lt) (by rw [size_push']; exact Nat.lt_succ_of_lt lt)]
  exact Heap.get?_push_of_some _ e1
end
end Pm

set_option maxRecDepth 100000
namespace Pm
open PySem PySem.Spec PyProof.Rows L2
def SetG {P : Program} {w : World} {κ : Type} [DecidableEq κ] (kd : PySem.KeyKind P w κ) (a : Addr) (ks : List κ) : HO := .ext fun h => ∃ l, SetL kd h a l ∧ l.map Prod.fst = ks
section
variable {P : Program} {w : World} {κ : Type} [DecidableEq κ] {kd : PySem.KeyKind P w κ}
theorem setG_ok {H : Hp} {h : Heap} {a : Addr} {l : List (κ × Value)} (r : SetL kd h a l) : ObjOk P w H h a (SetG kd a (l.map Prod.fst)) := by
  have ⟨z, _, _, _, hz, _⟩ := r
  exact ⟨⟨l, r, rfl⟩, ⟨z, hz⟩, fun h1 h2 ⟨l', r', e⟩ k => ⟨l', r'.at k, e⟩⟩
end
section
variable {X : Cx} {κ : Type} [DecidableEq κ]
/-- set(xs), xs a list of keys -/
def rSetG {P : Program} {w : World} (K : PySem.W.Frag) (kd : PySem.KeyKind P w κ) (vk : κ → V) : List V → Hp → VK → Prop := fun xs H Q => ∃ (a : Addr) (ks : List κ), xs = [.ref a] ∧ (SqL K H a (ks.map vk) ∨ SqT K H a (ks.map vk)) ∧ ks.length < scanBound ∧
  ∀ (p : Addr) (ks' : List κ), H p = none → ks'.Nodup → (∀ k, k ∈ ks' ↔ k ∈ ks) → ks'.length < scanBound → Q (.ref p) (upd H p (SetG kd p ks'))
theorem keys_of {P : Program} {w : World} {kd : PySem.KeyKind P w κ} {vk : κ → V} (hv : ∀ k u, RelV (vk k) u → kd.is k u = true ∧ u.scannable = true) : ∀ {ks : List κ} {us : List Value}, Vals (ks.map vk) us → ∃ ps : List (κ × Value), ps.map Prod.fst = ks ∧ ps.map Prod.snd = us ∧ ∀ p ∈ ps, kd.is p.1 p.2 = true ∧ p.2.scannable = true
  | [], _, .nil => ⟨[], rfl, rfl, fun _ h => by cases h⟩
  | k :: ks, _, .cons r t => by
    obtain ⟨ps, e1, e2, h⟩ := keys_of hv t
    refine ⟨(k, _) :: ps, by rw [List.map_cons, e1], by rw [List.map_cons, e2], fun p hp => ?_⟩
    rcases List.mem_cons.mp hp with rfl | hp
    · exact hv _ _ r
    · exact h p hp
theorem cr_setG (hc : X.calm = true) {kd : PySem.KeyKind X.prog X.w κ} {vk : κ → V} (hv : ∀ k u, RelV (vk k) u → kd.is k u = true ∧ u.scannable = true) : CallR X (.type "set") (rSetG X.K kd vk) := by
  intro pins s σ H xs us Q I r h
  obtain ⟨a, ks, rfl, hl, hf, q⟩ := h
  obtain ⟨u, rfl, ru⟩ := vals1 r
  obtain rfl : u = Value.ref a := ru
  have hn : H s.heap.objs.size = none := I.hok.fresh (Nat.le_refl _)
  have fin : ∀ (ps : List (κ × Value)), ps.map Prod.fst = ks → ∀ (hp : Heap) (tk : Nat), SetL kd hp s.heap.objs.size (dedK ps) → (∀ b o, s.heap.get? b = some o → hp.get? b = some o) → ∃ v H1, Inv X pins σ H1 { s with heap := hp, toks := tk } ∧ RelV v (.ref s.heap.objs.size) ∧ Q v H1 := fun ps e1 hp tk g k => by
    have hpl : ps.length = ks.length := by rw [← e1, List.length_map]
    have nd : ((dedK ps).map Prod.fst).Nodup := by obtain ⟨_, _, _, _, _, g⟩ := g; exact g.nd
    refine ⟨.ref s.heap.objs.size, _, I.laid (t' := tk) k (Nat.le_refl _) (setG_ok g), rfl, q _ _ hn nd (fun k => ?_) ?_⟩
    · rw [← e1]
      constructor
      · intro h
        obtain ⟨p, hp, rfl⟩ := List.mem_map.mp h
        exact List.mem_map_of_mem (dedK_sub ps p hp)
      · intro h
        obtain ⟨p, hp, rfl⟩ := List.mem_map.mp h
        exact dedK_all ps p hp
    · rw [List.length_map]
      exact Nat.lt_of_le_of_lt (dedK_len ps) (by rw [hpl]; exact hf)
  rcases hl with hl | hl
  · obtain ⟨its, rv, pl, hz⟩ := I.list hl
    obtain ⟨ps, e1, e2, hk⟩ := keys_of hv rv
    exact set_of_list (kd := kd) ps (I.ok.hd hc) pl.isList (by simpa using e2.symm) (by rw [← List.length_map (f := Prod.fst), e1]; exact hf) hk fun hp tk g k => fin ps e1 hp tk g k
  · obtain ⟨its, rv, pl, hz⟩ := I.tuple hl
    obtain ⟨ps, e1, e2, hk⟩ := keys_of hv rv
    exact set_of_tuple (kd := kd) ps (I.ok.hd hc) pl (by simpa using e2.symm) (by rw [← List.length_map (f := Prod.fst), e1]; exact hf) hk fun hp tk g k => fin ps e1 hp tk g k
/-- sorted(s): by the order of the data -/
def rSortG {P : Program} {w : World} (kd : PySem.KeyKind P w κ) (vk : κ → V) (enc : κ → PyData) : List V → Hp → VK → Prop := fun xs H Q => ∃ (a : Addr) (ks : List κ), xs = [.ref a] ∧ H a = some (SetG kd a ks) ∧
  ∀ (p : Addr) (bs : List κ), H p = none → bs.Perm ks → Q (.ref p) (upd H p (.lst ((bs.mergeSort (PySem.W.dataLe false enc)).map vk)))
theorem cr_sortG (hc : X.calm = true) (hu : X.A.units + 65 < cLine) {kd : PySem.KeyKind X.prog X.w κ} {vk : κ → V} {enc : κ → PyData} (hv : ∀ k u, kd.is k u = true → RelV (vk k) u)
    (rd : ∀ (hp : Heap) k v, kd.is k v = true → Reads hp v (enc k) []) (hal : ∀ bs : List κ, PySem.W.AllAlike (bs.map enc)) (hso : ∀ bs : List κ, PySem.W.Sortable (bs.map enc)) (h0 : ∀ k, (enc k).depth = 0) : CallR X (.builtin "sorted") (rSortG kd vk enc) := by
  intro pins s σ H xs us Q I r h
  obtain ⟨a, ks, rfl, ha, q⟩ := h
  obtain ⟨u, rfl, ru⟩ := vals1 r
  obtain rfl : u = Value.ref a := ru
  obtain ⟨l, g, rfl⟩ : ∃ l, SetL kd s.heap a l ∧ l.map Prod.fst = ks := (I.hok a _ ha).1
  have few : l.length < scanBound := by obtain ⟨_, _, _, _, _, g⟩ := g; exact g.few
  refine sorted_of_set (enc := enc) g (I.ok.hd hc) (by omega) rd hal hso h0 fun s' p c out bs k gg oo hp hout pm eo => ?_
  have hn : H p = none := I.hok.fresh hp
  have vals : ∀ (us : List Value) (cs : List κ), PySem.W.EachIs (fun v k => kd.is k v = true) us cs → Vals (cs.map vk) us := by
    intro us cs e
    induction e with
    | nil => exact .nil
    | cons h _ ih => exact .cons (hv _ _ h) ih
  have hlen : ((bs.mergeSort (PySem.W.dataLe false enc)).map vk).length ≤ sizeLine := by
    rw [List.length_map, List.length_mergeSort, pm.length_eq, List.length_map]
    exact fits_of_scanBound few
  have J : Inv X pins σ (upd H p (.lst ((bs.mergeSort (PySem.W.dataLe false enc)).map vk))) { s with heap := s'.heap, gens := s'.gens, drawn := s'.drawn, toks := s'.toks } :=
    I.call (ch := []) (Un.laid k hp hn) (I.hok.laid k hp ⟨hlen, out.toList, c, vals _ _ eo, hout⟩) (by rw [gg]; exact I.bare) (fun _ z => nomatch z)
  have e : s' = { s with heap := s'.heap, gens := s'.gens, drawn := s'.drawn, toks := s'.toks } := by
    cases s'
    cases s
    cases oo
    rfl
  rw [e]
  exact ⟨.ref p, _, J, rfl, q p bs hn pm⟩
/-- len(s) -/
def rLenG {P : Program} {w : World} (kd : PySem.KeyKind P w κ) : List V → Hp → VK → Prop := fun xs H Q => ∃ (a : Addr) (ks : List κ), xs = [.ref a] ∧ H a = some (SetG kd a ks) ∧ Q (.int ks.length) H
theorem cr_lenG {kd : PySem.KeyKind X.prog X.w κ} : CallR X (.builtin "len") (rLenG kd) := by
  intro pins s σ H xs us Q I r h
  obtain ⟨a, ks, rfl, ha, q⟩ := h
  obtain ⟨u, rfl, ru⟩ := vals1 r
  obtain rfl : u = Value.ref a := ru
  obtain ⟨l, ⟨z, es, ep, t, hz, g⟩, rfl⟩ : ∃ l, SetL kd s.heap a l ∧ l.map Prod.fst = ks := (I.hok a _ ha).1
  have hs : es.size = (l.map Prod.fst).length := by rw [g.size, List.length_map]
  have hb := g.bound
  have sb : scanBound = 4096 := rfl
  refine call_len_set hz g.ex g.dt g.fit (by omega) ?_
  rw [hs]
  exact ⟨.int (l.map Prod.fst).length, H, I.tok _, ⟨_, rfl⟩, q⟩
end
end Pm

namespace Pm
open PySem PySem.Spec PyProof.Rows L2
variable [W : Wd] {P : Program} {w : World} {K : PySem.W.Frag} {mg : Str → Option Value} {base : Heap} {A : Code} {C : Ctx} {G : TC} {kk : Nat} {XR : XRel}
/-! ### sorted(set(..)), len(set(..)) -/
def rSetA (K : PySem.W.Frag) (P : Program) (w : World) : List V → Hp → VK → Prop := fun xs H Q => rSetG K (PySem.intKind P w) V.int xs H Q ∨ rSetG K (PySem.strKind P w) V.str xs H Q
def rSortA (P : Program) (w : World) : List V → Hp → VK → Prop := fun xs H Q => rSortG (PySem.intKind P w) V.int PyData.int xs H Q ∨ rSortG (PySem.strKind P w) V.str PyData.str xs H Q
def rLenA (P : Program) (w : World) : List V → Hp → VK → Prop := fun xs H Q => rLenG (PySem.intKind P w) xs H Q ∨ rLenG (PySem.strKind P w) xs H Q
theorem int_key {k : Int} {u : Value} (r : RelV (.int k) u) : (PySem.intKind P w).is k u = true ∧ u.scannable = true := by
  obtain ⟨t, rfl⟩ := r
  exact ⟨intKind_is P w k t, rfl⟩
theorem str_key {k : Str} {u : Value} (r : RelV (.str k) u) : (PySem.strKind P w).is k u = true ∧ u.scannable = true := by
  obtain ⟨t, rfl⟩ := r
  exact ⟨strKind_is P w k t, rfl⟩
theorem key_int {k : Int} {u : Value} (h : (PySem.intKind P w).is k u = true) : RelV (.int k) u := by
  obtain ⟨t, rfl⟩ := Value.isInt_shape h
  exact ⟨t, rfl⟩
theorem key_str {k : Str} {u : Value} (h : (PySem.strKind P w).is k u = true) : RelV (.str k) u := by
  obtain ⟨t, rfl⟩ := Value.isStrOf_shape h
  exact ⟨t, rfl⟩
theorem cr_setA {X : Cx} (hc : X.calm = true) : CallR X (.type "set") (rSetA X.K X.prog X.w) := (cr_setG hc fun _ _ r => int_key r).or (cr_setG hc fun _ _ r => str_key r)
theorem al_int (bs : List Int) : PySem.W.AllAlike (bs.map PyData.int) := PySem.W.AllAlike.of fun _ _ => rfl
theorem al_str (bs : List Str) : PySem.W.AllAlike (bs.map PyData.str) := PySem.W.AllAlike.of fun _ _ => rfl
theorem so_int (bs : List Int) : PySem.W.Sortable (bs.map PyData.int) := PySem.W.Sortable.others fun _ => ⟨(fun h => nomatch h), (fun _ h => nomatch h)⟩
theorem so_str (bs : List Str) : PySem.W.Sortable (bs.map PyData.str) := PySem.W.Sortable.others fun _ => ⟨(fun h => nomatch h), (fun _ h => nomatch h)⟩
theorem cr_sortA {X : Cx} (hc : X.calm = true) (hu : X.A.units + 65 < cLine) : CallR X (.builtin "sorted") (rSortA X.prog X.w) :=
  (cr_sortG hc hu (fun _ _ h => key_int h) (fun hp k v h => by obtain ⟨t, rfl⟩ := Value.isInt_shape h; exact .int k t) al_int so_int fun _ => rfl).or
    (cr_sortG hc hu (fun _ _ h => key_str h) (fun hp k v h => by obtain ⟨t, rfl⟩ := Value.isStrOf_shape h; exact .str k t) al_str so_str fun _ => rfl)
theorem cr_lenA {X : Cx} : CallR X (.builtin "len") (rLenA X.prog X.w) := cr_lenG.or cr_lenG
/-! what comes out -/
theorem sorted_ints (bs : List Int) (nd : bs.Nodup) : (bs.mergeSort (PySem.W.dataLe false PyData.int)).Pairwise (· < ·) := by
  have e : PySem.W.dataLe false PyData.int = fun a b : Int => decide (a ≤ b) := PySem.W.dataLe_int id
  rw [e]
  have s := List.pairwise_mergeSort (le := fun a b : Int => decide (a ≤ b)) (fun a b c h1 h2 => by simp only [decide_eq_true_eq] at *; omega) (fun a b => by simp only [Bool.or_eq_true, decide_eq_true_eq]; omega) bs
  have n : (bs.mergeSort fun a b : Int => decide (a ≤ b)).Nodup := (List.mergeSort_perm bs _).nodup_iff.mpr nd
  refine (List.Pairwise.and s n).imp fun {a b} h => ?_
  obtain ⟨h1, h2⟩ := h
  simp only [decide_eq_true_eq] at h1
  omega
theorem sorted_strs (bs : List Str) (nd : bs.Nodup) : ((bs.mergeSort (PySem.W.dataLe false PyData.str)).map fun k => k.cps.toList).Pairwise (· < ·) := by
  have e : PySem.W.dataLe false PyData.str = fun a b : Str => decide (a.cps.toList ≤ b.cps.toList) := PySem.W.dataLe_str id
  rw [e, List.pairwise_map]
  have s := List.pairwise_mergeSort (le := fun a b : Str => decide (a.cps.toList ≤ b.cps.toList)) (fun a b c h1 h2 => by simp only [decide_eq_true_eq] at *; exact List.le_trans h1 h2) (fun a b => by simp only [Bool.or_eq_true, decide_eq_true_eq]; exact List.le_total _ _) bs
  have n : (bs.mergeSort fun a b : Str => decide (a.cps.toList ≤ b.cps.toList)).Nodup := (List.mergeSort_perm bs _).nodup_iff.mpr nd
  refine (List.Pairwise.and s n).imp fun {a b} h => ?_
  obtain ⟨h1, h2⟩ := h
  simp only [decide_eq_true_eq] at h1
  by_cases h : a.cps.toList < b.cps.toList
  · exact h
  · have h := List.le_antisymm h1 (List.not_lt.mp h)
    refine absurd ?_ h2
    cases a; cases b
    simp only [Str.mk.injEq]
    exact Array.ext' h
theorem reps_ints {H : Hp} {Z : Option Addr → Prop} : ∀ is : List Int, Reps K H Z 0 (is.map .int) (is.map V.int) []
  | [] => .nil
  | i :: is => .cons (F := []) (G := []) (.int i) (reps_ints is)
theorem reps_strs {H : Hp} {Z : Option Addr → Prop} : ∀ ss : List (List Nat), (∀ s ∈ ss, ∀ c ∈ s, c < 0x110000) → Reps K H Z 0 (ss.map .str) (ss.map fun s => V.str (toStr s)) []
  | [], _ => .nil
  | s :: ss, h => .cons (F := []) (G := []) (.str s (h s List.mem_cons_self)) (reps_strs ss fun t ht => h t (List.mem_cons_of_mem _ ht))
theorem strs_vws {H : Hp} : ∀ {ss : List (List Nat)} {vs : List V}, Vws K H (ss.map .str) vs → vs = (ss.map toStr).map V.str ∧ ∀ s ∈ ss, ∀ c ∈ s, c < 0x110000
  | [], _, r => by cases r; exact ⟨rfl, fun _ h => by cases h⟩
  | s :: ss, _, r => by
    obtain ⟨v, us, rfl, h, t⟩ := Vws.cons_inv r
    obtain ⟨rfl, hc⟩ := h.str_inv
    obtain ⟨e, ht⟩ := strs_vws t
    refine ⟨by rw [e]; rfl, fun x hx => ?_⟩
    rcases List.mem_cons.mp hx with rfl | hx
    · exact hc
    · exact ht x hx
theorem toStr_back (k : Str) : toStr k.cps.toList = k := by cases k; simp [toStr]
theorem back_toStr (s : List Nat) : (toStr s).cps.toList = s := by simp [toStr]

theorem pe_setA {X : Cx} {y : Str} {z : Expr} {ta : TE} {q r : Pos} (hc : X.calm = true) (hy : y = ("set" : Str)) (hg : Gl X y) (hm : X.mg ("set" : Str) = none) (ha : PE X z ta) (ns : ∀ e pos, z ≠ .Starred e pos) :
    PE X (.Call (.Name y q) [z] [] r) (tCB (rSetA X.K X.prog X.w) (tCons ta tNil)) := by
  subst hy
  exact pe_callTy (cr_setA hc) hg hm (by decide +kernel) (pa_cons ha pa_nil (star_cons ns)) (by decide) (by decide) (star_cons ns) rfl
theorem se_sset (F : Facts P w K mg base A C G kk XR) {a : E} (ha : SE P w K mg base A C G kk XR a) : SE P w K mg base A C G kk XR (.sset a) := fun Ex sc pe hm => by
  unfold mtE at hm
  split at hm <;> first | exact absurd hm Bool.false_ne_true | skip
  all_goals first | (rename_i h; cases h; done) | skip
  rename_i x _ y _ z _ _ h'
  injection h' with g1
  subst g1
  simp only [Bool.and_eq_true, beq_iff_eq] at hm
  obtain ⟨⟨⟨⟨e1, hg1⟩, e2⟩, hg2⟩, m1⟩ := hm
  subst e1
  obtain ⟨ta, p1, r1⟩ := ha Ex sc _ m1
  have ns : ∀ e pos, z ≠ .Starred e pos := fun e pos e' => by subst e'; exact mt_nostar m1
  refine ⟨tCB (rSortA P w) (tCons (tCB (rSetA K P w) (tCons ta tNil)) tNil), fun X g => ?_, ?_⟩
  · rw [← g.eK, ← g.prog, ← g.wld]
    exact pe_callB (cr_sortA g.calm g.hu) (g.gl hg1) (by rw [g.emg]; exact F.blt .sorted) (by decide +kernel) (pa_cons (pe_setA g.calm e2 (g.gl hg2) (by rw [g.emg]; exact F.tys "set" (by simp)) (p1 X g) ns) pa_nil rfl) (by decide) (by decide) rfl rfl
  intro H0 M Γ Θ ty Γ' ρ σ θ H Kk Xk Q ht R he hx hq
  unfold tyE at ht
  split at ht <;> try (cases ht; done)
  rename_i t Γ1 ht1
  cases ht
  unfold evalE at he
  refine r1 _ _ _ _ _ _ _ _ _ _ _ _ _ ht1 R he hx fun d ρ1 v H1 R1 hk => ?_
  obtain ⟨q1, d1⟩ := R1.len1
  have seq : ∃ (xs : List D) (q : Addr) (vs : List V), v = .ref q ∧ (SqL K H1 q vs ∨ SqT K H1 q vs) ∧ Vws K H1 xs vs ∧ ssetL xs (fun z => Kk z ρ1) := by
    cases d <;> try exact hk.elim
    · obtain ⟨q, vs, ev, s, rs⟩ := q1.tup_inv
      exact ⟨_, q, vs, ev, .inr s, rs, hk⟩
    · obtain ⟨q, vs, ev, s, rs⟩ := q1.lst_inv
      exact ⟨_, q, vs, ev, .inl s, rs, hk⟩
  obtain ⟨xs, q, vs, rfl, s, rs, hk⟩ := seq
  have R3 : Rel K H0 M Γ' ρ1 σ ([t] ++ Θ) ([(d, .ref q)] ++ θ) H1 := R1
  obtain ⟨hl, ⟨is, rfl, hk⟩ | ⟨ss, rfl, hk⟩⟩ := hk
  · rw [ints_inv rs] at s
    refine .inl ⟨q, is, rfl, s, (show is.length < 4096 by simpa using hl), fun p ks hp nd mem few => .inl ⟨p, ks, rfl, upd_same, fun p2 bs hp2 pm => ?_⟩⟩
    have pm2 := (List.mergeSort_perm bs (PySem.W.dataLe false PyData.int)).trans pm
    refine hq _ ρ1 _ _ ?_ (hk (bs.mergeSort (PySem.W.dataLe false PyData.int)) (sorted_ints bs (pm.nodup_iff.mpr nd)) fun j => (pm2.mem_iff).trans (mem j))
    obtain ⟨ow2, R4⟩ := Rel.ext' (Ext.upd (.inl hp)) R3
    exact R4.newC rfl hp2 (fun Z' _ => .lst upd_same (reps_ints _)) (by rw [dep_lst]; exact deps_iff.mpr fun x hx => by obtain ⟨i, _, rfl⟩ := List.mem_map.mp hx; rfl) List.nodup_nil (fun a ha => by simp at ha)
  · obtain ⟨ev, hc⟩ := strs_vws rs
    rw [ev] at s
    refine .inr ⟨q, ss.map toStr, rfl, s, (show (ss.map toStr).length < 4096 by simpa using hl), fun p ks hp nd mem few => .inr ⟨p, ks, rfl, upd_same, fun p2 bs hp2 pm => ?_⟩⟩
    have pm2 := (List.mergeSort_perm bs (PySem.W.dataLe false PyData.str)).trans pm
    have mem2 : ∀ t, t ∈ ((bs.mergeSort (PySem.W.dataLe false PyData.str)).map fun k => k.cps.toList) ↔ t ∈ ss := fun t => by
      constructor
      · intro h
        obtain ⟨k, hk, rfl⟩ := List.mem_map.mp h
        obtain ⟨u, hu, rfl⟩ := List.mem_map.mp ((mem k).mp (pm2.mem_iff.mp hk))
        rw [back_toStr]; exact hu
      · intro h
        exact List.mem_map.mpr ⟨toStr t, pm2.mem_iff.mpr ((mem _).mpr (List.mem_map_of_mem h)), back_toStr t⟩
    refine hq _ ρ1 _ _ ?_ (hk _ (sorted_strs bs (pm.nodup_iff.mpr nd)) mem2)
    obtain ⟨ow2, R4⟩ := Rel.ext' (Ext.upd (.inl hp)) R3
    have ev2 : (bs.mergeSort (PySem.W.dataLe false PyData.str)).map V.str = ((bs.mergeSort (PySem.W.dataLe false PyData.str)).map fun k => k.cps.toList).map fun s => V.str (toStr s) := by
      rw [List.map_map]
      exact List.map_congr_left fun k _ => by show V.str k = V.str (toStr k.cps.toList); rw [toStr_back]
    rw [ev2]
    exact R4.newC rfl hp2 (fun Z' _ => .lst upd_same (reps_strs _ fun t ht => hc t ((mem2 t).mp ht))) (by rw [dep_lst]; exact deps_iff.mpr fun x hx => by obtain ⟨i, _, rfl⟩ := List.mem_map.mp hx; rfl) List.nodup_nil (fun a ha => by simp at ha)
theorem se_lset (F : Facts P w K mg base A C G kk XR) {a : E} (ha : SE P w K mg base A C G kk XR a) : SE P w K mg base A C G kk XR (.lset a) := fun Ex sc pe hm => by
  unfold mtE at hm
  split at hm <;> first | exact absurd hm Bool.false_ne_true | skip
  all_goals first | (rename_i h; cases h; done) | skip
  rename_i x _ y _ z _ _ h'
  injection h' with g1
  subst g1
  simp only [Bool.and_eq_true, beq_iff_eq] at hm
  obtain ⟨⟨⟨⟨e1, hg1⟩, e2⟩, hg2⟩, m1⟩ := hm
  subst e1
  obtain ⟨ta, p1, r1⟩ := ha Ex sc _ m1
  have ns : ∀ e pos, z ≠ .Starred e pos := fun e pos e' => by subst e'; exact mt_nostar m1
  refine ⟨tCB (rLenA P w) (tCons (tCB (rSetA K P w) (tCons ta tNil)) tNil), fun X g => ?_, ?_⟩
  · rw [← g.eK, ← g.prog, ← g.wld]
    exact pe_callB cr_lenA (g.gl hg1) (by rw [g.emg]; exact F.blt .len) (by decide +kernel) (pa_cons (pe_setA g.calm e2 (g.gl hg2) (by rw [g.emg]; exact F.tys "set" (by simp)) (p1 X g) ns) pa_nil rfl) (by decide) (by decide) rfl rfl
  intro H0 M Γ Θ ty Γ' ρ σ θ H Kk Xk Q ht R he hx hq
  unfold tyE at ht
  split at ht <;> try (cases ht; done)
  rename_i t Γ1 ht1
  cases ht
  unfold evalE at he
  refine r1 _ _ _ _ _ _ _ _ _ _ _ _ _ ht1 R he hx fun d ρ1 v H1 R1 hk => ?_
  obtain ⟨q1, d1⟩ := R1.len1
  have seq : ∃ (xs : List D) (q : Addr) (vs : List V), v = .ref q ∧ (SqL K H1 q vs ∨ SqT K H1 q vs) ∧ Vws K H1 xs vs ∧ lsetL xs (fun z => Kk z ρ1) := by
    cases d <;> try exact hk.elim
    · obtain ⟨q, vs, ev, s, rs⟩ := q1.tup_inv
      exact ⟨_, q, vs, ev, .inr s, rs, hk⟩
    · obtain ⟨q, vs, ev, s, rs⟩ := q1.lst_inv
      exact ⟨_, q, vs, ev, .inl s, rs, hk⟩
  obtain ⟨xs, q, vs, rfl, s, rs, hk⟩ := seq
  have R3 : Rel K H0 M Γ' ρ1 σ ([t] ++ Θ) ([(d, .ref q)] ++ θ) H1 := R1
  obtain ⟨hl, ⟨is, rfl, hk⟩ | ⟨ss, rfl, hk⟩⟩ := hk
  · rw [ints_inv rs] at s
    refine .inl ⟨q, is, rfl, s, (show is.length < 4096 by simpa using hl), fun p ks hp nd mem few => .inl ⟨p, ks, rfl, upd_same, ?_⟩⟩
    exact hq _ ρ1 _ _ (Rel.new0 (Rel.ext' (Ext.upd (.inl hp)) R3) rfl New0.int) (hk ks nd mem)
  · obtain ⟨ev, hc⟩ := strs_vws rs
    rw [ev] at s
    refine .inr ⟨q, ss.map toStr, rfl, s, (show (ss.map toStr).length < 4096 by simpa using hl), fun p ks hp nd mem few => .inr ⟨p, ks, rfl, upd_same, ?_⟩⟩
    have inj : ∀ a b : Str, a.cps.toList = b.cps.toList → a = b := fun a b h => by rw [← toStr_back a, ← toStr_back b, h]
    have hk2 := hk (ks.map fun k => k.cps.toList) (List.pairwise_map.mpr (nd.imp fun {a b} h e => h (inj a b e))) fun t => by
      constructor
      · intro h
        obtain ⟨k, hk, rfl⟩ := List.mem_map.mp h
        obtain ⟨u, hu, rfl⟩ := List.mem_map.mp ((mem k).mp hk)
        rw [back_toStr]; exact hu
      · intro h
        exact List.mem_map.mpr ⟨toStr t, (mem _).mpr (List.mem_map_of_mem h), back_toStr t⟩
    rw [List.length_map] at hk2
    exact hq _ ρ1 _ _ (Rel.new0 (Rel.ext' (Ext.upd (.inl hp)) R3) rfl New0.int) hk2
end Pm

namespace Pm
open PySem PySem.Spec L2
variable [W : Wd] {P : Program} {w : World} {K : PySem.W.Frag} {mg : Str → Option Value} {base : Heap} {A : Code} {C : Ctx} {G : TC} {kk : Nat} {XR : XRel}

/-! ### places -/
def killTs (is : List Nat) (Γ : List STy) : List STy := is.foldl (fun Γ i => Γ.set i none) Γ
theorem foldset_at {α : Type} {x : α} : ∀ {is : List Nat} {l : List α} {j : Nat}, (is.foldl (fun l i => l.set i x) l)[j]? = if j ∈ is ∧ j < l.length then some x else l[j]?
  | [], l, j => by simp
  | i :: is, l, j => by
    rw [List.foldl_cons, foldset_at (is := is), set_at, List.length_set]
    by_cases h : j < l.length
    · by_cases h1 : j ∈ is
      · simp [h, h1]
      · by_cases h2 : i = j
        · simp [h, h1, h2]
        · simp [h, h1, h2, Ne.symm h2]
    · simp [h]
theorem foldset_len {α : Type} {x : α} : ∀ {is : List Nat} {l : List α}, (is.foldl (fun l i => l.set i x) l).length = l.length
  | [], l => rfl
  | i :: is, l => by rw [List.foldl_cons, foldset_len (is := is), List.length_set]
theorem killTs_at {is : List Nat} {Γ : List STy} {j : Nat} : (killTs is Γ)[j]? = if j ∈ is ∧ j < Γ.length then some none else Γ[j]? := foldset_at
theorem killTs_len {is : List Nat} {Γ : List STy} : (killTs is Γ).length = Γ.length := foldset_len
theorem bindT_at {ps : List (Nat × Ty)} {Γ Γ' : List STy} (hl : Γ.length = Γ'.length) : ∀ {j : Nat}, (j ∈ ps.map (·.1) → (bindT ps Γ)[j]? = (bindT ps Γ')[j]?) := by
  induction ps generalizing Γ Γ' with
  | nil => intro j h; simp at h
  | cons p ps ih =>
    intro j h
    unfold bindT
    rw [List.foldl_cons, List.foldl_cons]
    by_cases hj : j ∈ ps.map (·.1)
    · exact ih (by rw [List.length_set, List.length_set, hl]) hj
    · have e : j = p.1 := by
        rw [List.map_cons] at h
        rcases List.mem_cons.mp h with e | h
        · exact e
        · exact absurd h hj
      have e1 : (bindT ps (Γ.set p.1 (some p.2)))[j]? = (Γ.set p.1 (some p.2))[j]? := bindT_out hj
      have e2 : (bindT ps (Γ'.set p.1 (some p.2)))[j]? = (Γ'.set p.1 (some p.2))[j]? := bindT_out hj
      show (bindT ps (Γ.set p.1 (some p.2)))[j]? = (bindT ps (Γ'.set p.1 (some p.2)))[j]?
      rw [e1, e2, set_at, set_at, hl]
      by_cases hl' : j < Γ'.length
      · rw [if_pos ⟨e.symm, hl'⟩, if_pos ⟨e.symm, hl'⟩]
      · simp only [hl', and_false, if_false]
        rw [List.getElem?_eq_none (by omega), List.getElem?_eq_none (by omega)]
theorem bind_kill {t : Tgt} {u : Ty} {Γ : List STy} : bindT (t.tys u) (killTs t.slots Γ) = bindT (t.tys u) Γ := by
  apply List.ext_getElem?
  intro j
  by_cases h : j ∈ (t.tys u).map (·.1)
  · exact bindT_at killTs_len h
  · rw [bindT_out h, bindT_out h, killTs_at, if_neg]
    rw [tys_slots] at h
    exact fun z => h z.1
theorem kill_bind {t : Tgt} {u : Ty} {Γ : List STy} : killTs t.slots (bindT (t.tys u) Γ) = killTs t.slots Γ := by
  apply List.ext_getElem?
  intro j
  rw [killTs_at, killTs_at, bindT_len]
  by_cases h : j ∈ t.slots
  · by_cases h2 : j < Γ.length
    · simp [h, h2]
    · simp only [h2, and_false, if_false]
      rw [List.getElem?_eq_none (by rw [bindT_len]; omega), List.getElem?_eq_none (by omega)]
  · simp only [h, false_and, if_false]
    exact bindT_out (by rw [tys_slots]; exact h)
theorem wipeP_at {vs : List Nat} {ρ : Penv} {j : Nat} : (wipeP vs ρ)[j]? = if j ∈ vs ∧ j < ρ.length then some none else ρ[j]? := foldset_at
theorem wipeP_len {vs : List Nat} {ρ : Penv} : (wipeP vs ρ).length = ρ.length := foldset_len
theorem elim_len {ρ' : Penv} {v : Nat} {o : Option (Option D)} : (o.elim ρ' fun x => ρ'.set v x).length = ρ'.length := by cases o <;> simp
theorem restore_len : ∀ {vs : List Nat} {ρ ρ' : Penv}, (restore vs ρ ρ').length = ρ'.length
  | [], _, _ => rfl
  | v :: vs, ρ, ρ' => by
    have ih := @restore_len vs ρ ((ρ[v]?).elim ρ' fun x => ρ'.set v x)
    unfold restore at ih ⊢
    rw [List.foldl_cons, ih, elim_len]
theorem restore_at : ∀ {vs : List Nat} {ρ ρ' : Penv} {j : Nat}, ρ.length = ρ'.length → (restore vs ρ ρ')[j]? = if j ∈ vs then ρ[j]? else ρ'[j]?
  | [], _, _, _, _ => by simp [restore]
  | v :: vs, ρ, ρ', j, hl => by
    have ih := @restore_at vs ρ ((ρ[v]?).elim ρ' fun x => ρ'.set v x) j (by rw [elim_len, hl])
    unfold restore at ih ⊢
    rw [List.foldl_cons, ih]
    by_cases h1 : j ∈ vs
    · simp [h1]
    · by_cases h2 : j = v
      · subst h2
        simp only [h1, if_false, List.mem_cons, true_or, if_true]
        cases e : ρ[j]? with
        | none =>
          have : ρ.length ≤ j := by simpa using e
          exact List.getElem?_eq_none (by simp only [Option.elim]; omega)
        | some x =>
          have : j < ρ.length := (List.getElem?_eq_some_iff.mp e).1
          exact List.getElem?_set_self (by omega)
      · simp only [h1, h2, if_false, List.mem_cons, or_self]
        cases ρ[v]? with
        | none => rfl
        | some x => exact List.getElem?_set_ne (fun e => h2 e.symm)

section
variable {H0 H H' : Hp} {M : Mz} {ow : Addr → Id} {Γ Γ' : List STy} {ρ ρ' : Penv} {σ σ' : St} {Θ Θs : List Ty} {θ θs : List (D × V)}
/-- less is claimed of the slots -/
theorem Rw.reslot (R : Rw K H0 M ow Γ ρ σ Θ θ H) (h1 : ρ'.length = ρ.length) (h2 : σ'.length = σ.length) (h3 : Γ'.length = Γ.length)
    (h : ∀ (i : Nat) (ty : Ty), Γ'[i]? = some (some ty) → Γ[i]? = some (some ty) ∧ ρ'[i]? = ρ[i]? ∧ σ'[i]? = σ[i]?) : Rw K H0 M ow Γ' ρ' σ' Θ θ H where
  lρ := by rw [h1, h3]; exact R.lρ
  lσ := by rw [h2, h3]; exact R.lσ
  nb := fun i ty e => R.nb i ty (h i ty e).1
  slot := fun i ty d e1 e2 => by
    obtain ⟨q1, q2, q3⟩ := h i ty e1
    rw [q2] at e2
    rw [q3]
    exact R.slot i ty d q1 e2
  temp := R.temp
  ext := R.ext
  mt := R.mt
  hm := R.hm
  old := R.old
  hiT := R.hiT
/-- what is labelled may be changed, what is not only read may be frozen -/
def mz (ow : Addr → Id) : Mz := ⟨fun a => (ow a).hot = true, fun a => ow a ≠ .rd, fun a h e => by rw [e] at h; cases h⟩
theorem Rw.rebase (R : Rw K H0 M ow Γ ρ σ Θ θ H) : Rw K H (mz ow) ow Γ ρ σ Θ θ H where
  lρ := R.lρ
  lσ := R.lσ
  nb := R.nb
  slot := R.slot
  temp := R.temp
  ext := Ext.refl
  mt := R.mt
  hm := fun a h => .inl h
  old := fun a h1 h2 => .inl h2
  hiT := R.hiT
theorem Rw.unbase {ow' : Addr → Id} {Γ1 : List STy} {ρ1 : Penv} {σ1 : St} {Θ1 : List Ty} {θ1 : List (D × V)} (R : Rw K H0 M ow Γ ρ σ Θ θ H) (R' : Rw K H (mz ow) ow' Γ1 ρ1 σ1 Θ1 θ1 H') : Rw K H0 M ow' Γ1 ρ1 σ1 Θ1 θ1 H' where
  lρ := R'.lρ
  lσ := R'.lσ
  nb := R'.nb
  slot := R'.slot
  temp := R'.temp
  ext := by
    refine ⟨fun a h m => ?_, fun a h => R'.ext.there a (R.ext.there a h)⟩
    rw [R'.ext.keep a (R.ext.there a h) fun z => ?_]
    · exact R.ext.keep a h m
    · rcases R.hm a z with q | q
      · exact m q
      · exact h q
  mt := R'.mt
  hm := fun a h => by
    rcases R'.hm a h with q | q
    · exact R.hm a q
    · exact .inr (Classical.byContradiction fun z => (R.ext.there a z) q)
  old := fun a h1 h2 => by
    rcases R'.old a h1 h2 with q | q
    · by_cases hne : H a = none
      · exact .inr (Classical.byContradiction fun z => (R.ext.there a z) hne)
      · exact R.old a hne q
    · exact .inr (Classical.byContradiction fun z => (R.ext.there a z) q)
  hiT := R'.hiT
/-- what is owned on top stands alone -/
theorem Rw.under {n k : Nat} {d : D} {v : V} (R : Rw K H0 M ow Γ ρ σ (⟨.own n, k⟩ :: (Θs ++ Θ)) ((d, v) :: (θs ++ θ)) H) (hl : Θs.length = θs.length) : Rel K H0 M Γ ρ σ (⟨.own n, k⟩ :: Θ) ((d, v) :: θ) H := by
  obtain ⟨F, r, hd, hL⟩ := R.temp.1
  have hL : F.Nodup ∧ ∀ a ∈ F, ow a = .tmp (Θs ++ Θ).length := hL
  have R' : Rw K H0 M ow Γ ρ σ ((⟨.own n, k⟩ :: Θs) ++ Θ) (((d, v) :: θs) ++ θ) H := R
  refine R'.res (by simp [hl]) (ty := ⟨.own n, k⟩) (r.z fun _ z => .inr z) hd (.inl rfl) hL.1 (fun a ha => .inr ?_) Ext.refl
  rw [hL.2 a ha]
  show Θ.length ≤ (Θs ++ Θ).length
  simp
/-- an item is put behind the list below it -/
theorem Rw.gather {w : Ty} {n k : Nat} {acc : List D} {D' : Addr} {y : D} {vy : V} (R : Rw K H0 M ow Γ ρ σ (w :: ⟨.own n, k + 1⟩ :: Θ) ((y, vy) :: (.lst acc, .ref D') :: θ) H) (hf : w.free = true) (hk : w.k ≤ k) (hn : n ≤ w.lev) :
    ∃ va, H D' = some (.lst va) ∧ va.length = acc.length ∧ Rel K H0 M Γ ρ σ (⟨.own n, k + 1⟩ :: Θ) ((.lst (acc ++ [y]), .ref D') :: θ) (upd H D' (.lst (va ++ [vy]))) := by
  obtain ⟨F, r, hd, hL⟩ := R.temp.2.1
  have hL : F.Nodup ∧ ∀ a ∈ F, ow a = .tmp Θ.length := hL
  have go : ∀ {m : Nat} {Z : Option Addr → Prop}, Rep K H Z (m + 1) (.lst acc) (.ref D') F → ∃ va E, F = D' :: E ∧ H D' = some (.lst va) ∧ Reps K H Z m acc va E := fun r0 => by
    cases r0 with
    | lst h r1 => exact ⟨_, _, rfl, h, r1⟩
  obtain ⟨va, E, rfl, ha, rs⟩ := go r
  have hd : D.dep (k + 1) (.lst acc) = true := hd
  rw [dep_lst] at hd
  obtain ⟨E', nd', hL', ry⟩ := R.temp.1.give (m := n) rfl hf hn
  have hL' : ∀ a ∈ E', ow a = .tmp (Θ.length + 1) ∧ H a ≠ none := hL'
  have dy : y.dep k = true := D.dep_mono hk y R.temp.1.vw.2
  have hmut : Mut (H D') := by rw [ha]; trivial
  have n1 := (List.nodup_cons.mp hL.1).1
  have lD := hL.2 D' List.mem_cons_self
  have n2 : D' ∉ E' := fun h => by
    have := (hL' D' h).1
    rw [lD] at this
    have := Id.tmp.inj this
    omega
  refine ⟨va, ha, rs.len.symm, ?_⟩
  have R' : Rw K H0 M ow Γ ρ σ ([w, ⟨.own n, k + 1⟩] ++ Θ) ([(y, vy), (.lst acc, .ref D')] ++ θ) H := R
  have x : Ext (fun a => hiTmp Θ.length (ow a)) H (upd H D' (.lst (va ++ [vy]))) := Ext.upd (.inr (by rw [lD]; exact Nat.le_refl _))
  have zf : ∀ o, zC (· = .tmp (Θ.length + 1)) ow H E' o → zT H (upd H D' (.lst (va ++ [vy]))) [] Θ.length (D' :: (E ++ E')) [] ow (.own n) o := fun o z =>
    z.out (fun i e => by subst e; exact Nat.le_succ _) (x.mono fun a h => hi_touch h) fun a h1 h2 h3 => ⟨fun hm => by
      rcases List.mem_cons.mp hm with rfl | hm
      · rw [lD] at h3
        rcases h3 with h3 | h3
        · cases h3
        · have := Id.tmp.inj h3; omega
      · rcases List.mem_append.mp hm with hm | hm
        · rw [hL.2 a (List.mem_cons_of_mem _ hm)] at h3
          rcases h3 with h3 | h3
          · cases h3
          · have := Id.tmp.inj h3; omega
        · exact h2 hm, by simp [allL]⟩
  have nz : ¬ zOf ow H (.own n) (some D') := fun z => by
    have : ow D' = .frz := z.1
    rw [lD] at this; cases this
  have nz2 : ¬ zC (· = .tmp (Θ.length + 1)) ow H E' (some D') := fun z => by
    rcases z.2.2 with e | e
    · rw [lD] at e; cases e
    · rw [lD] at e
      have := Id.tmp.inj e; omega
  refine R'.res rfl (ty := ⟨.own n, k + 1⟩) (d := .lst (acc ++ [y])) (v := .ref D') (F := D' :: (E ++ E')) (.lst upd_same ?_) ?_ (.inl rfl) ?_ (fun a ha => .inr ?_) x
  · have := ((rs.updO (o := .lst (va ++ [vy])) hmut n1 nz).z fun _ z => .inr z).app (Reps.cons ((ry.updO (o := .lst (va ++ [vy])) hmut n2 nz2).z zf) .nil)
    simpa using this
  · rw [dep_lst, deps_app, hd]
    simp [D.deps, dy]
  · refine List.nodup_cons.mpr ⟨fun h => (List.mem_append.mp h).elim n1 n2, List.nodup_append.mpr ⟨(List.nodup_cons.mp hL.1).2, nd', fun a ha b hb e => ?_⟩⟩
    subst e
    have h1 := hL.2 a (List.mem_cons_of_mem _ ha)
    rw [(hL' a hb).1] at h1
    have := Id.tmp.inj h1
    omega
  · rcases List.mem_cons.mp ha with rfl | ha
    · rw [lD]; exact Nat.le_refl _
    · rcases List.mem_append.mp ha with ha | ha
      · rw [hL.2 a (List.mem_cons_of_mem _ ha)]; exact Nat.le_refl _
      · rw [(hL' a ha).1]; exact Nat.le_succ _
/-- a new empty list -/
theorem Rw.nil (R : Rw K H0 M ow Γ ρ σ Θ θ H) {n k : Nat} {p : Addr} (hp : H p = none) : Rel K H0 M Γ ρ σ (⟨.own n, k + 1⟩ :: Θ) ((.lst [], .ref p) :: θ) (upd H p (.lst [])) :=
  R.newC (Θs := []) (θs := []) rfl hp (fun Z' _ => .lst upd_same .nil) (by rw [dep_lst]; rfl) List.nodup_nil (fun a ha => by simp at ha)
end

/-! ### targets -/
def gSlots : List Nat → TGs
  | [] => gNil
  | i :: is => gCons (gName i) (gSlots is)
def gTgt (K : PySem.W.Frag) : Tgt → TG
  | .nm i => gName i
  | .tp is => gTup K is.length (gSlots is)
  | .tpo ps => gTup K ps.length (gSlots (ps.map (·.1)))
theorem gSlots_ok : ∀ {is : List Nat} {vs : List V} {σ : St} {H : Hp} {Q : St → Hp → Prop}, vs.length = is.length → Q ((is.zip vs).foldl (fun s p => s.set p.1 (some p.2)) σ) H → gSlots is vs σ H Q
  | [], [], _, _, _, _, q => ⟨rfl, q⟩
  | i :: is, v :: vs, σ, H, Q, h, q => ⟨v, vs, rfl, gSlots_ok (by simpa using h) q⟩
  | [], _ :: _, _, _, _, h, _ => by simp at h
  | _ :: _, [], _, _, _, h, _ => by simp at h
theorem zip_sets {α : Type} {is : List Nat} {xs : List α} {l : List (Option α)} : (is.zip xs).foldl (fun l p => l.set p.1 (some p.2)) l = sets ((is.zip xs).map fun q => (q.1, some q.2)) l := by
  unfold sets
  rw [List.foldl_map]
section
variable {H0 H : Hp} {M : Mz} {Γ : List STy} {ρ : Penv} {σ : St} {Θ : List Ty} {θ : List (D × V)}
/-- the topmost temporary goes to a target -/
theorem Rel.tgt {t : Tgt} {u : Ty} {d : D} {v : V} (R : Rel K H0 M Γ ρ σ (u :: Θ) ((d, v) :: θ) H) (he : elemOk t u = true) (hu : u.p.inSlot = true) (nd : t.slots.Nodup) (hn : ∀ i ∈ t.slots, i < Γ.length ∧ noBor i Θ = true) {k : Penv → Prop} (ha : asgK t d ρ k) {Q : St → Hp → Prop}
    (hq : ∀ ρ' σ', Rel K H0 M (bindT (t.tys u) Γ) ρ' σ' Θ θ H → (∀ j, j ∉ t.slots → σ'[j]? = σ[j]?) → σ'.length = σ.length → k ρ' → Q σ' H) : gTgt K t v σ H Q := by
  obtain ⟨ow, R⟩ := R
  have tup : ∀ {ks : List (Nat × Nat)} {xs : List D}, d = .tup xs → (ks.map (·.1)).Nodup → (∀ i ∈ ks.map (·.1), i < Γ.length ∧ noBor i Θ = true) → xs.length = ks.length → depsOk (ks.map (·.2)) xs = true → k (((ks.map (·.1)).zip xs).foldl (fun ρ p => ρ.set p.1 (some p.2)) ρ) →
      (∀ ρ' σ', Rel K H0 M (bindT (ks.map fun q => (q.1, mkT u.p q.2)) Γ) ρ' σ' Θ θ H → (∀ j, j ∉ ks.map (·.1) → σ'[j]? = σ[j]?) → σ'.length = σ.length → k ρ' → Q σ' H) → gTup K ks.length (gSlots (ks.map (·.1))) v σ H Q := by
    intro ks xs hd nd hi hl hk hkk hq
    subst hd
    have R' : Rw K H0 M ow Γ ρ σ (⟨u.p, u.k⟩ :: Θ) ((.tup xs, v) :: θ) H := R
    obtain ⟨a, vs, rfl, s, lv, R2⟩ := R'.unpack hu nd hi hl hk
    refine ⟨a, vs, rfl, s, lv, gSlots_ok (by simpa using lv) ?_⟩
    rw [zip_sets] at hkk ⊢
    have lz : (ks.map (·.1)).length = vs.length := by simp [lv]
    exact hq _ _ R2 (fun j hj => sets_out (by rw [fst_some, zip_map lz]; exact hj)) sets_len hkk
  cases t with
  | nm i =>
    have hi := hn i (by simp [Tgt.slots])
    exact hq _ _ (R.store hi.1 hi.2 hu) (fun j hj => List.getElem?_set_ne fun e => hj (by simp [Tgt.slots, e])) List.length_set ha
  | tp is =>
    have h0 : u.k = 0 := by simpa [elemOk] using he
    obtain ⟨xs, rfl, hl, hk⟩ : ∃ xs, d = .tup xs ∧ xs.length = is.length ∧ k ((is.zip xs).foldl (fun ρ p => ρ.set p.1 (some p.2)) ρ) := by
      cases d <;> first | exact ⟨_, rfl, ha⟩ | exact False.elim ha
    have dx : D.deps 0 xs = true := by
      have := R.temp.1.vw.2
      rw [h0, dep_tup] at this; exact this
    have em : (is.map fun i => (i, 0)).map (·.1) = is := by simp [Function.comp_def]
    have ek : (is.map fun i => (i, 0)).length = is.length := by simp
    have T := tup (ks := is.map fun i => (i, 0)) (xs := xs) rfl (by rw [em]; exact nd) (by rw [em]; exact hn) (by rw [ek]; exact hl) ?_ (by rw [em]; exact hk) ?_
    · rw [em, ek] at T; exact T
    · have : ∀ (is : List Nat) (xs : List D), D.deps 0 xs = true → depsOk ((is.map fun i => (i, 0)).map (·.2)) xs = true := by
        intro is
        induction is with
        | nil => intro xs _; cases xs <;> rfl
        | cons i is ih =>
          intro xs hx
          cases xs with
          | nil => rfl
          | cons x xs =>
            simp only [D.deps, Bool.and_eq_true] at hx
            simp only [List.map_cons, depsOk, hx.1, Bool.true_and]
            exact ih xs hx.2
      exact this is xs dx
    · rw [em]
      have e : ((is.map fun i => (i, 0)).map fun q => (q.1, mkT u.p q.2)) = (Tgt.tp is).tys u := by
        simp [Tgt.tys, Function.comp_def, mkT]
      rw [e]
      exact hq
  | tpo ps =>
    obtain ⟨xs, rfl, hl, hk1, hk⟩ : ∃ xs, d = .tup xs ∧ xs.length = ps.length ∧ depsOk (ps.map (·.2)) xs = true ∧ k (((ps.map (·.1)).zip xs).foldl (fun ρ p => ρ.set p.1 (some p.2)) ρ) := by
      cases d <;> first | exact ⟨_, rfl, ha⟩ | exact False.elim ha
    exact tup rfl nd hn hl hk1 hk hq
end
theorem asg_names {X : Cx} : ∀ {is : List Nat} {es : List Expr} {sc : Scope}, nmsB A sc is es = true → (∀ i x pos, nmB A sc i (.Name x pos) = true → PG X (.Name x pos) (gName i)) → PGs X es (gSlots is) ∧ (assignEach es X.env).length = is.length ∧ (assignEach es X.env).findIdx? (·.1) = none
  | [], [], _, _, _ => ⟨pgs_nil, rfl, rfl⟩
  | i :: is, e :: es, sc, h, q => by
    have h : (nmB A sc i e && nmsB A sc is es) = true := h
    rw [Bool.and_eq_true] at h
    cases e <;> try exact absurd h.1 Bool.false_ne_true
    rename_i x pos _
    obtain ⟨h1, h2, h3⟩ := asg_names h.2 q
    refine ⟨pgs_cons (q i x pos h.1) h1 (by rfl), ?_, ?_⟩
    · show (assignEach es X.env).length + 1 = is.length + 1
      rw [h2]
    · show ((false, _) :: assignEach es X.env).findIdx? (·.1) = none
      rw [List.findIdx?_cons, h3]; rfl
  | [], _ :: _, _, h, _ => absurd h Bool.false_ne_true
  | _ :: _, [], _, h, _ => absurd h Bool.false_ne_true
theorem pg_tgt {X : Cx} {sc : Scope} {t : Tgt} {tg : Expr} (hm : mtT A sc t tg = true) (hc : X.calm = true) (hK : X.K = K) (q : ∀ i x pos, nmB A sc i (.Name x pos) = true → PG X (.Name x pos) (gName i)) : PG X tg (gTgt K t) := by
  cases t with
  | nm i =>
    have hm : nmB A sc i tg = true := hm
    cases tg <;> try exact absurd hm Bool.false_ne_true
    exact q _ _ _ hm
  | tp is =>
    cases tg <;> try exact absurd hm Bool.false_ne_true
    have hm : nmsB A sc is _ = true := hm
    obtain ⟨h1, h2, h3⟩ := asg_names hm q
    rw [← hK]
    exact pg_tup hc h1 h2 h3
  | tpo ps =>
    cases tg <;> try exact absurd hm Bool.false_ne_true
    have hm : nmsB A sc (ps.map (·.1)) _ = true := hm
    obtain ⟨h1, h2, h3⟩ := asg_names hm q
    rw [← hK]
    exact pg_tup hc h1 (by rw [h2]; simp) h3
end Pm

namespace Pm
open PySem PySem.Spec L2
variable [W : Wd] {P : Program} {w : World} {K : PySem.W.Frag} {mg : Str → Option Value} {base : Heap} {A : Code} {C : Ctx} {G : TC} {kk : Nat} {XR : XRel}

theorem wipe_at {vs : List Nat} {σ : L2.St} {j : Nat} : (wipe σ vs)[j]? = if j ∈ vs ∧ j < σ.length then some none else σ[j]? := by
  induction vs with
  | nil => simp [wipe]
  | cons v vs ih =>
    unfold wipe
    rw [set_at, wipe_length, ih]
    by_cases h : j < σ.length
    · by_cases h2 : v = j
      · simp [h, h2]
      · by_cases h1 : j ∈ vs
        · simp [h, h1, h2]
        · simp [h, h1, h2, Ne.symm h2]
    · simp [h]
theorem wipe_eq {vs : List Nat} {σ σ2 : L2.St} (h : ∀ j, j ∉ vs → σ2[j]? = (wipe σ vs)[j]?) (hl : σ2.length = (wipe σ vs).length) : wipe σ2 vs = wipe σ vs := by
  apply List.ext_getElem?
  intro j
  rw [wipe_length] at hl
  by_cases hj : j ∈ vs
  · rw [wipe_at, wipe_at, hl]
    by_cases h2 : j < σ.length
    · simp [hj, h2]
    · simp only [h2, and_false, if_false]
      rw [List.getElem?_eq_none (by omega), List.getElem?_eq_none (by omega)]
  · rw [wipe_at, if_neg (fun z => hj z.1)]
    exact h j hj
theorem tyIt_elem {it : Pm.It} {Γ Γ' : List STy} {Θ us : List Ty} {u : Ty} (h : tyIt G Γ Θ it = some (us, u, Γ')) : u.p.inSlot = true := by
  cases it with
  | low i it =>
    unfold tyIt at h
    split at h <;> try (cases h; done)
    rename_i h1
    split at h <;> try (cases h; done)
    split at h <;> try (cases h; done)
    cases h
    exact tyIt_elem h1
  | val l e =>
    unfold tyIt at h
    split at h <;> try (cases h; done)
    split at h <;> try (cases h; done)
    split at h <;> try (cases h; done)
    rename_i hs
    cases h; exact hs
  | rng es =>
    unfold tyIt at h
    split at h <;> try (cases h; done)
    split at h <;> try (cases h; done)
    cases h; rfl
  | enum l e =>
    unfold tyIt at h
    split at h <;> try (cases h; done)
    split at h <;> try (cases h; done)
    cases h; rfl
  | zip l1 l2 a b =>
    unfold tyIt at h
    split at h <;> try (cases h; done)
    split at h <;> try (cases h; done)
    split at h <;> try (cases h; done)
    cases h; rfl
  | zip3 l1 l2 l3 a b c =>
    unfold tyIt at h
    split at h <;> try (cases h; done)
    split at h <;> try (cases h; done)
    split at h <;> try (cases h; done)
    split at h <;> try (cases h; done)
    cases h; rfl
section
variable {H0 H H1 : Hp} {M : Mz} {ow ow1 : Addr → Id} {Γ1 : List STy} {ρ1 ρ' : Penv} {σ σw : L2.St} {Θ Θ1 : List Ty} {θ θ1 : List (D × V)}
theorem Rw.restore {vs : List Nat} (R1 : Rw K H0 M ow1 Γ1 ρ1 σ Θ1 θ1 H1) (R : Rw K H0 M ow (killTs vs Γ1) ρ' σw Θ θ H) (x : Ext (fun a => (ow1 a).hot = true) H1 H) (hσ : ∀ j, j ∉ vs → σw[j]? = σ[j]?)
    (h0 : ∀ i ∈ vs, ∀ ty, Γ1[i]? = some (some ty) → ty.k = 0) : Rw K H0 M ow Γ1 (restore vs ρ1 ρ') σ Θ θ H where
  lρ := by rw [restore_len, R.lρ, killTs_len]
  lσ := R1.lσ
  nb := R1.nb
  slot := fun i ty d h1 h2 => by
    have hl : ρ1.length = ρ'.length := by rw [R1.lρ, R.lρ, killTs_len]
    rw [restore_at hl] at h2
    by_cases hi : i ∈ vs
    · rw [if_pos hi] at h2
      obtain ⟨v, e, F, r, hd, _⟩ := R1.slot i ty d h1 h2
      have hk := h0 i hi ty h1
      rw [hk] at hd
      have r' : Rep K H1 (fun _ => False) ty.p.lv d v [] := (r.imm _ _ hd).2
      have r2 := r'.ext (Z' := zOf ow H ty.p) x (fun a h => R1.mt a h) (fun a z => z.elim) (fun _ z => z.elim) (fun a ha => by simp at ha)
      exact ⟨v, e, [], r2, by rw [hk]; exact hd, LabOk.nil⟩
    · rw [if_neg hi] at h2
      obtain ⟨v, e, q⟩ := R.slot i ty d (by rw [killTs_at, if_neg (fun z => hi z.1)]; exact h1) h2
      exact ⟨v, by rw [← hσ i hi]; exact e, q⟩
  temp := R.temp
  ext := R.ext
  mt := R.mt
  hm := R.hm
  old := R.old
  hiT := R.hiT
end
def RdC (K : PySem.W.Frag) (C : Ctx) (G : TC) (XR : XRel) (Ex : XK) (c : OE) (t : TT) : Prop := ∀ H0 M Γ Θ Γ' ρ σ θ H (Kk : Bool → Penv → Prop) (Xk : Exc → Penv → Prop) (Q : Bool → Hp → Prop), tyOE G Γ Θ c = some Γ' → Rel K H0 M Γ ρ σ Θ θ H → evalC C c ρ Kk Xk → ExcOk XR Ex M H0 Xk →
  (∀ b ρ' H', Rel K H0 M Γ' ρ' σ Θ θ H' → Kk b ρ' → Q b H') → t σ H Q
theorem rc_none {Ex : XK} : RdC K C G XR Ex .none tYes := by
  intro H0 M Γ Θ Γ' ρ σ θ H Kk Xk Q ht R he hx hq
  unfold tyOE at ht
  cases ht
  unfold evalC at he
  exact hq true ρ H R he
theorem rc_some {Ex : XK} {e : E} {t : TT} (r : RdT K C G XR Ex e t) : RdC K C G XR Ex (.some e) t := by
  intro H0 M Γ Θ Γ' ρ σ θ H Kk Xk Q ht R he hx hq
  unfold tyOE at ht
  split at ht <;> try (cases ht; done)
  rename_i t0 Γ1 ht1
  cases ht
  unfold evalC at he
  refine r _ _ _ _ _ _ _ _ _ _ _ _ _ ht1 R he hx fun d ρ1 H1 R1 hk => ?_
  cases e : d.truth with
  | none => simp only [e] at hk
  | some b =>
    simp only [e] at hk
    exact ⟨b, rfl, hq b ρ1 H1 R1 hk⟩
theorem rd_comp {Ex : XK} {t : Tgt} {it : Pm.It} {c : OE} {e : E} {wi : TI} {tt : TT} {te : TE} (ri : RdIt K C G XR Ex it wi) (rc : RdC K C G XR E0 c tt) (re : RdE K C G XR E0 e te) : RdE K C G XR Ex (.comp t it c e) (tLc wi (gTgt K t) tt te t.slots) := by
  intro H0 M Γ Θ ty Γ' ρ σ θ H Kk Xk Q ht R he hx hq
  unfold tyE at ht
  split at ht <;> try (cases ht; done)
  rename_i us u Γ1 ht1
  split at ht <;> try (cases ht; done)
  rename_i w0 Γ0 ht0
  split at ht <;> try (cases ht; done)
  rename_i Γ2 ht2
  split at ht <;> try (cases ht; done)
  rename_i w Γ3 ht3
  split at ht <;> try (cases ht; done)
  rename_i hc
  obtain ⟨c1, c2, c3, c35, c4, c5, c6, c7, c8⟩ := hc
  cases ht
  subst c2
  subst c5
  subst c4
  unfold evalE at he
  have c6' : ∀ i ∈ t.slots, i < Γ'.length ∧ ∀ ty, Γ'[i]? = some (some ty) → ty.k = 0 := fun i hi => by
    have := List.all_eq_true.mp c6 i hi
    split at this
    · rename_i ty e
      refine ⟨(List.getElem?_eq_some_iff.mp e).1, fun ty' e' => ?_⟩
      rw [e] at e'; cases e'
      simpa using this
    · rename_i e
      refine ⟨(List.getElem?_eq_some_iff.mp e).1, fun ty' e' => ?_⟩
      rw [e] at e'; cases e'
    · cases this
  refine ri _ _ _ _ _ _ _ _ _ _ _ _ _ _ ht1 R he hx fun xs ρ1 J H1 θs hul R1 W hk => ?_
  obtain ⟨hsz, hk⟩ := hk
  intro D' hD
  obtain ⟨ow1, R1'⟩ := id R1
  obtain ⟨ow2, B2⟩ := R1'.rebase.nil (n := w.lev) (k := w.k) hD
  have hlσ : (wipe σ t.slots).length = σ.length := wipe_length _ _
  have kill : ∀ {ow : Addr → Id} {Γx : List STy} {ρx ρy : Penv} {σx : L2.St} {Θx : List Ty} {θx : List (D × V)} {Hx : Hp} {Mx : Mz} {Hb : Hp}, Rw K Hb Mx ow Γx ρx σx Θx θx Hx → Γx.length = Γ'.length → (∀ j, j ∉ t.slots → Γx[j]? = Γ'[j]?) → (∀ j, j ∉ t.slots → σx[j]? = (wipe σ t.slots)[j]?) → ρy.length = ρx.length → (∀ j, j ∉ t.slots → ρy[j]? = ρx[j]?) →
      Rw K Hb Mx ow (killTs t.slots Γ') ρy (wipe σ t.slots) Θx θx Hx := by
    intro ow Γx ρx ρy σx Θx θx Hx Mx Hb q h1 h2 h3 h4 h5
    refine q.reslot h4 (by rw [hlσ, q.lσ, h1]; exact R1'.lσ) (by rw [killTs_len, h1]) fun i ty e => ?_
    rw [killTs_at] at e
    by_cases hi : i ∈ t.slots
    · rw [if_pos ⟨hi, (c6' i hi).1⟩] at e; cases e
    · rw [if_neg (fun z => hi z.1)] at e
      exact ⟨by rw [h2 i hi]; exact e, h5 i hi, (h3 i hi).symm⟩
  have hσw : ∀ j, j ∉ t.slots → σ[j]? = (wipe σ t.slots)[j]? := fun j hj => by rw [wipe_at, if_neg (fun z => hj z.1)]
  have B3 := kill B2 rfl (fun _ _ => rfl) hσw rfl (fun _ _ => rfl)
  -- the invariant
  refine ⟨fun i m H => m = xs.length - i ∧ i ≤ xs.length ∧ ∃ acc ρ', acc.length ≤ i ∧ Rel K H1 (mz ow1) (killTs t.slots Γ') ρ' (wipe σ t.slots) (⟨.own w.lev, w.k + 1⟩ :: (us ++ Θ)) ((.lst acc, .ref D') :: (θs ++ θ)) H ∧
    compLoop (fun x ρ' k => asgK t x (wipeP t.slots ρ') fun ρ2 => evalC C c ρ2 (fun b ρ3 => if b = true then evalE C e ρ3 (fun y ρ4 => k (some y) ρ4) (fun _ _ => False) else k none ρ3) (fun _ _ => False)) (fun acc ρ' => Kk (.lst acc) (restore t.slots ρ1 ρ')) (xs.drop i) acc ρ',
    ⟨xs.length, by simp, Nat.zero_le _, [], ρ1, Nat.le_refl _, ⟨ow2, B3⟩, by simpa using hk⟩, ?_⟩
  rintro i m H2 ⟨rfl, hi, acc, ρ', hacc, R2, hloop⟩
  obtain ⟨wk, wstop⟩ := W _ _ _ _ _ [⟨.own w.lev, w.k + 1⟩] [(.lst acc, .ref D')] _ _ _ i rfl R2
  have eu2 := tyIt_elem ht1
  by_cases hlt : i < xs.length
  · right
    obtain ⟨go, yl⟩ := wk xs[i] (List.getElem?_eq_getElem hlt)
    rw [List.drop_eq_getElem_cons hlt] at hloop
    unfold compLoop at hloop
    refine ⟨go, fun H => ∃ acc ρ', acc.length ≤ i + 1 ∧ Rel K H1 (mz ow1) (killTs t.slots Γ') ρ' (wipe σ t.slots) (⟨.own w.lev, w.k + 1⟩ :: (us ++ Θ)) ((.lst acc, .ref D') :: (θs ++ θ)) H ∧
      compLoop (fun x ρ' k => asgK t x (wipeP t.slots ρ') fun ρ2 => evalC C c ρ2 (fun b ρ3 => if b = true then evalE C e ρ3 (fun y ρ4 => k (some y) ρ4) (fun _ _ => False) else k none ρ3) (fun _ _ => False)) (fun acc ρ' => Kk (.lst acc) (restore t.slots ρ1 ρ')) (xs.drop (i + 1)) acc ρ',
      fun H' ⟨acc', ρ'', h1, h2, h3⟩ => ⟨xs.length - (i + 1), by omega, rfl, hlt, acc', ρ'', h1, h2, h3⟩, fun x H' y => ?_⟩
    obtain ⟨ow3, R3⟩ := yl x H' y
    have R3' : Rel K H1 (mz ow1) (killTs t.slots Γ') (wipeP t.slots ρ') (wipe σ t.slots) (u :: (⟨.own w.lev, w.k + 1⟩ :: (us ++ Θ))) ((xs[i], x) :: ((.lst acc, .ref D') :: (θs ++ θ))) H' :=
      ⟨ow3, R3.reslot wipeP_len rfl rfl fun j ty e => by
        refine ⟨e, ?_, rfl⟩
        rw [killTs_at] at e
        by_cases hj : j ∈ t.slots
        · rw [if_pos ⟨hj, (c6' j hj).1⟩] at e; cases e
        · rw [wipeP_at, if_neg (fun z => hj z.1)]⟩
    refine R3'.tgt c3 eu2 c8 (fun i hi => ⟨by rw [killTs_len]; exact (c6' i hi).1, noBor_cons.mpr ⟨rfl, List.all_eq_true.mp c7 i hi⟩⟩) hloop fun ρ2 σ2 R4 hσ2 hl2 hev => ?_
    rw [bind_kill] at R4
    have hw : wipe σ2 t.slots = wipe σ t.slots := wipe_eq hσ2 hl2
    refine ⟨hw, ?_⟩
    have hσ2' : ∀ j, j ∉ t.slots → σ2[j]? = (wipe σ t.slots)[j]? := hσ2
    refine rc _ _ _ _ _ _ _ _ _ _ _ _ ht2 R4 hev (ExcOk.no XR) fun b ρ3 H3 R5 hb => ?_
    cases b with
    | false =>
      simp only [Bool.false_eq_true, if_false] at hb ⊢
      obtain ⟨ow5, R5⟩ := R5
      exact ⟨acc, ρ3, Nat.le_succ_of_le hacc, ⟨ow5, kill R5 bindT_len (fun j hj => bindT_out (by rw [tys_slots]; exact hj)) hσ2' rfl (fun _ _ => rfl)⟩, hb⟩
    | true =>
      simp only [if_true] at hb ⊢
      refine re _ _ _ _ _ _ _ _ _ _ _ _ _ ht3 R5 hb (ExcOk.no XR) fun y' ρ4 vy H4 R6 hy => ?_
      obtain ⟨ow6, R6⟩ := R6
      obtain ⟨va, hva, hvl, ow7, R7⟩ := R6.gather c1 (Nat.le_refl _) (Nat.le_refl _)
      refine ⟨va, hva, by rw [hvl]; omega, acc ++ [y'], ρ4, by simp; omega, ⟨ow7, kill R7 bindT_len (fun j hj => bindT_out (by rw [tys_slots]; exact hj)) hσ2' rfl (fun _ _ => rfl)⟩, hy⟩
  · left
    have hie : i = xs.length := by omega
    refine ⟨wstop (by omega), ?_⟩
    rw [hie, List.drop_length] at hloop
    unfold compLoop at hloop
    obtain ⟨ow4, R4⟩ := R2
    have ub := R1'.unbase R4
    obtain ⟨ow5, R5⟩ := ub.under hul
    exact hq (.lst acc) _ (.ref D') H2 ⟨ow5, R1'.restore R5 R4.ext (fun j hj => (hσw j hj).symm) fun i hi => (c6' i hi).2⟩ hloop
structure LcOk (X : Cx) (t : Tgt) (elt tg iter : Expr) (ifs : List Expr) (scope : Scope) (wi : TI) (tt : TT) (te : TE) (own : List (Str × Nat)) : Prop where
  hi : PI X tg iter wi
  ok : BlkOk X.N X.env.scope scope own
  hg : ∀ (s : Shared) (H : Hp) (C : Addr) (cl : List (Str × Addr)) (fp : List Addr), PG (X.blk s H scope (compEnvC scope cl C X.env) fp) tg (gTgt X.K t)
  ht : ∀ (s : Shared) (H : Hp) (C : Addr) (cl : List (Str × Addr)) (fp : List Addr), PTs (X.blk s H scope (compEnvC scope cl C X.env) fp) ifs tt
  he : ∀ (s : Shared) (H : Hp) (C : Addr) (cl : List (Str × Addr)) (fp : List Addr), PE (X.blk s H scope (compEnvC scope cl C X.env) fp) elt te
  hs : ∀ x, foldedSetIterable iter X.env x = pure x
theorem comp_parts {t : Tgt} {it : Pm.It} {c : OE} {e : E} (hi : SIt P w K mg base A C G kk XR it) (hc : ∀ e', c = .some e' → ST P w K mg base A C G kk XR e') (he : SE P w K mg base A C G kk XR e) (Ex : XK) {sc : Scope} {pe : Expr} (hm : mtE A sc (.comp t it c e) pe = true) :
    ∃ elt tg iter ifs scope pos wi tt te own, pe = .ListComp elt [⟨tg, iter, ifs, 0⟩] scope pos ∧ own.map (·.2) = t.slots ∧ (∀ X, Good P w K mg base A kk Ex sc X → LcOk X t elt tg iter ifs scope wi tt te own) ∧ RdE K C G XR Ex (.comp t it c e) (tLc wi (gTgt K t) tt te t.slots) := by
  unfold mtE at hm
  split at hm <;> first | exact absurd hm Bool.false_ne_true | skip
  all_goals first | (rename_i h; cases h; done) | skip
  rename_i elt tg iter ifs scope pos h'
  injection h' with g1 g2 g3 g4
  subst g1 g2 g3 g4
  simp only [Bool.and_eq_true, decide_eq_true_eq] at hm
  obtain ⟨⟨⟨⟨⟨m1, m2⟩, m3⟩, m4⟩, m5⟩, m6⟩ := hm
  obtain ⟨wi, pi, ri⟩ := hi Ex sc tg iter m2
  obtain ⟨te, pe, re⟩ := he E0 (relS scope sc) elt m4
  have hts : ∃ tt : TT, (∀ X, Good P w K mg base A kk E0 (relS scope sc) X → PTs X ifs tt) ∧ RdC K C G XR E0 c tt := by
    rcases ifs with _ | ⟨x, _ | ⟨y, ifs⟩⟩
    · cases c with
      | none => exact ⟨tYes, fun X _ => pts_nil, rc_none⟩
      | some _ => exact absurd m3 Bool.false_ne_true
    · cases c with
      | none => exact absurd m3 Bool.false_ne_true
      | some e' =>
        obtain ⟨t', p', r'⟩ := hc e' rfl E0 (relS scope sc) x m3
        exact ⟨t', fun X g => pts_one (p' X g).1, rc_some r'⟩
    · exact absurd m3 Bool.false_ne_true
  obtain ⟨tt, pt, rt⟩ := hts
  refine ⟨elt, tg, iter, ifs, scope, pos, wi, tt, te, t.own A.N, rfl, m6, fun X g => ?_, rd_comp ri rt re⟩
  have hblk : ∀ (s : Shared) (H : Hp) (C : Addr) (cl : List (Str × Addr)) (fp : List Addr), Good P w K mg base A kk E0 (relS scope sc) (X.blk s H scope (compEnvC scope cl C X.env) fp) := fun s H C cl fp =>
    ⟨g.prog, g.wld, g.eK, g.emg, g.ebase, g.hN, g.nd, by
      show relS scope X.env.scope = _
      rw [g.esc], g.calm, g.room, by
      rw [← g.prog, ← g.wld]
      exact passL, g.wd⟩
  refine ⟨(pi X g).1, by rw [g.hN, g.esc]; exact blkOk_by m5, fun s H C cl fp => ?_, fun s H C cl fp => pt _ (hblk s H C cl fp), fun s H C cl fp => pe _ (hblk s H C cl fp), (pi X g).2⟩
  rw [g.eK]
  refine pg_tgt (sc := scope) m1 g.calm g.eK fun i x pos hn => ?_
  have hn : (A.N[i]? == some x && locB scope x) = true := hn
  simp only [Bool.and_eq_true, beq_iff_eq, locB, Bool.or_eq_true] at hn
  obtain ⟨n1, n2⟩ := hn
  refine pg_name (by show X.N.Nodup; rw [g.hN]; exact g.nd) (by show X.N[i]? = _; rw [g.hN]; exact n1) ?_ ?_
  · rcases n2 with n2 | n2
    · exact .inl (lookup_relS_keep (by decide) n2)
    · exact .inr (lookup_relS_keep (by decide) n2)
  · rcases n2 with n2 | n2
    · exact .inr (lookup_relS_keep (by decide) n2)
    · refine .inl ?_
      show (scope.names.lookup x == some .cell) = true
      rw [n2]; rfl
theorem se_comp {t : Tgt} {it : Pm.It} {c : OE} {e : E} (hi : SIt P w K mg base A C G kk XR it) (hc : ∀ e', c = .some e' → ST P w K mg base A C G kk XR e') (he : SE P w K mg base A C G kk XR e) : SE P w K mg base A C G kk XR (.comp t it c e) := fun Ex sc pe hm => by
  obtain ⟨elt, tg, iter, ifs, scope, pos, wi, tt, te, own, rfl, m6, ok, rd⟩ := comp_parts hi hc he Ex hm
  refine ⟨_, fun X g => ?_, rd⟩
  have L := ok X g
  rw [← m6, ← g.eK]
  exact pe_lc g.calm (by rw [g.hN]; exact g.nd) L.hi L.ok L.hg L.ht L.he L.hs
end Pm

namespace Pm
open PySem PySem.Spec L2
variable [W : Wd] {P : Program} {w : World} {K : PySem.W.Frag} {mg : Str → Option Value} {base : Heap} {A : Code} {C : Ctx} {G : TC} {kk : Nat} {XR : XRel}

section
variable {H0 H : Hp} {M : Mz} {ow : Addr → Id} {Γ Δ : List STy} {ρ : Penv} {σ : L2.St} {Θ Θs : List Ty} {θ θs : List (D × V)}
theorem subΓ_len : ∀ {Γ Δ : List STy}, subΓ Γ Δ = true → Γ.length = Δ.length
  | [], [], _ => rfl
  | a :: Γ, b :: Δ, h => by
    have h : (subTy a b && subΓ Γ Δ) = true := h
    rw [Bool.and_eq_true] at h
    simp [subΓ_len h.2]
  | [], _ :: _, h => absurd h Bool.false_ne_true
  | _ :: _, [], h => absurd h Bool.false_ne_true
theorem Rw.retype (R : Rw K H0 M ow Γ ρ σ Θ θ H) {i : Nat} {t u : Ty} (h1 : Γ[i]? = some (some t)) (hu : u.p.inSlot = true) (h : ∀ d v, ρ[i]? = some (some d) → EntOk K H ow (.slot i) t d v → EntOk K H ow (.slot i) u d v) : Rw K H0 M ow (Γ.set i (some u)) ρ σ Θ θ H where
  lρ := by rw [List.length_set]; exact R.lρ
  lσ := by rw [List.length_set]; exact R.lσ
  nb := fun j ty e => by
    by_cases hj : i = j
    · subst hj
      rw [List.getElem?_set_self (List.getElem?_eq_some_iff.mp h1).1] at e; cases e; exact hu
    · rw [List.getElem?_set_ne hj] at e; exact R.nb j ty e
  slot := fun j ty d e1 e2 => by
    by_cases hj : i = j
    · subst hj
      rw [List.getElem?_set_self (List.getElem?_eq_some_iff.mp h1).1] at e1; cases e1
      obtain ⟨v, e, q⟩ := R.slot i t d h1 e2
      exact ⟨v, e, h d v e2 q⟩
    · rw [List.getElem?_set_ne hj] at e1; exact R.slot j ty d e1 e2
  temp := R.temp
  ext := R.ext
  mt := R.mt
  hm := R.hm
  old := R.old
  hiT := R.hiT
theorem Rel.sub1 (R : Rel K H0 M Γ ρ σ Θ θ H) {i : Nat} {a b : STy} (h1 : Γ[i]? = some a) (h : subTy a b = true) : Rel K H0 M (Γ.set i b) ρ σ Θ θ H := by
  obtain ⟨ow, R⟩ := R
  cases b with
  | none => exact ⟨ow, R.kill i⟩
  | some u =>
    cases a with
    | none => exact absurd h Bool.false_ne_true
    | some t =>
      unfold subTy at h
      rw [Bool.and_eq_true] at h
      obtain ⟨hu, h⟩ := h
      by_cases h0 : t.k = 0
      · exact ⟨ow, R.retype h1 hu fun d v _ q => q.imm h0⟩
      · have h0' : (t.k == 0) = false := by simpa using h0
        rw [h0', Bool.false_or, Bool.and_eq_true, decide_eq_true_eq] at h
        obtain ⟨hk, h⟩ := h
        have same : ∀ {p q : Perm}, t.p = p → u.p = q → p.lv = 0 → q.lv = 0 → (∀ o, zOf ow H p o → zOf ow H q o) → LabOk ow (.slot i) [] q → Rel K H0 M (Γ.set i (some u)) ρ σ Θ θ H := fun {p q} e1 e2 l1 l2 z l => ⟨ow, R.retype h1 hu fun d v _ ⟨F, r, hd, hl⟩ => by
          rw [e1, l1] at r
          have eF := r.nil0
          subst eF
          exact ⟨[], by rw [e2, l2]; exact r.z z, D.dep_mono hk d hd, by rw [e2]; exact l⟩⟩
        cases e1 : t.p with
        | own n =>
          have et : t = ⟨.own n, t.k⟩ := own_eq e1
          have eu : u = ⟨u.p, u.k⟩ := rfl
          rw [et] at h1
          by_cases hd : ∃ d, ρ[i]? = some (some d)
          · obtain ⟨d, hd⟩ := hd
            obtain ⟨S, R2⟩ := R.lower h1 hd hk (p := u.p) (by
              rw [e1] at h
              cases e2 : u.p with
              | own m => rw [e2] at h; exact .inl ⟨m, rfl, h⟩
              | frz => exact .inr (.inl rfl)
              | rd => exact .inr (.inr rfl)
              | bor m xs => rw [e2] at hu; cases hu)
            exact ⟨_, R2⟩
          · exact ⟨ow, R.retype h1 hu fun d v e _ => absurd ⟨d, e⟩ hd⟩
        | frz =>
          rw [e1] at h
          cases e2 : u.p with
          | own m => rw [e2] at h; cases h
          | frz => exact same e1 e2 rfl rfl (fun _ z => z) trivial
          | rd => exact same e1 e2 rfl rfl (fun _ z => z.frz) trivial
          | bor m xs => rw [e2] at hu; cases hu
        | rd =>
          rw [e1] at h
          cases e2 : u.p with
          | rd => exact same e1 e2 rfl rfl (fun _ z => z) trivial
          | own m => rw [e2] at h; cases h
          | frz => rw [e2] at h; cases h
          | bor m xs => rw [e2] at h; cases h
        | bor n xs => rw [e1] at h; cases h
theorem Rel.subs : ∀ {Γ Δ A : List STy}, Rel K H0 M (A ++ Γ) ρ σ Θ θ H → subΓ Γ Δ = true → Rel K H0 M (A ++ Δ) ρ σ Θ θ H
  | [], [], _, R, _ => R
  | a :: Γ, b :: Δ, A, R, h => by
    have h : (subTy a b && subΓ Γ Δ) = true := h
    rw [Bool.and_eq_true] at h
    have R1 := R.sub1 (i := A.length) (a := a) (by simp) h.1
    have e : (A ++ a :: Γ).set A.length b = (A ++ [b]) ++ Γ := by simp
    rw [e] at R1
    have R2 := Rel.subs R1 h.2
    simpa using R2
  | [], _ :: _, _, _, h => absurd h Bool.false_ne_true
  | _ :: _, [], _, _, h => absurd h Bool.false_ne_true
theorem Rel.sub (R : Rel K H0 M Γ ρ σ Θ θ H) (h : subΓ Γ Δ = true) : Rel K H0 M Δ ρ σ Θ θ H := Rel.subs (A := []) R h
/-- what is told goes past what a loop walks -/
theorem Rel.past {t : Ty} {d : D} {v : V} (R : Rel K H0 M Γ ρ σ (t :: (Θs ++ Θ)) ((d, v) :: (θs ++ θ)) H) (hl : Θs.length = θs.length) (hf : t.free = true) : Rel K H0 M Γ ρ σ (t :: Θ) ((d, v) :: θ) H ∨ (t.k = 0 ∧ Rel K H0 M Γ ρ σ (Pm.imm :: Θ) ((d, v) :: θ) H) := by
  by_cases h0 : t.k = 0
  · obtain ⟨r, hd⟩ := R.len1
    rw [h0] at hd
    exact .inr ⟨h0, Rel.new0 (Θs := t :: Θs) (θs := (d, v) :: θs) R (by simp [hl]) (New0.same r hd)⟩
  · left
    unfold Ty.free at hf
    have h0' : (t.k == 0) = false := by simpa using h0
    rw [h0', Bool.false_or] at hf
    cases e : t.p with
    | own n =>
      rw [own_eq e] at R ⊢
      obtain ⟨ow, R⟩ := R
      exact R.under hl
    | frz =>
      obtain ⟨ow, R⟩ := R
      obtain ⟨F, r, hd, _⟩ := R.temp.1
      rw [e] at r
      have et : t = ⟨.frz, t.k⟩ := by cases t; cases e; rfl
      have q := Rw.frzR (Θs := t :: Θs) (θs := (d, v) :: θs) R (by simp [hl]) (p := .frz) (k := t.k) (.inl rfl) r hd
      unfold mkT at q
      rw [if_neg h0, ← et] at q
      exact q
    | rd => rw [e] at hf; cases hf
    | bor n xs => rw [e] at hf; cases hf
end
def Pin (RC : RC) (σ0 σ : L2.St) : Prop := ∀ p ∈ RC.ino, σ[p.1]? = σ0[p.1]?
structure EndsOk (K : PySem.W.Frag) (σ0 : L2.St) (RC : RC) (B : List STy) (Θ : List Ty) (θ : List (D × V)) (H0 : Hp) (M : Mz) (Kt : Kt) (D : Ends) : Prop where
  rt : ∀ (t : Ty) Γ1 (d : Pm.D) ρ' v σ' H', retOk RC t Γ1 = true → Rel K H0 M Γ1 ρ' σ' (t :: Θ) ((d, v) :: θ) H' → Pin RC σ0 σ' → Kt.rt d ρ' → D.rt v H'
  bk : ∀ ρ' σ' H', Rel K H0 M B ρ' σ' Θ θ H' → Pin RC σ0 σ' → Kt.bk ρ' → D.bk σ' H'
  ct : ∀ ρ' σ' H', Rel K H0 M B ρ' σ' Θ θ H' → Pin RC σ0 σ' → Kt.ct ρ' → D.ct σ' H'
def RdS (K : PySem.W.Frag) (C : Ctx) (G : TC) (XR : XRel) (Ex : XK) (s : S) (t : TS) : Prop := ∀ RC B Γ Θ o H0 M ρ σ θ H (Kt : Kt) (D : Ends) σ0, tyS G RC B Γ Θ s = some o → Rel K H0 M Γ ρ σ Θ θ H → evalS C s ρ Kt → ExcOk XR Ex M H0 Kt.ex → Pin RC σ0 σ → EndsOk K σ0 RC B Θ θ H0 M Kt D →
  (∀ Γ1, o = some Γ1 → ∀ ρ' σ' H', Rel K H0 M Γ1 ρ' σ' Θ θ H' → Pin RC σ0 σ' → Kt.nx ρ' → D.nx σ' H') → t D σ H
def RdSs (K : PySem.W.Frag) (C : Ctx) (G : TC) (XR : XRel) (Ex : XK) (s : Ss) (t : TS) : Prop := ∀ RC B Γ Θ o H0 M ρ σ θ H (Kt : Kt) (D : Ends) σ0, tySs G RC B Γ Θ s = some o → Rel K H0 M Γ ρ σ Θ θ H → evalSs C s ρ Kt → ExcOk XR Ex M H0 Kt.ex → Pin RC σ0 σ → EndsOk K σ0 RC B Θ θ H0 M Kt D →
  (∀ Γ1, o = some Γ1 → ∀ ρ' σ' H', Rel K H0 M Γ1 ρ' σ' Θ θ H' → Pin RC σ0 σ' → Kt.nx ρ' → D.nx σ' H') → t D σ H
def SS (P : Program) (w : World) (K : PySem.W.Frag) (mg : Str → Option Value) (base : Heap) (A : Code) (C : Ctx) (G : TC) (kk : Nat) (XR : XRel) (s : S) : Prop :=
  ∀ Ex sc st, mtS A sc s st = true → ∃ t : TS, (∀ X, GoodF P w K mg base A kk Ex sc X → PS X st t) ∧ RdS K C G XR Ex s t
def SSs (P : Program) (w : World) (K : PySem.W.Frag) (mg : Str → Option Value) (base : Heap) (A : Code) (C : Ctx) (G : TC) (kk : Nat) (XR : XRel) (s : Ss) : Prop :=
  ∀ Ex sc st, mtSs A sc s st = true → ∃ t : TS, (∀ X, GoodF P w K mg base A kk Ex sc X → PSs X st t) ∧ RdSs K C G XR Ex s t
theorem sss_nil : SSs P w K mg base A C G kk XR .nil := fun Ex sc st hm => by
  cases st with
  | cons _ _ => exact absurd hm Bool.false_ne_true
  | nil =>
    refine ⟨tNext, fun X g => pss_nil, ?_⟩
    intro RC B Γ Θ o H0 M ρ σ θ H Kt D σ0 ht R he hx hpin hd hn
    unfold tySs at ht
    cases ht
    unfold evalSs at he
    exact hn Γ rfl ρ σ H R hpin he
theorem sss_cons {s : S} {ss : Ss} (h1 : SS P w K mg base A C G kk XR s) (h2 : SSs P w K mg base A C G kk XR ss) : SSs P w K mg base A C G kk XR (.cons s ss) := fun Ex sc st hm => by
  cases st with
  | nil => exact absurd hm Bool.false_ne_true
  | cons x xs =>
    have hm : (mtS A sc s x && mtSs A sc ss xs) = true := hm
    rw [Bool.and_eq_true] at hm
    obtain ⟨t, p, r⟩ := h1 Ex sc x hm.1
    obtain ⟨u, q, r2⟩ := h2 Ex sc xs hm.2
    refine ⟨tSeq t u, fun X g => pss_cons (p X g) (q X g), ?_⟩
    intro RC B Γ Θ o H0 M ρ σ θ H Kt D σ0 ht R he hx hpin hd hn
    unfold tySs at ht
    unfold evalSs at he
    split at ht <;> try (cases ht; done)
    · rename_i Γ1 ht1
      refine r _ _ _ _ _ _ _ _ _ _ _ _ _ _ ht1 R he hx hpin ⟨hd.rt, hd.bk, hd.ct⟩ fun Γ2 e2 ρ' σ' H' R' hp' hk => ?_
      cases e2
      exact r2 _ _ _ _ _ _ _ _ _ _ _ _ _ _ ht R' hk hx hp' hd hn
    · rename_i ht1
      cases ht
      exact r _ _ _ _ _ _ _ _ _ _ _ _ _ _ ht1 R he hx hpin ⟨hd.rt, hd.bk, hd.ct⟩ fun Γ2 e2 => by cases e2
theorem ss_pass : SS P w K mg base A C G kk XR .pass := fun Ex sc st hm => by
  unfold mtS at hm
  split at hm <;> first | exact absurd hm Bool.false_ne_true | skip
  all_goals first | (rename_i h; cases h; done) | skip
  refine ⟨tNext, fun X g => ps_pass, ?_⟩
  intro RC B Γ Θ o H0 M ρ σ θ H Kt D σ0 ht R he hx hpin hd hn
  unfold tyS at ht
  cases ht
  unfold evalS at he
  exact hn Γ rfl ρ σ H R hpin he
theorem ss_dead : SS P w K mg base A C G kk XR .dead := fun Ex sc st hm => by
  refine ⟨fun _ _ _ => False, fun X g => ⟨fun _ _ _ _ _ _ h => h.elim⟩, ?_⟩
  intro RC B Γ Θ o H0 M ρ σ θ H Kt D σ0 ht R he hx hpin hd hn
  exact he.elim
theorem ss_brk : SS P w K mg base A C G kk XR .brk := fun Ex sc st hm => by
  unfold mtS at hm
  split at hm <;> first | exact absurd hm Bool.false_ne_true | skip
  all_goals first | (rename_i h; cases h; done) | skip
  refine ⟨tBreak, fun X g => ps_break, ?_⟩
  intro RC B Γ Θ o H0 M ρ σ θ H Kt D σ0 ht R he hx hpin hd hn
  unfold tyS at ht
  split at ht <;> try (cases ht; done)
  rename_i hs
  unfold evalS at he
  exact hd.bk ρ σ H (R.sub hs) hpin he
theorem ss_cnt : SS P w K mg base A C G kk XR .cnt := fun Ex sc st hm => by
  unfold mtS at hm
  split at hm <;> first | exact absurd hm Bool.false_ne_true | skip
  all_goals first | (rename_i h; cases h; done) | skip
  refine ⟨tCont, fun X g => ps_continue, ?_⟩
  intro RC B Γ Θ o H0 M ρ σ θ H Kt D σ0 ht R he hx hpin hd hn
  unfold tyS at ht
  split at ht <;> try (cases ht; done)
  rename_i hs
  unfold evalS at he
  exact hd.ct ρ σ H (R.sub hs) hpin he
theorem ss_expr {e : E} (h : SE P w K mg base A C G kk XR e) : SS P w K mg base A C G kk XR (.expr e) := fun Ex sc st hm => by
  unfold mtS at hm
  split at hm <;> first | exact absurd hm Bool.false_ne_true | skip
  all_goals first | (rename_i h; cases h; done) | skip
  rename_i v pos h'
  injection h' with g1
  subst g1
  simp only [Bool.and_eq_true, Bool.not_eq_true'] at hm
  obtain ⟨t, p, r⟩ := h Ex sc _ hm.1
  refine ⟨tDrop t, fun X g => ps_expr (p X g.good) ?_, ?_⟩
  · have hl := hm.2
    unfold swapsWith
    cases v <;> first | rfl | cases hl
  · intro RC B Γ Θ o H0 M ρ σ θ H Kt D σ0 ht R he hx hpin hd hn
    unfold tyS at ht
    split at ht <;> try (cases ht; done)
    rename_i t0 Γ1 ht1
    cases ht
    unfold evalS at he
    exact r _ _ _ _ _ _ _ _ _ _ _ _ _ ht1 R he hx fun d ρ1 v H1 R1 hk => hn Γ1 rfl ρ1 σ H1 R1.pop hpin hk
theorem ss_ret {e : E} (h : SE P w K mg base A C G kk XR e) : SS P w K mg base A C G kk XR (.ret e) := fun Ex sc st hm => by
  unfold mtS at hm
  split at hm <;> first | exact absurd hm Bool.false_ne_true | skip
  all_goals first | (rename_i h; cases h; done) | skip
  rename_i v pos h'
  injection h' with g1
  subst g1
  obtain ⟨t, p, r⟩ := h Ex sc _ hm
  refine ⟨tRet t, fun X g => ps_ret (p X g.good), ?_⟩
  intro RC B Γ Θ o H0 M ρ σ θ H Kt D σ0 ht R he hx hpin hd hn
  unfold tyS at ht
  split at ht <;> try (cases ht; done)
  rename_i t0 Γ1 ht1
  split at ht <;> try (cases ht; done)
  rename_i hr
  unfold evalS at he
  exact r _ _ _ _ _ _ _ _ _ _ _ _ _ ht1 R he hx fun d ρ1 v H1 R1 hk => hd.rt _ _ d ρ1 v σ H1 hr R1 hpin hk
theorem ss_retN : SS P w K mg base A C G kk XR .retN := fun Ex sc st hm => by
  unfold mtS at hm
  split at hm <;> first | exact absurd hm Bool.false_ne_true | skip
  all_goals first | (rename_i h; cases h; done) | skip
  refine ⟨tRetN, fun X g => ps_retN, ?_⟩
  intro RC B Γ Θ o H0 M ρ σ θ H Kt D σ0 ht R he hx hpin hd hn
  unfold tyS at ht
  split at ht <;> try (cases ht; done)
  rename_i hr
  unfold evalS at he
  exact hd.rt _ _ _ ρ _ σ H hr (R.immV .non rfl) hpin he
theorem ss_if {c : E} {a b : Ss} (hc : ST P w K mg base A C G kk XR c) (ha : SSs P w K mg base A C G kk XR a) (hb : SSs P w K mg base A C G kk XR b) : SS P w K mg base A C G kk XR (.if_ c a b) := fun Ex sc st hm => by
  unfold mtS at hm
  split at hm <;> first | exact absurd hm Bool.false_ne_true | skip
  all_goals first | (rename_i h; cases h; done) | skip
  rename_i v x y pos h'
  injection h' with g1 g2 g3
  subst g1 g2 g3
  simp only [Bool.and_eq_true] at hm
  obtain ⟨⟨m1, m2⟩, m3⟩ := hm
  obtain ⟨tc, p1, r1⟩ := hc Ex sc _ m1
  obtain ⟨ta, p2, r2⟩ := ha Ex sc _ m2
  obtain ⟨tb, p3, r3⟩ := hb Ex sc _ m3
  refine ⟨tIfS tc ta tb, fun X g => ps_if (p1 X g.good).1 (p2 X g) (p3 X g), ?_⟩
  intro RC B Γ Θ o H0 M ρ σ θ H Kt D σ0 ht R he hx hpin hd hn
  unfold tyS at ht
  split at ht <;> try (cases ht; done)
  rename_i t0 Γ1 ht1
  split at ht <;> try (cases ht; done)
  rename_i xa ya hta htb
  have hj : (∀ Γ2, xa = some Γ2 → ∃ Δ, o = some Δ ∧ subΓ Γ2 Δ = true) ∧ ∀ Γ2, ya = some Γ2 → ∃ Δ, o = some Δ ∧ subΓ Γ2 Δ = true := by
    cases xa with
    | none =>
      cases ya with
      | none => exact ⟨fun Γ2 e => (by cases e), fun Γ2 e => by cases e⟩
      | some Γb =>
        simp only [joinR] at ht
        split at ht <;> try (cases ht; done)
        rename_i hs
        cases ht
        rw [Bool.and_eq_true] at hs
        exact ⟨fun Γ2 e => (by cases e), fun Γ2 e => by cases e; exact ⟨_, rfl, hs.2⟩⟩
    | some Γa =>
      cases ya with
      | none =>
        simp only [joinR] at ht
        split at ht <;> try (cases ht; done)
        rename_i hs
        cases ht
        rw [Bool.and_eq_true] at hs
        exact ⟨fun Γ2 e => (by cases e; exact ⟨_, rfl, hs.1⟩), fun Γ2 e => by cases e⟩
      | some Γb =>
        simp only [joinR] at ht
        split at ht <;> try (cases ht; done)
        rename_i hs
        cases ht
        rw [Bool.and_eq_true] at hs
        exact ⟨fun Γ2 e => (by cases e; exact ⟨_, rfl, hs.1⟩), fun Γ2 e => by cases e; exact ⟨_, rfl, hs.2⟩⟩
  unfold evalS at he
  refine r1 _ _ _ _ _ _ _ _ _ _ _ _ _ ht1 R he hx fun d ρ1 H1 R1 hk => ?_
  cases e : d.truth with
  | none => simp only [e] at hk
  | some c' =>
    simp only [e] at hk
    refine ⟨c', rfl, ?_⟩
    cases c' with
    | true =>
      rw [if_pos rfl]
      refine r2 _ _ _ _ _ _ _ _ _ _ _ _ _ _ hta R1 hk hx hpin hd fun Γ2 e2 ρ' σ' H' R' hp' hk' => ?_
      obtain ⟨Δ, h1, h2⟩ := hj.1 Γ2 e2
      exact hn Δ h1 ρ' σ' H' (R'.sub h2) hp' hk'
    | false =>
      rw [if_neg Bool.false_ne_true]
      refine r3 _ _ _ _ _ _ _ _ _ _ _ _ _ _ htb R1 hk hx hpin hd fun Γ2 e2 ρ' σ' H' R' hp' hk' => ?_
      obtain ⟨Δ, h1, h2⟩ := hj.2 Γ2 e2
      exact hn Δ h1 ρ' σ' H' (R'.sub h2) hp' hk'
theorem retOk_imm {RC : RC} {t : Ty} {Γ : List STy} (h : retOk RC t Γ = true) (h0 : t.k = 0) : retOk RC imm Γ = true := by
  unfold retOk at h ⊢
  simp only [Bool.and_eq_true] at h ⊢
  refine ⟨⟨rfl, ?_⟩, h.2⟩
  have := h.1.2
  unfold subTy at this ⊢
  rw [Bool.and_eq_true] at this ⊢
  exact ⟨this.1, rfl⟩
theorem retOk_free {RC : RC} {t : Ty} {Γ : List STy} (h : retOk RC t Γ = true) : t.free = true := by
  unfold retOk at h
  simp only [Bool.and_eq_true] at h
  exact h.1.1
theorem pg_own {Ex : XK} {sc : Scope} {X : Cx} (g : GoodF P w K mg base A kk Ex sc X) {i : Nat} {x : Str} {pos : Pos} (hn : nmB A sc i (.Name x pos) = true) : PG X (.Name x pos) (gName i) := by
  have hn : (A.N[i]? == some x && locB sc x) = true := hn
  simp only [Bool.and_eq_true, beq_iff_eq, locB, Bool.or_eq_true] at hn
  have hl : Loc sc x := hn.2
  refine pg_name (by rw [g.good.hN]; exact g.good.nd) (by rw [g.good.hN]; exact hn.1) (by rw [g.good.esc]; exact hl) ?_
  rw [g.good.esc]
  exact g.fnl x hl
theorem ss_for {Δ : List STy} {t : Tgt} {it : Pm.It} {b : Ss} (hi : SIt P w K mg base A C G kk XR it) (hb : SSs P w K mg base A C G kk XR b) : SS P w K mg base A C G kk XR (.for_ Δ t it b) := fun Ex sc st hm => by
  unfold mtS at hm
  split at hm <;> first | exact absurd hm Bool.false_ne_true | skip
  all_goals first | (rename_i h; cases h; done) | skip
  rename_i tg v x pos h'
  injection h' with g1 g2 g3 g4
  subst g1 g2 g3 g4
  simp only [Bool.and_eq_true] at hm
  obtain ⟨⟨m1, m2⟩, m3⟩ := hm
  obtain ⟨wi, pi, ri⟩ := hi Ex sc tg v m2
  obtain ⟨tb, pb, rb⟩ := hb Ex sc x m3
  refine ⟨tFor wi (gTgt K t) tb, fun X g => ps_for g.own g.good.calm (pi X g.good).1 (pg_tgt m1 g.good.calm g.good.eK fun i x pos hn => pg_own g hn) (pb X g) (pi X g.good).2, ?_⟩
  intro RC B Γ Θ o H0 M ρ σ θ H Kt D σ0 ht R he hx hpin hd hn
  unfold tyS at ht
  split at ht <;> try (cases ht; done)
  rename_i us u Γ1 ht1
  split at ht <;> try (cases ht; done)
  rename_i hc
  simp only [Bool.and_eq_true, List.all_eq_true, decide_eq_true_eq] at hc
  obtain ⟨⟨⟨c1, c2⟩, c4⟩, c3⟩ := hc
  have hbody : ∃ ob, tySs G RC Δ (bindT (t.tys u) Δ) (us ++ Θ) b = some ob ∧ o = some Δ ∧ ∀ Γ2, ob = some Γ2 → subΓ Γ2 Δ = true := by
    split at ht <;> try (cases ht; done)
    · rename_i Γ2 ht2
      split at ht <;> try (cases ht; done)
      rename_i hs
      cases ht
      exact ⟨_, ht2, rfl, fun Γ3 e => by cases e; exact hs⟩
    · rename_i ht2
      cases ht
      exact ⟨_, ht2, rfl, fun Γ3 e => by cases e⟩
  obtain ⟨ob, ht2, rfl, hob⟩ := hbody
  unfold evalS at he
  refine ri _ _ _ _ _ _ _ _ _ _ _ _ _ _ ht1 R he hx fun xs ρ1 J H1 θs hul R1 W hk => ?_
  have eu2 := tyIt_elem ht1
  have R1 := R1.sub c1
  refine ⟨fun i m σ H => m = xs.length - i ∧ i ≤ xs.length ∧ ∃ ρ', Rel K H0 M Δ ρ' σ (us ++ Θ) (θs ++ θ) H ∧ Pin RC σ0 σ ∧
      forLoop (fun x ρ' k => asgK t x ρ' fun ρ2 => evalSs C b ρ2 ⟨k, Kt.rt, Kt.nx, k, Kt.ex⟩) Kt.nx (xs.drop i) ρ', ⟨xs.length, by simp, Nat.zero_le _, ρ1, R1, hpin, by simpa using hk⟩, ?_⟩
  rintro i m σ2 H2 ⟨rfl, hi, ρ2, R2, hp2, hloop⟩
  obtain ⟨wk, wstop⟩ := W _ _ _ _ _ [] [] _ _ _ i rfl R2
  by_cases hlt : i < xs.length
  · right
    obtain ⟨go, yl⟩ := wk xs[i] (List.getElem?_eq_getElem hlt)
    rw [List.drop_eq_getElem_cons hlt] at hloop
    unfold forLoop at hloop
    refine ⟨go, fun σ H => ∃ ρ', Rel K H0 M Δ ρ' σ (us ++ Θ) (θs ++ θ) H ∧ Pin RC σ0 σ ∧ forLoop (fun x ρ' k => asgK t x ρ' fun ρ2 => evalSs C b ρ2 ⟨k, Kt.rt, Kt.nx, k, Kt.ex⟩) Kt.nx (xs.drop (i + 1)) ρ',
      fun σ' H' ⟨ρ', h1, h2, h3⟩ => ⟨xs.length - (i + 1), by omega, rfl, hlt, ρ', h1, h2, h3⟩, fun x H' y => ?_⟩
    have R3 := yl x H' y
    refine R3.tgt c2 eu2 c4 (fun i hi => ⟨(c3 i hi).1.1, (c3 i hi).1.2⟩) hloop fun ρ3 σ3 R4 k3 _ hev => ?_
    have hp3 : Pin RC σ0 σ3 := fun p hp => (k3 p.1 fun hm => by
      have := List.all_eq_true.mp (c3 p.1 hm).2 p hp
      simp at this).trans (hp2 p hp)
    refine rb _ _ _ _ _ _ _ _ _ _ _ _ _ _ ht2 R4 hev hx hp3 ⟨fun t' Γ' d ρ' v σ' H' hr R' hp' hk' => ?_, fun ρ' σ' H' R' hp' hk' => ?_, fun ρ' σ' H' R' hp' hk' => ⟨ρ', R', hp', hk'⟩⟩ fun Γ2 e2 ρ' σ' H' R' hp' hk' => ⟨ρ', R'.sub (hob Γ2 e2), hp', hk'⟩
    · rcases Rel.past (Θs := us) (θs := θs) R' hul (retOk_free hr) with q | ⟨h0, q⟩
      · exact hd.rt _ _ _ _ _ _ _ hr q hp' hk'
      · exact hd.rt _ _ _ _ _ _ _ (retOk_imm hr h0) q hp' hk'
    · exact hn Δ rfl ρ' σ' H' (R'.drop hul) hp' hk'
  · left
    have hie : i = xs.length := by omega
    refine ⟨wstop (by omega), ?_⟩
    rw [hie, List.drop_length] at hloop
    unfold forLoop at hloop
    exact hn Δ rfl ρ2 σ2 H2 (R2.drop hul) hp2 hloop
theorem ss_while {Δ : List STy} {c : E} {b : Ss} (hc : ST P w K mg base A C G kk XR c) (hb : SSs P w K mg base A C G kk XR b) : SS P w K mg base A C G kk XR (.while_ Δ c b) := fun Ex sc st hm => by
  unfold mtS at hm
  split at hm <;> first | exact absurd hm Bool.false_ne_true | skip
  all_goals first | (rename_i h; cases h; done) | skip
  rename_i v x pos h'
  injection h' with g1 g2 g3
  subst g1 g2 g3
  simp only [Bool.and_eq_true] at hm
  obtain ⟨m2, m3⟩ := hm
  obtain ⟨tc, pc, rc⟩ := hc Ex sc v m2
  obtain ⟨tb, pb, rb⟩ := hb Ex sc x m3
  refine ⟨tWhile tc tb, fun X g => ps_while g.own (pc X g.good).1 (pb X g), ?_⟩
  intro RC B Γ Θ o H0 M ρ σ θ H Kt D σ0 ht R he hx hpin hd hn
  unfold tyS at ht
  split at ht <;> try (cases ht; done)
  rename_i c1
  split at ht <;> try (cases ht; done)
  rename_i t0 Γ1 ht1
  split at ht <;> try (cases ht; done)
  rename_i c2
  have hbody : ∃ ob, tySs G RC Δ Γ1 Θ b = some ob ∧ o = some Δ ∧ ∀ Γ2, ob = some Γ2 → subΓ Γ2 Δ = true := by
    split at ht <;> try (cases ht; done)
    · rename_i Γ2 ht2
      split at ht <;> try (cases ht; done)
      rename_i hs
      cases ht
      exact ⟨_, ht2, rfl, fun Γ3 e => by cases e; exact hs⟩
    · rename_i ht2
      cases ht
      exact ⟨_, ht2, rfl, fun Γ3 e => by cases e⟩
  obtain ⟨ob, ht2, rfl, hob⟩ := hbody
  unfold evalS at he
  obtain ⟨n, hw⟩ := he
  refine ⟨fun m σ H => ∃ ρ', Rel K H0 M Δ ρ' σ Θ θ H ∧ Pin RC σ0 σ ∧ whileN (fun ρ' k => evalE C c ρ' k Kt.ex) (fun ρ' k => evalSs C b ρ' ⟨k, Kt.rt, Kt.nx, k, Kt.ex⟩) Kt.nx m ρ', ⟨n, ρ, R.sub c1, hpin, hw⟩, ?_⟩
  rintro m σ2 H2 ⟨ρ2, R2, hp2, hw⟩
  cases m with
  | zero => exact hw.elim
  | succ m =>
    have hw : evalE C c ρ2 (fun d ρ' => match d.truth with
      | some true => evalSs C b ρ' ⟨whileN (fun ρ' k => evalE C c ρ' k Kt.ex) (fun ρ' k => evalSs C b ρ' ⟨k, Kt.rt, Kt.nx, k, Kt.ex⟩) Kt.nx m, Kt.rt, Kt.nx, whileN (fun ρ' k => evalE C c ρ' k Kt.ex) (fun ρ' k => evalSs C b ρ' ⟨k, Kt.rt, Kt.nx, k, Kt.ex⟩) Kt.nx m, Kt.ex⟩
      | some false => Kt.nx ρ'
      | none => False) Kt.ex := hw
    refine rc _ _ _ _ _ _ _ _ _ _ _ _ _ ht1 R2 hw hx fun d ρ3 H3 R3 hk => ?_
    cases e : d.truth with
    | none => simp only [e] at hk
    | some c' =>
      simp only [e] at hk
      refine ⟨c', rfl, ?_⟩
      cases c' with
      | true =>
        rw [if_pos rfl]
        refine ⟨fun σ H => ∃ ρ', Rel K H0 M Δ ρ' σ Θ θ H ∧ Pin RC σ0 σ ∧ whileN (fun ρ' k => evalE C c ρ' k Kt.ex) (fun ρ' k => evalSs C b ρ' ⟨k, Kt.rt, Kt.nx, k, Kt.ex⟩) Kt.nx m ρ', fun σ' H' h => ⟨m, Nat.lt_succ_self _, h⟩, ?_⟩
        exact rb _ _ _ _ _ _ _ _ _ _ _ _ _ _ ht2 R3 hk hx hp2 ⟨hd.rt, fun ρ' σ' H' R' hp' hk' => hn Δ rfl ρ' σ' H' R' hp' hk', fun ρ' σ' H' R' hp' hk' => ⟨ρ', R', hp', hk'⟩⟩ fun Γ2 e2 ρ' σ' H' R' hp' hk' => ⟨ρ', R'.sub (hob Γ2 e2), hp', hk'⟩
      | false =>
        rw [if_neg Bool.false_ne_true]
        exact hn Δ rfl ρ3 σ2 H3 (R3.sub c2) hp2 hk
end Pm

namespace Pm
open PySem PySem.Spec L2
variable [W : Wd] {P : Program} {w : World} {K : PySem.W.Frag} {mg : Str → Option Value} {base : Heap} {A : Code} {C : Ctx} {G : TC} {kk : Nat} {XR : XRel}

/-! ### assignments -/
theorem kindFn {Ex : XK} {sc : Scope} {X : Cx} (g : GoodF P w K mg base A kk Ex sc X) : X.env.scope.kind = .function := by rw [g.good.esc]; exact g.kind
theorem bkFn {env : Env} (h : env.scope.kind = .function) : env.blockKind = .function := by unfold Env.blockKind; rw [h]; rfl
theorem ss_asg {t : Tgt} {e : E} (h : SE P w K mg base A C G kk XR e) (hcomp : ∀ t' it c e', e = .comp t' it c e' → SIt P w K mg base A C G kk XR it ∧ (∀ e2, c = .some e2 → ST P w K mg base A C G kk XR e2) ∧ SE P w K mg base A C G kk XR e') :
    SS P w K mg base A C G kk XR (.asg t e) := fun Ex sc st hm => by
  unfold mtS at hm
  split at hm <;> first | exact absurd hm Bool.false_ne_true | skip
  all_goals first | (rename_i h; cases h; done) | skip
  rename_i tg v pos h'
  injection h' with g1 g2
  subst g1 g2
  simp only [Bool.and_eq_true, Bool.not_eq_true'] at hm
  obtain ⟨⟨⟨⟨m1, m2⟩, m3⟩, m4⟩, m5⟩ := hm
  have rd : ∀ te, RdE K C G XR Ex e te → RdS K C G XR Ex (.asg t e) (tAsg te (gTgt K t)) := by
    intro te r RC B Γ Θ o H0 M ρ σ θ H Kt D σ0 ht R he hx hpin hd hn
    unfold tyS at ht
    split at ht <;> try (cases ht; done)
    rename_i u Γ1 ht1
    unfold evalS at he
    refine r _ _ _ _ _ _ _ _ _ _ _ _ _ ht1 R he hx fun d ρ1 v H1 R1 hk => ?_
    split at ht <;> try (cases ht; done)
    rename_i hc
    cases ht
    obtain ⟨c1, c2, c3, c4⟩ := hc
    have c3 : ∀ i ∈ t.slots, (i < Γ1.length ∧ noBor i Θ = true) ∧ RC.free i = true := fun i hi => by
      have := List.all_eq_true.mp c3 i hi
      simpa using this
    exact R1.tgt c1 c2 c4 (fun j hj => (c3 j hj).1) hk fun ρ' σ' R2 k2 _ q => hn _ rfl ρ' σ' H1 R2 (fun p hp => (k2 p.1 fun hm => by
      have := List.all_eq_true.mp (c3 p.1 hm).2 p hp
      simp at this).trans (hpin p hp)) q
  obtain ⟨te, pe, re⟩ := h Ex sc v m2
  have htg : (∃ i x p, t = .nm i ∧ tg = .Name x p) ∨ ∃ es k p, tg = .Tuple es k p := by
    cases t with
    | nm i => cases tg <;> first | exact .inl ⟨_, _, _, rfl, rfl⟩ | exact absurd m1 Bool.false_ne_true
    | tp is => cases tg <;> first | exact .inr ⟨_, _, _, rfl⟩ | exact absurd m1 Bool.false_ne_true
    | tpo is => cases tg <;> first | exact .inr ⟨_, _, _, rfl⟩ | exact absurd m1 Bool.false_ne_true
  have plain : (∀ X, GoodF P w K mg base A kk Ex sc X → swapsWith v (some tg) pos.line X.env = pure false) → ∃ t' : TS, (∀ X, GoodF P w K mg base A kk Ex sc X → PS X (.Assign [tg] v pos) t') ∧ RdS K C G XR Ex (.asg t e) t' := by
    intro hsw
    refine ⟨_, fun X g => ps_asg (pe X g.good) (pg_tgt m1 g.good.calm g.good.eK fun i x pos hn => pg_own g hn) (hsw X g) ?_ ?_, rd te re⟩
    · unfold swappedStores
      rcases htg with ⟨i, x, p, rfl, rfl⟩ | ⟨es, k, p, rfl⟩
      · cases v <;> rfl
      · cases v <;> first | rfl | cases m4
    · rcases htg with ⟨i, x, p, rfl, rfl⟩ | ⟨es, k, p, rfl⟩ <;> rfl
  cases hsw : swB sc tg v pos.line with
  | none => rw [hsw] at m3; cases m3
  | some b =>
    cases v with
    | ListComp elt gs scope vpos =>
      rcases htg with ⟨i, x, p, rfl, rfl⟩ | ⟨es, k, p, rfl⟩
      · have hb : (sc.names.lookup x == some .local && p.line == vpos.line && !(scope.names.any fun (n, k) => n == x && (k == .local || k == .cell))) = b := by
          have := hsw
          unfold swB at this
          exact Option.some.inj this
        cases b with
        | false =>
          refine plain fun X g => ?_
          unfold swapsWith
          have hk : X.env.kindOf x = sc.names.lookup x := by
            show X.env.scope.names.lookup x = _
            rw [g.good.esc]
          simp only [bkFn (kindFn g), hk, Expr.pos]
          show (pure (_ && _ && _ && _) : Sem Bool) = pure false
          rw [show (ScopeKind.function == ScopeKind.function) = true from rfl, Bool.true_and, hb]
        | true =>
          simp only [Bool.and_eq_true, beq_iff_eq, Bool.not_eq_true'] at hb
          obtain ⟨⟨h1, h2⟩, h3⟩ := hb
          obtain ⟨t', it, c, e', rfl⟩ : ∃ t' it c e', e = .comp t' it c e' := by
            cases e <;> first | exact ⟨_, _, _, _, rfl⟩ | exact absurd m2 Bool.false_ne_true | cases m5
          obtain ⟨q1, q2, q3⟩ := hcomp t' it c e' rfl
          obtain ⟨elt', tg', iter, ifs, scope', pos', wi, tt, te', own, epe, m6, ok, rdc⟩ := comp_parts q1 q2 q3 Ex m2
          cases epe
          refine ⟨_, fun X g => ?_, rd _ rdc⟩
          have L := ok X g.good
          have m1' : (A.N[i]? == some x && locB sc x) = true := m1
          simp only [Bool.and_eq_true, beq_iff_eq] at m1'
          rw [← m6, ← g.good.eK]
          have hl : X.env.scope.names.lookup x = some .local := by rw [g.good.esc]; exact h1
          exact ps_setLc (i := i) g.good.calm (by rw [g.good.hN]; exact g.good.nd) (by rw [g.good.hN]; exact m1'.1) hl (sw_true (kindFn g) hl (by rw [h2]; exact beq_self_eq_true _) h3) L.hi L.ok L.hg L.ht L.he L.hs
      · refine plain fun X g => ?_
        unfold swapsWith
        rfl
    | SetComp _ _ _ _ => cases tg <;> cases hsw
    | DictComp _ _ _ _ _ => cases tg <;> cases hsw
    | _ =>
      refine plain fun X g => ?_
      unfold swapsWith
      rfl
theorem Reps.setR {H : Hp} {Z : Option Addr → Prop} : ∀ {n : Nat} {xs : List D} {vs : List V} {F : Fp} {j : Nat} {d : D} {v : V} {Fd : Fp}, Reps K H Z n xs vs F → Rep K H Z n d v Fd → F.Nodup → Fd.Nodup → (∀ a ∈ Fd, a ∉ F) → ∃ F', Reps K H Z n (xs.set j d) (vs.set j v) F' ∧ F'.Nodup ∧ ∀ a ∈ F', a ∈ F ∨ a ∈ Fd
  | _, [], _, _, j, d, v, Fd, .nil, _, _, _, _ => ⟨[], by simpa using Reps.nil, List.nodup_nil, fun _ h => by simp at h⟩
  | _, x :: xs, _, _, 0, d, v, Fd, .cons (F := F1) (G := G1) r rs, rd, nd, ndd, dj => by
    obtain ⟨n1, n2, n3⟩ := List.nodup_append.mp nd
    refine ⟨Fd ++ G1, .cons rd rs, List.nodup_append.mpr ⟨ndd, n2, fun a ha b hb e => by subst e; exact dj a ha (List.mem_append_right _ hb)⟩, fun a ha => ?_⟩
    rcases List.mem_append.mp ha with ha | ha
    · exact .inr ha
    · exact .inl (List.mem_append_right _ ha)
  | _, x :: xs, _, _, j + 1, d, v, Fd, .cons (F := F1) (G := G1) r rs, rd, nd, ndd, dj => by
    obtain ⟨n1, n2, n3⟩ := List.nodup_append.mp nd
    obtain ⟨F', h1, h2, h3⟩ := Reps.setR (j := j) rs rd n2 ndd fun a ha hm => dj a ha (List.mem_append_right _ hm)
    refine ⟨F1 ++ F', .cons r h1, List.nodup_append.mpr ⟨n1, h2, fun a ha b hb e => ?_⟩, fun a ha => ?_⟩
    · subst e
      rcases h3 a hb with z | z
      · exact n3 a ha a z rfl
      · exact dj a z (List.mem_append_left _ ha)
    · rcases List.mem_append.mp ha with ha | ha
      · exact .inl (List.mem_append_left _ ha)
      · exact (h3 a ha).imp (List.mem_append_right _) id
theorem deps_set {k : Nat} {xs : List D} {j : Nat} {d : D} (h : D.deps k xs = true) (hd : d.dep k = true) : D.deps k (xs.set j d) = true :=
  deps_iff.mpr fun x hx => (List.mem_or_eq_of_mem_set hx).elim (fun z => deps_iff.mp h x z) fun e => by rw [e]; exact hd
end Pm

set_option maxRecDepth 100000
namespace L2
open PySem PySem.Spec PyProof.Rows
/-! ### enumerate(text), zip(text, text) -/
def IteS (x : Str) : It := ⟨fun i _ => i < x.cps.size, fun i H v H' => ∃ T c, v = .ref T ∧ H T = none ∧ H' = upd H T (.tup [.int (i : Nat), .str ⟨#[c]⟩]) ∧ x.cps[i]? = some c, fun i _ => x.cps.size ≤ i⟩
theorem turn_enumS {P : Program} {w : World} {K : PySem.W.Frag} {elts : List Expr} {kk : Nat} {tpos : Pos} (x : Str) (t : Tok) (e it : Addr) :
    Turn P w K (.Tuple elts kk tpos) (IteS x) [e, it] e (fun i h => i ≤ x.cps.size ∧ (∃ old, IsEnum h e it ((i : Nat) : Int) old) ∧ h.IsStrIter it (strIterType x) x t i ∧ e ≠ it) where
  mem := by simp
  obj := fun i h st b hb => by
    obtain ⟨_, ⟨old, he⟩, hst, _⟩ := st
    obtain ⟨o, ho, hc, hd⟩ := hst
    have e' : b = e ∨ b = it := by simpa using hb
    rcases e' with z | z
    · rw [z]; exact ⟨_, he, fun v q => nomatch q⟩
    · rw [z]; exact ⟨o, ho, fun v q => by rw [hd] at q; cases q⟩
  keep := fun i h h' st k => let ⟨hi, ⟨old, he⟩, ⟨o, ho, r⟩, hne⟩ := st; ⟨hi, ⟨old, k e (by simp) _ he⟩, ⟨o, k it (by simp) o ho, r⟩, hne⟩
  item := by
    intro X hP hw hK hc i pins s σ H E I hf st hg
    subst hP hw hK
    obtain ⟨hi, ⟨old, he⟩, hit, hne⟩ := st
    have hel : e < s.heap.objs.size := Heap.lt_size he
    have hil : it < s.heap.objs.size := by obtain ⟨_, q, _⟩ := hit; exact Heap.lt_size q
    refine wpAny_pyNext_enum_itemC (Draws.text (A := X.A.in1) (I.ok.hd hc) it x t) he hit hg hne (by simpa using hne) fun u h' tk hP ho hit' hT hsz hk => ?_
    obtain ⟨c, tc, hcx, rfl⟩ := hP
    refine ⟨_, rfl, wpAny_letOwnedTupleGo_enum (s := { s with heap := h', toks := tk + 1 }) ho fun h'' he' sb => ?_⟩
    have hT2 : h''.get? s.heap.objs.size = some { cls := .type "tuple", data := .seq #[.int i tk, .str ⟨#[c]⟩ tc] } := (sb.2 _ (Nat.ne_of_gt hel)).trans hT
    have new : ObjOk X.prog X.w (upd H s.heap.objs.size (.tup [.int (i : Nat), .str ⟨#[c]⟩])) h'' s.heap.objs.size (.tup [.int (i : Nat), .str ⟨#[c]⟩]) :=
      ⟨by show 2 ≤ sizeLine; decide, [.int i tk, .str ⟨#[c]⟩ tc], .cons ⟨_, rfl⟩ (.cons ⟨_, rfl⟩ .nil), ⟨_, hT2, rfl, _, rfl⟩⟩
    have I1 : Inv X pins σ (upd H s.heap.objs.size (.tup [.int (i : Nat), .str ⟨#[c]⟩])) { s with heap := h'', toks := tk + 1 } :=
      I.turnedNew (ch := [e, it]) (fun b ob hb q => (sb.2 b (fun z => hb (by simp [z]))).trans (hk b ob (fun z => hb (by simp [z])) (fun z => hb (by simp [z])) q)) hf (Nat.le_refl _) new
    have hit2 : h''.IsStrIter it (strIterType x) x t (i + 1) := by
      obtain ⟨o, q, r⟩ := hit'
      exact ⟨o, (sb.2 it (Ne.symm hne)).trans q, r⟩
    refine ⟨.ref s.heap.objs.size, _, I1, rfl, ⟨_, c, rfl, I.hok.fresh (Nat.le_refl _), rfl, hcx⟩, ⟨hg, ⟨.str ⟨#[c]⟩ tc, ?_⟩, hit2, hne⟩, fun b hb => ?_⟩
    · have e1 : ((i + 1 : Nat) : Int) = (i : Int) + 1 := by omega
      rw [e1]; exact he'
    · have hb' : b < s.heap.objs.size := by
        have e' : b = e ∨ b = it := by simpa using hb
        rcases e' with z | z
        · rw [z]; exact hel
        · rw [z]; exact hil
      rw [upd_ne (Nat.ne_of_lt hb')]
      exact (hf b hb).1
  done := by
    intro X hP hw hK hc i pins s σ H E I hf st hg
    subst hP hw hK
    obtain ⟨hi, ⟨old, he⟩, hit, hne⟩ := st
    obtain ⟨f0, f1, f2, f3, f4, f5⟩ := hf it (by simp)
    have ei : i = x.cps.size := Nat.le_antisymm hi hg
    subst ei
    exact wpAny_pyNext_enum_endD (Draws.text (A := X.A.in1) (I.ok.hd hc) it x t) he hit fun h' eb => ⟨rfl, I.turned (t' := s.toks) (fun b o hb q => eb b o hb q) f0 f1 f3 f4 f5⟩
  self := fun A i s Q E st h => let ⟨_, ⟨_, he⟩, _⟩ := st; wpAny_pyIter_enum he h
def iEnumS (te : TA) : TI := fun σ H R => te σ H fun vs H1 => ∃ x, vs = [.str x] ∧ R (IteS x) H1
theorem pi_enumS {X : Cx} {e : Expr} {ta : TA} {p pos tpos : Pos} {elts : List Expr} {kk : Nat} (hg : Gl X "enumerate") (hm : X.mg "enumerate" = none) (ha : PA X [e] ta) (hs : starEach [e] X.env = [(false, eval e X.env)] := by rfl) :
    PI X (.Tuple elts kk tpos) (.Call (.Name "enumerate" p) [e] [] pos) (iEnumS ta) := by
  refine ⟨fun pins s σ H R I h => ?_⟩
  refine Call_ (ld_blt I hg hm boot_enumerate (PyProof.Rows.callWith_type1 (thn (ha.run pos pins s σ H _ I h) fun us s1 ⟨vs, H1, I1, r1, q1⟩ => ?_) hs rfl))
  obtain ⟨x, ex, q⟩ := q1
  subst ex
  cases r1 with
  | cons r rr =>
    cases rr
    obtain ⟨t, rfl⟩ := r
    refine call_enumerate_str fun h' he hit hsz hk => wpAny_pyIter_enum he ?_
    have I2 : Inv X pins σ H1 { s1 with heap := h' } := I1.kept (t' := s1.toks) hk
    refine ⟨s1.heap.objs.size + 1, [s1.heap.objs.size + 1, s1.heap.objs.size], _, _, H1, rfl, I2, turn_enumS x t (s1.heap.objs.size + 1) s1.heap.objs.size, ⟨Nat.zero_le _, ⟨.none, he⟩, hit, Nat.succ_ne_self _⟩, fun b hb => ?_, q⟩
    have e' : b = s1.heap.objs.size + 1 ∨ b = s1.heap.objs.size := by simpa using hb
    have hle : s1.heap.objs.size ≤ b := by
      rcases e' with z | z
      · rw [z]; exact Nat.le_add_right _ _
      · rw [z]; exact Nat.le_refl _
    exact I1.fpOk hle (I1.hok.fresh hle)
def ItzS (x y : Str) : It := ⟨fun i _ => i < x.cps.size ∧ i < y.cps.size, fun i H v H' => ∃ T c d, v = .ref T ∧ H T = none ∧ H' = upd H T (.tup [.str ⟨#[c]⟩, .str ⟨#[d]⟩]) ∧ x.cps[i]? = some c ∧ y.cps[i]? = some d, fun i _ => x.cps.size ≤ i ∨ y.cps.size ≤ i⟩
theorem turn_zipS {P : Program} {w : World} {K : PySem.W.Frag} {elts : List Expr} {kk : Nat} {tpos : Pos} {z TI TO i1 i2 : Addr} (x y : Str) (t u : Tok) (S : ZipSep2 z TI TO i1 i2 [i1] [i2]) :
    Turn P w K (.Tuple elts kk tpos) (ItzS x y) [z, TI, TO, i1, i2] z (fun i h => (i ≤ x.cps.size ∧ i ≤ y.cps.size) ∧ IsZip h z TI TO .none ∧ IsTupOf2 h TI (.ref i1) (.ref i2) ∧ (∃ a b, IsTupOf2 h TO a b) ∧ h.IsStrIter i1 (strIterType x) x t i ∧ h.IsStrIter i2 (strIterType y) y u i) where
  mem := by simp
  obj := fun i h st c hc => by
    obtain ⟨_, hz, hTI, ⟨a, b, hTO⟩, ⟨o1, e1, _, d1⟩, ⟨o2, e2, _, d2⟩⟩ := st
    have e' : c = z ∨ c = TI ∨ c = TO ∨ c = i1 ∨ c = i2 := by simpa using hc
    rcases e' with q | q | q | q | q
    · rw [q]; exact ⟨_, hz, fun v q => nomatch q⟩
    · rw [q]; exact ⟨_, hTI, fun v q => nomatch q⟩
    · rw [q]; exact ⟨_, hTO, fun v q => nomatch q⟩
    · rw [q]; exact ⟨o1, e1, fun v q => by rw [d1] at q; cases q⟩
    · rw [q]; exact ⟨o2, e2, fun v q => by rw [d2] at q; cases q⟩
  keep := fun i h h' st k => by
    obtain ⟨hi, hz, hTI, ⟨a, b, hTO⟩, ⟨o1, e1, r1⟩, ⟨o2, e2, r2⟩⟩ := st
    exact ⟨hi, k z (by simp) _ hz, k TI (by simp) _ hTI, ⟨a, b, k TO (by simp) _ hTO⟩, ⟨o1, k i1 (by simp) _ e1, r1⟩, ⟨o2, k i2 (by simp) _ e2, r2⟩⟩
  item := by
    intro X hP hw hK hc i pins s σ H E I hf st hg
    subst hP hw hK
    obtain ⟨hi, hz, hTI, ⟨a, b, hTO⟩, h1, h2⟩ := st
    have hzl : z < s.heap.objs.size := Heap.lt_size hz
    refine wpAny_pyNext_zipD2_item S (Draws.text (A := X.A.in1) (I.ok.hd hc) i1 x t) (Draws.text (A := X.A.in1) (I.ok.hd hc) i2 y u) hz hTI hTO h1 h2 hg.1 hg.2 fun v1 v2 h' tk p1 p2 hz' hTO' h1' h2' hT hsz hk => ?_
    obtain ⟨c, tc, hcx, rfl⟩ := p1
    obtain ⟨d, td, hdx, rfl⟩ := p2
    refine ⟨_, rfl, wpAny_letOwnedTupleGo_zip (s := { s with heap := h', toks := tk }) hz' fun h'' z'' sb => ?_⟩
    have hT2 : h''.get? s.heap.objs.size = some { cls := .type "tuple", data := .seq #[.str ⟨#[c]⟩ tc, .str ⟨#[d]⟩ td] } := (sb.2 _ (Nat.ne_of_gt hzl)).trans hT
    have new : ObjOk X.prog X.w (upd H s.heap.objs.size (.tup [.str ⟨#[c]⟩, .str ⟨#[d]⟩])) h'' s.heap.objs.size (.tup [.str ⟨#[c]⟩, .str ⟨#[d]⟩]) :=
      ⟨by show 2 ≤ sizeLine; decide, [.str ⟨#[c]⟩ tc, .str ⟨#[d]⟩ td], .cons ⟨_, rfl⟩ (.cons ⟨_, rfl⟩ .nil), ⟨_, hT2, rfl, _, rfl⟩⟩
    have I1 : Inv X pins σ (upd H s.heap.objs.size (.tup [.str ⟨#[c]⟩, .str ⟨#[d]⟩])) { s with heap := h'', toks := tk } :=
      I.turnedNew (t' := tk) (ch := [z, TI, TO, i1, i2]) (fun c o hb q => (sb.2 c (fun q' => hb (by simp [q']))).trans (hk c o (fun q' => hb (by simp [q'])) (fun q' => hb (by simp [q'])) (fun q' => hb (by simp [q'])) (fun q' => hb (by simp [q'])) q)) hf (Nat.le_refl _) new
    have zi1 : i1 ≠ z := fun e => S.zf1 (by rw [← e]; simp)
    have zi2 : i2 ≠ z := fun e => S.zf2 (by rw [← e]; simp)
    refine ⟨.ref s.heap.objs.size, _, I1, rfl, ⟨_, c, d, rfl, I.hok.fresh (Nat.le_refl _), rfl, hcx, hdx⟩, ⟨⟨hg.1, hg.2⟩, z'', ?_, ⟨.str ⟨#[c]⟩ tc, .str ⟨#[d]⟩ td, ?_⟩, ?_, ?_⟩, fun c hcm => ?_⟩
    · exact (sb.2 _ S.TIz).trans (hk _ _ S.TIz S.TITO S.TIi1 S.TIi2 hTI)
    · exact (sb.2 _ S.TOz).trans hTO'
    · obtain ⟨o, q, r⟩ := h1'; exact ⟨o, (sb.2 _ zi1).trans q, r⟩
    · obtain ⟨o, q, r⟩ := h2'; exact ⟨o, (sb.2 _ zi2).trans q, r⟩
    · have hlt : c < s.heap.objs.size := by
        have e' : c = z ∨ c = TI ∨ c = TO ∨ c = i1 ∨ c = i2 := by simpa using hcm
        rcases e' with q | q | q | q | q
        · rw [q]; exact hzl
        · rw [q]; exact Heap.lt_size hTI
        · rw [q]; exact Heap.lt_size hTO
        · rw [q]; obtain ⟨_, e1, _⟩ := h1; exact Heap.lt_size e1
        · rw [q]; obtain ⟨_, e2, _⟩ := h2; exact Heap.lt_size e2
      rw [upd_ne (Nat.ne_of_lt hlt)]
      exact (hf c hcm).1
  done := by
    intro X hP hw hK hc i pins s σ H E I hf st hg
    subst hP hw hK
    obtain ⟨hi, hz, hTI, ⟨a, b, hTO⟩, h1, h2⟩ := st
    refine wpAny_pyNext_zipD2_end S (Draws.text (A := X.A.in1) (I.ok.hd hc) i1 x t) (Draws.text (A := X.A.in1) (I.ok.hd hc) i2 y u) hz hTI hTO h1 h2 hi.1 hi.2 ?_ fun h' tk hk => ⟨rfl, I.turnedL (t' := tk) (ch := [z, TI, TO, i1, i2]) (fun c o hb q =>
      hk c o (fun q' => hb (by simp [q'])) (fun q' => hb (by simp [q'])) (fun q' => hb (by simp [q'])) (fun q' => hb (by simp [q'])) q) hf⟩
    rcases hg with q | q
    · exact .inl (Nat.le_antisymm hi.1 q)
    · exact .inr (Nat.le_antisymm hi.2 q)
  self := fun A i s Q E st h => wpAny_pyIter_zip st.2.1 h
def iZipS (ta : TA) : TI := fun σ H R => ta σ H fun vs H1 => ∃ x y, vs = [.str x, .str y] ∧ R (ItzS x y) H1
theorem pi_zipS {X : Cx} {e e2 : Expr} {ta : TA} {p pos tpos : Pos} {elts : List Expr} {kk : Nat} (hg : Gl X "zip") (hm : X.mg "zip" = none) (ha : PA X [e, e2] ta)
    (hs : starEach [e, e2] X.env = (false, eval e X.env) :: starEach [e2] X.env := by rfl) (hpl : (backTo pos (starEach [e2] X.env)).any (·.1) = false := by rfl) :
    PI X (.Tuple elts kk tpos) (.Call (.Name "zip" p) [e, e2] [] pos) (iZipS ta) := by
  refine ⟨fun pins s σ H R I h => ?_⟩
  refine Call_ (ld_blt I hg hm PyProof.Rows.boot_zip (PyProof.Rows.callWith_type1 (thn (ha.run pos pins s σ H _ I h) fun us s1 ⟨vs, H1, I1, r1, q1⟩ => ?_) hs hpl))
  obtain ⟨x, y, ex, q⟩ := q1
  subst ex
  cases r1 with
  | cons r rr =>
    cases rr with
    | cons r' rr =>
      cases rr
      obtain ⟨t, rfl⟩ := r
      obtain ⟨u, rfl⟩ := r'
      refine zip_begins2 (begins_text x t) (begins_text y u) trivial trivial fun h' hz hTI hTO h1 h2 hsz hk => wpAny_pyIter_zip hz ?_
      have I2 : Inv X pins σ H1 { s1 with heap := h' } := I1.kept (t' := s1.toks) hk
      have S : ZipSep2 (s1.heap.objs.size + 4) (s1.heap.objs.size + 2) (s1.heap.objs.size + 3) s1.heap.objs.size (s1.heap.objs.size + 1) [s1.heap.objs.size] [s1.heap.objs.size + 1] := by
        constructor <;> simp <;> omega
      refine ⟨s1.heap.objs.size + 4, [s1.heap.objs.size + 4, s1.heap.objs.size + 2, s1.heap.objs.size + 3, s1.heap.objs.size, s1.heap.objs.size + 1], _, _, H1, rfl, I2, turn_zipS x y t u S, ⟨⟨Nat.zero_le _, Nat.zero_le _⟩, hz, hTI, ⟨_, _, hTO⟩, ⟨_, h1, rfl, rfl⟩, ⟨_, h2, rfl, rfl⟩⟩, fun c hcm => ?_, q⟩
      have e' : c = s1.heap.objs.size + 4 ∨ c = s1.heap.objs.size + 2 ∨ c = s1.heap.objs.size + 3 ∨ c = s1.heap.objs.size ∨ c = s1.heap.objs.size + 1 := by simpa using hcm
      have hle : s1.heap.objs.size ≤ c := by
        rcases e' with z | z | z | z | z
        · rw [z]; exact Nat.le_add_right _ _
        · rw [z]; exact Nat.le_add_right _ _
        · rw [z]; exact Nat.le_add_right _ _
        · rw [z]; exact Nat.le_refl _
        · rw [z]; exact Nat.le_add_right _ _
      exact I1.fpOk hle (I1.hok.fresh hle)
end L2

set_option maxRecDepth 100000
namespace L2
open PySem PySem.Spec PyProof.Rows
/-! ### zip of lists, tuples, texts, in any mix -/
inductive Src where | l (a : Addr) | t (a : Addr) | s (x : Str)
def Src.v : Src → V | .l a => .ref a | .t a => .ref a | .s x => .str x
def Src.ad : Src → List Addr | .l a => [a] | .t a => [a] | .s _ => []
def Src.len (K : PySem.W.Frag) (H : Hp) : Src → Nat → Prop
  | .l a => fun n => ∃ xs, SqL K H a xs ∧ xs.length = n
  | .t a => fun n => ∃ xs, SqT K H a xs ∧ xs.length = n
  | .s x => fun n => x.cps.size = n
def Src.is (K : PySem.W.Frag) (H : Hp) : Src → Nat → V → Prop
  | .l a => fun i v => ∀ xs, SqL K H a xs → xs[i]? = some v
  | .t a => fun i v => ∀ xs, SqT K H a xs → xs[i]? = some v
  | .s x => fun i v => ∃ c, x.cps[i]? = some c ∧ v = .str ⟨#[c]⟩
def Src.st (t : Tok) : Src → Addr → Nat → Heap → Prop
  | .l a => fun it i h => h.IsListIter it a i
  | .t a => fun it i h => h.IsTupleIter it a i
  | .s x => fun it i h => h.IsStrIter it (strIterType x) x t i
theorem Src.st_obj {c : Src} {t : Tok} {it : Addr} {i : Nat} {h : Heap} (q : c.st t it i h) : ∃ o, h.get? it = some o ∧ ∀ v, o.data ≠ .cell v := by
  cases c with
  | l a => obtain ⟨o, e, _, d⟩ := q; exact ⟨o, e, fun v z => by rw [d] at z; cases z⟩
  | t a => obtain ⟨o, e, _, d⟩ := q; exact ⟨o, e, fun v z => by rw [d] at z; cases z⟩
  | s x => obtain ⟨o, e, _, d⟩ := q; exact ⟨o, e, fun v z => by rw [d] at z; cases z⟩
theorem Src.st_at {c : Src} {t : Tok} {it : Addr} {i : Nat} {h h' : Heap} (q : c.st t it i h) (k : ∀ o, h.get? it = some o → h'.get? it = some o) : c.st t it i h' := by
  cases c with
  | l a => obtain ⟨o, e, r⟩ := q; exact ⟨o, k o e, r⟩
  | t a => obtain ⟨o, e, r⟩ := q; exact ⟨o, k o e, r⟩
  | s x => obtain ⟨o, e, r⟩ := q; exact ⟨o, k o e, r⟩
theorem Src.draws {X : Cx} {pins : List (Addr × Obj)} {σ : St} {H : Hp} {s : Shared} (I : Inv X pins σ H s) (hc : X.calm = true) {c : Src} {t : Tok} {it : Addr} {i n : Nat} (hl : c.len X.K H n) (hs : c.st t it i s.heap) (hne : ∀ a ∈ c.ad, a ≠ it) :
    ∃ (P : Nat → Value → Prop) (S : Nat → Heap → Prop), Draws X.prog X.w X.A.in1 it (it :: c.ad) n P S ∧ S i s.heap ∧ (∀ j h, S j h → c.st t it j h) ∧ ∀ v, i < n → P i v → ∃ x, RelV x v ∧ c.is X.K H i x := by
  cases c with
  | l a =>
    obtain ⟨xs, hq, rfl⟩ := hl
    obtain ⟨its, rv, p, _⟩ := I.list hq
    have hlen : its.toArray.size = xs.length := by rw [List.size_toArray, ← rv.length]
    refine ⟨fun i v => its.toArray[i]? = some v, fun i h => h.IsListIter it a i ∧ h.IsList a its.toArray, hlen ▸ Draws.list (A := X.A.in1) (I.ok.hd hc) it a (hne a (by simp [Src.ad])) its.toArray, ⟨hs, p.isList⟩, fun j h q => q.1, fun v hi hv => ?_⟩
    have hx : xs[i]? = some xs[i] := List.getElem?_eq_getElem hi
    obtain ⟨u, hu, ru⟩ := rv.get hx
    have e : u = v := by
      have hv : its.toArray[i]? = some v := hv
      rw [show its.toArray[i]? = its[i]? by simp, hu] at hv
      exact Option.some.inj hv
    exact ⟨xs[i], e ▸ ru, fun ys hy => by rw [I.list_inj hy hq]; exact hx⟩
  | t a =>
    obtain ⟨xs, hq, rfl⟩ := hl
    obtain ⟨its, rv, p, _⟩ := I.tuple hq
    have hlen : its.toArray.size = xs.length := by rw [List.size_toArray, ← rv.length]
    refine ⟨fun i v => its.toArray[i]? = some v, fun i h => h.IsTupleIter it a i ∧ h.IsTuple a its.toArray, hlen ▸ Draws.tuple (A := X.A.in1) (I.ok.hd hc) it a (hne a (by simp [Src.ad])) its.toArray, ⟨hs, (show s.heap.IsTuple a its.toArray from p)⟩, fun j h q => q.1, fun v hi hv => ?_⟩
    have hx : xs[i]? = some xs[i] := List.getElem?_eq_getElem hi
    obtain ⟨u, hu, ru⟩ := rv.get hx
    have e : u = v := by
      have hv : its.toArray[i]? = some v := hv
      rw [show its.toArray[i]? = its[i]? by simp, hu] at hv
      exact Option.some.inj hv
    exact ⟨xs[i], e ▸ ru, fun ys hy => by rw [I.tuple_inj hy hq]; exact hx⟩
  | s x =>
    have hl : x.cps.size = n := hl
    subst hl
    refine ⟨_, _, Draws.text (A := X.A.in1) (I.ok.hd hc) it x t, hs, fun j h q => q, fun v hi hv => ?_⟩
    obtain ⟨c, u, hc, rfl⟩ := hv
    exact ⟨.str ⟨#[c]⟩, ⟨u, rfl⟩, c, hc, rfl⟩
theorem Src.begins {X : Cx} {pins : List (Addr × Obj)} {σ : St} {H : Hp} {s : Shared} (I : Inv X pins σ H s) {c : Src} {n : Nat} (hl : c.len X.K H n) {u : Value} (r : RelV c.v u) :
    ∃ (t : Tok) (o : Obj) (Hb : Heap → Prop), Begins u o Hb ∧ Hb s.heap ∧ (∀ h it, h.get? it = some o → c.st t it 0 h) ∧ ∀ a ∈ c.ad, a < s.heap.objs.size := by
  cases c with
  | l a =>
    obtain ⟨xs, hq, _⟩ := hl
    obtain ⟨its, rv, p, _⟩ := I.list hq
    cases r
    refine ⟨0, _, _, begins_list a its.toArray, p.isList, fun h it e => ⟨_, e, rfl, rfl⟩, fun b hb => ?_⟩
    have : b = a := by simpa [Src.ad] using hb
    rw [this]; exact p.lt
  | t a =>
    obtain ⟨xs, hq, _⟩ := hl
    obtain ⟨its, rv, p, _⟩ := I.tuple hq
    cases r
    refine ⟨0, _, _, begins_tuple a its.toArray, (show s.heap.IsTuple a its.toArray from p), fun h it e => ⟨_, e, rfl, rfl⟩, fun b hb => ?_⟩
    have : b = a := by simpa [Src.ad] using hb
    obtain ⟨o, ho, _⟩ := id p
    rw [this]; exact Heap.lt_size ho
  | s x =>
    obtain ⟨t, rfl⟩ := r
    exact ⟨t, _, _, begins_text x t, trivial, fun h it e => ⟨_, e, rfl, rfl⟩, fun b hb => by simp [Src.ad] at hb⟩
def ItzG (K : PySem.W.Frag) (c d : Src) : It :=
  ⟨fun i H => ∃ n m, c.len K H n ∧ d.len K H m ∧ i < n ∧ i < m,
    fun i H v H' => ∃ T x y, v = .ref T ∧ H T = none ∧ H' = upd H T (.tup [x, y]) ∧ c.is K H i x ∧ d.is K H i y,
    fun i H => ∃ n m, c.len K H n ∧ d.len K H m ∧ i ≤ n ∧ i ≤ m ∧ (i = n ∨ i = m)⟩
theorem turn_zipG {P : Program} {w : World} {K : PySem.W.Frag} {elts : List Expr} {kk : Nat} {tpos : Pos} {c d : Src} {z TI TO i1 i2 : Addr} (t u : Tok) (S : ZipSep2 z TI TO i1 i2 (i1 :: c.ad) (i2 :: d.ad)) (n1 : ∀ a ∈ c.ad, a ≠ i1) (n2 : ∀ a ∈ d.ad, a ≠ i2) :
    Turn P w K (.Tuple elts kk tpos) (ItzG K c d) [z, TI, TO, i1, i2] z (fun i h => IsZip h z TI TO .none ∧ IsTupOf2 h TI (.ref i1) (.ref i2) ∧ (∃ a b, IsTupOf2 h TO a b) ∧ c.st t i1 i h ∧ d.st u i2 i h) where
  mem := by simp
  obj := fun i h st b hb => by
    obtain ⟨hz, hTI, ⟨a1, a2, hTO⟩, h1, h2⟩ := st
    have e' : b = z ∨ b = TI ∨ b = TO ∨ b = i1 ∨ b = i2 := by simpa using hb
    rcases e' with q | q | q | q | q
    · rw [q]; exact ⟨_, hz, fun v q => nomatch q⟩
    · rw [q]; exact ⟨_, hTI, fun v q => nomatch q⟩
    · rw [q]; exact ⟨_, hTO, fun v q => nomatch q⟩
    · rw [q]; exact Src.st_obj h1
    · rw [q]; exact Src.st_obj h2
  keep := fun i h h' st k => by
    obtain ⟨hz, hTI, ⟨a, b, hTO⟩, h1, h2⟩ := st
    exact ⟨k z (by simp) _ hz, k TI (by simp) _ hTI, ⟨a, b, k TO (by simp) _ hTO⟩, Src.st_at h1 (k i1 (by simp)), Src.st_at h2 (k i2 (by simp))⟩
  item := by
    intro X hP hw hK hc i pins s σ H E I hf st hg
    subst hP hw hK
    obtain ⟨hz, hTI, ⟨a, b, hTO⟩, h1, h2⟩ := st
    obtain ⟨n, m, l1, l2, g1, g2⟩ := hg
    obtain ⟨P1, S1, D1, s1, f1, p1⟩ := Src.draws I hc l1 h1 n1
    obtain ⟨P2, S2, D2, s2, f2, p2⟩ := Src.draws I hc l2 h2 n2
    have hzl : z < s.heap.objs.size := Heap.lt_size hz
    refine wpAny_pyNext_zipD2_item S D1 D2 hz hTI hTO s1 s2 g1 g2 fun v1 v2 h' tk q1 q2 hz' hTO' h1' h2' hT hsz hk => ?_
    obtain ⟨x, rx, hx⟩ := p1 v1 g1 q1
    obtain ⟨y, ry, hy⟩ := p2 v2 g2 q2
    refine ⟨_, rfl, wpAny_letOwnedTupleGo_zip (s := { s with heap := h', toks := tk }) hz' fun h'' z'' sb => ?_⟩
    have hT2 : h''.get? s.heap.objs.size = some { cls := .type "tuple", data := .seq #[v1, v2] } := (sb.2 _ (Nat.ne_of_gt hzl)).trans hT
    have new : ObjOk X.prog X.w (upd H s.heap.objs.size (.tup [x, y])) h'' s.heap.objs.size (.tup [x, y]) :=
      ⟨by show 2 ≤ sizeLine; decide, [v1, v2], .cons rx (.cons ry .nil), ⟨_, hT2, rfl, _, rfl⟩⟩
    have I1 : Inv X pins σ (upd H s.heap.objs.size (.tup [x, y])) { s with heap := h'', toks := tk } :=
      I.turnedNew (t' := tk) (ch := [z, TI, TO, i1, i2]) (fun c o hb q => (sb.2 c (fun q' => hb (by simp [q']))).trans (hk c o (fun q' => hb (by simp [q'])) (fun q' => hb (by simp [q'])) (fun q' => hb (by simp [q'])) (fun q' => hb (by simp [q'])) q)) hf (Nat.le_refl _) new
    have zi1 : i1 ≠ z := fun e => S.zf1 (by rw [← e]; simp)
    have zi2 : i2 ≠ z := fun e => S.zf2 (by rw [← e]; simp)
    refine ⟨.ref s.heap.objs.size, _, I1, rfl, ⟨_, x, y, rfl, I.hok.fresh (Nat.le_refl _), rfl, hx, hy⟩, ⟨z'', ?_, ⟨v1, v2, ?_⟩, ?_, ?_⟩, fun c hcm => ?_⟩
    · exact (sb.2 _ S.TIz).trans (hk _ _ S.TIz S.TITO S.TIi1 S.TIi2 hTI)
    · exact (sb.2 _ S.TOz).trans hTO'
    · exact Src.st_at (f1 _ _ h1') fun o q => (sb.2 _ zi1).trans q
    · exact Src.st_at (f2 _ _ h2') fun o q => (sb.2 _ zi2).trans q
    · have hlt : c < s.heap.objs.size := by
        have e' : c = z ∨ c = TI ∨ c = TO ∨ c = i1 ∨ c = i2 := by simpa using hcm
        rcases e' with q | q | q | q | q
        · rw [q]; exact hzl
        · rw [q]; exact Heap.lt_size hTI
        · rw [q]; exact Heap.lt_size hTO
        · rw [q]; obtain ⟨_, e1, _⟩ := Src.st_obj h1; exact Heap.lt_size e1
        · rw [q]; obtain ⟨_, e2, _⟩ := Src.st_obj h2; exact Heap.lt_size e2
      rw [upd_ne (Nat.ne_of_lt hlt)]
      exact (hf c hcm).1
  done := by
    intro X hP hw hK hc i pins s σ H E I hf st hg
    subst hP hw hK
    obtain ⟨hz, hTI, ⟨a, b, hTO⟩, h1, h2⟩ := st
    obtain ⟨n, m, l1, l2, g1, g2, ge⟩ := hg
    obtain ⟨P1, S1, D1, s1, f1, p1⟩ := Src.draws I hc l1 h1 n1
    obtain ⟨P2, S2, D2, s2, f2, p2⟩ := Src.draws I hc l2 h2 n2
    exact wpAny_pyNext_zipD2_end S D1 D2 hz hTI hTO s1 s2 g1 g2 ge fun h' tk hk => ⟨rfl, I.turnedL (t' := tk) (ch := [z, TI, TO, i1, i2]) (fun c o hb q =>
      hk c o (fun q' => hb (by simp [q'])) (fun q' => hb (by simp [q'])) (fun q' => hb (by simp [q'])) (fun q' => hb (by simp [q'])) q) hf⟩
  self := fun A i s Q E st h => wpAny_pyIter_zip st.1 h
def iZipG (K : PySem.W.Frag) (ta : TA) : TI := fun σ H R => ta σ H fun vs H1 => ∃ c d : Src, vs = [c.v, d.v] ∧ (∃ n, c.len K H1 n) ∧ (∃ m, d.len K H1 m) ∧ R (ItzG K c d) H1
theorem pi_zipG {X : Cx} {e e2 : Expr} {ta : TA} {p pos tpos : Pos} {elts : List Expr} {kk : Nat} (hg : Gl X "zip") (hm : X.mg "zip" = none) (ha : PA X [e, e2] ta)
    (hs : starEach [e, e2] X.env = (false, eval e X.env) :: starEach [e2] X.env := by rfl) (hpl : (backTo pos (starEach [e2] X.env)).any (·.1) = false := by rfl) :
    PI X (.Tuple elts kk tpos) (.Call (.Name "zip" p) [e, e2] [] pos) (iZipG X.K ta) := by
  refine ⟨fun pins s σ H R I h => ?_⟩
  refine Call_ (ld_blt I hg hm PyProof.Rows.boot_zip (PyProof.Rows.callWith_type1 (thn (ha.run pos pins s σ H _ I h) fun us s1 ⟨vs, H1, I1, r1, q1⟩ => ?_) hs hpl))
  obtain ⟨c, d, ex, ⟨n, lc⟩, ⟨m, ld⟩, q⟩ := q1
  subst ex
  cases r1 with
  | cons r rr =>
    cases rr with
    | cons r' rr =>
      cases rr
      obtain ⟨t, o1, H1', b1, k1, f1, a1⟩ := Src.begins I1 lc r
      obtain ⟨u, o2, H2', b2, k2, f2, a2⟩ := Src.begins I1 ld r'
      refine zip_begins2 b1 b2 k1 k2 fun h' hz hTI hTO h1 h2 hsz hk => wpAny_pyIter_zip hz ?_
      have I2 : Inv X pins σ H1 { s1 with heap := h' } := I1.kept (t' := s1.toks) hk
      have S := zip_sep2 (N := s1.heap.objs.size) a1 a2
      refine ⟨s1.heap.objs.size + 4, [s1.heap.objs.size + 4, s1.heap.objs.size + 2, s1.heap.objs.size + 3, s1.heap.objs.size, s1.heap.objs.size + 1], _, _, H1, rfl, I2, turn_zipG t u S (fun a ha => Nat.ne_of_lt (a1 a ha)) (fun a ha => Nat.ne_of_lt (Nat.lt_succ_of_lt (a2 a ha))), ⟨hz, hTI, ⟨_, _, hTO⟩, f1 _ _ h1, f2 _ _ h2⟩, fun c hcm => ?_, q⟩
      have e' : c = s1.heap.objs.size + 4 ∨ c = s1.heap.objs.size + 2 ∨ c = s1.heap.objs.size + 3 ∨ c = s1.heap.objs.size ∨ c = s1.heap.objs.size + 1 := by simpa using hcm
      have hle : s1.heap.objs.size ≤ c := by
        rcases e' with z | z | z | z | z
        · rw [z]; exact Nat.le_add_right _ _
        · rw [z]; exact Nat.le_add_right _ _
        · rw [z]; exact Nat.le_add_right _ _
        · rw [z]; exact Nat.le_refl _
        · rw [z]; exact Nat.le_add_right _ _
      exact I1.fpOk hle (I1.hok.fresh hle)
def ItzG3 (K : PySem.W.Frag) (c d g : Src) : It :=
  ⟨fun i H => ∃ n m l, c.len K H n ∧ d.len K H m ∧ g.len K H l ∧ i < n ∧ i < m ∧ i < l,
    fun i H v H' => ∃ T x y u, v = .ref T ∧ H T = none ∧ H' = upd H T (.tup [x, y, u]) ∧ c.is K H i x ∧ d.is K H i y ∧ g.is K H i u,
    fun i H => ∃ n m l, c.len K H n ∧ d.len K H m ∧ g.len K H l ∧ i ≤ n ∧ i ≤ m ∧ i ≤ l ∧ (i = n ∨ i = m ∨ i = l)⟩
theorem turn_zipG3 {P : Program} {w : World} {K : PySem.W.Frag} {elts : List Expr} {kk : Nat} {tpos : Pos} {c d g : Src} {z TI TO i1 i2 i3 : Addr} (t u r : Tok) (S : ZipSep3 z TI TO i1 i2 i3 (i1 :: c.ad) (i2 :: d.ad) (i3 :: g.ad)) (n1 : ∀ a ∈ c.ad, a ≠ i1) (n2 : ∀ a ∈ d.ad, a ≠ i2) (n3 : ∀ a ∈ g.ad, a ≠ i3) :
    Turn P w K (.Tuple elts kk tpos) (ItzG3 K c d g) [z, TI, TO, i1, i2, i3] z (fun i h => IsZip h z TI TO .none ∧ IsTupOf3 h TI (.ref i1) (.ref i2) (.ref i3) ∧ (∃ a b q, IsTupOf3 h TO a b q) ∧ c.st t i1 i h ∧ d.st u i2 i h ∧ g.st r i3 i h) where
  mem := by simp
  obj := fun i h st b hb => by
    obtain ⟨hz, hTI, ⟨a1, a2, a3, hTO⟩, h1, h2, h3⟩ := st
    have e' : b = z ∨ b = TI ∨ b = TO ∨ b = i1 ∨ b = i2 ∨ b = i3 := by simpa using hb
    rcases e' with q | q | q | q | q | q
    · rw [q]; exact ⟨_, hz, fun v q => nomatch q⟩
    · rw [q]; exact ⟨_, hTI, fun v q => nomatch q⟩
    · rw [q]; exact ⟨_, hTO, fun v q => nomatch q⟩
    · rw [q]; exact Src.st_obj h1
    · rw [q]; exact Src.st_obj h2
    · rw [q]; exact Src.st_obj h3
  keep := fun i h h' st k => by
    obtain ⟨hz, hTI, ⟨a, b, q, hTO⟩, h1, h2, h3⟩ := st
    exact ⟨k z (by simp) _ hz, k TI (by simp) _ hTI, ⟨a, b, q, k TO (by simp) _ hTO⟩, Src.st_at h1 (k i1 (by simp)), Src.st_at h2 (k i2 (by simp)), Src.st_at h3 (k i3 (by simp))⟩
  item := by
    intro X hP hw hK hc i pins s σ H E I hf st hg
    subst hP hw hK
    obtain ⟨hz, hTI, ⟨a, b, q, hTO⟩, h1, h2, h3⟩ := st
    obtain ⟨n, m, l, l1, l2, l3, g1, g2, g3⟩ := hg
    obtain ⟨P1, S1, D1, s1, f1, p1⟩ := Src.draws I hc l1 h1 n1
    obtain ⟨P2, S2, D2, s2, f2, p2⟩ := Src.draws I hc l2 h2 n2
    obtain ⟨P3, S3, D3, s3, f3, p3⟩ := Src.draws I hc l3 h3 n3
    have hzl : z < s.heap.objs.size := Heap.lt_size hz
    refine wpAny_pyNext_zipD3_item S D1 D2 D3 hz hTI hTO s1 s2 s3 g1 g2 g3 fun v1 v2 v3 h' tk q1 q2 q3 hz' hTO' h1' h2' h3' hT hsz hk => ?_
    obtain ⟨x, rx, hx⟩ := p1 v1 g1 q1
    obtain ⟨y, ry, hy⟩ := p2 v2 g2 q2
    obtain ⟨o, ro, ho⟩ := p3 v3 g3 q3
    refine ⟨_, rfl, wpAny_letOwnedTupleGo_zip (s := { s with heap := h', toks := tk }) hz' fun h'' z'' sb => ?_⟩
    have hT2 : h''.get? s.heap.objs.size = some { cls := .type "tuple", data := .seq #[v1, v2, v3] } := (sb.2 _ (Nat.ne_of_gt hzl)).trans hT
    have new : ObjOk X.prog X.w (upd H s.heap.objs.size (.tup [x, y, o])) h'' s.heap.objs.size (.tup [x, y, o]) :=
      ⟨by show 3 ≤ sizeLine; decide, [v1, v2, v3], .cons rx (.cons ry (.cons ro .nil)), ⟨_, hT2, rfl, _, rfl⟩⟩
    have I1 : Inv X pins σ (upd H s.heap.objs.size (.tup [x, y, o])) { s with heap := h'', toks := tk } :=
      I.turnedNew (t' := tk) (ch := [z, TI, TO, i1, i2, i3]) (fun c o hb q => (sb.2 c (fun q' => hb (by simp [q']))).trans (hk c o (fun q' => hb (by simp [q'])) (fun q' => hb (by simp [q'])) (fun q' => hb (by simp [q'])) (fun q' => hb (by simp [q'])) (fun q' => hb (by simp [q'])) q)) hf (Nat.le_refl _) new
    have zi1 : i1 ≠ z := fun e => S.zf1 (by rw [← e]; simp)
    have zi2 : i2 ≠ z := fun e => S.zf2 (by rw [← e]; simp)
    have zi3 : i3 ≠ z := fun e => S.zf3 (by rw [← e]; simp)
    refine ⟨.ref s.heap.objs.size, _, I1, rfl, ⟨_, x, y, o, rfl, I.hok.fresh (Nat.le_refl _), rfl, hx, hy, ho⟩, ⟨z'', ?_, ⟨v1, v2, v3, ?_⟩, ?_, ?_, ?_⟩, fun c hcm => ?_⟩
    · exact (sb.2 _ S.TIz).trans (hk _ _ S.TIz S.TITO S.TIi1 S.TIi2 S.TIi3 hTI)
    · exact (sb.2 _ S.TOz).trans hTO'
    · exact Src.st_at (f1 _ _ h1') fun o q => (sb.2 _ zi1).trans q
    · exact Src.st_at (f2 _ _ h2') fun o q => (sb.2 _ zi2).trans q
    · exact Src.st_at (f3 _ _ h3') fun o q => (sb.2 _ zi3).trans q
    · have hlt : c < s.heap.objs.size := by
        have e' : c = z ∨ c = TI ∨ c = TO ∨ c = i1 ∨ c = i2 ∨ c = i3 := by simpa using hcm
        rcases e' with q | q | q | q | q | q
        · rw [q]; exact hzl
        · rw [q]; exact Heap.lt_size hTI
        · rw [q]; exact Heap.lt_size hTO
        · rw [q]; obtain ⟨_, e1, _⟩ := Src.st_obj h1; exact Heap.lt_size e1
        · rw [q]; obtain ⟨_, e2, _⟩ := Src.st_obj h2; exact Heap.lt_size e2
        · rw [q]; obtain ⟨_, e3, _⟩ := Src.st_obj h3; exact Heap.lt_size e3
      rw [upd_ne (Nat.ne_of_lt hlt)]
      exact (hf c hcm).1
  done := by
    intro X hP hw hK hc i pins s σ H E I hf st hg
    subst hP hw hK
    obtain ⟨hz, hTI, ⟨a, b, q, hTO⟩, h1, h2, h3⟩ := st
    obtain ⟨n, m, l, l1, l2, l3, g1, g2, g3, ge⟩ := hg
    obtain ⟨P1, S1, D1, s1, f1, p1⟩ := Src.draws I hc l1 h1 n1
    obtain ⟨P2, S2, D2, s2, f2, p2⟩ := Src.draws I hc l2 h2 n2
    obtain ⟨P3, S3, D3, s3, f3, p3⟩ := Src.draws I hc l3 h3 n3
    exact wpAny_pyNext_zipD3_end S D1 D2 D3 hz hTI hTO s1 s2 s3 g1 g2 g3 ge fun h' tk hk => ⟨rfl, I.turnedL (t' := tk) (ch := [z, TI, TO, i1, i2, i3]) (fun c o hb q =>
      hk c o (fun q' => hb (by simp [q'])) (fun q' => hb (by simp [q'])) (fun q' => hb (by simp [q'])) (fun q' => hb (by simp [q'])) (fun q' => hb (by simp [q'])) q) hf⟩
  self := fun A i s Q E st h => wpAny_pyIter_zip st.1 h
def iZipG3 (K : PySem.W.Frag) (ta : TA) : TI := fun σ H R => ta σ H fun vs H1 => ∃ c d g : Src, vs = [c.v, d.v, g.v] ∧ (∃ n, c.len K H1 n) ∧ (∃ m, d.len K H1 m) ∧ (∃ l, g.len K H1 l) ∧ R (ItzG3 K c d g) H1
theorem pi_zipG3 {X : Cx} {e e2 e3 : Expr} {ta : TA} {p pos tpos : Pos} {elts : List Expr} {kk : Nat} (hg : Gl X "zip") (hm : X.mg "zip" = none) (ha : PA X [e, e2, e3] ta)
    (hs : starEach [e, e2, e3] X.env = (false, eval e X.env) :: starEach [e2, e3] X.env := by rfl) (hpl : (backTo pos (starEach [e2, e3] X.env)).any (·.1) = false := by rfl) :
    PI X (.Tuple elts kk tpos) (.Call (.Name "zip" p) [e, e2, e3] [] pos) (iZipG3 X.K ta) := by
  refine ⟨fun pins s σ H R I h => ?_⟩
  refine Call_ (ld_blt I hg hm PyProof.Rows.boot_zip (PyProof.Rows.callWith_type1 (thn (ha.run pos pins s σ H _ I h) fun us s1 ⟨vs, H1, I1, r1, q1⟩ => ?_) hs hpl))
  obtain ⟨c, d, g, ex, ⟨n, lc⟩, ⟨m, ld⟩, ⟨l, lg⟩, q⟩ := q1
  subst ex
  cases r1 with
  | cons r rr =>
    cases rr with
    | cons r' rr =>
      cases rr with
      | cons r'' rr =>
        cases rr
        obtain ⟨t, o1, H1', b1, k1, f1, a1⟩ := Src.begins I1 lc r
        obtain ⟨u, o2, H2', b2, k2, f2, a2⟩ := Src.begins I1 ld r'
        obtain ⟨v, o3, H3', b3, k3, f3, a3⟩ := Src.begins I1 lg r''
        refine zip_begins3 b1 b2 b3 k1 k2 k3 fun h' hz hTI hTO h1 h2 h3 hsz hk => wpAny_pyIter_zip hz ?_
        have I2 : Inv X pins σ H1 { s1 with heap := h' } := I1.kept (t' := s1.toks) hk
        have S := zip_sep3 (N := s1.heap.objs.size) a1 a2 a3
        refine ⟨s1.heap.objs.size + 5, [s1.heap.objs.size + 5, s1.heap.objs.size + 3, s1.heap.objs.size + 4, s1.heap.objs.size, s1.heap.objs.size + 1, s1.heap.objs.size + 2], _, _, H1, rfl, I2, turn_zipG3 t u v S (fun a ha => Nat.ne_of_lt (a1 a ha)) (fun a ha => Nat.ne_of_lt (Nat.lt_succ_of_lt (a2 a ha))) (fun a ha => Nat.ne_of_lt (Nat.lt_succ_of_lt (Nat.lt_succ_of_lt (a3 a ha)))), ⟨hz, hTI, ⟨_, _, _, hTO⟩, f1 _ _ h1, f2 _ _ h2, f3 _ _ h3⟩, fun c hcm => ?_, q⟩
        have e' : c = s1.heap.objs.size + 5 ∨ c = s1.heap.objs.size + 3 ∨ c = s1.heap.objs.size + 4 ∨ c = s1.heap.objs.size ∨ c = s1.heap.objs.size + 1 ∨ c = s1.heap.objs.size + 2 := by simpa using hcm
        have hle : s1.heap.objs.size ≤ c := by
          rcases e' with z | z | z | z | z | z
          · rw [z]; exact Nat.le_add_right _ _
          · rw [z]; exact Nat.le_add_right _ _
          · rw [z]; exact Nat.le_add_right _ _
          · rw [z]; exact Nat.le_refl _
          · rw [z]; exact Nat.le_add_right _ _
          · rw [z]; exact Nat.le_add_right _ _
        exact I1.fpOk hle (I1.hok.fresh hle)
end L2
namespace Pm
open PySem PySem.Spec L2
variable [W : Wd] {K : PySem.W.Frag}
def srcOf (d : D) (v : V) : Src := match d, v with
  | .lst _, .ref a => .l a
  | .tup _, .ref a => .t a
  | .str s, _ => .s (toStr s)
  | _, _ => .l 0
theorem src_ok {H : Hp} {d : D} {v : V} {l : Bool} {xs : List D} (r : Vw K H d v) (hi : d.itz l = some xs) (hd : d.dep (if l then 1 else 0) = true) :
    v = (srcOf d v).v ∧ (srcOf d v).len K H xs.length ∧ (∀ i x, xs[i]? = some x → ∀ v', (srcOf d v).is K H i v' → Vw K H x v') ∧ D.deps 0 xs = true := by
  cases l with
  | true =>
    obtain ⟨ds, rfl⟩ : ∃ ds, d = .lst ds := by cases d <;> first | exact ⟨_, rfl⟩ | cases hi
    cases hi
    obtain ⟨a, vs, rfl, s, rs⟩ := r.lst_inv
    have hd : D.dep 1 (.lst xs) = true := hd
    rw [dep_lst] at hd
    refine ⟨rfl, ⟨vs, s, rs.len.symm⟩, fun i x hx v' hv => ?_, hd⟩
    obtain ⟨v, G, e1, rv, _⟩ := rs.get hx
    have e2 : vs[i]? = some v' := hv vs s
    rw [e1] at e2; cases e2
    exact rv.vw
  | false =>
    have hc : (∃ ds, d = .tup ds) ∨ ∃ s, d = .str s := by cases d <;> first | exact .inl ⟨_, rfl⟩ | exact .inr ⟨_, rfl⟩ | cases hi
    rcases hc with ⟨ds, rfl⟩ | ⟨s, rfl⟩
    · cases hi
      obtain ⟨a, vs, rfl, s, rs⟩ := r.tup_inv
      have hd : D.dep 0 (.tup xs) = true := hd
      rw [dep_tup] at hd
      refine ⟨rfl, ⟨vs, s, rs.len.symm⟩, fun i x hx v' hv => ?_, hd⟩
      obtain ⟨v, G, e1, rv, _⟩ := rs.get hx
      have e2 : vs[i]? = some v' := hv vs s
      rw [e1] at e2; cases e2
      exact rv.vw
    · cases hi
      obtain ⟨rfl, hv⟩ := r.str_inv
      refine ⟨rfl, ?_, fun i x hx v' hv' => ?_, ?_⟩
      · show (toStr s).cps.size = _; simp [toStr]
      · obtain ⟨c, hc, rfl⟩ := hv'
        have hc : s[i]? = some c := by simpa [toStr] using hc
        rw [List.getElem?_map, hc] at hx
        cases hx
        exact .str [c] fun d hd => by simp at hd; subst hd; exact hv _ (List.mem_of_getElem? hc)
      · exact deps_iff.mpr fun x hx => by
          obtain ⟨c, _, rfl⟩ := List.mem_map.mp hx
          simp [D.dep]
end Pm

namespace Pm
open PySem PySem.Spec L2
variable [W : Wd] {P : Program} {w : World} {K : PySem.W.Frag} {mg : Str → Option Value} {base : Heap} {A : Code} {C : Ctx} {G : TC} {kk : Nat} {XR : XRel}
section
variable {H0 H H' : Hp} {M : Mz} {ow : Addr → Id} {Γ : List STy} {ρ : Penv} {σ : L2.St} {Θ Θs : List Ty} {θ θs : List (D × V)}
theorem Rw.relistG (R : Rw K H0 M ow Γ ρ σ (Θs ++ Θ) (θs ++ θ) H) (hl : Θs.length = θs.length) {i : Nat} {n k m k' : Nat} {E : Fp} {a : Addr} {o : D} {ty : Ty} {d : D} {v : V} (hΓ : Γ[i]? = some (some ⟨.own n, k⟩))
    (hb : Pm.noBor i Θ = true) (hσ : σ[i]? = some (some (.ref a))) (hmut : Mut (H a)) (hs : ow a = .slot i) (hz : D.dep k' o = true)
    (ndE : E.Nodup) (hE : ∀ b ∈ E, (b ≠ a ∧ ow b = .slot i) ∨ hiTmp Θ.length (ow b)) {h' : HO} (hmu : Mut (some h'))
    (rz : ∀ Z : Option Addr → Prop, (∀ q, zOf ow H .frz q → Z q) → (∀ b, H b ≠ none → b ∉ a :: E → (ow b = .slot i ∨ hiTmp Θ.length (ow b)) → Z (some b)) → Rep K (upd H a h') Z (m + 1) o (.ref a) (a :: E))
    (rt : ∀ Z : Option Addr → Prop, (∀ q, zOf ow H .frz q → Z q) → (∀ b, H b ≠ none → b ∉ a :: E → (ow b = .slot i ∨ hiTmp Θ.length (ow b)) → Z (some b)) → Rep K (upd H a h') Z ty.p.lv d v []) (hd : d.dep ty.k = true) (hi : ty.p.inSlot = true) :
    Rel K H0 M (Γ.set i (some ⟨.own m, k'⟩)) (ρ.set i (some o)) σ (ty :: Θ) ((d, v) :: θ) (upd H a h') := by
  have aE : a ∉ E := fun q => by
    rcases hE a q with z | z
    · exact z.1 rfl
    · rw [hs] at z; exact z
  have hil : i < Γ.length := (List.getElem?_eq_some_iff.mp hΓ).1
  have x : Ext (fun b => touch [i] Θ.length (ow b)) H (upd H a h') := Ext.upd (.inr (by rw [hs]; exact List.mem_singleton.mpr rfl))
  have zz : ∀ (pp : Perm) q, zOf ow H .frz q → zT H (upd H a h') [i] Θ.length [] [(i, a :: E)] ow pp q := fun pp q z => .inr z.frz
  have zn : ∀ (pp : Perm) b, H b ≠ none → b ∉ a :: E → (ow b = .slot i ∨ hiTmp Θ.length (ow b)) → zT H (upd H a h') [i] Θ.length [] [(i, a :: E)] ow pp (some b) := fun pp b h1 h2 h3 =>
    .inl ⟨x.there b h1, by simp, by simpa [allL] using h2, .inr (.inl (h3.elim (fun e => by rw [e]; exact List.mem_singleton.mpr rfl) fun z => hi_touch z))⟩
  refine ⟨_, R.tr hl (is := [i]) (L := [(i, a :: E)]) (Fr := []) (fun j hj => by simp at hj; subst hj; exact hb) (fun p hp => by simp at hp; subst hp; exact List.mem_singleton.mpr rfl) x
    (by simpa [allL] using ⟨aE, ndE⟩) (fun b h => by simp at h) (fun b h => ?_) (rt _ (zz _) (zn _)) hd (.inr ⟨rfl, hi⟩) List.length_set List.length_set rfl (fun j hj ty' h => ?_) (fun b h => ?_) fun j hj => ?_⟩
  · right
    have h : b ∈ a :: E := by simpa [allL] using h
    rcases List.mem_cons.mp h with rfl | h
    · rw [hs]; exact List.mem_singleton.mpr rfl
    · rcases hE b h with ⟨_, z⟩ | z
      · rw [z]; exact List.mem_singleton.mpr rfl
      · exact hi_touch z
  · simp at hj; subst hj
    rw [List.getElem?_set_self hil] at h
    cases h
    refine ⟨rfl, fun d' h2 => ?_⟩
    rw [List.getElem?_set_self (by rw [R.lρ]; exact hil)] at h2
    cases h2
    exact ⟨.ref a, a :: E, hσ, rz _ (zz _) (zn _), hz, .inr ⟨List.mem_singleton.mpr rfl, rfl⟩⟩
  · have h : b ∈ a :: E := by simpa [allL] using h
    exact (rz _ (zz .frz) (zn .frz)).mut b h
  · simp at hj
    exact ⟨List.getElem?_set_ne (Ne.symm hj), List.getElem?_set_ne (Ne.symm hj), rfl⟩

/-- a slot's own dict -/
theorem Rw.own_dic (R : Rw K H0 M ow Γ ρ σ Θ θ H) {i : Nat} {n k : Nat} {ep : Nat} {ks vs : List D} (hΓ : Γ[i]? = some (some ⟨.own n, k⟩)) (hρ : ρ[i]? = some (some (.dic ep ks vs))) :
    ∃ a es kv vv F, σ[i]? = some (some (.ref a)) ∧ H a = some (rawD a ep es) ∧ DicOk ks kv vv a es ∧ D.deps 0 ks = true ∧ Reps K H (zOf ow H .frz) 0 ks kv [] ∧ Reps K H (zOf ow H .frz) n vs vv F ∧ D.deps (k - 1) vs = true ∧ 1 ≤ k ∧ (a :: F).Nodup ∧ ∀ b ∈ a :: F, ow b = .slot i := by
  obtain ⟨v, hσ, F, r, hd, hL⟩ := R.slot i _ _ hΓ hρ
  have go : ∀ {m : Nat} {Z : Option Addr → Prop}, Rep K H Z (m + 1) (.dic ep ks vs) v F → ∃ a es kv vv F', v = .ref a ∧ F = a :: F' ∧ H a = some (rawD a ep es) ∧ DicOk ks kv vv a es ∧ D.deps 0 ks = true ∧ Reps K H Z 0 ks kv [] ∧ Reps K H Z m vs vv F' := fun r0 => by
    cases r0 with
    | dic h o dk k r1 => exact ⟨_, _, _, _, _, rfl, rfl, h, o, dk, k, r1⟩
  obtain ⟨a, es, kv, vv, F', rfl, rfl, ha, o, dk, rk, rs⟩ := go r
  have hL : (a :: F').Nodup ∧ ∀ b ∈ a :: F', ow b = .slot i := hL
  have hd : D.dep k (.dic ep ks vs) = true := hd
  refine ⟨a, es, kv, vv, F', hσ, ha, o, dk, rk, rs, ?_, ?_, hL.1, hL.2⟩
  · cases k with
    | zero => simp [D.dep] at hd
    | succ k => simp only [D.dep, Bool.and_eq_true] at hd; simpa using hd.2
  · cases k with
    | zero => simp [D.dep] at hd
    | succ k => omega
theorem Rw.redic (R : Rw K H0 M ow Γ ρ σ (Θs ++ Θ) (θs ++ θ) H) (hl : Θs.length = θs.length) {i : Nat} {n k m k' ep' : Nat} {zk zs : List D} {kv us : List V} {es' : List DictEntry} {E : Fp} {a : Addr} (hΓ : Γ[i]? = some (some ⟨.own n, k⟩))
    (hb : Pm.noBor i Θ = true) (hσ : σ[i]? = some (some (.ref a))) (hmut : Mut (H a)) (hs : ow a = .slot i) (hz : D.dep k' (.dic ep' zk zs) = true)
    (ndE : E.Nodup) (hE : ∀ b ∈ E, (b ≠ a ∧ ow b = .slot i) ∨ hiTmp Θ.length (ow b)) (dok : DicOk zk kv us a es') (dk : D.deps 0 zk = true) (rk : Reps K H (fun _ => True) 0 zk kv [])
    (rz : ∀ Z : Option Addr → Prop, (∀ q, zOf ow H .frz q → Z q) → (∀ b, H b ≠ none → b ∉ a :: E → (ow b = .slot i ∨ hiTmp Θ.length (ow b)) → Z (some b)) → ¬ Z (some a) → Reps K H Z m zs us E) :
    Rel K H0 M (Γ.set i (some ⟨.own m, k'⟩)) (ρ.set i (some (.dic ep' zk zs))) σ (imm :: Θ) ((.non, .non) :: θ) (upd H a (rawD a ep' es')) := by
  have aE : a ∉ E := fun q => by
    rcases hE a q with z | z
    · exact z.1 rfl
    · rw [hs] at z; exact z
  have z1 : ∀ q, zOf ow H .frz q → (fun q => zOf ow H .frz q ∨ ∃ b, q = some b ∧ H b ≠ none ∧ b ∉ a :: E ∧ (ow b = .slot i ∨ hiTmp Θ.length (ow b))) q := fun q z => .inl z
  have z2 : ¬ (fun q => zOf ow H .frz q ∨ ∃ b, q = some b ∧ H b ≠ none ∧ b ∉ a :: E ∧ (ow b = .slot i ∨ hiTmp Θ.length (ow b))) (some a) := fun z => by
    rcases z with z | ⟨b, e, _, h, _⟩
    · have : ow a = .frz := z.1
      rw [hs] at this; cases this
    · cases e; exact h List.mem_cons_self
  have rz1 := rz _ z1 (fun b h1 h2 h3 => .inr ⟨b, rfl, h1, h2, h3⟩) z2
  have rk1 : Reps K (upd H a (rawD a ep' es')) (fun _ => False) 0 zk kv [] := (rk.imm (fun _ => False) 0 dk).2.updO hmut (by simp) (fun z => z)
  have up : ∀ Z : Option Addr → Prop, (∀ q, zOf ow H .frz q → Z q) → (∀ b, H b ≠ none → b ∉ a :: E → (ow b = .slot i ∨ hiTmp Θ.length (ow b)) → Z (some b)) → ∀ q, (fun q => zOf ow H .frz q ∨ ∃ b, q = some b ∧ H b ≠ none ∧ b ∉ a :: E ∧ (ow b = .slot i ∨ hiTmp Θ.length (ow b))) q → Z q := fun Z g1 g2 q z => by
    rcases z with z | ⟨b, rfl, h1, h2, h3⟩
    · exact g1 q z
    · exact g2 b h1 h2 h3
  exact R.relistG hl (ty := imm) (d := .non) (v := .non) hΓ hb hσ hmut hs hz ndE hE (h' := rawD a ep' es') trivial (fun Z g1 g2 => .dic upd_same dok dk (rk1.z fun _ z => z.elim) ((rz1.updO hmut aE z2).z (up Z g1 g2))) (fun Z g1 g2 => .non) rfl rfl
end
theorem fits_snoc {ks : List D} {y : D} (h : fitsD ks y = true) : keysOk (ks ++ [y]) = true := by
  unfold fitsD at h
  unfold keysOk
  rw [Bool.or_eq_true, Bool.and_eq_true, Bool.and_eq_true] at h
  rw [Bool.or_eq_true, List.all_append, List.all_append, Bool.and_eq_true, Bool.and_eq_true]
  rcases h with h | h
  · exact .inl ⟨h.1, by simp [h.2]⟩
  · exact .inr ⟨h.1, by simp [h.2]⟩
def rSetD (K : PySem.W.Frag) (w : World) : TSet := fun o i v H Q => ∃ a ep ns ks vs es n, o = .ref a ∧ H a = some (rawD a ep es) ∧ DicV K H w a ep ns ks vs es ∧ NkV K H n i ∧ fits ns ks n i ∧ ∀ ep' es', Put w ns ks vs n i v es' → Q (upd H a (rawD a ep' es'))
theorem set_dic {X : Cx} (hu : X.A.units + 65 < cLine) : PSet X (rSetD X.K X.w) := by
  intro pins s σ H o i v ov iv u Q I ro ri rv h
  obtain ⟨a, ep, ns, ks, vs, es, n, rfl, ha, d, hy, hf, q⟩ := h
  cases ro
  exact d_setV (by omega) I d ha hy hf ri rv fun ep' es' s' hput I' => ⟨_, I', q ep' es' hput⟩
theorem PSet.or {X : Cx} {t t' : TSet} (h : PSet X t) (h' : PSet X t') : PSet X (fun o i v H Q => t o i v H Q ∨ t' o i v H Q) := fun pins s σ H o i v ov iv u Q I ro ri rv q => q.elim (h pins s σ H o i v ov iv u Q I ro ri rv) (h' pins s σ H o i v ov iv u Q I ro ri rv)
theorem ss_setD {H0 H2 : Hp} {M : Mz} {ow : Addr → Id} {Γ2 : List STy} {ρ2 : Penv} {σ : L2.St} {Θ : List Ty} {θ : List (D × V)} {u w' t : Ty} {d dj : D} {vd vj vi : V} {i nn ep : Nat} {ks vs : List D} {Kx : Penv → Prop} {Q : Hp → Prop} (R2' : Rw K H0 M ow Γ2 ρ2 σ (w' :: u :: Θ) ((dj, vj) :: (d, vd) :: θ) H2)
    (hΓ' : Γ2[i]? = some (some ⟨.own nn, t.k⟩)) (hρ2 : ρ2[i]? = some (some (.dic ep ks vs))) (hσ : σ[i]? = some (some vi)) (c2 : noBor i Θ = true) (c4 : u.free = true) (c5 : 1 ≤ t.k) (c6 : w'.k = 0) (hp : t.p = .own nn) (hfit : fitsD ks dj = true)
    (hk2 : match keyAt ks dj with
        | some j => ∀ ep', Kx (ρ2.set i (some (.dic ep' ks (vs.set j d))))
        | none => ks.length < sizeLine ∧ ∀ ep', Kx (ρ2.set i (some (.dic ep' (ks ++ [dj]) (vs ++ [d])))))
    (hnx : ∀ ρ' H', Rel K H0 M (Γ2.set i (some ⟨.own (min t.lev (u.lev + 1) - 1), max t.k (u.k + 1)⟩)) ρ' σ Θ θ H' → Kx ρ' → Q H') :
    rSetD K W.w vi vj vd H2 Q := by
  obtain ⟨a, es, kv, vv, F, hσ2, ha, dok, dk, rk, rs, dxs, h1k, nd, hL⟩ := R2'.own_dic hΓ' hρ2
  rw [hσ] at hσ2
  cases hσ2
  obtain ⟨ns, e1, dv, e4, e5⟩ := dicV_of (.inl ha) dok rk
  have vwj := R2'.temp.1.vw
  have djk : dj.dep 0 = true := by have := vwj.2; rw [c6] at this; exact this
  obtain ⟨n, g1, g2, g3⟩ := fits_of e4 e5 vwj.1 hfit
  have hmut : Mut (H2 a) := by rw [ha]; trivial
  have hsl := hL a List.mem_cons_self
  have aF := (List.nodup_cons.mp nd).1
  have ndF := (List.nodup_cons.mp nd).2
  have hsF : ∀ b ∈ F, ow b = .slot i := fun b hb => hL b (List.mem_cons_of_mem _ hb)
  have hlev : t.lev = if t.k ≤ nn + 1 then 9 else nn + 1 := by
    unfold Ty.lev; rw [if_neg (by omega), hp]
  obtain ⟨q, hq'⟩ : ∃ q, q = min t.lev (u.lev + 1) - 1 := ⟨_, rfl⟩
  have lev1 : 1 ≤ t.lev := by rw [hlev]; split <;> omega
  obtain ⟨F1, sF, gF⟩ := rs.to (m := q) ndF (by
    by_cases hh : t.k ≤ nn + 1
    · exact .inr (Pm.D.deps_mono (by omega) vs dxs)
    · rw [if_neg hh] at hlev; exact .inl (by omega))
  obtain ⟨Fd, ndd, hld, rdd⟩ := R2'.temp.2.1.give (m := q) rfl c4 (by omega)
  have hld : ∀ b ∈ Fd, ow b = .tmp Θ.length ∧ H2 b ≠ none := hld
  obtain ⟨Zb, hZb⟩ : ∃ Zb : Option Addr → Prop, Zb = fun o => zOf ow H2 .frz o ∨ ∃ b, o = some b ∧ H2 b ≠ none ∧ b ∉ a :: (F1 ++ Fd) ∧ (ow b = .slot i ∨ hiTmp Θ.length (ow b)) := ⟨_, rfl⟩
  have dj' : ∀ b ∈ Fd, ow b ≠ .slot i := fun b hb e => by rw [(hld b hb).1] at e; cases e
  have r1 : Reps K H2 Zb q vs vv F1 := gF Zb (fun o z => by rw [hZb]; exact .inl z) fun b h1 h2 => by
    rw [hZb]
    refine .inr ⟨b, rfl, mut_ne (rs.mut b h1), fun hm => ?_, .inl (hsF b h1)⟩
    rcases List.mem_cons.mp hm with rfl | hm
    · exact aF h1
    · rcases List.mem_append.mp hm with hm | hm
      · exact h2 hm
      · exact dj' b hm (hsF b h1)
  have r2 : Rep K H2 Zb q d vd Fd := rdd.z fun o z => by
    rw [hZb]
    cases o with
    | none => exact z.elim
    | some b =>
      obtain ⟨z1, z2, z3⟩ := z
      rcases z3 with z3 | z3
      · exact .inl ⟨z3, z1⟩
      · refine .inr ⟨b, rfl, z1, fun hm => ?_, .inr (by rw [z3]; exact Nat.le_refl _)⟩
        rcases List.mem_cons.mp hm with rfl | hm
        · rw [hsl] at z3; cases z3
        · rcases List.mem_append.mp hm with hm | hm
          · rw [hsF b (sF.subset hm)] at z3; cases z3
          · exact z2 hm
  have dd : d.dep u.k = true := R2'.temp.2.1.vw.2
  -- what is told behind the store
  have fin : ∀ (ep' : Nat) (zk zs : List D) (zkv us : List V) (es' : List DictEntry) (F' : Fp), Reps K H2 Zb q zs us F' → F'.Nodup → (∀ b ∈ F', b ∈ F1 ∨ b ∈ Fd) → DicOk zk zkv us a es' → D.deps 0 zk = true → Reps K H2 (fun _ => True) 0 zk zkv [] → D.deps (max t.k (u.k + 1) - 1) zs = true → Kx (ρ2.set i (some (.dic ep' zk zs))) → Q (upd H2 a (rawD a ep' es')) := by
    intro ep' zk zs zkv us es' F' rs' nd' hF' dok' dk' rk' dz hkx
    have R3 := R2'.redic (Θs := [w', u]) (θs := [(dj, vj), (d, vd)]) rfl (m := q) (ep' := ep') (k' := max t.k (u.k + 1)) hΓ' c2 hσ hmut hsl (by
        have hm : max t.k (u.k + 1) = max t.k (u.k + 1) - 1 + 1 := by omega
        rw [hm]
        simp only [D.dep, dk', dz, Bool.and_self]) nd' (fun b hb => ?_) dok' dk' rk' (fun Z g1 g2 _ => rs'.z fun o z => ?_)
    · rw [hq'] at R3
      exact hnx _ _ R3.pop hkx
    · rcases hF' b hb with z | z
      · exact .inl ⟨fun e => aF (e ▸ sF.subset z), hsF b (sF.subset z)⟩
      · exact .inr (by rw [(hld b z).1]; exact Nat.le_refl _)
    · rw [hZb] at z
      rcases z with z | ⟨b, rfl, h1, h2, h3⟩
      · exact g1 o z
      · refine g2 b h1 (fun hm => h2 ?_) h3
        rcases List.mem_cons.mp hm with rfl | hm
        · exact List.mem_cons_self
        · exact List.mem_cons_of_mem _ (List.mem_append.mpr (hF' b hm))
  have djF : ∀ b ∈ Fd, b ∉ F1 := fun b hb hm => dj' b hb (hsF b (sF.subset hm))
  refine ⟨a, ep, ns, kv, vv, es, n, rfl, ha, dv, g2, g3, fun ep' es' hput => ?_⟩
  cases e : keyAt ks dj with
  | some j =>
    simp only [e] at hk2
    obtain ⟨F', rs', nd', hF'⟩ := Reps.setR (j := j) r1 r2 (ndF.sublist sF) ndd djF
    exact fin ep' ks (vs.set j d) kv (vv.set j vd) es' F' rs' nd' hF' ⟨env_ents e1 (hput.1 j (keyAt_some e1 g1 e)), dok.ok, dok.nd, dok.big, dok.sys⟩ dk rk.vw (deps_set (Pm.D.deps_mono (by omega) vs dxs) (Pm.D.dep_mono (by omega) d dd)) (hk2 ep')
  | none =>
    simp only [e] at hk2
    have hn := keyAt_none e1 g1 e
    have e1' : (ks ++ [dj]).map D.nk = (ns ++ [n]).map some := by simp [e1, g1]
    refine fin ep' (ks ++ [dj]) (vs ++ [d]) (kv ++ [vj]) (vv ++ [vd]) es' (F1 ++ Fd) ?_ ?_ (fun b hb => List.mem_append.mp hb) ⟨env_ents e1' (hput.2 hn), fits_snoc hfit, ?_, ?_, dok.sys⟩ ?_ ?_ ?_ (hk2.2 ep')
    · have := r1.app (Reps.cons r2 .nil)
      simpa using this
    · exact List.nodup_append.mpr ⟨ndF.sublist sF, ndd, fun x hx y hy e => by subst e; exact djF x hy hx⟩
    · rw [e1']
      have : (ns ++ [n]).Nodup := List.nodup_append.mpr ⟨dv.nd, by simp, fun x hx y hy e => by
        have : y = n := by simpa using hy
        rw [e, this] at hx; exact hn hx⟩
      exact List.Pairwise.map some (fun a b h e => h (Option.some.inj e)) this
    · simp; omega
    · rw [deps_app, dk]; simp [D.deps, djk]
    · have := (rk.vw).app (Reps.cons (F := []) (G := []) vwj.1 .nil)
      exact this
    · rw [deps_app, Pm.D.deps_mono (by omega) vs dxs]
      simp [D.deps, Pm.D.dep_mono (show u.k ≤ max t.k (u.k + 1) - 1 by omega) d dd]
theorem ss_setI {i : Nat} {k e : E} (hk : SE P w K mg base A C G kk XR k) (he : SE P w K mg base A C G kk XR e) : SS P w K mg base A C G kk XR (.setI i k e) := fun Ex sc st hm => by
  unfold mtS at hm
  split at hm <;> first | exact absurd hm Bool.false_ne_true | skip
  all_goals first | (rename_i h; cases h; done) | skip
  rename_i x xp j jp v pos h'
  injection h' with g1 g2 g3
  subst g1 g2 g3
  simp only [Bool.and_eq_true, Bool.not_eq_true'] at hm
  obtain ⟨⟨⟨m0, m1⟩, m2⟩, m3⟩ := hm
  have hn : (A.N[i]? == some x && visB sc x && nomg x) = true := by simp only [Bool.and_eq_true]; exact m0
  obtain ⟨tk, p1, r1⟩ := hk Ex sc j m1
  obtain ⟨te, p2, r2⟩ := he Ex sc v m3
  refine ⟨tAsg te (gSub (tVar i) tk (fun o i v H Q => rSetL o i v H Q ∨ rSetD K W.w o i v H Q)), fun X g => ps_asg (p2 X g.good) (pg_sub (g.good.pv hn) (p1 X g.good) (PSet.or set_list (by rw [← g.good.eK, ← g.good.wd]; exact set_dic g.good.hu)) ?_) ?_ ?_ ?_, ?_⟩
  · intro v'
    cases j <;> first | rfl | cases m2
  · unfold swapsWithSole swapsWith
    cases v <;> rfl
  · unfold swappedStores
    cases v <;> rfl
  · rfl
  · intro RC B Γ Θ o H0 M ρ σ θ H Kt D σ0 ht R he hx hpin hd hnx
    unfold tyS at ht
    split at ht <;> try (cases ht; done)
    rename_i u Γ1 ht1
    split at ht <;> try (cases ht; done)
    rename_i hsome
    split at ht <;> try (cases ht; done)
    rename_i w' Γ2 ht2
    split at ht <;> try (cases ht; done)
    rename_i t hΓ
    split at ht <;> try (cases ht; done)
    rename_i nn hp
    split at ht <;> try (cases ht; done)
    rename_i hc
    obtain ⟨c2, c3, c4, c5, c6⟩ := hc
    cases ht
    unfold evalS at he
    refine r2 _ _ _ _ _ _ _ _ _ _ _ _ _ ht1 R he hx fun d ρ1 vd H1 R1 he1 => ?_
    split at he1 <;> try exact he1.elim
    rename_i o1 hρ1
    obtain ⟨t0, hΓ0⟩ : ∃ t0, Γ1[i]? = some (some t0) := by
      cases e : Γ1[i]? with
      | none => simp [e] at hsome
      | some o => cases o with
        | none => simp [e] at hsome
        | some t0 => exact ⟨t0, rfl⟩
    obtain ⟨ow1, R1'⟩ := id R1
    obtain ⟨vi, hσ, _⟩ := R1'.slot i t0 _ hΓ0 hρ1
    refine ⟨vi, hσ, ?_⟩
    refine r1 _ _ _ _ _ _ _ _ _ _ _ _ _ ht2 R1 he1 hx fun dj ρ2 vj H2 R2 hk2 => ?_
    split at hk2 <;> try exact hk2.elim
    rename_i o2 hρ2
    obtain ⟨ow, R2'⟩ := id R2
    have hΓ' : Γ2[i]? = some (some ⟨.own nn, t.k⟩) := by rw [hΓ, ← own_eq hp]
    have hc2 : (∃ xs n jj, o2 = .lst xs ∧ dj = .int n ∧ ixN xs.length n = some jj ∧ Kt.nx (ρ2.set i (some (.lst (xs.set jj d))))) ∨ ∃ ep ks vs, o2 = .dic ep ks vs ∧ fitsD ks dj = true ∧ (match keyAt ks dj with
        | some j => ∀ ep', Kt.nx (ρ2.set i (some (.dic ep' ks (vs.set j d))))
        | none => ks.length < sizeLine ∧ ∀ ep', Kt.nx (ρ2.set i (some (.dic ep' (ks ++ [dj]) (vs ++ [d]))))) := by
      cases o2 with
      | lst xs =>
        cases dj <;> try exact False.elim hk2
        rename_i n
        have hk2 : (match ixN xs.length n with | some j => Kt.nx (ρ2.set i (some (.lst (xs.set j d)))) | none => False) := hk2
        cases e : ixN xs.length n with
        | none => rw [e] at hk2; exact hk2.elim
        | some jj => rw [e] at hk2; exact .inl ⟨xs, n, jj, rfl, rfl, e, hk2⟩
      | dic ep ks vs => exact .inr ⟨ep, ks, vs, rfl, by cases dj <;> exact hk2⟩
      | _ => cases dj <;> exact False.elim hk2
    clear hk2
    rcases hc2 with ⟨xs, n, jj, rfl, rfl, hj, hk2⟩ | ⟨ep, ks, vs, rfl, hfit, hk2⟩
    rotate_left
    · exact .inr <| ss_setD R2' hΓ' hρ2 hσ c2 c4 c5 c6 hp hfit hk2 fun ρ' H' R' hk => hnx _ rfl ρ' σ H' R' hpin hk
    obtain ⟨a, us, F, hσ2, ha, rs, dxs, h1k, nd, hL⟩ := R2'.own_lst hΓ' hρ2
    rw [hσ] at hσ2
    cases hσ2
    have ej : vj = .int n := R2.len1.1.int_inv
    subst ej
    have hsl := hL a List.mem_cons_self
    have aF := (List.nodup_cons.mp nd).1
    have ndF := (List.nodup_cons.mp nd).2
    have hsF : ∀ b ∈ F, ow b = .slot i := fun b hb => hL b (List.mem_cons_of_mem _ hb)
    have hlev : t.lev = if t.k ≤ nn + 1 then 9 else nn + 1 := by
      unfold Ty.lev; rw [if_neg (by omega), hp]
    obtain ⟨q, hq'⟩ : ∃ q, q = min t.lev (u.lev + 1) - 1 := ⟨_, rfl⟩
    have lev1 : 1 ≤ t.lev := by rw [hlev]; split <;> omega
    obtain ⟨F1, sF, gF⟩ := rs.to (m := q) ndF (by
      by_cases hh : t.k ≤ nn + 1
      · exact .inr (Pm.D.deps_mono (by omega) xs dxs)
      · rw [if_neg hh] at hlev; exact .inl (by omega))
    obtain ⟨Fd, ndd, hld, rdd⟩ := R2'.temp.2.1.give (m := q) rfl c4 (by omega)
    have hld : ∀ b ∈ Fd, ow b = .tmp Θ.length ∧ H2 b ≠ none := hld
    obtain ⟨Zb, hZb⟩ : ∃ Zb : Option Addr → Prop, Zb = fun o => zOf ow H2 .frz o ∨ ∃ b, o = some b ∧ H2 b ≠ none ∧ b ∉ a :: (F1 ++ Fd) ∧ (ow b = .slot i ∨ hiTmp Θ.length (ow b)) := ⟨_, rfl⟩
    have dj : ∀ b ∈ Fd, ow b ≠ .slot i := fun b hb e => by rw [(hld b hb).1] at e; cases e
    have r1 : Reps K H2 Zb q xs us F1 := gF Zb (fun o z => by rw [hZb]; exact .inl z) fun b h1 h2 => by
      rw [hZb]
      refine .inr ⟨b, rfl, mut_ne (rs.mut b h1), fun hm => ?_, .inl (hsF b h1)⟩
      rcases List.mem_cons.mp hm with rfl | hm
      · exact aF h1
      · rcases List.mem_append.mp hm with hm | hm
        · exact h2 hm
        · exact dj b hm (hsF b h1)
    have r2 : Rep K H2 Zb q d vd Fd := rdd.z fun o z => by
      rw [hZb]
      cases o with
      | none => exact z.elim
      | some b =>
        obtain ⟨z1, z2, z3⟩ := z
        rcases z3 with z3 | z3
        · exact .inl ⟨z3, z1⟩
        · refine .inr ⟨b, rfl, z1, fun hm => ?_, .inr (by rw [z3]; exact Nat.le_refl _)⟩
          rcases List.mem_cons.mp hm with rfl | hm
          · rw [hsl] at z3; cases z3
          · rcases List.mem_append.mp hm with hm | hm
            · rw [hsF b (sF.subset hm)] at z3; cases z3
            · exact z2 hm
    obtain ⟨F', rs', nd', hF'⟩ := Reps.setR (j := jj) r1 r2 (ndF.sublist sF) ndd fun b hb hm => dj b hb (hsF b (sF.subset hm))
    have dd : d.dep u.k = true := R2'.temp.2.1.vw.2
    refine .inl ⟨a, us, n, jj, rfl, rfl, ha, by rw [← rs.len]; exact hj, ?_⟩
    have R3 := R2'.relst (Θs := [w', u]) (θs := [(.int n, .int n), (d, vd)]) rfl (zs := xs.set jj d) (us := us.set jj vd) (E := F') (m := q) (k' := max t.k (u.k + 1)) (ty := imm) (d := .non) (v := .non) hΓ' hρ2 c2 hσ ha hsl (by
        have hm : max t.k (u.k + 1) = max t.k (u.k + 1) - 1 + 1 := by omega
        rw [hm, dep_lst]
        exact deps_set (Pm.D.deps_mono (by omega) xs dxs) (Pm.D.dep_mono (by omega) d dd)) nd' (fun b hb => ?_) (fun Z g1 g2 _ => rs'.z fun o z => ?_) (fun _ _ _ _ => .non) rfl rfl
    · rw [hq'] at R3
      exact hnx _ rfl _ σ _ R3.pop hpin hk2
    · rcases hF' b hb with z | z
      · exact .inl ⟨fun e => aF (e ▸ sF.subset z), hsF b (sF.subset z)⟩
      · exact .inr (by rw [(hld b z).1]; exact Nat.le_refl _)
    · rw [hZb] at z
      rcases z with z | ⟨b, rfl, h1, h2, h3⟩
      · exact g1 o z
      · refine g2 b h1 (fun hm => h2 ?_) h3
        rcases List.mem_cons.mp hm with rfl | hm
        · exact List.mem_cons_self
        · exact List.mem_cons_of_mem _ (List.mem_append.mpr (hF' b hm))
end Pm

namespace Pm
open PySem PySem.Spec L2
variable [W : Wd] {P : Program} {w : World} {K : PySem.W.Frag} {mg : Str → Option Value} {base : Heap} {A : Code} {C : Ctx} {G : TC} {kk : Nat} {XR : XRel}
/-! ### dict displays -/
theorem dic_nil {p : Addr} (h : (p == sysModules) = false) : DicOk (W := W) [] [] [] p [] := ⟨.nil, rfl, List.nodup_nil, Nat.zero_le _, h⟩
section
variable {H0 H : Hp} {M : Mz} {ow : Addr → Id} {Γ : List STy} {ρ : Penv} {σ : L2.St} {Θ : List Ty} {θ : List (D × V)}
theorem Rw.nilD (R : Rw K H0 M ow Γ ρ σ Θ θ H) {n k : Nat} {p : Addr} (hp : H p = none) (hs : (p == sysModules) = false) : Rel K H0 M Γ ρ σ (⟨.own n, k + 1⟩ :: Θ) ((.dic 0 [] [], .ref p) :: θ) (upd H p (rawD p 0 [])) :=
  R.newC (Θs := []) (θs := []) rfl hp (fun Z' _ => .dic upd_same (dic_nil hs) rfl .nil .nil) (by simp [D.dep, D.deps]) List.nodup_nil (fun a ha => by simp at ha)
/-- the key and the value above go into the empty dict below them -/
theorem Rw.fillD {t u : Ty} {n k m : Nat} {y d : D} {vy vd : V} {p : Addr} (R : Rw K H0 M ow Γ ρ σ (u :: t :: ⟨.own n, k + 1⟩ :: Θ) ((d, vd) :: (y, vy) :: (.dic 0 [] [], .ref p) :: θ) H) (ht : t.k = 0) (hf : u.free = true) (hm : m ≤ u.lev) (hfit : fitsD [] y = true) :
    H p = some (rawD p 0 []) ∧ ∃ nk, NkV K H nk vy ∧ fits [] [] nk vy ∧ ∀ ep' es', EnV W.w [nk] [vy] [vd] es' → Rel K H0 M Γ ρ σ (⟨.own m, u.k + 1⟩ :: Θ) ((.dic ep' [y] [d], .ref p) :: θ) (upd H p (rawD p ep' es')) := by
  obtain ⟨F, r, hd, hL⟩ := R.temp.2.2.1
  have hL : F.Nodup ∧ ∀ a ∈ F, ow a = .tmp Θ.length := hL
  have go : ∀ {m : Nat} {Z : Option Addr → Prop}, Rep K H Z (m + 1) (.dic 0 [] []) (.ref p) F → F = [p] ∧ H p = some (rawD p 0 []) ∧ (p == sysModules) = false := fun r0 => by
    cases r0 with
    | dic h o dk k r1 =>
      cases k; cases r1
      have := o.ents
      cases this
      exact ⟨rfl, h, o.sys⟩
  obtain ⟨rfl, hp, hsys⟩ := go r
  have lp := hL.2 p List.mem_cons_self
  have vy' := R.temp.2.1.vw
  have yk : y.dep 0 = true := by have := vy'.2; rw [ht] at this; exact this
  obtain ⟨nk, g1, g2, g3⟩ := fits_of (ks := []) (ns := []) (kv := []) (fun _ => ⟨rfl, rfl⟩) (fun _ => rfl) vy'.1 hfit
  have hmut : Mut (H p) := by rw [hp]; trivial
  obtain ⟨E', nd', hL', rd⟩ := R.temp.1.give (m := m) rfl hf hm
  have hL' : ∀ a ∈ E', ow a = .tmp (Θ.length + 1 + 1) ∧ H a ≠ none := hL'
  have pE : p ∉ E' := fun h => by
    have := (hL' p h).1
    rw [lp] at this
    have := Id.tmp.inj this
    omega
  refine ⟨hp, nk, g2, g3, fun ep' es' he => ?_⟩
  have R' : Rw K H0 M ow Γ ρ σ ([u, t, ⟨.own n, k + 1⟩] ++ Θ) ([(d, vd), (y, vy), (.dic 0 [] [], .ref p)] ++ θ) H := R
  have x : Ext (fun a => hiTmp Θ.length (ow a)) H (upd H p (rawD p ep' es')) := Ext.upd (.inr (by rw [lp]; exact Nat.le_refl _))
  have zf : ∀ o, zC (· = .tmp (Θ.length + 1 + 1)) ow H E' o → zT H (upd H p (rawD p ep' es')) [] Θ.length (p :: E') [] ow (.own m) o := fun o z =>
    z.out (fun i e => by subst e; show Θ.length ≤ Θ.length + 1 + 1; omega) (x.mono fun a h => hi_touch h) fun a h1 h2 h3 => ⟨fun hm => by
      rcases List.mem_cons.mp hm with rfl | hm
      · rw [lp] at h3
        rcases h3 with h3 | h3
        · cases h3
        · have := Id.tmp.inj h3; omega
      · exact h2 hm, by simp [allL]⟩
  have nz2 : ¬ zC (· = .tmp (Θ.length + 1 + 1)) ow H E' (some p) := fun z => by
    rcases z.2.2 with e | e
    · rw [lp] at e; cases e
    · rw [lp] at e
      have := Id.tmp.inj e; omega
  have dok : DicOk (W := W) [y] [vy] [vd] p es' := ⟨env_ents (by simp [g1]) he, by have := fits_snoc (ks := []) hfit; simpa using this, by simp, (show 1 ≤ sizeLine by decide), hsys⟩
  have du : d.dep u.k = true := R.temp.1.vw.2
  refine R'.res rfl (ty := ⟨.own m, u.k + 1⟩) (d := .dic ep' [y] [d]) (v := .ref p) (F := p :: E') ?_ (by simp [D.dep, D.deps, yk, du]) (.inl rfl) (List.nodup_cons.mpr ⟨pE, nd'⟩) (fun a ha => .inr ?_) x
  · have rk : Reps K (upd H p (rawD p ep' es')) (zT H (upd H p (rawD p ep' es')) [] Θ.length (p :: E') [] ow (.own m)) 0 [y] [vy] [] := Reps.cons (F := []) (G := []) (((vy'.1.imm (fun _ => False) 0 yk).2.updO hmut (by simp) (fun z => z)).z fun _ z => z.elim) .nil
    have rv := Reps.cons ((rd.updO (o := rawD p ep' es') hmut pE nz2).z zf) Reps.nil
    have := Rep.dic upd_same dok (by simp [D.deps, yk]) rk rv
    rw [List.append_nil] at this
    exact this
  · rcases List.mem_cons.mp ha with rfl | ha
    · rw [lp]; exact Nat.le_refl _
    · rw [(hL' a ha).1]; show Θ.length ≤ Θ.length + 1 + 1; omega
end
theorem se_dnew : SE P w K mg base A C G kk XR .dnew := fun Ex sc pe hm => by
  unfold mtE at hm
  split at hm <;> first | exact absurd hm Bool.false_ne_true | skip
  all_goals first | (rename_i h; cases h; done) | skip
  refine ⟨tDNew, fun X g => pe_dnew, ?_⟩
  intro H0 M Γ Θ ty Γ' ρ σ θ H Kk Xk Q ht R he hx hq
  unfold tyE at ht
  cases ht
  unfold evalE at he
  intro p hp hs
  obtain ⟨ow, R⟩ := R
  exact hq _ ρ _ _ (R.nilD hp hs) he
theorem se_done {a b : E} (ha : SE P w K mg base A C G kk XR a) (hb : SE P w K mg base A C G kk XR b) : SE P w K mg base A C G kk XR (.done a b) := fun Ex sc pe hm => by
  unfold mtE at hm
  split at hm <;> first | exact absurd hm Bool.false_ne_true | skip
  all_goals first | (rename_i h; cases h; done) | skip
  rename_i x y pos h'
  injection h' with g1 g2
  subst g1 g2
  simp only [Bool.and_eq_true] at hm
  obtain ⟨m1, m2⟩ := hm
  obtain ⟨ta, p1, r1⟩ := ha Ex sc _ m1
  obtain ⟨tb, p2, r2⟩ := hb Ex sc _ m2
  refine ⟨tDOne W.w K ta tb, fun X g => by rw [← g.eK, ← g.wd]; exact pe_done (by have := g.hu; omega) (p1 X g) (p2 X g), ?_⟩
  intro H0 M Γ Θ ty Γ' ρ σ θ H Kk Xk Q ht R he hx hq
  unfold tyE at ht
  split at ht <;> try (cases ht; done)
  rename_i t Γ1 ht1
  split at ht <;> try (cases ht; done)
  rename_i u Γ2 ht2
  split at ht <;> try (cases ht; done)
  rename_i hc
  cases ht
  unfold evalE at he
  intro p hp hs
  obtain ⟨ow, R⟩ := R
  refine r1 _ _ _ _ _ _ _ _ _ _ _ _ _ ht1 (R.nilD (n := 0) (k := 0) hp hs) he hx fun d1 ρ1 v1 H1 R1 he1 => ?_
  refine r2 _ _ _ _ _ _ _ _ _ _ _ _ _ ht2 R1 he1 hx fun d2 ρ2 v2 H2 R2 he2 => ?_
  obtain ⟨ow2, R2⟩ := R2
  obtain ⟨hp2, nk, g2, g3, fin⟩ := R2.fillD hc.1 hc.2 (levs_le (ts := [u]) u List.mem_cons_self) he2.1
  exact ⟨hp2, nk, g2, g3, fun ep' es' he' => hq _ ρ2 _ _ (fin ep' es' he') (he2.2 ep')⟩
end Pm

namespace Pm
open PySem PySem.Spec L2
variable [W : Wd] {P : Program} {w : World} {K : PySem.W.Frag} {mg : Str → Option Value} {base : Heap} {A : Code} {C : Ctx} {G : TC} {kk : Nat} {XR : XRel}

theorem dep1 {k : Nat} {ds : List D} (h : D.dep k (.lst ds) = true) (hk : k ≤ 1) : D.deps 0 ds = true := by
  have h1 : D.dep 1 (.lst ds) = true := D.dep_mono hk _ h
  rwa [dep_lst] at h1
theorem Vws.item {H : Hp} {ds : List D} {vs : List V} (r : Vws K H ds vs) {i : Nat} {d : D} (e : ds[i]? = some d) : ∃ v, vs[i]? = some v ∧ Vw K H d v := by
  obtain ⟨v, G, e1, rv, _⟩ := r.get e
  exact ⟨v, e1, rv.vw⟩
theorem Vws.two' {H : Hp} {d e : D} {v u : V} (a : Vw K H d v) (b : Vw K H e u) : Vws K H [d, e] [v, u] := .cons (F := []) (G := []) a (.cons (F := []) (G := []) b .nil)
theorem walk_enum {t : Ty} {ds : List D} {a : Addr} (hk : t.k ≤ 1) : WalkOk K [t] [(.lst ds, .ref a)] imm (ds.zipIdx.map fun p => .tup [.int p.2, p.1]) (Ite K a) := by
  intro H0 M Γ ρ σ Θa θa Θ θ H i hl R
  obtain ⟨ow, R⟩ := id R
  obtain ⟨r, hd⟩ := (R.temp.mid hl).vw
  obtain ⟨a', vs, e, s, rs⟩ := r.lst_inv
  cases e
  have hd' := dep1 hd hk
  refine ⟨fun d hd1 => ?_, fun hle0 => have hle := Nat.le_of_eq hle0; ⟨vs, s, by rw [← rs.len]; simpa using hle⟩⟩
  rw [List.getElem?_map, List.getElem?_zipIdx] at hd1
  cases e : ds[i]? with
  | none => rw [e] at hd1; cases hd1
  | some d0 =>
    rw [e] at hd1
    simp at hd1
    subst hd1
    obtain ⟨v, e1, rv⟩ := rs.item e
    refine ⟨⟨vs, v, s, e1⟩, fun x H' y => ?_⟩
    obtain ⟨T, x', rfl, hT, rfl, y⟩ := y
    have ex : x' = v := Option.some.inj ((y _ s).symm.trans e1)
    subst ex
    have dd := deps_get hd' e
    exact Rel.new0 (Θs := []) (θs := []) ⟨ow, R⟩ rfl (New0.tup (Vws.two' (.int _) rv) (by simp [D.deps, D.dep, dd]) hT)
theorem toStr_at {s : List Nat} {i : Nat} : (toStr s).cps[i]? = s[i]? := by simp [toStr]
theorem toStr_sz {s : List Nat} : (toStr s).cps.size = s.length := by simp [toStr]
theorem walk_enumS {t : Ty} {s : List Nat} {v : V} : WalkOk K [t] [(.str s, v)] imm ((s.map fun c => D.str [c]).zipIdx.map fun p => .tup [.int p.2, p.1]) (IteS (toStr s)) := by
  intro H0 M Γ ρ σ Θa θa Θ θ H i hl R
  obtain ⟨ow, R⟩ := id R
  obtain ⟨r, hd⟩ := (R.temp.mid hl).vw
  obtain ⟨_, hv⟩ := r.str_inv
  refine ⟨fun d hd1 => ?_, fun hle0 => have hle := Nat.le_of_eq hle0; by show (toStr s).cps.size ≤ i; rw [toStr_sz]; simpa using hle⟩
  rw [List.getElem?_map, List.getElem?_zipIdx, List.getElem?_map] at hd1
  cases e : s[i]? with
  | none => rw [e] at hd1; cases hd1
  | some c =>
    rw [e] at hd1
    simp at hd1
    subst hd1
    have hi : i < s.length := (List.getElem?_eq_some_iff.mp e).1
    refine ⟨by show i < (toStr s).cps.size; rw [toStr_sz]; exact hi, fun x H' y => ?_⟩
    obtain ⟨T, c', rfl, hT, rfl, y⟩ := y
    rw [toStr_at, e] at y
    cases y
    have hc : ∀ d ∈ [c], d < 0x110000 := fun d hd => by simp at hd; subst hd; exact hv _ (List.mem_of_getElem? e)
    exact Rel.new0 (Θs := []) (θs := []) ⟨ow, R⟩ rfl (New0.tup (Vws.two' (.int _) (.str [c] hc)) (by simp [D.deps, D.dep]) hT)
theorem walk_zipG {t u : Ty} {d e : D} {v v' : V} {l1 l2 : Bool} {xs ys : List D} (hx : d.itz l1 = some xs) (hy : e.itz l2 = some ys) (hk : t.k ≤ (if l1 then 1 else 0)) (hu : u.k ≤ (if l2 then 1 else 0)) :
    WalkOk K [u, t] [(e, v'), (d, v)] imm ((xs.zip ys).map fun p => .tup [p.1, p.2]) (ItzG K (srcOf d v) (srcOf e v')) := by
  intro H0 M Γ ρ σ Θa θa Θ θ H i hl R
  obtain ⟨ow, R⟩ := id R
  have T1 : TempOk K H ow (Θa ++ u :: ([t] ++ Θ)) (θa ++ (e, v') :: ([(d, v)] ++ θ)) := R.temp
  have T2 : TempOk K H ow ((Θa ++ [u]) ++ t :: Θ) ((θa ++ [(e, v')]) ++ (d, v) :: θ) := by simpa using R.temp
  obtain ⟨r1, hd1⟩ := (T2.at (by simp [hl])).vw
  obtain ⟨r2, hd2⟩ := (T1.at hl).vw
  obtain ⟨_, c1, i1, p1⟩ := src_ok r1 hx (D.dep_mono hk _ hd1)
  obtain ⟨_, c2, i2, p2⟩ := src_ok r2 hy (D.dep_mono hu _ hd2)
  refine ⟨fun z hz => ?_, fun hle => ⟨_, _, c1, c2, ?_⟩⟩
  · rw [List.getElem?_map] at hz
    cases ez : (xs.zip ys)[i]? with
    | none => rw [ez] at hz; cases hz
    | some q =>
      rw [ez] at hz
      simp at hz
      subst hz
      obtain ⟨z1, z2⟩ := List.getElem?_zip_eq_some.mp ez
      refine ⟨⟨_, _, c1, c2, (List.getElem?_eq_some_iff.mp z1).1, (List.getElem?_eq_some_iff.mp z2).1⟩, fun x H' y => ?_⟩
      obtain ⟨T, x', y', rfl, hT, rfl, y1, y2⟩ := y
      exact Rel.new0 (Θs := []) (θs := []) ⟨ow, R⟩ rfl (New0.tup (Vws.two' (i1 i _ z1 x' y1) (i2 i _ z2 y' y2)) (by simp [D.deps, deps_get p1 z1, deps_get p2 z2]) hT)
  · simp at hle; omega
theorem isTup_inv {tg : Expr} (h : isTup tg = true) : ∃ es k p, tg = .Tuple es k p := by
  cases tg <;> first | exact ⟨_, _, _, rfl⟩ | cases h
theorem sit_enum (F : Facts P w K mg base A C G kk XR) {l : Bool} {e : E} (h : SE P w K mg base A C G kk XR e) : SIt P w K mg base A C G kk XR (.enum l e) := fun Ex sc tg pe hm => by
  unfold mtIt at hm
  split at hm <;> first | exact absurd hm Bool.false_ne_true | skip
  all_goals first | (rename_i h; cases h; done) | skip
  · rename_i x p y pos h'
    injection h' with g0 g1
    subst g0 g1
    simp only [Bool.and_eq_true, beq_iff_eq] at hm
    obtain ⟨⟨⟨e1, hg⟩, ht⟩, m2⟩ := hm
    subst e1
    obtain ⟨es, k, tp, rfl⟩ := isTup_inv ht
    obtain ⟨t, pr, rd⟩ := h Ex sc y m2
    have ns : ∀ z pos, y ≠ .Starred z pos := fun z pos e' => by subst e'; exact mt_nostar m2
    refine ⟨iEnum K (tCons t tNil), fun X g => ⟨?_, fun _ => rfl⟩, ?_⟩
    · rw [← g.eK]
      exact pi_enum (g.gl hg) (by rw [g.emg]; exact F.its.2.1) (pa_cons (pr X g) pa_nil (star_cons ns)) (star_cons ns)
    · intro H0 M Γ Θ us u Γ' ρ σ θ H Kk Xk R ht Rl he hx hq
      unfold tyIt at ht
      split at ht <;> try (cases ht; done)
      rename_i t0 Γ1 ht1
      split at ht <;> try (cases ht; done)
      rename_i hc
      cases ht
      unfold evalIt at he
      refine rd _ _ _ _ _ _ _ _ _ _ _ _ _ ht1 Rl he hx fun d ρ1 v H1 R1 hk => ?_
      obtain ⟨q, hd⟩ := R1.len1
      obtain ⟨ds, rfl, hk⟩ : ∃ ds, d = .lst ds ∧ Kk (ds.zipIdx.map fun p => .tup [.int p.2, p.1]) ρ1 := by
        cases d <;> first | exact ⟨_, rfl, hk⟩ | exact hk.elim
      obtain ⟨a, vs, ev, s, _⟩ := q.lst_inv
      have ev : v = .ref a := ev
      subst ev
      exact ⟨a, vs, rfl, s, hq _ ρ1 _ H1 [(.lst ds, .ref a)] rfl R1 (walk_enum hc.1) hk⟩
  · rename_i x p y pos h'
    injection h' with g0 g1
    subst g0 g1
    simp only [Bool.and_eq_true, beq_iff_eq] at hm
    obtain ⟨⟨⟨e1, hg⟩, ht⟩, m2⟩ := hm
    subst e1
    obtain ⟨es, k, tp, rfl⟩ := isTup_inv ht
    obtain ⟨t, pr, rd⟩ := h Ex sc y m2
    have ns : ∀ z pos, y ≠ .Starred z pos := fun z pos e' => by subst e'; exact mt_nostar m2
    refine ⟨iEnumS (tCons t tNil), fun X g => ⟨?_, fun _ => rfl⟩, ?_⟩
    · exact pi_enumS (g.gl hg) (by rw [g.emg]; exact F.its.2.1) (pa_cons (pr X g) pa_nil (star_cons ns)) (star_cons ns)
    · intro H0 M Γ Θ us u Γ' ρ σ θ H Kk Xk R ht Rl he hx hq
      unfold tyIt at ht
      split at ht <;> try (cases ht; done)
      rename_i t0 Γ1 ht1
      split at ht <;> try (cases ht; done)
      rename_i hc
      cases ht
      unfold evalIt at he
      refine rd _ _ _ _ _ _ _ _ _ _ _ _ _ ht1 Rl he hx fun d ρ1 v H1 R1 hk => ?_
      obtain ⟨q, hd⟩ := R1.len1
      obtain ⟨s, rfl, hk⟩ : ∃ s, d = .str s ∧ Kk ((s.map fun c => D.str [c]).zipIdx.map fun p => .tup [.int p.2, p.1]) ρ1 := by
        cases d <;> first | exact ⟨_, rfl, hk⟩ | exact hk.elim
      obtain ⟨ev, _⟩ := q.str_inv
      have ev : v = .str (toStr s) := ev
      exact ⟨toStr s, by rw [ev], hq _ ρ1 _ H1 [(.str s, v)] rfl R1 walk_enumS hk⟩
theorem sit_zip (F : Facts P w K mg base A C G kk XR) {l1 l2 : Bool} {a b : E} (ha : SE P w K mg base A C G kk XR a) (hb : SE P w K mg base A C G kk XR b) : SIt P w K mg base A C G kk XR (.zip l1 l2 a b) := fun Ex sc tg pe hm => by
  unfold mtIt at hm
  split at hm <;> first | exact absurd hm Bool.false_ne_true | skip
  all_goals first | (rename_i h; cases h; done) | skip
  rename_i x p y z pos h'
  injection h' with g0 g1 g2 g3
  subst g0 g1 g2 g3
  simp only [Bool.and_eq_true, beq_iff_eq] at hm
  obtain ⟨⟨⟨⟨e1, hg⟩, ht⟩, m2⟩, m3⟩ := hm
  subst e1
  obtain ⟨es, k, tp, rfl⟩ := isTup_inv ht
  obtain ⟨ta, p1, r1⟩ := ha Ex sc y m2
  obtain ⟨tb, p2, r2⟩ := hb Ex sc z m3
  have ns : ∀ q pos, y ≠ .Starred q pos := fun q pos e' => by subst e'; exact mt_nostar m2
  have ns2 : ∀ pe ∈ [z], ∀ q pos, pe ≠ .Starred q pos := fun pe hp q pos e' => by simp at hp; subst hp; subst e'; exact mt_nostar m3
  refine ⟨iZipG K (tCons ta (tCons tb tNil)), fun X g => ⟨?_, fun _ => rfl⟩, ?_⟩
  · rw [← g.eK]
    exact pi_zipG (g.gl hg) (by rw [g.emg]; exact F.its.2.2) (pa_cons (p1 X g) (pa_cons (p2 X g) pa_nil (star_cons (ns2 z (by simp)))) (star_cons ns)) (star_cons ns) (star_any ns2 _)
  · intro H0 M Γ Θ us u Γ' ρ σ θ H Kk Xk R ht Rl he hx hq
    unfold tyIt at ht
    split at ht <;> try (cases ht; done)
    rename_i t0 Γ1 ht1
    split at ht <;> try (cases ht; done)
    rename_i u0 Γ2 ht2
    split at ht <;> try (cases ht; done)
    rename_i hc
    cases ht
    unfold evalIt at he
    refine two r1 r2 ht1 ht2 Rl he hx fun x y ρ' v v' H' R' hk => ?_
    obtain ⟨q2, d2⟩ := R'.len1
    obtain ⟨q1, d1⟩ := R'.len2
    have h1 : t0.k ≤ (if l1 then 1 else 0) := by
      cases l1 with
      | true => exact hc.1
      | false => have := hc.2.1; simp at this; simp [this]
    have h2 : u0.k ≤ (if l2 then 1 else 0) := by
      cases l2 with
      | true => exact hc.2.2.1
      | false => have := hc.2.2.2; simp at this; simp [this]
    cases e1 : x.itz l1 with
    | none => simp only [e1] at hk
    | some xs =>
      cases e2 : y.itz l2 with
      | none => simp only [e1, e2] at hk
      | some ys =>
        simp only [e1, e2] at hk
        obtain ⟨v1, c1, _⟩ := src_ok q1 e1 (D.dep_mono h1 _ d1)
        obtain ⟨v2, c2, _⟩ := src_ok q2 e2 (D.dep_mono h2 _ d2)
        have v1 : v = (srcOf x v).v := v1
        have v2 : v' = (srcOf y v').v := v2
        exact ⟨srcOf x v, srcOf y v', by rw [← v1, ← v2], ⟨_, c1⟩, ⟨_, c2⟩, hq _ ρ' _ H' [(y, v'), (x, v)] rfl R' (walk_zipG e1 e2 h1 h2) hk⟩

theorem Vws.three' {H : Hp} {d e f : D} {v u x : V} (a : Vw K H d v) (b : Vw K H e u) (c : Vw K H f x) : Vws K H [d, e, f] [v, u, x] := .cons (F := []) (G := []) a (Vws.two' b c)
theorem walk_zipG3 {t u r : Ty} {d e f : D} {v v' v'' : V} {l1 l2 l3 : Bool} {xs ys zs : List D} (hx : d.itz l1 = some xs) (hy : e.itz l2 = some ys) (hz : f.itz l3 = some zs) (hk : t.k ≤ (if l1 then 1 else 0)) (hu : u.k ≤ (if l2 then 1 else 0)) (hr : r.k ≤ (if l3 then 1 else 0)) :
    WalkOk K [r, u, t] [(f, v''), (e, v'), (d, v)] imm ((xs.zip (ys.zip zs)).map fun p => .tup [p.1, p.2.1, p.2.2]) (ItzG3 K (srcOf d v) (srcOf e v') (srcOf f v'')) := by
  intro H0 M Γ ρ σ Θa θa Θ θ H i hl R
  obtain ⟨ow, R⟩ := id R
  have T0 : TempOk K H ow (Θa ++ r :: ([u, t] ++ Θ)) (θa ++ (f, v'') :: ([(e, v'), (d, v)] ++ θ)) := R.temp
  have T1 : TempOk K H ow ((Θa ++ [r]) ++ u :: ([t] ++ Θ)) ((θa ++ [(f, v'')]) ++ (e, v') :: ([(d, v)] ++ θ)) := by simpa using R.temp
  have T2 : TempOk K H ow ((Θa ++ [r, u]) ++ t :: Θ) ((θa ++ [(f, v''), (e, v')]) ++ (d, v) :: θ) := by simpa using R.temp
  obtain ⟨r1, hd1⟩ := (T2.at (by simp [hl])).vw
  obtain ⟨r2, hd2⟩ := (T1.at (by simp [hl])).vw
  obtain ⟨r3, hd3⟩ := (T0.at hl).vw
  obtain ⟨_, c1, i1, p1⟩ := src_ok r1 hx (D.dep_mono hk _ hd1)
  obtain ⟨_, c2, i2, p2⟩ := src_ok r2 hy (D.dep_mono hu _ hd2)
  obtain ⟨_, c3, i3, p3⟩ := src_ok r3 hz (D.dep_mono hr _ hd3)
  refine ⟨fun z hz => ?_, fun hle => ⟨_, _, _, c1, c2, c3, ?_⟩⟩
  · rw [List.getElem?_map] at hz
    cases ez : (xs.zip (ys.zip zs))[i]? with
    | none => rw [ez] at hz; cases hz
    | some q =>
      rw [ez] at hz
      simp at hz
      subst hz
      obtain ⟨z1, z23⟩ := List.getElem?_zip_eq_some.mp ez
      obtain ⟨z2, z3⟩ := List.getElem?_zip_eq_some.mp z23
      refine ⟨⟨_, _, _, c1, c2, c3, (List.getElem?_eq_some_iff.mp z1).1, (List.getElem?_eq_some_iff.mp z2).1, (List.getElem?_eq_some_iff.mp z3).1⟩, fun x H' y => ?_⟩
      obtain ⟨T, x', y', o', rfl, hT, rfl, y1, y2, y3⟩ := y
      exact Rel.new0 (Θs := []) (θs := []) ⟨ow, R⟩ rfl (New0.tup (Vws.three' (i1 i _ z1 x' y1) (i2 i _ z2 y' y2) (i3 i _ z3 o' y3)) (by simp [D.deps, deps_get p1 z1, deps_get p2 z2, deps_get p3 z3]) hT)
  · simp at hle; omega
theorem sit_zip3 (F : Facts P w K mg base A C G kk XR) {l1 l2 l3 : Bool} {a b c : E} (ha : SE P w K mg base A C G kk XR a) (hb : SE P w K mg base A C G kk XR b) (hcc : SE P w K mg base A C G kk XR c) : SIt P w K mg base A C G kk XR (.zip3 l1 l2 l3 a b c) := fun Ex sc tg pe hm => by
  unfold mtIt at hm
  split at hm <;> first | exact absurd hm Bool.false_ne_true | skip
  all_goals first | (rename_i h; cases h; done) | skip
  rename_i x p y z u pos h'
  injection h' with g0 g1 g2 g3 g4 g5
  subst g0 g1 g2 g3 g4 g5
  simp only [Bool.and_eq_true, beq_iff_eq] at hm
  obtain ⟨⟨⟨⟨⟨e1, hg⟩, ht⟩, m2⟩, m3⟩, m4⟩ := hm
  subst e1
  obtain ⟨es, k, tp, rfl⟩ := isTup_inv ht
  obtain ⟨ta, p1, r1⟩ := ha Ex sc y m2
  obtain ⟨tb, p2, r2⟩ := hb Ex sc z m3
  obtain ⟨tc, p3, r3⟩ := hcc Ex sc u m4
  have ns : ∀ q pos, y ≠ .Starred q pos := fun q pos e' => by subst e'; exact mt_nostar m2
  have ns2 : ∀ q pos, z ≠ .Starred q pos := fun q pos e' => by subst e'; exact mt_nostar m3
  have ns3 : ∀ q pos, u ≠ .Starred q pos := fun q pos e' => by subst e'; exact mt_nostar m4
  have ns4 : ∀ pe ∈ [z, u], ∀ q pos, pe ≠ .Starred q pos := fun pe hp q pos => by
    rcases List.mem_cons.mp hp with rfl | hp
    · exact ns2 q pos
    · have : pe = u := by simpa using hp
      rw [this]; exact ns3 q pos
  refine ⟨iZipG3 K (tCons ta (tCons tb (tCons tc tNil))), fun X g => ⟨?_, fun _ => rfl⟩, ?_⟩
  · rw [← g.eK]
    exact pi_zipG3 (g.gl hg) (by rw [g.emg]; exact F.its.2.2) (pa_cons (p1 X g) (pa_cons (p2 X g) (pa_cons (p3 X g) pa_nil (star_cons ns3)) (star_cons ns2)) (star_cons ns)) (star_cons ns) (star_any ns4 _)
  · intro H0 M Γ Θ us u Γ' ρ σ θ H Kk Xk R ht Rl he hx hq
    unfold tyIt at ht
    split at ht <;> try (cases ht; done)
    rename_i t0 Γ1 ht1
    split at ht <;> try (cases ht; done)
    rename_i u0 Γ2 ht2
    split at ht <;> try (cases ht; done)
    rename_i w0 Γ3 ht3
    split at ht <;> try (cases ht; done)
    rename_i hc
    cases ht
    unfold evalIt at he
    refine r1 _ _ _ _ _ _ _ _ _ _ _ _ _ ht1 Rl he hx fun x ρ1 v H1 R1 he1 => ?_
    refine r2 _ _ _ _ _ _ _ _ _ _ _ _ _ ht2 R1 he1 hx fun y ρ2 v' H2 R2 he2 => ?_
    refine r3 _ _ _ _ _ _ _ _ _ _ _ _ _ ht3 R2 he2 hx fun z ρ3 v'' H3 R3 hk => ?_
    obtain ⟨q3, d3⟩ := R3.len1
    obtain ⟨q2, d2⟩ := R3.len2
    obtain ⟨ow3, R3'⟩ := id R3
    obtain ⟨q1, d1⟩ := R3'.temp.2.2.1.vw
    have hb : ∀ {t : Ty} {l : Bool}, t.k ≤ 1 → (l = true ∨ t.k = 0) → t.k ≤ (if l then 1 else 0) := fun {t l} h1 h2 => by
      cases l with
      | true => exact h1
      | false => simp at h2; simp [h2]
    have h1 := hb hc.1.1 hc.1.2
    have h2 := hb hc.2.1.1 hc.2.1.2
    have h3 := hb hc.2.2.1 hc.2.2.2
    cases e1 : x.itz l1 with
    | none => simp only [e1] at hk
    | some xs =>
      cases e2 : y.itz l2 with
      | none => simp only [e1, e2] at hk
      | some ys =>
        cases e3 : z.itz l3 with
        | none => simp only [e1, e2, e3] at hk
        | some zs =>
          simp only [e1, e2, e3] at hk
          obtain ⟨v1, c1, _⟩ := src_ok q1 e1 (D.dep_mono h1 _ d1)
          obtain ⟨v2, c2, _⟩ := src_ok q2 e2 (D.dep_mono h2 _ d2)
          obtain ⟨v3, c3, _⟩ := src_ok q3 e3 (D.dep_mono h3 _ d3)
          have v1 : v = (srcOf x v).v := v1
          have v2 : v' = (srcOf y v').v := v2
          have v3 : v'' = (srcOf z v'').v := v3
          exact ⟨srcOf x v, srcOf y v', srcOf z v'', by rw [← v1, ← v2, ← v3], ⟨_, c1⟩, ⟨_, c2⟩, ⟨_, c3⟩, hq _ ρ3 _ H3 [(z, v''), (y, v'), (x, v)] rfl R3 (walk_zipG3 e1 e2 e3 h1 h2 h3) hk⟩

/-! ### how deep it is, for certain; a if c else b -/
theorem Rel.redep {H0 H : Hp} {M : Mz} {Γ : List STy} {ρ : Penv} {σ : L2.St} {Θ : List Ty} {θ : List (D × V)} {t : Ty} {d : D} {v : V} {k : Nat} (R : Rel K H0 M Γ ρ σ (t :: Θ) ((d, v) :: θ) H) (hd : d.dep k = true) : Rel K H0 M Γ ρ σ (mkT t.p k :: Θ) ((d, v) :: θ) H := by
  unfold mkT
  by_cases h0 : k = 0
  · rw [if_pos h0]
    subst h0
    have r := R.len1.1
    exact Rel.new0 (Θs := [t]) (θs := [(d, v)]) R rfl (New0.same r hd)
  · rw [if_neg h0]
    obtain ⟨ow, R⟩ := R
    obtain ⟨F, r, _, hL⟩ := R.temp.1
    exact ⟨ow, { lρ := R.lρ, lσ := R.lσ, nb := R.nb, slot := R.slot, temp := ⟨⟨F, r, hd, hL⟩, R.temp.2⟩, ext := R.ext, mt := R.mt, hm := R.hm, old := R.old, hiT := R.hiT }⟩
theorem se_dp {k : Nat} {a : E} (ha : SE P w K mg base A C G kk XR a) : SE P w K mg base A C G kk XR (.dp k a) := fun Ex sc pe hm => by
  have hm : mtE A sc a pe = true := by unfold mtE at hm; exact hm
  obtain ⟨ta, p1, r1⟩ := ha Ex sc _ hm
  refine ⟨ta, p1, ?_⟩
  intro H0 M Γ Θ ty Γ' ρ σ θ H Kk Xk Q ht R he hx hq
  unfold tyE at ht
  split at ht <;> try (cases ht; done)
  rename_i t Γ1 ht1
  cases ht
  unfold evalE at he
  refine r1 _ _ _ _ _ _ _ _ _ _ _ _ _ ht1 R he hx fun d ρ1 v H1 R1 hk => hq _ _ _ _ (R1.redep hk.1) hk.2
theorem st_dp {k : Nat} {a : E} (ha : ST P w K mg base A C G kk XR a) : ST P w K mg base A C G kk XR (.dp k a) := fun Ex sc pe hm => by
  have hm : mtE A sc a pe = true := by unfold mtE at hm; exact hm
  obtain ⟨ta, p1, r1⟩ := ha Ex sc _ hm
  refine ⟨ta, p1, ?_⟩
  intro H0 M Γ Θ ty Γ' ρ σ θ H Kk Xk Q ht R he hx hq
  unfold tyE at ht
  split at ht <;> try (cases ht; done)
  rename_i t Γ1 ht1
  cases ht
  unfold evalE at he
  refine r1 _ _ _ _ _ _ _ _ _ _ _ _ _ ht1 R he hx fun d ρ1 H1 R1 hk => hq _ _ _ R1 hk.2
theorem se_ife {c a b : E} (hc : ST P w K mg base A C G kk XR c) (ha : SE P w K mg base A C G kk XR a) (hb : SE P w K mg base A C G kk XR b) : SE P w K mg base A C G kk XR (.ife c a b) := fun Ex sc pe hm => by
  unfold mtE at hm
  split at hm <;> first | exact absurd hm Bool.false_ne_true | skip
  all_goals first | (rename_i h; cases h; done) | skip
  rename_i x y z pos h'
  injection h' with g1 g2 g3
  subst g1 g2 g3
  simp only [Bool.and_eq_true] at hm
  obtain ⟨⟨m1, m2⟩, m3⟩ := hm
  obtain ⟨tc, p0, r0⟩ := hc Ex sc _ m1
  obtain ⟨ta, p1, r1⟩ := ha Ex sc _ m2
  obtain ⟨tb, p2, r2⟩ := hb Ex sc _ m3
  refine ⟨tIf tc ta tb, fun X g => pe_ifExp (p0 X g).1 (p1 X g) (p2 X g), ?_⟩
  intro H0 M Γ Θ ty Γ' ρ σ θ H Kk Xk Q ht R he hx hq
  unfold tyE at ht
  split at ht <;> try (cases ht; done)
  rename_i t0 Γ1 ht1
  split at ht <;> try (cases ht; done)
  rename_i t Γ2 u Γ3 ht2 ht3
  split at ht <;> try (cases ht; done)
  rename_i hc
  obtain ⟨c1, c2, rfl⟩ := hc
  cases ht
  unfold evalE at he
  have im : ∀ {t : Ty} {d : D} {v : V} {ρ1 H1}, t.k = 0 → Rel K H0 M Γ' ρ1 σ (t :: Θ) ((d, v) :: θ) H1 → Rel K H0 M Γ' ρ1 σ (imm :: Θ) ((d, v) :: θ) H1 := fun {t d v ρ1 H1} e R => by
    have hd := R.len1.2
    rw [e] at hd
    exact Rel.new0 (Θs := [t]) (θs := [(d, v)]) R rfl (New0.same R.len1.1 hd)
  refine r0 _ _ _ _ _ _ _ _ _ _ _ _ _ ht1 R he hx fun d ρ1 H1 R1 hk => ?_
  cases e : d.truth with
  | none => simp only [e] at hk
  | some b =>
    refine ⟨b, rfl, ?_⟩
    cases b with
    | true =>
      simp only [e] at hk
      exact r1 _ _ _ _ _ _ _ _ _ _ _ _ _ ht2 R1 hk hx fun d2 ρ2 v2 H2 R2 hk2 => hq _ _ _ _ (im c1 R2) hk2
    | false =>
      simp only [e] at hk
      exact r2 _ _ _ _ _ _ _ _ _ _ _ _ _ ht3 R1 hk hx fun d2 ρ2 v2 H2 R2 hk2 => hq _ _ _ _ (im c2 R2) hk2
theorem pt_ifExp {X : Cx} {c a b : Expr} {tc ta tb : TT} {pos : Pos} (hc : PT X c tc) (ha : PT X a ta) (hb : PT X b tb) : PT X (.IfExp c a b pos) (fun σ H Q => tc σ H fun k H1 => if k = true then ta σ H1 Q else tb σ H1 Q) := by
  refine ⟨fun pins s σ H Q I h => ?_⟩
  refine PyProof.Rows.isTrue_IfExp (thn (hc.run pins s σ H _ I h) fun d s1 ⟨H1, I1, q1⟩ => ?_)
  cases d with
  | true => exact ha.run pins s1 σ H1 Q I1 q1
  | false => exact hb.run pins s1 σ H1 Q I1 q1
theorem st_ife {c a b : E} (hc : ST P w K mg base A C G kk XR c) (ha : ST P w K mg base A C G kk XR a) (hb : ST P w K mg base A C G kk XR b) : ST P w K mg base A C G kk XR (.ife c a b) := fun Ex sc pe hm => by
  unfold mtE at hm
  split at hm <;> first | exact absurd hm Bool.false_ne_true | skip
  all_goals first | (rename_i h; cases h; done) | skip
  rename_i x y z pos h'
  injection h' with g1 g2 g3
  subst g1 g2 g3
  simp only [Bool.and_eq_true] at hm
  obtain ⟨⟨m1, m2⟩, m3⟩ := hm
  obtain ⟨tc, p0, r0⟩ := hc Ex sc _ m1
  obtain ⟨ta, p1, r1⟩ := ha Ex sc _ m2
  obtain ⟨tb, p2, r2⟩ := hb Ex sc _ m3
  refine ⟨_, fun X g => ⟨pt_ifExp (p0 X g).1 (p1 X g).1 (p2 X g).1, fun h => by cases h⟩, ?_⟩
  intro H0 M Γ Θ ty Γ' ρ σ θ H Kk Xk Q ht R he hx hq
  unfold tyE at ht
  split at ht <;> try (cases ht; done)
  rename_i t0 Γ1 ht1
  split at ht <;> try (cases ht; done)
  rename_i t Γ2 u Γ3 ht2 ht3
  split at ht <;> try (cases ht; done)
  rename_i hc
  obtain ⟨c1, c2, rfl⟩ := hc
  cases ht
  unfold evalE at he
  refine r0 _ _ _ _ _ _ _ _ _ _ _ _ _ ht1 R he hx fun d ρ1 H1 R1 hk => ?_
  cases e : d.truth with
  | none => simp only [e] at hk
  | some b =>
    refine ⟨b, rfl, ?_⟩
    cases b with
    | true =>
      simp only [e] at hk
      exact r1 _ _ _ _ _ _ _ _ _ _ _ _ _ ht2 R1 hk hx hq
    | false =>
      simp only [e] at hk
      exact r2 _ _ _ _ _ _ _ _ _ _ _ _ _ ht3 R1 hk hx hq
/-! ### all of it -/
theorem st_plain {e : E} (h : SE P w K mg base A C G kk XR e) (hp : ∀ sc pe, mtE A sc e pe = true → plainTest pe = true) : SE P w K mg base A C G kk XR e ∧ ST P w K mg base A C G kk XR e := ⟨h, st_of_se h hp⟩
mutual
theorem allE (F : Facts P w K mg base A C G kk XR) : ∀ e : E, SE P w K mg base A C G kk XR e ∧ ST P w K mg base A C G kk XR e
  | .var i m => st_plain (se_var i m) fun sc pe h => by cases pe <;> first | rfl | exact absurd h Bool.false_ne_true
  | .non => st_plain se_non fun sc pe h => by cases pe <;> first | rfl | exact absurd h Bool.false_ne_true
  | .bl b => st_plain (se_bl b) fun sc pe h => by cases pe <;> first | rfl | exact absurd h Bool.false_ne_true
  | .int i => st_plain (se_int i) fun sc pe h => by cases pe <;> first | rfl | exact absurd h Bool.false_ne_true
  | .str s => st_plain (se_str s) fun sc pe h => by cases pe <;> first | rfl | exact absurd h Bool.false_ne_true
  | .glb g => st_plain (se_glb F g) fun sc pe h => by cases pe <;> first | rfl | exact absurd h Bool.false_ne_true
  | .tup es => st_plain (se_tup (allEs F es)) fun sc pe h => by cases pe <;> first | rfl | exact absurd h Bool.false_ne_true
  | .lst es => st_plain (se_lst (allEs F es)) fun sc pe h => by cases pe <;> first | rfl | exact absurd h Bool.false_ne_true
  | .bin l op a b => st_plain (se_bin (allE F a).1 (allE F b).1) fun sc pe h => by cases pe <;> first | rfl | exact absurd h Bool.false_ne_true
  | .cmp op a b => ⟨se_cmp (allE F a).1 (allE F b).1, st_cmp (allE F a).1 (allE F b).1⟩
  | .chn o1 o2 a b c => ⟨se_chn (allE F a).1 (allE F b).1 (allE F c).1, st_chn (allE F a).1 (allE F b).1 (allE F c).1⟩
  | .dnew => st_plain se_dnew fun sc pe h => by cases pe <;> first | rfl | exact absurd h Bool.false_ne_true
  | .done a b => st_plain (se_done (allE F a).1 (allE F b).1) fun sc pe h => by cases pe <;> first | rfl | exact absurd h Bool.false_ne_true
  | .dp k a => ⟨se_dp (allE F a).1, st_dp (allE F a).2⟩
  | .ife c a b => ⟨se_ife (allE F c).2 (allE F a).1 (allE F b).1, st_ife (allE F c).2 (allE F a).2 (allE F b).2⟩
  | .lrng es => st_plain (se_lrng F (allEs F es)) fun sc pe h => by cases pe <;> first | rfl | exact absurd h Bool.false_ne_true
  | .maxd a => st_plain (se_maxd F (allE F a).1) fun sc pe h => by cases pe <;> first | rfl | exact absurd h Bool.false_ne_true
  | .sset a => st_plain (se_sset F (allE F a).1) fun sc pe h => by cases pe <;> first | rfl | exact absurd h Bool.false_ne_true
  | .lset a => st_plain (se_lset F (allE F a).1) fun sc pe h => by cases pe <;> first | rfl | exact absurd h Bool.false_ne_true
  | .revl a => st_plain (se_revl (allE F a).1) fun sc pe h => by cases pe <;> first | rfl | exact absurd h Bool.false_ne_true
  | .neg a => st_plain (se_neg (allE F a).1) fun sc pe h => by
    cases pe with
    | UnaryOp op x p => cases op <;> first | rfl | exact absurd h Bool.false_ne_true
    | _ => exact absurd h Bool.false_ne_true
  | .not_ a => ⟨se_not (allE F a).1, st_not (allE F a).2⟩
  | .bop o a b => ⟨se_bop (allE F a).1 (allE F b).1, st_bop (allE F a).2 (allE F b).2⟩
  | .idx h a i => st_plain (se_idx (allE F a).1 (allE F i).1) fun sc pe h => by cases pe <;> first | rfl | exact absurd h Bool.false_ne_true
  | .slc l a lo hi => st_plain (se_slc (allE F a).1 (allOE F lo).1 (allOE F hi).1) fun sc pe h => by cases pe <;> first | rfl | exact absurd h Bool.false_ne_true
  | .call f as => st_plain (se_call F (allAs F as)) fun sc pe h => by cases pe <;> first | rfl | exact absurd h Bool.false_ne_true
  | .bi b es => st_plain (se_bi F (allEs F es) (allEs1 F es)) fun sc pe h => by cases pe <;> first | rfl | exact absurd h Bool.false_ne_true
  | .bm m o es => st_plain (se_bm (allE F o).1 (allEs F es)) fun sc pe h => by cases pe <;> first | rfl | exact absurd h Bool.false_ne_true
  | .mu m i es => st_plain (se_mu (allEs F es)) fun sc pe h => by cases pe <;> first | rfl | exact absurd h Bool.false_ne_true
  | .comp t it c e => st_plain (se_comp (allIt F it) (allOE F c).2 (allE F e).1) fun sc pe h => by cases pe <;> first | rfl | exact absurd h Bool.false_ne_true
theorem allEs (F : Facts P w K mg base A C G kk XR) : ∀ es : Es, SEs P w K mg base A C G kk XR es
  | .nil => ses_nil
  | .cons e es => ses_cons (allE F e).1 (allEs F es)
theorem allEs1 (F : Facts P w K mg base A C G kk XR) : ∀ es : Es, ∀ e, es = .cons e .nil → SE P w K mg base A C G kk XR e
  | .nil, _, h => by cases h
  | .cons e .nil, e', h => by
    have : e = e' := by injection h
    rw [← this]
    exact (allE F e).1
  | .cons e (.cons _ _), e', h => by injection h with _ h; cases h
theorem allOE (F : Facts P w K mg base A C G kk XR) : ∀ c : OE, SO P w K mg base A C G kk XR c ∧ ∀ e', c = .some e' → ST P w K mg base A C G kk XR e'
  | .none => ⟨so_none, fun _ h => by cases h⟩
  | .some e => ⟨so_some (allE F e).1, fun e' h => by
    have : e = e' := by injection h
    rw [← this]
    exact (allE F e).2⟩
theorem allAs (F : Facts P w K mg base A C G kk XR) : ∀ as : As, SAs P w K mg base A C G kk XR as
  | .nil => sas_nil
  | .val e as => sas_val (allE F e).1 (allAs F as)
  | .ino i as => sas_ino (allAs F as)
  | .own e as => sas_own (allE F e).1 (allAs F as)
theorem allIt (F : Facts P w K mg base A C G kk XR) : ∀ it : Pm.It, SIt P w K mg base A C G kk XR it
  | .low i it => sit_low (allIt F it)
  | .val l e => sit_val (allE F e).1
  | .rng es => sit_rng F (allEs F es)
  | .enum l e => sit_enum F (allE F e).1
  | .zip l1 l2 a b => sit_zip F (allE F a).1 (allE F b).1
  | .zip3 l1 l2 l3 a b c => sit_zip3 F (allE F a).1 (allE F b).1 (allE F c).1
end
theorem asgC (F : Facts P w K mg base A C G kk XR) (e : E) : ∀ t' it c e', e = .comp t' it c e' → SIt P w K mg base A C G kk XR it ∧ (∀ e2, c = .some e2 → ST P w K mg base A C G kk XR e2) ∧ SE P w K mg base A C G kk XR e' :=
  fun _ it c e' _ => ⟨allIt F it, (allOE F c).2, (allE F e').1⟩
mutual
theorem allS (F : Facts P w K mg base A C G kk XR) : ∀ s : S, SS P w K mg base A C G kk XR s
  | .asg t e => ss_asg (allE F e).1 (asgC F e)
  | .setI i k e => ss_setI (allE F k).1 (allE F e).1
  | .expr e => ss_expr (allE F e).1
  | .ret e => ss_ret (allE F e).1
  | .retN => ss_retN
  | .if_ c a b => ss_if (allE F c).2 (allSs F a) (allSs F b)
  | .for_ Δ t it b => ss_for (allIt F it) (allSs F b)
  | .while_ Δ c b => ss_while (allE F c).2 (allSs F b)
  | .brk => ss_brk
  | .cnt => ss_cnt
  | .pass => ss_pass
  | .dead => ss_dead
theorem allSs (F : Facts P w K mg base A C G kk XR) : ∀ s : Ss, SSs P w K mg base A C G kk XR s
  | .nil => sss_nil
  | .cons s ss => sss_cons (allS F s) (allSs F ss)
end
end Pm

namespace Pm
open PySem PySem.Spec L2
variable [W : Wd] {P : Program} {w : World} {K : PySem.W.Frag} {mg : Str → Option Value} {base : Heap} {A : Code} {C : Ctx} {G : TC} {kk : Nat} {XR : XRel}

/-! ### a def -/
def PM.ty : PM → STy
  | .inn k => some (mkT .rd k)
  | .ino n k => some ⟨.own n, k⟩
def Sig.Γ (s : Sig) (n : Nat) : List STy := s.ps.map PM.ty ++ List.replicate (n - s.ps.length) none
def inosOf : Nat → List PM → List (Nat × Nat × Nat)
  | _, [] => []
  | i, .inn _ :: ps => inosOf (i + 1) ps
  | i, .ino n k :: ps => (i, n, k) :: inosOf (i + 1) ps
def Sig.rc (s : Sig) : RC := ⟨inosOf 0 s.ps, s.p, s.k⟩
def chkDef (G : TC) (s : Sig) (n : Nat) (b : Ss) : Bool := match tySs G s.rc [] (s.Γ n) [] b with
  | some none => true
  | some (some Γ) => retOk s.rc imm Γ
  | none => false
def ini (n : Nat) (ds : List D) : Penv := ds.map some ++ List.replicate (n - ds.length) none
def outsAre : List (Nat × Nat × Nat) → Penv → List D → Prop
  | [], _, [] => True
  | p :: is, ρ, d :: ds => ρ[p.1]? = some (some d) ∧ outsAre is ρ ds
  | _, _, _ => False
def ktOf (s : Sig) (Post : FOut → Prop) : Kt where
  nx := fun ρ => ∃ outs, Post (.ret .non outs) ∧ outsAre s.rc.ino ρ outs
  rt := fun d ρ => ∃ outs, Post (.ret d outs) ∧ outsAre s.rc.ino ρ outs
  bk := fun _ => False
  ct := fun _ => False
  ex := fun x _ => Post (.exc x)
theorem inosOf_mem : ∀ {n : Nat} {ps : List PM} {p : Nat × Nat × Nat}, p ∈ inosOf n ps ↔ n ≤ p.1 ∧ ps[p.1 - n]? = some (.ino p.2.1 p.2.2)
  | n, [], p => by simp [inosOf]
  | n, .inn k :: ps, p => by
    rw [inosOf, inosOf_mem (ps := ps)]
    constructor
    · rintro ⟨h1, h2⟩
      refine ⟨by omega, ?_⟩
      rw [show p.1 - n = (p.1 - (n + 1)) + 1 by omega]
      simpa using h2
    · rintro ⟨h1, h2⟩
      by_cases e : p.1 = n
      · rw [e] at h2; simp at h2
      · refine ⟨by omega, ?_⟩
        rw [show p.1 - n = (p.1 - (n + 1)) + 1 by omega] at h2
        simpa using h2
  | n, .ino m k :: ps, p => by
    rw [inosOf, List.mem_cons, inosOf_mem (ps := ps)]
    constructor
    · rintro (rfl | ⟨h1, h2⟩)
      · simp
      · refine ⟨by omega, ?_⟩
        rw [show p.1 - n = (p.1 - (n + 1)) + 1 by omega]
        simpa using h2
    · rintro ⟨h1, h2⟩
      by_cases e : p.1 = n
      · left
        rw [e] at h2
        simp at h2
        exact Prod.ext e (Prod.ext h2.1.symm h2.2.symm)
      · right
        refine ⟨by omega, ?_⟩
        rw [show p.1 - n = (p.1 - (n + 1)) + 1 by omega] at h2
        simpa using h2
theorem args_in {H : Hp} {M : Fp} {Zc : Addr → Prop} : ∀ (n : Nat) {ps : List PM} {ds : List D} {vs : List V} {F : Fp}, ArgsR K H M Zc ps ds vs F → ds.length = ps.length ∧ vs.length = ps.length ∧ ∃ L : List (Nat × Fp), (L.map (·.2)).flatten = F ∧ (∀ p ∈ L, n ≤ p.1) ∧
    ∀ (j : Nat) (pm : PM), ps[j]? = some pm → ∃ d v, ds[j]? = some d ∧ vs[j]? = some v ∧ match pm with
      | .inn k => Rep K H (rdZ M H) 0 d v [] ∧ d.dep k = true
      | .ino m k => ∃ E, (n + j, E) ∈ L ∧ Rep K H (fzP Zc H) (m + 1) d v E ∧ d.dep k = true
  | n, [], [], [], F, h => ⟨rfl, rfl, [], by cases h; rfl, fun _ h => by simp at h, fun j pm e => by simp at e⟩
  | n, .inn k :: ps, d :: ds, v :: vs, F, h => by
    obtain ⟨h1, h2⟩ := h
    obtain ⟨l1, l2, L, e1, e2, e3⟩ := args_in (n + 1) h2
    refine ⟨by simp [l1], by simp [l2], L, e1, fun p hp => Nat.le_of_succ_le (e2 p hp), fun j pm e => ?_⟩
    cases j with
    | zero =>
      simp at e; subst e
      exact ⟨d, v, rfl, rfl, h1⟩
    | succ j =>
      obtain ⟨d', v', q1, q2, q3⟩ := e3 j pm (by simpa using e)
      refine ⟨d', v', by simpa using q1, by simpa using q2, ?_⟩
      cases pm with
      | inn k => exact q3
      | ino m k =>
        obtain ⟨E, hm, r⟩ := q3
        exact ⟨E, by rw [show n + (j + 1) = n + 1 + j by omega]; exact hm, r⟩
  | n, .ino m k :: ps, d :: ds, v :: vs, F, h => by
    obtain ⟨F1, F2, rfl, r, hd, h2⟩ := h
    obtain ⟨l1, l2, L, e1, e2, e3⟩ := args_in (n + 1) h2
    refine ⟨by simp [l1], by simp [l2], (n, F1) :: L, by simp [e1], fun p hp => ?_, fun j pm e => ?_⟩
    · rcases List.mem_cons.mp hp with rfl | hp
      · exact Nat.le_refl _
      · exact Nat.le_of_succ_le (e2 p hp)
    · cases j with
      | zero =>
        simp at e; subst e
        exact ⟨d, v, rfl, rfl, F1, by simp, r, hd⟩
      | succ j =>
        obtain ⟨d', v', q1, q2, q3⟩ := e3 j pm (by simpa using e)
        refine ⟨d', v', by simpa using q1, by simpa using q2, ?_⟩
        cases pm with
        | inn k => exact q3
        | ino m k =>
          obtain ⟨E, hm, r⟩ := q3
          exact ⟨E, List.mem_cons_of_mem _ (by rw [show n + (j + 1) = n + 1 + j by omega]; exact hm), r⟩
  | _, [], _ :: _, _, _, h => h.elim
  | _, [], [], _ :: _, _, h => h.elim
  | _, .inn _ :: _, [], _, _, h => h.elim
  | _, .inn _ :: _, _ :: _, [], _, h => h.elim
  | _, .ino _ _ :: _, [], _, _, h => h.elim
  | _, .ino _ _ :: _, _ :: _, [], _, h => h.elim
/-- what an entry is taken for: fewer levels its own -/
theorem EntOk.conv {H : Hp} {ow : Addr → Id} {id : Id} {t u : Ty} {d : D} {v : V} (h : EntOk K H ow id t d v) (hf : t.free = true) (hs : subTy (some t) (some u) = true) :
    ∃ F : Fp, F.Nodup ∧ (∀ a ∈ F, ow a = id ∧ H a ≠ none) ∧ d.dep u.k = true ∧ ((mkT u.p u.k).p.isOwn = true ∨ (F = [] ∧ (mkT u.p u.k).p.inSlot = true)) ∧
      ∀ (m : Nat), (m = (mkT u.p u.k).p.lv ∨ m = u.p.lv) → ∀ Z' : Option Addr → Prop, (∀ a, ow a = .frz → H a ≠ none → Z' (some a)) → (∀ a, a ∉ F → ow a = id → H a ≠ none → Z' (some a)) → Rep K H Z' m d v F := by
  obtain ⟨F, r, hd, hl⟩ := h
  have hs : (u.p.inSlot && (t.k == 0 || (decide (t.k ≤ u.k) && (match t.p, u.p with
    | .own n, .own m => lowOk t.k n m
    | .own _, _ => true
    | .frz, .own _ => false
    | .frz, _ => true
    | .rd, .rd => true
    | _, _ => false)))) = true := hs
  rw [Bool.and_eq_true] at hs
  obtain ⟨hs1, hs⟩ := hs
  by_cases h0 : t.k = 0
  · rw [h0] at hd
    exact ⟨[], List.nodup_nil, fun _ h => by simp at h, D.dep_mono (Nat.zero_le _) d hd, .inr ⟨rfl, inSlot_mkT hs1⟩, fun m _ Z' _ _ => (r.imm _ _ hd).2⟩
  · have h0' : (t.k == 0) = false := by simpa using h0
    rw [h0', Bool.false_or, Bool.and_eq_true, decide_eq_true_eq] at hs
    obtain ⟨hk, hs⟩ := hs
    have hu : u.k ≠ 0 := by omega
    have em : mkT u.p u.k = ⟨u.p, u.k⟩ := by unfold mkT; rw [if_neg hu]
    rw [em]
    have dd := D.dep_mono hk d hd
    unfold Ty.free at hf
    rw [h0', Bool.false_or] at hf
    cases hp : t.p with
    | own n =>
      rw [hp] at hl r hs
      cases hq : u.p with
      | own m =>
        rw [hq] at hs
        have hs : lowOk t.k n m = true := hs
        unfold lowOk at hs
        rw [Bool.or_eq_true, decide_eq_true_eq, decide_eq_true_eq] at hs
        obtain ⟨F', s, q⟩ := r.to (m := m + 1) hl.1 (hs.elim (fun z => .inl (Nat.succ_le_succ z)) fun z => .inr (D.dep_mono z d hd))
        refine ⟨F', hl.1.sublist s, fun a ha => ⟨hl.2 a (s.subset ha), mut_ne (r.mut a (s.subset ha))⟩, dd, .inl rfl, fun m' hm Z' z1 z2 => ?_⟩
        have e : m' = m + 1 := hm.elim (fun z => z) fun z => z
        subst e
        refine q Z' (fun o z => ?_) fun a ha hn => z2 a hn (hl.2 a ha) (mut_ne (r.mut a ha))
        cases o with
        | none => exact z.elim
        | some a => exact z1 a z.1 z.2
      | _ =>
        first
        | (rw [hq] at hs1; cases hs1; done)
        | (refine ⟨[], List.nodup_nil, fun _ h => by simp at h, dd, .inr ⟨rfl, rfl⟩, fun m' hm Z' z1 z2 => ?_⟩
           have e : m' = 0 := hm.elim (fun z => z) fun z => z
           subst e
           refine r.fz (fun o z => ?_) fun a ha => z2 a (by simp) (hl.2 a ha) (mut_ne (r.mut a ha))
           cases o with
           | none => exact z.elim
           | some a => exact z1 a z.1 z.2)
    | frz =>
      rw [hp] at hl r hs
      have e := r.nil0
      subst e
      have go : u.p.isOwn = false → u.p.lv = 0 → ∃ F : Fp, F.Nodup ∧ (∀ a ∈ F, ow a = id ∧ H a ≠ none) ∧ d.dep u.k = true ∧ (u.p.isOwn = true ∨ (F = [] ∧ u.p.inSlot = true)) ∧
          ∀ (m : Nat), (m = u.p.lv ∨ m = u.p.lv) → ∀ Z' : Option Addr → Prop, (∀ a, ow a = .frz → H a ≠ none → Z' (some a)) → (∀ a, a ∉ F → ow a = id → H a ≠ none → Z' (some a)) → Rep K H Z' m d v F := fun _ lv => by
        refine ⟨[], List.nodup_nil, fun _ h => by simp at h, dd, .inr ⟨rfl, hs1⟩, fun m' hm Z' z1 z2 => ?_⟩
        have e : m' = 0 := by rcases hm with hm | hm <;> rw [hm, lv]
        subst e
        refine r.z fun o z => ?_
        cases o with
        | none => exact z.elim
        | some a => exact z1 a z.1 z.2
      cases hq : u.p with
      | own m => rw [hq] at hs; cases hs
      | frz => rw [hq] at go; exact go rfl rfl
      | rd => rw [hq] at go; exact go rfl rfl
      | bor n xs => rw [hq] at hs1; cases hs1
    | rd => rw [hp] at hf; cases hf
    | bor n xs => rw [hp] at hf; cases hf
theorem outs_mk {H' : Hp} {ow : Addr → Id} {ρ : Penv} : ∀ (n : Nat) {ps : List PM} {vs : List V} {outs : List D}, vs.length = ps.length → outsAre (inosOf n ps) ρ outs →
    (∀ p ∈ inosOf n ps, ∀ d, ρ[p.1]? = some (some d) → ∃ v E, vs[p.1 - n]? = some v ∧ E.Nodup ∧ (∀ a ∈ E, ow a = .slot p.1 ∧ H' a ≠ none) ∧ d.dep p.2.2 = true ∧
      ∀ Z' : Option Addr → Prop, (∀ a, ow a = .frz → H' a ≠ none → Z' (some a)) → (∀ a, a ∉ E → ow a = .slot p.1 → H' a ≠ none → Z' (some a)) → Rep K H' Z' (p.2.1 + 1) d v E) →
    ∃ F' : Fp, F'.Nodup ∧ (∀ a ∈ F', ∃ i, n ≤ i ∧ ow a = .slot i) ∧ ∀ Zf : Addr → Prop, (∀ a, ow a = .frz → H' a ≠ none → Zf a) → (∀ a i, n ≤ i → a ∉ F' → ow a = .slot i → H' a ≠ none → Zf a) → OutsR K H' Zf ps vs outs F'
  | n, [], [], [], _, _, _ => ⟨[], List.nodup_nil, fun _ h => by simp at h, fun _ _ _ => rfl⟩
  | n, .inn k :: ps, v :: vs, outs, hl, ho, h => by
    obtain ⟨F', h1, h2, h3⟩ := outs_mk (n + 1) (ps := ps) (vs := vs) (by simpa using hl) ho fun p hp d hd => by
      obtain ⟨v', E, q1, q2⟩ := h p hp d hd
      have := (inosOf_mem.mp hp).1
      rw [show p.1 - n = (p.1 - (n + 1)) + 1 by omega] at q1
      exact ⟨v', E, by simpa using q1, q2⟩
    exact ⟨F', h1, fun a ha => (by obtain ⟨i, hi, e⟩ := h2 a ha; exact ⟨i, by omega, e⟩), fun Zf z1 z2 => h3 Zf z1 fun a i hi => z2 a i (by omega)⟩
  | n, .ino m k :: ps, v :: vs, d :: outs, hl, ho, h => by
    obtain ⟨ho1, ho2⟩ := ho
    obtain ⟨v', E, q1, q2, q3, q4, q5⟩ := h (n, m, k) (by simp [inosOf]) d ho1
    simp at q1
    subst q1
    obtain ⟨F', h1, h2, h3⟩ := outs_mk (n + 1) (ps := ps) (vs := vs) (by simpa using hl) ho2 fun p hp d hd => by
      obtain ⟨v', E, q1, q2⟩ := h p (by simp [inosOf, hp]) d hd
      have := (inosOf_mem.mp hp).1
      rw [show p.1 - n = (p.1 - (n + 1)) + 1 by omega] at q1
      exact ⟨v', E, by simpa using q1, q2⟩
    have dj : ∀ a ∈ F', ow a ≠ .slot n := fun a ha e => by
      obtain ⟨i, hi, e'⟩ := h2 a ha
      rw [e] at e'
      have := Id.slot.inj e'
      omega
    refine ⟨E ++ F', List.nodup_append.mpr ⟨q2, h1, fun a ha b hb e => ?_⟩, fun a ha => ?_, fun Zf z1 z2 => ⟨E, F', rfl, q5 _ (fun a h1 h2 => ⟨z1 a h1 h2, h2⟩) (fun a hn he hh => ⟨z2 a n (Nat.le_refl _) (fun hm => ?_) he hh, hh⟩), q4, h3 Zf z1 fun a i hni hn he hh => ?_⟩⟩
    · subst e
      exact dj a hb (q3 a ha).1
    · rcases List.mem_append.mp ha with ha | ha
      · exact ⟨n, Nat.le_refl _, (q3 a ha).1⟩
      · obtain ⟨i, hi, e⟩ := h2 a ha
        exact ⟨i, by omega, e⟩
    · rcases List.mem_append.mp hm with hm | hm
      · exact hn hm
      · exact dj a hm he
    · refine z2 a i (by omega) (fun hm => (List.mem_append.mp hm).elim (fun hE => ?_) hn) he hh
      have e := (q3 a hE).1
      rw [he] at e
      have := Id.slot.inj e
      simp at this
      omega
  | _, [], _ :: _, _, hl, _, _ => by simp at hl
  | _, .inn _ :: _, [], _, hl, _, _ => by simp at hl
  | _, .ino _ _ :: _, [], _, hl, _, _ => by simp at hl
  | _, [], [], _ :: _, _, h, _ => h.elim
  | _, .ino _ _ :: _, _ :: _, [], _, h, _ => h.elim
theorem ini_at {n : Nat} {ds : List D} {j : Nat} {d : D} (h : ds[j]? = some d) : (ini n ds)[j]? = some (some d) := by
  unfold ini
  rw [List.getElem?_append_left (by simpa using (List.getElem?_eq_some_iff.mp h).1), List.getElem?_map, h]; rfl
theorem start_at {N : List Str} {vs : List V} {j : Nat} {v : V} (h : vs[j]? = some v) : (L2.start N vs)[j]? = some (some v) := by
  unfold L2.start
  rw [List.getElem?_append_left (by simpa using (List.getElem?_eq_some_iff.mp h).1), List.getElem?_map, h]; rfl
theorem sigΓ_at {s : Sig} {n j : Nat} {ty : Ty} (h : (s.Γ n)[j]? = some (some ty)) : ∃ pm, s.ps[j]? = some pm ∧ pm.ty = some ty := by
  unfold Sig.Γ at h
  by_cases hj : j < s.ps.length
  · rw [List.getElem?_append_left (by simpa using hj), List.getElem?_map] at h
    cases e : s.ps[j]? with
    | none => rw [e] at h; cases h
    | some pm => rw [e] at h; exact ⟨pm, rfl, Option.some.inj h⟩
  · rw [List.getElem?_append_right (by simpa using hj), List.getElem?_replicate] at h
    split at h <;> simp at h
open Classical in
theorem def_ok (F : Facts P w K mg base A C G kk XR) {x qual : Str} {st : Stmt} {f : Addr} {fd : FuncData} (Fn : Fun K x qual st f fd) {ps : List Str} (S : FnScope A.N ps (defScope st)) {b : Ss} (hm : mtSs A (defScope st) b (defBody st) = true)
    {s : Sig} (hs : s.ps.length = ps.length) (ht : chkDef G s A.N.length b = true) {Sp : List D → (FOut → Prop) → Prop} (hS : ∀ ds r, ds.length = s.ps.length → Sp ds r → evalSs C b (ini A.N.length ds) (ktOf s r)) :
    FnOk P w K mg base (L2.CX P w) (kk + 1) f fd ps (spOf K XR s Sp) := by
  refine Fn.okX S (fun vs H Q E h => ?_) (fun cdv Ar outer s0 H vs Q E hr h => ?_)
  · obtain ⟨ds, r, F, _, _, ha, _⟩ := h
    rw [ha.len, hs]
  · obtain ⟨ds, r, FF, Zc, hsp, ha, nd, hZ, hend, hendX⟩ := h
    obtain ⟨ld, lv, L, eL, _, hL⟩ := args_in 0 ha
    obtain ⟨t, p, rd⟩ := allSs F b E (defScope st) (defBody st) hm
    have tk : Takes (cxOf (L2.CX P w) P w K mg base A.N qual (defScope st) f cdv Ar outer s0 H E) (fun cls d _ H => E cls d H) := takes_of rfl rfl rfl rfl
    have good : GoodF P w K mg base A kk E (defScope st) (cxOf (L2.CX P w) P w K mg base A.N qual (defScope st) f cdv Ar outer s0 H E) :=
      ⟨⟨rfl, rfl, rfl, rfl, rfl, rfl, S.nd, rfl, rfl, hr, passes_call tk (fun _ _ _ _ h => h), F.hw⟩, fun _ _ => .inl rfl, S.kind, passes_of rfl⟩
    refine ⟨t, p _ good, ?_⟩
    have nps : ps.length ≤ A.N.length := by have := congrArg List.length S.pre; rw [List.length_take] at this; omega
    have ndL : (L.map (·.2)).flatten.Nodup := by rw [eL]; exact nd
    obtain ⟨ow, how⟩ : ∃ ow : Addr → Id, ow = fun a => match labL L a with | some i => .slot i | none => if Zc a ∨ H a = none then .frz else .rd := ⟨_, rfl⟩
    have ow1 : ∀ q ∈ L, ∀ a ∈ q.2, ow a = .slot q.1 := fun q hq a ha => by rw [how]; simp [labL_of ndL hq ha]
    have inF : ∀ q ∈ L, ∀ a ∈ q.2, a ∈ FF := fun q hq a ha => by rw [← eL]; exact List.mem_flatten.mpr ⟨q.2, List.mem_map.mpr ⟨q, hq, rfl⟩, ha⟩
    have ow2 : ∀ a, a ∉ FF → ow a = if Zc a ∨ H a = none then .frz else .rd := fun a ha => by
      rw [how]
      cases e : labL L a with
      | none => simp [e]
      | some i =>
        obtain ⟨q, hq, _, hm⟩ := labL_mem e
        exact absurd (inF q hq a hm) ha
    have ow3 : ∀ a, (ow a).hot = true → a ∈ FF := fun a ha => by
      rw [how] at ha
      cases e : labL L a with
      | none =>
        simp only [e] at ha
        split at ha <;> cases ha
      | some i =>
        obtain ⟨q, hq, _, hm⟩ := labL_mem e
        exact inF q hq a hm
    have mutF : ∀ a ∈ FF, Mut (H a) := by
      have go : ∀ {ps : List PM} {ds : List D} {vs : List V} {F : Fp}, ArgsR K H FF Zc ps ds vs F → ∀ a ∈ F, Mut (H a) := by
        intro ps
        induction ps with
        | nil =>
          intro ds vs F h a ha
          cases ds <;> cases vs <;> first | exact h.elim | (cases h; simp at ha)
        | cons pm ps ih =>
          intro ds vs F h a ha
          cases pm with
          | inn k => cases ds <;> cases vs <;> first | exact h.elim | exact ih h.2 a ha
          | ino n k =>
            cases ds <;> cases vs <;> first | exact h.elim | skip
            obtain ⟨F1, F2, rfl, r, _, h⟩ := h
            exact (List.mem_append.mp ha).elim (r.mut a) (ih h a)
      exact go ha
    obtain ⟨M, hM⟩ : ∃ M : Mz, M = ⟨(· ∈ FF), fun a => a ∈ FF ∨ Zc a, fun a h => .inl h⟩ := ⟨_, rfl⟩
    have R0 : Rw K H M ow (s.Γ A.N.length) (ini A.N.length ds) (L2.start A.N vs) [] [] H := by
      refine { lρ := ?_, lσ := ?_, nb := fun i ty e => ?_, slot := fun i ty d e1 e2 => ?_, temp := trivial, ext := Ext.refl, mt := fun a h => mutF a (ow3 a h), hm := fun a h => .inl (by rw [hM]; exact ow3 a h), old := fun a h1 h2 => .inl ?_, hiT := fun a j e => ?_ }
      · unfold ini Sig.Γ; simp [ld]
      · unfold L2.start Sig.Γ; simp [lv]
      · obtain ⟨pm, _, e⟩ := sigΓ_at e
        cases pm with
        | inn k =>
          simp only [PM.ty, Option.some.injEq] at e
          rw [← e]; exact inSlot_mkT rfl
        | ino n k =>
          simp only [PM.ty, Option.some.injEq] at e
          rw [← e]; rfl
      · obtain ⟨pm, hpm, e⟩ := sigΓ_at e1
        obtain ⟨d', v, h1, h2, h3⟩ := hL i pm hpm
        rw [ini_at h1] at e2
        cases e2
        refine ⟨v, start_at h2, ?_⟩
        cases pm with
        | inn k =>
          simp only [PM.ty, Option.some.injEq] at e
          obtain ⟨r, hd⟩ := h3
          have q : EntOk K H ow (.slot i) ⟨.rd, k⟩ d v := ⟨[], r.z fun o z => by
            cases o with
            | none => trivial
            | some a =>
              refine ⟨?_, z.2⟩
              rw [ow2 a z.1]
              by_cases h : Zc a ∨ H a = none
              · rw [if_pos h]; exact .inl rfl
              · rw [if_neg h]; exact .inr rfl, hd, trivial⟩
          by_cases h0 : k = 0
          · exact q.imm h0
          · unfold mkT at e
            rw [if_neg h0] at e; rw [← e]; exact q
        | ino n k =>
          simp only [PM.ty, Option.some.injEq] at e
          rw [← e]
          obtain ⟨E', hm', r, hd⟩ := h3
          rw [Nat.zero_add] at hm'
          refine ⟨E', r.z fun o z => ?_, hd, ndL.sublist (List.sublist_flatten_of_mem (List.mem_map.mpr ⟨_, hm', rfl⟩)), ow1 _ hm'⟩
          cases o with
          | none => exact z.elim
          | some a =>
            refine ⟨?_, z.2⟩
            rw [ow2 a fun h => hZ a h z.1, if_pos (.inl z.1)]
      · rw [hM]
        by_cases hF : a ∈ FF
        · exact .inl hF
        · rw [ow2 a hF] at h2
          by_cases h : Zc a ∨ H a = none
          · exact .inr (h.elim id fun z => absurd z h1)
          · rw [if_neg h] at h2; exact absurd rfl h2
      · rw [how] at e
        simp only at e
        split at e
        · cases e
        · split at e <;> cases e
    -- what comes back
    have back : ∀ (t : Ty) (Γ1 : List STy) (d : D) (ρ' : Penv) (v : V) (σ' : L2.St) (H' : Hp), retOk s.rc t Γ1 = true → Rel K H M Γ1 ρ' σ' (t :: []) ((d, v) :: []) H' → Pin s.rc (L2.start A.N vs) σ' → (∃ outs, r (.ret d outs) ∧ outsAre s.rc.ino ρ' outs) → Q v H' := by
      intro t Γ1 d ρ' v σ' H' hret R hpin ⟨outs, hr', ho⟩
      unfold retOk at hret
      simp only [Bool.and_eq_true, List.all_eq_true] at hret
      obtain ⟨⟨c1, c2⟩, c3⟩ := hret
      obtain ⟨ow', R⟩ := R
      obtain ⟨Fr, ndr, lr, dd, own, rr⟩ := R.temp.1.conv (u := ⟨s.p, s.k⟩) c1 c2
      have lr : ∀ a ∈ Fr, ow' a = .tmp 0 ∧ H' a ≠ none := lr
      obtain ⟨F', o2, o3, o1⟩ := outs_mk (K := K) (H' := H') (ow := ow') (ρ := ρ') 0 lv ho fun p hp d' hd' => by
        have hs' := c3 p hp
        obtain ⟨hp1, hp2⟩ := inosOf_mem.mp hp
        have hpv : (L2.start A.N vs)[p.1]? = σ'[p.1]? := (hpin p hp).symm
        obtain ⟨_, v0, _, hv0, _⟩ := hL p.1 _ (by simpa using hp2)
        cases e : Γ1[p.1]? with
        | none => rw [e] at hs'; cases hs'
        | some o =>
          rw [e] at hs'
          cases o with
          | none => cases hs'
          | some ty =>
            have hs' : subTy (some ty) (some ⟨.own p.2.1, p.2.2⟩) = true := hs'
            obtain ⟨v1, hv1, q⟩ := R.slot p.1 ty d' e hd'
            rw [← hpv, start_at hv0] at hv1
            cases hv1
            have hfree : ty.free = true := by
              have hs2 := hs'
              unfold subTy at hs2
              unfold Ty.free
              rw [Bool.and_eq_true, Bool.or_eq_true] at hs2
              rcases hs2.2 with z | z
              · rw [z]; rfl
              · rw [Bool.and_eq_true] at z
                cases hp : ty.p with
                | own n => simp
                | frz => simp
                | rd => rw [hp] at z; cases z.2
                | bor n xs => rw [hp] at z; cases z.2
            obtain ⟨E1, n1, l1, d1, _, q1⟩ := q.conv hfree hs'
            exact ⟨v0, E1, by simpa using hv0, n1, l1, d1, fun Z' z1 z2 => q1 (p.2.1 + 1) (.inr rfl) Z' z1 z2⟩
      have dj : ∀ a ∈ Fr, a ∉ F' := fun a ha hb => by
        obtain ⟨i, _, e⟩ := o3 a hb
        rw [(lr a ha).1] at e; cases e
      refine hend d outs hr' v H' Fr F' (fun a => a ∉ Fr ∧ a ∉ F' ∧ ow' a ≠ .rd) { rep := rr _ (.inl rfl) _ (fun a e h => ⟨⟨fun hm => ?_, fun hm => ?_, fun z => ?_⟩, h⟩) (fun a hn e h => ⟨⟨hn, fun hm => ?_, fun z => ?_⟩, h⟩), dep := dd, own := own, outs := o1 _ (fun a e h => ⟨fun hm => ?_, fun hm => ?_, fun z => ?_⟩) (fun a i hi hn e h => ⟨fun hm => ?_, hn, fun z => ?_⟩), nd := List.nodup_append.mpr ⟨ndr, o2, fun a ha b hb e => ?_⟩, new := fun a ha => ?_, old := fun a ha => ?_, zf := fun a hz h => ⟨?_, hz.1, hz.2.1⟩, ext := ?_ }
      · rw [(lr a hm).1] at e; cases e
      · obtain ⟨i, _, e'⟩ := o3 a hm
        rw [e] at e'; cases e'
      · rw [e] at z; cases z
      · obtain ⟨i, _, e'⟩ := o3 a hm
        rw [e] at e'; cases e'
      · rw [e] at z; cases z
      · rw [(lr a hm).1] at e; cases e
      · obtain ⟨i, _, e'⟩ := o3 a hm
        rw [e] at e'; cases e'
      · rw [e] at z; cases z
      · rw [(lr a hm).1] at e; cases e
      · rw [e] at z; cases z
      · subst e; exact dj a ha hb
      · have := R.hm a (by rw [(lr a ha).1]; rfl)
        rw [hM] at this; exact this
      · obtain ⟨i, _, e⟩ := o3 a ha
        have := R.hm a (by rw [e]; rfl)
        rw [hM] at this; exact this
      · have := R.old a h hz.2.2
        rw [hM] at this
        rcases this with (q | q) | q
        · exact .inl q
        · exact .inr (.inr q)
        · exact .inr (.inl q)
      · have := R.ext
        rw [hM] at this; exact this
    unfold chkDef at ht
    cases hty : tySs G s.rc [] (s.Γ A.N.length) [] b with
    | none => rw [hty] at ht; cases ht
    | some o =>
      rw [hty] at ht
      refine rd s.rc [] _ [] o H M _ _ [] H (ktOf s r) _ (L2.start A.N vs) hty ⟨ow, R0⟩ (hS ds r ld hsp) (fun x' ρ' c o' H' hext hx hxr => ?_) (fun _ _ => rfl) ⟨fun t Γ1 d ρ' v σ' H' hret R hpin hk => back t Γ1 d ρ' v σ' H' hret R hpin hk, fun _ _ _ _ _ h => h, fun _ _ _ _ _ h => h⟩ fun Γ1 e ρ' σ' H' R hpin hk => ?_
      · refine hendX x' hx c o' H' ?_ hxr
        rw [hM] at hext; exact hext
      · subst e
        exact back imm Γ1 .non ρ' .non σ' H' ht (R.imm (Z := fun _ => True) (n := 0) .non rfl) hpin hk
end Pm

namespace Pm
open PySem PySem.Spec L2

/-! ### a whole text of defs -/
structure DefT where
  name : Str
  st : Stmt
  N : List Str
  ps : List Str
  b : Ss
  s : Sig
def gOf (defs : List DefT) (gk : Nat → Nat) (n : Nat) : TC := ⟨fun f => if f < n then (defs[f]?).map (·.s) else none, gk⟩
def codeOf (defs : List DefT) (gn : List Str) (d : DefT) : Code := ⟨d.N, gn, defs.map (·.name)⟩
def scopeB (N ps : List Str) (sc : Scope) : Bool :=
  (sc.kind == .function) && (sc.isCoroutine == false) && (sc.isGenerator == false) && decide N.Nodup && decide (N.take ps.length = ps) &&
    (ps.all fun x => (sc.names.lookup x == some .local) || (sc.names.lookup x == some .cell)) && (sc.names.all fun y => y.2 != .free)
theorem scope_ok {N ps : List Str} {sc : Scope} (h : scopeB N ps sc = true) : FnScope N ps sc := by
  unfold scopeB at h
  simp only [Bool.and_eq_true, List.all_eq_true, decide_eq_true_eq, beq_iff_eq, Bool.or_eq_true, bne_iff_ne] at h
  obtain ⟨⟨⟨⟨⟨⟨h1, h2⟩, h3⟩, h4⟩, h5⟩, h6⟩, h7⟩ := h
  exact ⟨h1, h2, h3, h4, h5, h6, fun y hy => h7 y hy⟩
def chk1 (defs : List DefT) (gn : List Str) (gk : Nat → Nat) (i : Nat) (d : DefT) : Bool :=
  scopeB d.N d.ps (defScope d.st) && mtSs (codeOf defs gn d) (defScope d.st) d.b (defBody d.st) && chkDef (gOf defs gk i) d.s d.N.length d.b && d.s.ps.length == d.ps.length
def chkAll (defs : List DefT) (gn : List Str) (gk : Nat → Nat) : Bool := defs.zipIdx.all fun p => chk1 defs gn gk p.2 p.1

variable [W : Wd] {P : Program} {w : World} {K : PySem.W.Frag} {mg : Str → Option Value} {base : Heap}
/-- what the top has left of a def -/
def Left (K : PySem.W.Frag) (mg : Str → Option Value) (d : DefT) : Prop := ∃ f fd, mg d.name = some (.ref f) ∧ Fun K d.name d.name d.st f fd ∧ Binds K fd d.ps []
structure Outer (P : Program) (w : World) (K : PySem.W.Frag) (mg : Str → Option Value) (C : Ctx) (gn : List Str) (gk : Nat → Nat) : Prop where
  hP : P = W.P
  hw : w = W.w
  glob : ∀ g d x, C.glob g = some d → gn[g]? = some x → ∃ v u, mg x = some u ∧ RelV v u ∧ (∀ H Z, Rep K H Z 0 d v []) ∧ d.dep (gk g) = true
  blt : ∀ b : Bi, mg b.name = none
  tys : ∀ T ∈ ["bool", "int", "str", "list", "tuple", "set"], mg (Str.ofString T) = none
  its : mg "range" = none ∧ mg "enumerate" = none ∧ mg "zip" = none
theorem all_ok {defs : List DefT} {gn : List Str} {gk : Nat → Nat} {C : Ctx} {XR : XRel} (hc : chkAll defs gn gk = true) (hl : ∀ d ∈ defs, Left K mg d) (O : Outer P w K mg C gn gk)
    (hp : ∀ i d, defs[i]? = some d → ∀ ds r, ds.length = d.s.ps.length → C.spec i ds r → evalSs C d.b (ini d.N.length ds) (ktOf d.s r)) :
    ∀ n i, i < n → ∀ d, defs[i]? = some d → ∃ f fd, mg d.name = some (.ref f) ∧ PySem.W.keepIn K (.ref f) = true ∧ Binds K fd d.ps [] ∧ Fun K d.name d.name d.st f fd ∧ FnOk P w K mg base (L2.CX P w) (i + 1) f fd d.ps (spOf K XR d.s (C.spec i)) := by
  intro n
  induction n with
  | zero => intro i h; omega
  | succ n ih =>
    intro i hi d hd
    by_cases hin : i < n
    · exact ih i hin d hd
    · have e : i = n := by omega
      subst e
      obtain ⟨f, fd, h1, h2, h3⟩ := hl d (List.mem_of_getElem? hd)
      refine ⟨f, fd, h1, h2.kp, h3, h2, ?_⟩
      have hck : chk1 defs gn gk i d = true := by
        have := List.all_eq_true.mp hc (d, i) (List.mem_zipIdx_iff_getElem?.mpr (by simpa using hd))
        exact this
      unfold chk1 at hck
      simp only [Bool.and_eq_true, beq_iff_eq] at hck
      obtain ⟨⟨⟨c1, c2⟩, c3⟩, c4⟩ := hck
      refine def_ok (A := codeOf defs gn d) (C := C) (G := gOf defs gk i) (XR := XR) ⟨O.hP, O.hw, O.glob, O.blt, O.tys, O.its, fun f s x hs hx => ?_⟩ h2 (scope_ok c1) c2 c4 c3 (hp i d hd)
      have hs : (if f < i then (defs[f]?).map (·.s) else none) = some s := hs
      by_cases hf : f < i
      · rw [if_pos hf] at hs
        cases e : defs[f]? with
        | none => rw [e] at hs; cases hs
        | some d' =>
          rw [e] at hs
          have hs : d'.s = s := by simpa using hs
          subst hs
          obtain ⟨f', fd', q1, q2, q3, _, q4⟩ := ih f hf d' e
          have hx : (defs.map (·.name))[f]? = some x := hx
          rw [List.getElem?_map, e] at hx
          have hx : d'.name = x := by simpa using hx
          subst hx
          exact ⟨f', fd', d'.ps, q1, q2, q3, q4.mono hf⟩
      · rw [if_neg hf] at hs; cases hs

/-! ### defs that call themselves: ranks -/
def chk1R (defs : List DefT) (gn : List Str) (gk : Nat → Nat) (rk : Nat → Nat) (i : Nat) (d : DefT) : Bool :=
  scopeB d.N d.ps (defScope d.st) && mtSs (codeOf defs gn d) (defScope d.st) d.b (defBody d.st) && chkDef (gOf defs gk (if rk i = 0 then i else i + 1)) d.s d.N.length d.b && d.s.ps.length == d.ps.length
def chkAllR (defs : List DefT) (gn : List Str) (gk : Nat → Nat) (rk : Nat → Nat) : Bool := defs.zipIdx.all fun p => chk1R defs gn gk rk p.2 p.1
def sumR (rk : Nat → Nat) : Nat → Nat
  | 0 => 0
  | i + 1 => sumR rk i + rk i
theorem sumR_le {rk : Nat → Nat} {j : Nat} : ∀ {i : Nat}, j < i → j + 1 + sumR rk j + rk j ≤ i + sumR rk i
  | i + 1, h => by
    by_cases e : j = i
    · subst e; show _ ≤ j + 1 + (sumR rk j + rk j); omega
    · have := sumR_le (rk := rk) (j := j) (i := i) (by omega)
      show _ ≤ i + 1 + (sumR rk i + rk i); omega
def below (S : Nat → List D → (FOut → Prop) → Prop) : Nat → List D → (FOut → Prop) → Prop
  | 0 => fun _ _ => False
  | r + 1 => S r
/-- S i r: what def i promises, where it may call itself r deep; rk i: how deep it may where others call it -/
theorem all_okR {defs : List DefT} {gn : List Str} {gk : Nat → Nat} {rk : Nat → Nat} {S : Nat → Nat → List D → (FOut → Prop) → Prop} {gl : Nat → Option D} {XR : XRel} (hc : chkAllR defs gn gk rk = true) (hl : ∀ d ∈ defs, Left K mg d) (O : Outer P w K mg ⟨fun f => S f (rk f), gl⟩ gn gk)
    (hp : ∀ i d, defs[i]? = some d → rk i = 0 → ∀ ds q, ds.length = d.s.ps.length → S i 0 ds q → evalSs ⟨fun f => S f (rk f), gl⟩ d.b (ini d.N.length ds) (ktOf d.s q))
    (hr : ∀ i d, defs[i]? = some d → rk i ≠ 0 → ∀ r, r ≤ rk i → ∃ C : Ctx, C.glob = gl ∧ (∀ f, f ≠ i → C.spec f = S f (rk f)) ∧ C.spec i = below (S i) r ∧ ∀ ds q, ds.length = d.s.ps.length → S i r ds q → evalSs C d.b (ini d.N.length ds) (ktOf d.s q)) :
    ∀ n i, i < n → ∀ d, defs[i]? = some d → ∀ r, r ≤ rk i → ∃ f fd, mg d.name = some (.ref f) ∧ PySem.W.keepIn K (.ref f) = true ∧ Binds K fd d.ps [] ∧ Fun K d.name d.name d.st f fd ∧ FnOk P w K mg base (L2.CX P w) (i + 1 + sumR rk i + r) f fd d.ps (spOf K XR d.s (S i r)) := by
  intro n
  induction n with
  | zero => intro i h; omega
  | succ n ih =>
    intro i hi d hd
    by_cases hin : i < n
    · exact ih i hin d hd
    · have e : i = n := by omega
      subst e
      obtain ⟨f, fd, h1, h2, h3⟩ := hl d (List.mem_of_getElem? hd)
      have hck : chk1R defs gn gk rk i d = true := List.all_eq_true.mp hc (d, i) (List.mem_zipIdx_iff_getElem?.mpr (by simpa using hd))
      unfold chk1R at hck
      simp only [Bool.and_eq_true, beq_iff_eq] at hck
      obtain ⟨⟨⟨c1, c2⟩, c3⟩, c4⟩ := hck
      have low : ∀ (r : Nat) (g : Nat) (x : Str) (s : Sig), g < i → ((defs[g]?).map (·.s)) = some s → (codeOf defs gn d).fn[g]? = some x → ∃ addr fd ps, mg x = some (.ref addr) ∧ PySem.W.keepIn K (.ref addr) = true ∧ Binds K fd ps [] ∧ FnOk P w K mg base (L2.CX P w) (i + sumR rk i + r) addr fd ps (spOf K XR s (S g (rk g))) := by
        intro r g x s hg hs hx
        cases e : defs[g]? with
        | none => rw [e] at hs; cases hs
        | some d' =>
          rw [e] at hs
          have hs : d'.s = s := by simpa using hs
          subst hs
          obtain ⟨f', fd', q1, q2, q3, _, q4⟩ := ih g hg d' e (rk g) (Nat.le_refl _)
          have hx : (defs.map (·.name))[g]? = some x := hx
          rw [List.getElem?_map, e] at hx
          have hx : d'.name = x := by simpa using hx
          subst hx
          exact ⟨f', fd', d'.ps, q1, q2, q3, q4.mono (by have := sumR_le (rk := rk) hg; omega)⟩
      by_cases h0 : rk i = 0
      · intro r hr0
        obtain rfl : r = 0 := by omega
        refine ⟨f, fd, h1, h2.kp, h3, h2, ?_⟩
        rw [if_pos h0] at c3
        rw [show i + 1 + sumR rk i + 0 = i + sumR rk i + 0 + 1 by omega]
        refine def_ok (A := codeOf defs gn d) (C := ⟨fun f => S f (rk f), gl⟩) (G := gOf defs gk i) (XR := XR) ⟨O.hP, O.hw, O.glob, O.blt, O.tys, O.its, fun g s x hs hx => ?_⟩ h2 (scope_ok c1) c2 c4 c3 (hp i d hd h0)
        have hs : (if g < i then (defs[g]?).map (·.s) else none) = some s := hs
        by_cases hg : g < i
        · rw [if_pos hg] at hs
          exact low 0 g x s hg hs hx
        · rw [if_neg hg] at hs; cases hs
      · rw [if_neg h0] at c3
        -- what it has of itself, one rank below
        have step : ∀ r, r ≤ rk i → FnOk P w K mg base (L2.CX P w) (i + sumR rk i + r) f fd d.ps (spOf K XR d.s (below (S i) r)) → FnOk P w K mg base (L2.CX P w) (i + 1 + sumR rk i + r) f fd d.ps (spOf K XR d.s (S i r)) := by
          intro r hri self
          obtain ⟨C, g1, g2, g3, g4⟩ := hr i d hd h0 r hri
          obtain ⟨cs, cg⟩ := C
          have g1 : cg = gl := g1
          subst g1
          rw [show i + 1 + sumR rk i + r = i + sumR rk i + r + 1 by omega]
          refine def_ok (A := codeOf defs gn d) (C := ⟨cs, cg⟩) (G := gOf defs gk (i + 1)) (XR := XR) ⟨O.hP, O.hw, O.glob, O.blt, O.tys, O.its, fun g s x hs hx => ?_⟩ h2 (scope_ok c1) c2 c4 c3 g4
          have hs : (if g < i + 1 then (defs[g]?).map (·.s) else none) = some s := hs
          by_cases hg : g < i
          · rw [if_pos (by omega)] at hs
            have e2 : cs g = S g (rk g) := g2 g (by omega)
            show ∃ addr fd ps, _ ∧ _ ∧ _ ∧ FnOk P w K mg base (L2.CX P w) _ addr fd ps (spOf K XR s (cs g))
            rw [e2]
            exact low r g x s hg hs hx
          · by_cases hgi : g = i
            · subst hgi
              rw [if_pos (by omega), hd] at hs
              have hs : d.s = s := by simpa using hs
              subst hs
              have hx : (defs.map (·.name))[g]? = some x := hx
              rw [List.getElem?_map, hd] at hx
              have hx : d.name = x := by simpa using hx
              subst hx
              refine ⟨f, fd, d.ps, h1, h2.kp, h3, ?_⟩
              have e2 : cs g = below (S g) r := g3
              show FnOk P w K mg base (L2.CX P w) _ f fd d.ps (spOf K XR d.s (cs g))
              rw [e2]
              exact self
            · rw [if_neg (by omega)] at hs; cases hs
        have nil : ∀ k, FnOk P w K mg base (L2.CX P w) k f fd d.ps (spOf K XR d.s (below (S i) 0)) := fun k =>
          ⟨fun vs H Q E h => by obtain ⟨_, _, _, _, h, _⟩ := h; exact h.elim, fun _ _ _ _ _ _ _ _ _ _ _ _ _ h => by obtain ⟨_, _, _, _, h, _⟩ := h; exact h.elim⟩
        have all : ∀ r, r ≤ rk i → FnOk P w K mg base (L2.CX P w) (i + 1 + sumR rk i + r) f fd d.ps (spOf K XR d.s (S i r)) := by
          intro r
          induction r with
          | zero => intro hri; exact step 0 hri (nil _)
          | succ r ihr =>
            intro hri
            refine step (r + 1) hri ?_
            have := ihr (by omega)
            rw [show i + sumR rk i + (r + 1) = i + 1 + sumR rk i + r by omega]
            exact this
        exact fun r hri => ⟨f, fd, h1, h2.kp, h3, h2, all r hri⟩

/-! ### values of the module's own -/
def relB : D → Value → Bool
  | .non, .none => true
  | .bl b, .bool c => b == c
  | .int i, .int j _ => i == j
  | .str s, .str x _ => x.cps.toList == s && s.all fun c => decide (c < 0x110000)
  | _, _ => false
def relsB : List D → List Value → Bool
  | [], [] => true
  | d :: ds, v :: vs => relB d v && relsB ds vs
  | _, _ => false
theorem rel_of {d : D} {u : Value} (h : relB d u = true) : ∃ v, RelV v u ∧ ∀ H Z, Rep K H Z 0 d v [] := by
  cases d <;> cases u <;> first | exact absurd h Bool.false_ne_true | skip
  · exact ⟨.non, rfl, fun _ _ => .non⟩
  · have h := eq_of_beq h
    subst h
    exact ⟨.bl _, rfl, fun _ _ => .bl _⟩
  · rename_i i j t
    have h : (i == j) = true := h
    have h := eq_of_beq h
    subst h
    exact ⟨.int _, ⟨_, rfl⟩, fun _ _ => .int _⟩
  · rename_i s x t
    have h : (x.cps.toList == s && s.all fun c => decide (c < 0x110000)) = true := h
    simp only [Bool.and_eq_true, beq_iff_eq, List.all_eq_true, decide_eq_true_eq] at h
    have hx : x = toStr s := by rw [← h.1]; rfl
    exact ⟨.str (toStr s), ⟨t, by rw [hx]⟩, fun _ _ => .str s h.2⟩
theorem rels_of : ∀ {ds : List D} {us : List Value}, relsB ds us = true → ∃ vs, Vals vs us ∧ ∀ H Z, Reps K H Z 0 ds vs []
  | [], [], _ => ⟨[], .nil, fun _ _ => .nil⟩
  | d :: ds, u :: us, h => by
    have h : (relB d u && relsB ds us) = true := h
    rw [Bool.and_eq_true] at h
    obtain ⟨v, h1, h2⟩ := rel_of (K := K) h.1
    obtain ⟨vs, h3, h4⟩ := rels_of h.2
    exact ⟨v :: vs, .cons h1 h3, fun H Z => .cons (F := []) (G := []) (h2 H Z) (h4 H Z)⟩
  | [], _ :: _, h => absurd h Bool.false_ne_true
  | _ :: _, [], h => absurd h Bool.false_ne_true
def GlobOk (K : PySem.W.Frag) (mg : Str → Option Value) (d : D) (x : Str) : Prop := ∃ v u, mg x = some u ∧ RelV v u ∧ ∀ H Z, Rep K H Z 0 d v []
theorem glob_flat {h : Heap} {x : Str} {d : D} {u : Value} (X : K.In h) (G : h.Ns mainGlobals mg) (e : PySem.W.nsIn K mainGlobals x = some (some u)) (hr : relB d u = true) : GlobOk K mg d x := by
  obtain ⟨v, h1, h2⟩ := rel_of (K := K) hr
  exact ⟨v, u, PySem.W.mg_of X G e, h1, h2⟩
theorem glob_tup {h : Heap} {x : Str} {ds : List D} {a : Addr} {od : Option Addr} {its : Array Value} {n : Nat} {sl : Array (Option Value)} (X : K.In h) (G : h.Ns mainGlobals mg) (e : PySem.W.nsIn K mainGlobals x = some (some (.ref a)))
    (l : K.lookup a = some ⟨.type "tuple", od, .seq its n, sl⟩) (hr : relsB ds its.toList = true) (hz : its.size ≤ sizeLine) : GlobOk K mg (.tup ds) x := by
  obtain ⟨vs, h1, h2⟩ := rels_of (K := K) hr
  exact ⟨.ref a, .ref a, PySem.W.mg_of X G e, rfl, fun H Z => Rep.tup (.inr ⟨_, its, n, l, rfl, rfl, hz, h1⟩) (h2 H Z)⟩

/-! ### the end: a law whose one argument is the script -/
def lawSpec (ns : Nat) (ds : List D) (r : FOut → Prop) : Prop := ∃ is : List Int, is.length ≤ ns ∧ ds = [.lst (is.map .int)] ∧ r (.ret (.bl true) [])
theorem ints_rep {H : Hp} {Z : Option Addr → Prop} : ∀ (is : List Int), Reps K H Z 0 (is.map .int) (is.map V.int) []
  | [] => .nil
  | i :: is => .cons (F := []) (G := []) (.int i) (ints_rep is)
theorem law_in {XR : XRel} {H : Hp} {a : Addr} {is : List Int} {ns : Nat} {p : Perm} (hl : is.length ≤ ns) (h : SqL K H a (is.map V.int)) : spOf K XR ⟨[.inn 1], p, 0⟩ (lawSpec ns) [.ref a] H (fun v _ => v = .bl true) fun _ _ _ => False := by
  refine ⟨[.lst (is.map .int)], fun r => r = .ret (.bl true) [], [], fun _ => False, ⟨is, hl, rfl, rfl⟩, ?_, List.nodup_nil, fun _ _ h => h, fun d outs e v H' Fr F' Zf p => ?_, fun _ e => by cases e⟩
  rotate_left
  · cases e; exact p.rep.bl_inv
  have hd : D.dep 1 (.lst (is.map .int)) = true := by
    rw [dep_lst]
    exact deps_iff.mpr fun x hx => by
      obtain ⟨i, _, rfl⟩ := List.mem_map.mp hx
      rfl
  have r := ints_rep (K := K) (H := H) (Z := rdZ [] H) is
  refine ⟨⟨?_, hd⟩, rfl⟩
  rcases h with (h | ⟨o, h⟩) | h
  · exact .lst0 ⟨by simp, by rw [h]; simp⟩ h r
  · exact .lstF h r
  · exact .lstW trivial (fun _ => .inr h) r
/-- the world of a law without classes of its own -/
@[reducible] def wd (P : Program) (w : World) : Wd := ⟨P, w, fun _ => 0, fun _ => []⟩
omit W in
theorem no_exc {P : Program} {w : World} (H : Hp) (s : Shared) (e : Value) (s' : Shared) (h : L2.CX P w [] H s (fun _ _ _ => False) e s') : False := by
  obtain ⟨_, _, _, _, _, _, _, _, _, _, _, _, z⟩ := h
  exact z
end Pm

namespace Pm
open PySem PySem.Spec L2

/-! ### the pure layer at work: what each form comes to -/
def varK (o : Option (Option D)) (k : D → Prop) : Prop := match o with | some (some d) => k d | _ => False
def glbK (o : Option D) (k : D → Prop) : Prop := match o with | some d => k d | none => False
def cond2 (o : Option Bool) (A B : Prop) : Prop := match o with | some true => A | some false => B | none => False
def postK (K : D → Penv → Prop) (X : Exc → Penv → Prop) (os : List (Option Nat)) (ρ : Penv) (r : FOut) : Prop := match r with | .ret d outs => K d (setOuts os outs ρ) | .exc x => X x ρ
def optIntK (d : D) (k : Option Int → Prop) : Prop := match d with | .int i => k (some i) | _ => False
def itemsK (o : Option (List D)) (k : List D → Prop) : Prop := match o with | some xs => k xs | none => False
def lstK (o : Option (Option D)) (P : Prop) : Prop := match o with | some (some (.lst _)) => P | _ => False
def anyK (o : Option (Option D)) (P : Prop) : Prop := match o with | some (some _) => P | _ => False
def negK (d : D) (k : D → Prop) : Prop := match d with | .int i => k (.int (-i)) | _ => False
def notK (o : Option Bool) (k : D → Prop) : Prop := match o with | some c => k (.bl (!c)) | none => False
def bopK (o : Bool) (c : Option Bool) (A B : Prop) : Prop := match c with | some c => if c = o then A else B | none => False
def bopE (o : Bool) (x : D) (k : D → Prop) (B : Prop) : Prop := match x with | .bl c => (c = o → k (.bl o)) ∧ (c = (!o) → B) | x => bopK o x.truth (k x) B
def chnK (d : D) (A B : Prop) : Prop := match d with | .bl true => A | .bl false => B | _ => False
def boolK (o : Option Bool) (k : Bool → Prop) : Prop := match o with | some b => k b | none => False
def stepF (C : Pm.Ctx) (t : Tgt) (b : Ss) (K : Kt) (x : D) (ρ' : Penv) (k : Penv → Prop) : Prop := asgK t x ρ' fun ρ2 => evalSs C b ρ2 ⟨k, K.rt, K.nx, k, K.ex⟩
def stepC (C : Pm.Ctx) (t : Tgt) (c : OE) (e : E) (x : D) (ρ' : Penv) (k : Option D → Penv → Prop) : Prop :=
  asgK t x (wipeP t.slots ρ') fun ρ2 => evalC C c ρ2 (fun b ρ3 => if b = true then evalE C e ρ3 (fun y ρ4 => k (some y) ρ4) (fun _ _ => False) else k none ρ3) (fun _ _ => False)

variable {C : Pm.Ctx} {ρ : Penv} {K : D → Penv → Prop} {X : Exc → Penv → Prop} {Kt : Pm.Kt}
theorem v_get {i : Nat} {d : D} {k : D → Prop} : varK (some (some d)) k = k d := rfl
theorem v_glb {d : D} {k : D → Prop} : glbK (some d) k = k d := rfl
theorem c_dec {p : Prop} [Decidable p] {A B : Prop} : cond2 (some (decide p)) A B = ((p → A) ∧ (¬ p → B)) := by
  by_cases h : p <;> simp [h, cond2]
theorem c_ndec {p : Prop} [Decidable p] {A B : Prop} : cond2 (some (!decide p)) A B = ((¬ p → A) ∧ (p → B)) := by
  by_cases h : p <;> simp [h, cond2]
theorem c_bool {b : Bool} {A B : Prop} : cond2 (some b) A B = ((b = true → A) ∧ (b = false → B)) := by
  cases b <;> simp [cond2]
theorem c_true {A B : Prop} : cond2 (some true) A B = A := rfl
theorem c_false {A B : Prop} : cond2 (some false) A B = B := rfl
theorem e_var {i m} : evalE C (.var i m) ρ K X = varK (ρ[i]?) (fun d => K d ρ) := rfl
theorem e_non : evalE C .non ρ K X = K .non ρ := rfl
theorem e_bl {b} : evalE C (.bl b) ρ K X = K (.bl b) ρ := rfl
theorem e_int {b} : evalE C (.int b) ρ K X = K (.int b) ρ := rfl
theorem e_str {b} : evalE C (.str b) ρ K X = K (.str b) ρ := rfl
theorem e_glb {g} : evalE C (.glb g) ρ K X = glbK (C.glob g) (fun d => K d ρ) := rfl
theorem e_tup {es} : evalE C (.tup es) ρ K X = evalEs C es ρ (fun ds ρ' => ds.length ≤ sizeLine ∧ K (.tup ds) ρ') X := rfl
theorem e_lst {es} : evalE C (.lst es) ρ K X = evalEs C es ρ (fun ds ρ' => ds.length ≤ sizeLine ∧ K (.lst ds) ρ') X := rfl
theorem e_bin {l op a b} : evalE C (.bin l op a b) ρ K X = evalE C a ρ (fun x ρ1 => evalE C b ρ1 (fun y ρ2 => binK l op x y fun z => K z ρ2) X) X := rfl
theorem e_cmp {op a b} : evalE C (.cmp op a b) ρ K X = evalE C a ρ (fun x ρ1 => evalE C b ρ1 (fun y ρ2 => cmpK op x y fun z => K z ρ2) X) X := rfl
theorem e_chn {o1 o2 a b c} : evalE C (.chn o1 o2 a b c) ρ K X = evalE C a ρ (fun x ρ1 => evalE C b ρ1 (fun y ρ2 => cmpK o1 x y fun z => chnK z (evalE C c ρ2 (fun w ρ3 => cmpK o2 y w fun z => K z ρ3) X) (K (.bl false) ρ2)) X) X := rfl
def revK (x : D) (k : D → Prop) : Prop := match x with | .lst xs => k (.lst xs.reverse) | _ => False
theorem n_rev {xs : List D} {k} : revK (.lst xs) k = k (.lst xs.reverse) := rfl
def mxdK (x : D) (k : D → Prop) : Prop := match x with | .lst xs => ∃ is : List Int, xs = is.map .int ∧ k (.int (maxD is)) | _ => False
theorem n_mxd {is : List Int} {k : D → Prop} (h : k (.int (maxD is))) : mxdK (.lst (is.map .int)) k := ⟨is, rfl, h⟩
theorem e_lrng {es} : evalE C (.lrng es) ρ K X = evalEs C es ρ (fun ds ρ1 => rngK ds fun xs => xs.length ≤ 2 ^ 24 ∧ K (.lst xs) ρ1) X := rfl
theorem e_maxd {a} : evalE C (.maxd a) ρ K X = evalE C a ρ (fun x ρ1 => mxdK x fun z => K z ρ1) X := rfl
theorem f_reprI {i : Int} {k} : biK .repr [.int i] k = (i.natAbs.log2 < 1920 ∧ k (.str (intTxt i))) := rfl
theorem f_reprN {k} : biK .repr [.non] k = k (.str [78, 111, 110, 101]) := rfl
theorem e_sset {a} : evalE C (.sset a) ρ K X = evalE C a ρ (fun x ρ1 => ssetK x fun z => K z ρ1) X := rfl
theorem e_lset {a} : evalE C (.lset a) ρ K X = evalE C a ρ (fun x ρ1 => lsetK x fun z => K z ρ1) X := rfl
theorem e_revl {a} : evalE C (.revl a) ρ K X = evalE C a ρ (fun x ρ1 => revK x fun z => K z ρ1) X := rfl
theorem e_dp {n a} : evalE C (.dp n a) ρ K X = evalE C a ρ (fun x ρ1 => x.dep n = true ∧ K x ρ1) X := rfl
theorem e_ife {c a b} : evalE C (.ife c a b) ρ K X = evalE C c ρ (fun x ρ1 => cond2 x.truth (evalE C a ρ1 K X) (evalE C b ρ1 K X)) X := rfl
theorem s_dead : evalS C .dead ρ Kt = False := rfl
theorem e_neg {a} : evalE C (.neg a) ρ K X = evalE C a ρ (fun x ρ1 => negK x fun z => K z ρ1) X := rfl
theorem e_not {a} : evalE C (.not_ a) ρ K X = evalE C a ρ (fun x ρ1 => notK x.truth fun z => K z ρ1) X := rfl
theorem bop_eq {o : Bool} {x : D} {k : D → Prop} {B : Prop} : bopK o x.truth (k x) B = bopE o x k B := by
  cases x with
  | bl c => cases c <;> cases o <;> simp [bopK, bopE, D.truth]
  | _ => rfl
theorem e_bop {o a b} : evalE C (.bop o a b) ρ K X = evalE C a ρ (fun x ρ1 => bopE o x (fun x => K x ρ1) (evalE C b ρ1 K X)) X := by
  show evalE C a ρ (fun x ρ1 => bopK o x.truth (K x ρ1) (evalE C b ρ1 K X)) X = _
  congr 1
  funext x ρ1
  exact bop_eq (k := fun x => K x ρ1)
theorem n_bop {o c : Bool} {k : D → Prop} {B : Prop} : bopE o (.bl c) k B = ((c = o → k (.bl o)) ∧ (c = (!o) → B)) := rfl
theorem e_idx {h a i} : evalE C (.idx h a i) ρ K X = evalE C a ρ (fun x ρ1 => evalE C i ρ1 (fun y ρ2 => idxK h x y fun z => K z ρ2) X) X := rfl
theorem e_slc {l a lo hi} : evalE C (.slc l a lo hi) ρ K X = evalE C a ρ (fun x ρ1 => evalOE C lo ρ1 (fun lo' ρ2 => evalOE C hi ρ2 (fun hi' ρ3 => slcK l x lo' hi' fun z => K z ρ3) X) X) X := rfl
theorem e_call {f as} : evalE C (.call f as) ρ K X = evalAs C as ρ (fun ds ρ1 => C.spec f ds (postK K X as.outs ρ1)) X := rfl
theorem p_ret {os d outs} : postK K X os ρ (.ret d outs) = K d (setOuts os outs ρ) := rfl
theorem p_exc {os x} : postK K X os ρ (.exc x) = X x ρ := rfl
theorem e_bi {b es} : evalE C (.bi b es) ρ K X = evalEs C es ρ (fun ds ρ1 => biK b ds fun z => K z ρ1) X := rfl
theorem e_bm {m o es} : evalE C (.bm m o es) ρ K X = evalE C o ρ (fun x ρ1 => bmO m x = true ∧ evalEs C es ρ1 (fun ds ρ2 => bmK m x ds fun z => K z ρ2) X) X := rfl
theorem e_mu {m i es} : evalE C (.mu m i es) ρ K X = lstK (ρ[i]?) (evalEs C es ρ (fun ds ρ1 => varK (ρ1[i]?) fun x => muK m x ds fun z y => K z (ρ1.set i (some y))) X) := rfl
theorem e_comp {t it c e} : evalE C (.comp t it c e) ρ K X = evalIt C it ρ (fun xs ρ1 => xs.length ≤ sizeLine ∧ compLoop (stepC C t c e) (fun acc ρ' => K (.lst acc) (restore t.slots ρ1 ρ')) xs [] ρ1) X := rfl
theorem es_nil {K : List D → Penv → Prop} : evalEs C .nil ρ K X = K [] ρ := rfl
theorem es_cons {e es} {K : List D → Penv → Prop} : evalEs C (.cons e es) ρ K X = evalE C e ρ (fun d ρ1 => evalEs C es ρ1 (fun ds ρ2 => K (d :: ds) ρ2) X) X := rfl
theorem o_none {K : Option Int → Penv → Prop} : evalOE C .none ρ K X = K none ρ := rfl
theorem o_some {e} {K : Option Int → Penv → Prop} : evalOE C (.some e) ρ K X = evalE C e ρ (fun d ρ1 => optIntK d fun o => K o ρ1) X := rfl
theorem t_none {K : Bool → Penv → Prop} : evalC C .none ρ K X = K true ρ := rfl
theorem t_some {e} {K : Bool → Penv → Prop} : evalC C (.some e) ρ K X = evalE C e ρ (fun d ρ1 => boolK d.truth fun b => K b ρ1) X := rfl
theorem a_nil {K : List D → Penv → Prop} : evalAs C .nil ρ K X = K [] ρ := rfl
theorem a_val {e as} {K : List D → Penv → Prop} : evalAs C (.val e as) ρ K X = evalE C e ρ (fun d ρ1 => evalAs C as ρ1 (fun ds ρ2 => K (d :: ds) ρ2) X) X := rfl
theorem a_own {e as} {K : List D → Penv → Prop} : evalAs C (.own e as) ρ K X = evalE C e ρ (fun d ρ1 => evalAs C as ρ1 (fun ds ρ2 => K (d :: ds) ρ2) X) X := rfl
theorem a_ino {i as} {K : List D → Penv → Prop} : evalAs C (.ino i as) ρ K X = anyK (ρ[i]?) (evalAs C as ρ (fun ds ρ1 => varK (ρ1[i]?) fun d => K (d :: ds) ρ1) X) := rfl
theorem i_low {i it} {K : List D → Penv → Prop} : evalIt C (.low i it) ρ K X = evalIt C it ρ K X := rfl
theorem i_val {l e} {K : List D → Penv → Prop} : evalIt C (.val l e) ρ K X = evalE C e ρ (fun d ρ1 => itemsK (d.items l) fun xs => K xs ρ1) X := rfl
theorem i_rng {es} {K : List D → Penv → Prop} : evalIt C (.rng es) ρ K X = evalEs C es ρ (fun ds ρ1 => rngK ds fun xs => K xs ρ1) X := rfl
def zipK (a b : Option (List D)) (k : List D → Prop) : Prop := match a, b with | some xs, some ys => k ((xs.zip ys).map fun p => .tup [p.1, p.2]) | _, _ => False
theorem zp {xs ys : List D} {k} : zipK (some xs) (some ys) k = k ((xs.zip ys).map fun p => .tup [p.1, p.2]) := rfl
theorem it2_l {xs : List D} : D.items2 true (.lst xs) = some xs := rfl
theorem it2_s {s : List Nat} : D.items2 false (.str s) = some (s.map fun c => .str [c]) := rfl
theorem i_enum {l e} {K : List D → Penv → Prop} : evalIt C (.enum l e) ρ K X = evalE C e ρ (fun d ρ1 => itemsK (d.items2 l) fun xs => K (xs.zipIdx.map fun p => .tup [.int p.2, p.1]) ρ1) X := rfl
theorem i_zip {l1 l2 a b} {K : List D → Penv → Prop} : evalIt C (.zip l1 l2 a b) ρ K X = evalE C a ρ (fun x ρ1 => evalE C b ρ1 (fun y ρ2 => zipK (x.itz l1) (y.itz l2) fun xs => K xs ρ2) X) X := by
  rfl
def zip3K (a b c : Option (List D)) (k : List D → Prop) : Prop := match a, b, c with | some xs, some ys, some zs => k ((xs.zip (ys.zip zs)).map fun p => .tup [p.1, p.2.1, p.2.2]) | _, _, _ => False
theorem zp3 {xs ys zs : List D} {k} : zip3K (some xs) (some ys) (some zs) k = k ((xs.zip (ys.zip zs)).map fun p => .tup [p.1, p.2.1, p.2.2]) := rfl
theorem i_zip3 {l1 l2 l3 a b c} {K : List D → Penv → Prop} : evalIt C (.zip3 l1 l2 l3 a b c) ρ K X = evalE C a ρ (fun x ρ1 => evalE C b ρ1 (fun y ρ2 => evalE C c ρ2 (fun z ρ3 => zip3K (x.itz l1) (y.itz l2) (z.itz l3) fun xs => K xs ρ3) X) X) X := by
  rfl
theorem e_dnew : evalE C .dnew ρ K X = K (.dic 0 [] []) ρ := rfl
theorem e_done {a b} : evalE C (.done a b) ρ K X = evalE C a ρ (fun x ρ1 => evalE C b ρ1 (fun y ρ2 => fitsD [] x = true ∧ ∀ ep, K (.dic ep [x] [y]) ρ2) X) X := rfl
theorem f_reprS {s : List Nat} {k} : biK .repr [.str s] k = ((s.all (fun c => decide (97 ≤ c ∧ c ≤ 122)) = true ∧ s.length ≤ 100000) ∧ k (.str (39 :: (s ++ [39])))) := rfl
theorem s_asg {t e} : evalS C (.asg t e) ρ Kt = evalE C e ρ (fun d ρ1 => asgK t d ρ1 Kt.nx) Kt.ex := rfl
theorem s_setI {i k e} : evalS C (.setI i k e) ρ Kt = evalE C e ρ (fun d ρ1 => anyK (ρ1[i]?) (evalE C k ρ1 (fun j ρ2 => varK (ρ2[i]?) fun o => setK o j d fun o' => Kt.nx (ρ2.set i (some o'))) Kt.ex)) Kt.ex := rfl
theorem s_expr {e} : evalS C (.expr e) ρ Kt = evalE C e ρ (fun _ ρ1 => Kt.nx ρ1) Kt.ex := rfl
theorem s_ret {e} : evalS C (.ret e) ρ Kt = evalE C e ρ Kt.rt Kt.ex := rfl
theorem s_retN : evalS C .retN ρ Kt = Kt.rt .non ρ := rfl
theorem s_if {c a b} : evalS C (.if_ c a b) ρ Kt = evalE C c ρ (fun d ρ1 => cond2 d.truth (evalSs C a ρ1 Kt) (evalSs C b ρ1 Kt)) Kt.ex := rfl
theorem s_for {Γ t it b} : evalS C (.for_ Γ t it b) ρ Kt = evalIt C it ρ (fun xs ρ1 => forLoop (stepF C t b Kt) Kt.nx xs ρ1) Kt.ex := rfl
theorem s_while {Γ c b} : evalS C (.while_ Γ c b) ρ Kt = ∃ n, whileN (fun ρ' k => evalE C c ρ' k Kt.ex) (fun ρ' k => evalSs C b ρ' ⟨k, Kt.rt, Kt.nx, k, Kt.ex⟩) Kt.nx n ρ := rfl
theorem s_brk : evalS C .brk ρ Kt = Kt.bk ρ := rfl
theorem s_cnt : evalS C .cnt ρ Kt = Kt.ct ρ := rfl
theorem s_pass : evalS C .pass ρ Kt = Kt.nx ρ := rfl
theorem ss_n : evalSs C .nil ρ Kt = Kt.nx ρ := rfl
theorem ss_c {s ss} : evalSs C (.cons s ss) ρ Kt = evalS C s ρ ⟨fun ρ' => evalSs C ss ρ' Kt, Kt.rt, Kt.bk, Kt.ct, Kt.ex⟩ := rfl
-- operations
theorem b_add {x y : Int} {k} : binK false .Add (.int x) (.int y) k = k (.int (x + y)) := rfl
theorem b_cat {x y} {k} : binK false .Add (.str x) (.str y) k = (x.length + y.length ≤ sizeLine ∧ k (.str (x ++ y))) := rfl
theorem b_catL {x y} {k} : binK true .Add (.lst x) (.lst y) k = (x.length + y.length ≤ sizeLine ∧ k (.lst (x ++ y))) := rfl
theorem b_catT {x y} {k} : binK false .Add (.tup x) (.tup y) k = (x.length + y.length ≤ sizeLine ∧ k (.tup (x ++ y))) := rfl
theorem b_sub {x y : Int} {k} : binK false .Sub (.int x) (.int y) k = k (.int (x - y)) := rfl
theorem b_mul {x y : Int} {k} : binK false .Mult (.int x) (.int y) k = (CMul x y ∧ k (.int (x * y))) := rfl
theorem b_div {x y : Int} {k} : binK false .FloorDiv (.int x) (.int y) k = (CDiv x y ∧ k (.int (x / y))) := rfl
theorem b_mod {x y : Int} {k} : binK false .Mod (.int x) (.int y) k = (0 < y ∧ k (.int (x % y))) := rfl
theorem b_pow {x y : Int} {k} : binK false .Pow (.int x) (.int y) k = (CPow x y ∧ k (.int (x ^ y.toNat))) := rfl
theorem k_leS {x y : List Nat} {k} : cmpK .LtE (.str x) (.str y) k = k (.bl (!decide (y < x))) := rfl
theorem k_ltL {is js : List Int} {k} (h : k (.bl (listLtI is js))) : cmpK .Lt (.lst (is.map .int)) (.lst (js.map .int)) k := ⟨is, js, rfl, rfl, h⟩
theorem b_mulL {xs : List D} {n : Int} {k} : binK true .Mult (.lst xs) (.int n) k = ((-(2 ^ 63) ≤ n ∧ n < 2 ^ 63 ∧ xs.length * n.toNat ≤ sizeLine) ∧ k (.lst (List.replicate n.toNat xs).flatten)) := rfl
theorem b_mulS {x : List Nat} {n : Int} {k} : binK false .Mult (.str x) (.int n) k = ((2 ≤ n ∧ 1 ≤ x.length ∧ x.length * n.toNat ≤ 1000000) ∧ k (.str (List.replicate n.toNat x).flatten)) := rfl
theorem k_lt {x y : Int} {k} : cmpK .Lt (.int x) (.int y) k = k (.bl (decide (x < y))) := rfl
theorem k_le {x y : Int} {k} : cmpK .LtE (.int x) (.int y) k = k (.bl (decide (x ≤ y))) := rfl
theorem k_gt {x y : Int} {k} : cmpK .Gt (.int x) (.int y) k = k (.bl (decide (y < x))) := rfl
theorem k_ge {x y : Int} {k} : cmpK .GtE (.int x) (.int y) k = k (.bl (decide (y ≤ x))) := rfl
theorem beq_dec {α : Type} [DecidableEq α] {x y : α} : (x == y) = decide (x = y) := by
  by_cases h : x = y <;> simp [h]
theorem k_eqI {x y : Int} {k} : cmpK .Eq (.int x) (.int y) k = k (.bl (decide (x = y))) := by
  have : (D.int x).eq (.int y) = decide (x = y) := by simp [D.eq, beq_dec]
  simp [cmpK, D.ht, this]
theorem k_neI {x y : Int} {k} : cmpK .NotEq (.int x) (.int y) k = k (.bl (!decide (x = y))) := by
  have : (D.int x).eq (.int y) = decide (x = y) := by simp [D.eq, beq_dec]
  simp [cmpK, D.ht, this]
theorem k_eqS {x y : List Nat} {k} : cmpK .Eq (.str x) (.str y) k = k (.bl (decide (x = y))) := by
  have : (D.str x).eq (.str y) = decide (x = y) := by by_cases h : x = y <;> simp [D.eq, h]
  simp [cmpK, D.ht, this]
theorem k_neS {x y : List Nat} {k} : cmpK .NotEq (.str x) (.str y) k = k (.bl (!decide (x = y))) := by
  have : (D.str x).eq (.str y) = decide (x = y) := by by_cases h : x = y <;> simp [D.eq, h]
  simp [cmpK, D.ht, this]
theorem k_eqB {x y : Bool} {k} : cmpK .Eq (.bl x) (.bl y) k = k (.bl (decide (x = y))) := by
  have : (D.bl x).eq (.bl y) = decide (x = y) := by simp [D.eq, beq_dec]
  simp [cmpK, D.ht, this]
theorem k_neB {x y : Bool} {k} : cmpK .NotEq (.bl x) (.bl y) k = k (.bl (!decide (x = y))) := by
  have : (D.bl x).eq (.bl y) = decide (x = y) := by simp [D.eq, beq_dec]
  simp [cmpK, D.ht, this]
theorem k_inS {c : Nat} {y : List Nat} {k} : cmpK .In (.str [c]) (.str y) k = k (.bl (decide (c ∈ y))) := by
  apply propext
  constructor
  · rintro ⟨c', e, h⟩
    cases e
    exact h
  · exact fun h => ⟨c, rfl, h⟩
theorem k_ninS {c : Nat} {y : List Nat} {k} : cmpK .NotIn (.str [c]) (.str y) k = k (.bl (!decide (c ∈ y))) := by
  apply propext
  constructor
  · rintro ⟨c', e, h⟩
    cases e
    exact h
  · exact fun h => ⟨c, rfl, h⟩
theorem any_strs {x : List Nat} : ∀ {ys : List (List Nat)}, ((ys.map D.str).any fun y => y.eq (.str x)) = decide (x ∈ ys)
  | [] => by simp
  | y :: ys => by
    have ih := @any_strs x ys
    simp only [List.map_cons, List.any_cons, ih]
    by_cases h : y = x
    · simp [D.eq, h]
    · simp [D.eq, h, Ne.symm h]
theorem any_ints {x : Int} : ∀ {ys : List Int}, ((ys.map D.int).any fun y => y.eq (.int x)) = decide (x ∈ ys)
  | [] => by simp
  | y :: ys => by
    have ih := @any_ints x ys
    simp only [List.map_cons, List.any_cons, ih]
    by_cases h : y = x
    · simp [D.eq, h]
    · simp [D.eq, h, Ne.symm h]
theorem x_lst {xs : List D} {i : Int} {k} : idxK true (.lst xs) (.int i) k = glbK (atI xs i) k := by
  show (match atI xs i with | some x => k x | none => False) = _
  cases atI xs i <;> rfl
theorem x_tup {xs : List D} {i : Int} {k} : idxK false (.tup xs) (.int i) k = glbK (atI xs i) k := by
  show (match atI xs i with | some x => k x | none => False) = _
  cases atI xs i <;> rfl
def chrK (o : Option Nat) (k : Nat → Prop) : Prop := match o with | some x => k x | none => False
theorem x_str {xs : List Nat} {i : Int} {k} : idxK false (.str xs) (.int i) k = chrK (atI xs i) (fun c => xs.length ≤ sizeLine ∧ k (.str [c])) := by
  show (match atI xs i with | some x => xs.length ≤ sizeLine ∧ k (.str [x]) | none => False) = _
  cases atI xs i <;> rfl
theorem l_lst {xs lo hi} {k} : slcK true (.lst xs) lo hi k = k (.lst (cutL xs lo hi)) := rfl
theorem l_tup1 {xs lo hi} {k} : slcK true (.tup xs) lo hi k = (D.deps 0 xs = true ∧ k (.tup (cutL xs lo hi))) := rfl
theorem f_tupT1 {xs} {k} : biK (.tuple true) [.tup xs] k = (D.deps 0 xs = true ∧ k (.tup xs)) := rfl
theorem it_t1 {xs} (h : D.deps 0 xs = true) : D.items true (.tup xs) = some xs := if_pos h
theorem l_tup {xs lo hi} {k} : slcK false (.tup xs) lo hi k = k (.tup (cutL xs lo hi)) := rfl
theorem l_str {xs lo hi} {k} : slcK false (.str xs) lo hi k = (xs.length ≤ sizeLine ∧ k (.str (cutL xs lo hi))) := rfl
theorem f_lenD {ep ks vs k} : biK .len [.dic ep ks vs] k = k (.int ks.length) := rfl
theorem f_dict {xs k} : biK .dict [.lst xs] k = dictK xs k := rfl
theorem f_sort {xs k} : biK .sorted [.lst xs] k = sortK xs k := rfl
theorem f_lenS {s} {k} : biK .len [.str s] k = (s.length ≤ sizeLine ∧ k (.int s.length)) := rfl
theorem f_lenL {s} {k} : biK .len [.lst s] k = k (.int s.length) := rfl
theorem f_lenT {s} {k} : biK .len [.tup s] k = k (.int s.length) := rfl
theorem f_intB {c} {k} : biK .int [.bl c] k = k (.int (if c then 1 else 0)) := rfl
theorem f_intI {c} {k} : biK .int [.int c] k = k (.int c) := rfl
theorem f_listL {xs} {k} : biK (.list true) [.lst xs] k = k (.lst xs) := rfl
theorem f_listT {xs} {k} : biK (.list false) [.tup xs] k = k (.lst xs) := rfl
theorem f_tupL {xs} {k} : biK (.tuple true) [.lst xs] k = k (.tup xs) := rfl
theorem f_tupT {xs} {k} : biK (.tuple false) [.tup xs] k = k (.tup xs) := rfl
theorem f_maxL {is : List Int} {k : D → Prop} (h0 : 0 < is.length) (h : ∀ m ∈ is, (∀ y ∈ is, y ≤ m) → k (.int m)) : biK .max [.lst (is.map .int)] k := ⟨is, rfl, h0, h⟩
theorem f_minL {is : List Int} {k : D → Prop} (h0 : 0 < is.length) (h : ∀ m ∈ is, (∀ y ∈ is, m ≤ y) → k (.int m)) : biK .min [.lst (is.map .int)] k := ⟨is, rfl, h0, h⟩
theorem f_max {x y : Int} {k} : biK .max [.int x, .int y] k = k (.int (if y > x then y else x)) := rfl
theorem f_min {x y : Int} {k} : biK .min [.int x, .int y] k = k (.int (if y < x then y else x)) := rfl
theorem f_isb {d} {k} : biK .isbool [d] k = (d.pl = true ∧ k (.bl (match d with | .bl _ => true | _ => false))) := rfl
theorem f_isi {d} {k} : biK .isint [d] k = (d.pl = true ∧ k (.bl (match d with | .int _ => true | .bl _ => true | _ => false))) := rfl
theorem f_iss {d} {k} : biK .isstr [d] k = (d.pl = true ∧ k (.bl (match d with | .str _ => true | _ => false))) := rfl
theorem f_isl {d} {k} : biK .islist [d] k = (d.pl = true ∧ k (.bl (match d with | .lst _ => true | _ => false))) := rfl
theorem f_ist {d} {k} : biK .istup [d] k = (d.pl = true ∧ k (.bl (match d with | .tup _ => true | _ => false))) := rfl
theorem f_all {bs : List Bool} {k} (h : k (.bl (bs.all id))) : biK .all [.lst (bs.map .bl)] k := ⟨bs, rfl, h⟩
theorem f_any {bs : List Bool} {k} (h : k (.bl (bs.any id))) : biK .any [.lst (bs.map .bl)] k := ⟨bs, rfl, h⟩
theorem m_join {sep : List Nat} {ys : List (List Nat)} {k} (hz : (ys.map List.length).sum + ys.length * sep.length ≤ 16777216) (h : k (.str (joinL sep ys))) : bmK .join (.str sep) [.lst (ys.map .str)] k := by
  have : strsOf (ys.map .str) = some ys := by
    induction ys with
    | nil => rfl
    | cons y ys ih =>
      have hz' : (ys.map List.length).sum + ys.length * sep.length ≤ 16777216 := by
        simp only [List.map_cons, List.sum_cons, List.length_cons, Nat.add_mul] at hz; omega
      show (strsOf (ys.map .str)).map (y :: ·) = _
      clear h hz hz'
      have : strsOf (ys.map .str) = some ys := by
        clear ih
        induction ys with
        | nil => rfl
        | cons y ys ih => show (strsOf (ys.map .str)).map (y :: ·) = _; rw [ih]; rfl
      rw [this]; rfl
  show (match strsOf (ys.map .str) with | some ys => (ys.map List.length).sum + ys.length * sep.length ≤ 16777216 ∧ k (.str (joinL sep ys)) | none => False)
  rw [this]
  exact ⟨hz, h⟩
theorem u_app {xs d} {k : D → D → Prop} : muK .append (.lst xs) [d] k = (xs.length < sizeLine ∧ k .non (.lst (xs ++ [d]))) := rfl
theorem u_ext {xs ys} {k : D → D → Prop} : muK .extend (.lst xs) [.lst ys] k = (xs.length + ys.length ≤ sizeLine ∧ k .non (.lst (xs ++ ys))) := rfl
theorem u_clear {xs} {k : D → D → Prop} : muK .clear (.lst xs) [] k = k .non (.lst []) := rfl
theorem g_nm {i d} {k} : asgK (.nm i) d ρ k = k (ρ.set i (some d)) := rfl
theorem g_tp2 {i j d e} {k} : asgK (.tp [i, j]) (.tup [d, e]) ρ k = k ((ρ.set i (some d)).set j (some e)) := by
  show (_ ∧ _) = _
  simp
theorem g_tp3 {i j l d e f} {k} : asgK (.tp [i, j, l]) (.tup [d, e, f]) ρ k = k (((ρ.set i (some d)).set j (some e)).set l (some f)) := by
  show (_ ∧ _) = _
  simp
theorem g_tpo1 {i a d} {k} : asgK (.tpo [(i, a)]) (.tup [d]) ρ k = (d.dep a = true ∧ k (ρ.set i (some d))) := by
  show (_ ∧ _ ∧ _) = _
  simp [depsOk]
theorem g_tpo2 {i j a b d e} {k} : asgK (.tpo [(i, a), (j, b)]) (.tup [d, e]) ρ k = ((d.dep a = true ∧ e.dep b = true) ∧ k ((ρ.set i (some d)).set j (some e))) := by
  show (_ ∧ _ ∧ _) = _
  simp [depsOk, and_assoc]
theorem g_tpo3 {i j l a b c d e f} {k} : asgK (.tpo [(i, a), (j, b), (l, c)]) (.tup [d, e, f]) ρ k = ((d.dep a = true ∧ e.dep b = true ∧ f.dep c = true) ∧ k (((ρ.set i (some d)).set j (some e)).set l (some f))) := by
  show (_ ∧ _ ∧ _) = _
  simp [depsOk, and_assoc]
theorem g_tpo4 {i j l m a b c u d e f g} {k} : asgK (.tpo [(i, a), (j, b), (l, c), (m, u)]) (.tup [d, e, f, g]) ρ k = ((d.dep a = true ∧ e.dep b = true ∧ f.dep c = true ∧ g.dep u = true) ∧ k ((((ρ.set i (some d)).set j (some e)).set l (some f)).set m (some g))) := by
  show (_ ∧ _ ∧ _) = _
  simp [depsOk, and_assoc]
theorem pl_n : D.pl .non = true := rfl
theorem pl_b {b} : D.pl (.bl b) = true := rfl
theorem pl_i {b} : D.pl (.int b) = true := rfl
theorem pl_s {b} : D.pl (.str b) = true := rfl
theorem pl_t {b} : D.pl (.tup b) = true := rfl
theorem pl_l {b} : D.pl (.lst b) = true := rfl
theorem dp_n {k} : D.dep k .non = true := by simp [D.dep]
theorem dp_b {k b} : D.dep k (.bl b) = true := by simp [D.dep]
theorem dp_i {k b} : D.dep k (.int b) = true := by simp [D.dep]
theorem dp_s {k b} : D.dep k (.str b) = true := by simp [D.dep]
theorem dp_t {k b} : D.dep k (.tup b) = D.deps k b := by cases k <;> simp [D.dep]
theorem dp_l {k b} : D.dep (k + 1) (.lst b) = D.deps k b := by simp [D.dep]
theorem dps_n {k} : D.deps k [] = true := rfl
theorem dps_c {k d ds} : D.deps k (d :: ds) = (D.dep k d && D.deps k ds) := rfl
theorem dps_a {k ds es} : D.deps k (ds ++ es) = (D.deps k ds && D.deps k es) := by
  induction ds with
  | nil => simp [D.deps]
  | cons a as ih => simp [D.deps, ih, Bool.and_assoc]
theorem dps_m {α : Type} {k} {f : α → D} {xs : List α} (h : ∀ x ∈ xs, (f x).dep k = true) : D.deps k (xs.map f) = true := deps_iff.mpr fun d hd => by
  obtain ⟨x, hx, rfl⟩ := List.mem_map.mp hd
  exact h x hx
theorem dps_mi {k} {xs : List Int} : D.deps k (xs.map .int) = true := dps_m fun _ _ => dp_i
theorem dps_ms {k} {xs : List (List Nat)} : D.deps k (xs.map .str) = true := dps_m fun _ _ => dp_s
def someK {α : Type} (o : Option α) (k : α → Prop) : Prop := match o with | some x => k x | none => False
theorem w_set {xs : List D} {i : Int} {v} {k} : setK (.lst xs) (.int i) v k = someK (ixN xs.length i) (fun j => k (.lst (xs.set j v))) := by
  show (match ixN xs.length i with | some j => k (.lst (xs.set j v)) | none => False) = _
  cases ixN xs.length i <;> rfl
theorem r_1 {j : Int} {k} : rngK [.int j] k = (-(2 ^ 62) ≤ j ∧ j < 2 ^ 62 ∧ k ((List.range j.toNat).map fun (i : Nat) => .int (i : Int))) := rfl
theorem r_2 {i j : Int} {k} : rngK [.int i, .int j] k = ((-(2 ^ 62) ≤ i ∧ i < 2 ^ 62 ∧ -(2 ^ 62) ≤ j ∧ j < 2 ^ 62) ∧ k ((List.range (j - i).toNat).map fun (t : Nat) => .int (i + (t : Int)))) := rfl
theorem rs_nm {i : Nat} {ρ ρ' : Penv} : restore (Tgt.nm i).slots ρ ρ' = (ρ[i]?).elim ρ' (fun x => ρ'.set i x) := rfl
theorem n_neg {i : Int} {k} : negK (.int i) k = k (.int (-i)) := rfl
theorem n_not {b : Bool} {k} : notK (some b) k = k (.bl (!b)) := rfl
theorem n_bool {b : Bool} {k} : boolK (some b) k = k b := rfl
theorem n_items {xs} {k} : itemsK (some xs) k = k xs := rfl
theorem n_some {α : Type} {x : α} {k} : someK (some x) k = k x := rfl
theorem n_chr {x : Nat} {k} : chrK (some x) k = k x := rfl
theorem n_lst {xs} {P} : lstK (some (some (.lst xs))) P = P := rfl
theorem n_any {d} {P} : anyK (some (some d)) P = P := rfl
theorem n_opt {i} {k} : optIntK (.int i) k = k (some i) := rfl
theorem n_or {c : Bool} {A B : Prop} : bopK true (some c) A B = ((c = true → A) ∧ (c = false → B)) := by cases c <;> simp [bopK]
theorem n_and {c : Bool} {A B : Prop} : bopK false (some c) A B = ((c = true → B) ∧ (c = false → A)) := by cases c <;> simp [bopK]
theorem n_chn {c : Bool} {A B : Prop} : chnK (.bl c) A B = ((c = true → A) ∧ (c = false → B)) := by cases c <;> simp [chnK]
theorem tr_b {b} : D.truth (.bl b) = some b := rfl
theorem tr_i {i} : D.truth (.int i) = some (i != 0) := rfl
theorem tr_n : D.truth .non = some false := rfl
theorem tr_l {xs} : D.truth (.lst xs) = some (!xs.isEmpty) := rfl
theorem tr_t {xs} : D.truth (.tup xs) = some (!xs.isEmpty) := rfl
theorem itz_l {xs} : D.itz true (.lst xs) = some xs := rfl
theorem itz_t {xs} : D.itz false (.tup xs) = some xs := rfl
theorem itz_s {s : List Nat} : D.itz false (.str s) = some (s.map fun c => .str [c]) := rfl
theorem it_d {ep ks vs} : D.items true (.dic ep ks vs) = some ks := rfl
theorem it_l {xs} : D.items true (.lst xs) = some xs := rfl
theorem it_t {xs} : D.items false (.tup xs) = some xs := rfl
theorem it_s {s : List Nat} : D.items false (.str s) = some (s.map fun c => .str [c]) := rfl
/-! loops -/
theorem forL {step : D → Penv → (Penv → Prop) → Prop} {Kn : Penv → Prop} (Inv : Nat → Penv → Prop) : ∀ {xs : List D} {ρ : Penv}, Inv 0 ρ → (∀ i x ρ k, xs[i]? = some x → Inv i ρ → (∀ ρ', Inv (i + 1) ρ' → k ρ') → step x ρ k) → (∀ ρ, Inv xs.length ρ → Kn ρ) → forLoop step Kn xs ρ := by
  intro xs
  induction xs generalizing Inv with
  | nil => intro ρ h0 _ he; exact he ρ h0
  | cons x xs ih =>
    intro ρ h0 hs he
    refine hs 0 x ρ _ rfl h0 fun ρ' h1 => ?_
    exact ih (fun i => Inv (i + 1)) h1 (fun i y ρ k e => hs (i + 1) y ρ k (by simpa using e)) he
theorem compL {step : D → Penv → (Option D → Penv → Prop) → Prop} {Kn : List D → Penv → Prop} (Inv : Nat → List D → Penv → Prop) : ∀ {xs acc : List D} {ρ : Penv}, Inv 0 acc ρ →
    (∀ i x acc ρ k, xs[i]? = some x → Inv i acc ρ → (∀ o ρ', Inv (i + 1) (acc ++ o.toList) ρ' → k o ρ') → step x ρ k) → (∀ acc ρ, Inv xs.length acc ρ → Kn acc ρ) → compLoop step Kn xs acc ρ := by
  intro xs
  induction xs generalizing Inv with
  | nil => intro acc ρ h0 _ he; exact he acc ρ h0
  | cons x xs ih =>
    intro acc ρ h0 hs he
    refine hs 0 x acc ρ _ rfl h0 fun o ρ' h1 => ?_
    refine ih (fun i => Inv (i + 1)) ?_ (fun i y acc ρ k e => hs (i + 1) y acc ρ k (by simpa using e)) he
    cases o with
    | none => simpa using h1
    | some d => exact h1
theorem set_back {ρ : Penv} {i : Nat} {z o : Option D} (h : ρ[i]? = some o) : (ρ.set i z).set i o = ρ := by
  apply List.ext_getElem?
  intro j
  by_cases e : i = j
  · subst e
    have := (List.getElem?_eq_some_iff.mp h).1
    rw [List.getElem?_set_self (by rw [List.length_set]; exact this), h]
  · rw [List.getElem?_set_ne e, List.getElem?_set_ne e]
/-- [e for x in xs]: what the element leaves in the places hangs on a -/
theorem compT {C : Pm.Ctx} {α : Type} (R : α → Penv) (P : Nat → List D → α → Prop) {i : Nat} {o : Option D} (hR : ∀ a, (R a)[i]? = some o) {e : E} {xs : List D} {Kn : List D → Penv → Prop} (a0 : α) (h0 : P 0 [] a0)
    (hs : ∀ j x acc a (k : D → Penv → Prop), xs[j]? = some x → P j acc a → (∀ y a', P (j + 1) (acc ++ [y]) a' → k y ((R a').set i (some x))) → evalE C e ((R a).set i (some x)) k (fun _ _ => False))
    (he : ∀ acc a, P xs.length acc a → Kn acc (R a)) : compLoop (stepC C (.nm i) .none e) (fun acc ρ' => Kn acc (restore [i] (R a0) ρ')) xs [] (R a0) := by
  refine compL (fun j acc ρ => ∃ a z, ρ = (R a).set i z ∧ P j acc a) ⟨a0, o, ?_, h0⟩ (fun j x acc ρ k hx hI hk => ?_) (fun acc ρ hI => ?_)
  · have := set_back (z := o) (hR a0)
    rw [List.set_set] at this
    exact this.symm
  · obtain ⟨a, z, rfl, hP⟩ := hI
    show evalE C e ((((R a).set i z).set i none).set i (some x)) _ _
    rw [List.set_set, List.set_set]
    refine hs j x acc a _ hx hP fun y a' hP' => ?_
    exact hk (some y) _ ⟨a', some x, rfl, hP'⟩
  · obtain ⟨a, z, rfl, hP⟩ := hI
    show Kn acc (((R a0)[i]?).elim ((R a).set i z) fun x => ((R a).set i z).set i x)
    rw [hR a0]
    show Kn acc (((R a).set i z).set i o)
    rw [set_back (hR a)]
    exact he acc a hP
/-- [g x for x in xs], nothing else changed -/
theorem compP {C : Pm.Ctx} {ρ : Penv} {i : Nat} {o : Option D} (hR : ρ[i]? = some o) (g : D → D) {e : E} {xs : List D} {Kn : List D → Penv → Prop}
    (hs : ∀ x ∈ xs, ∀ (k : D → Penv → Prop), k (g x) (ρ.set i (some x)) → evalE C e (ρ.set i (some x)) k (fun _ _ => False)) (he : Kn (xs.map g) ρ) : compLoop (stepC C (.nm i) .none e) (fun acc ρ' => Kn acc (restore [i] ρ ρ')) xs [] ρ := by
  refine compT (fun _ : Unit => ρ) (fun j acc _ => acc = (xs.take j).map g) (fun _ => hR) () (by simp) (fun j x acc a k hx hP hk => ?_) (fun acc a hP => ?_)
  · refine hs x (List.mem_of_getElem? hx) k (hk _ () ?_)
    rw [hP, List.take_add_one, hx]; simp
  · rw [List.take_length] at hP; rw [hP]; exact he
theorem whileL {c : Penv → (D → Penv → Prop) → Prop} {body : Penv → (Penv → Prop) → Prop} {nx : Penv → Prop} (Inv : Nat → Penv → Prop) {n : Nat} {ρ : Penv} (h0 : Inv n ρ)
    (hs : ∀ m ρ k, Inv m ρ → (∀ m' ρ', m' < m → Inv m' ρ' → k ρ') → c ρ fun d ρ' => cond2 d.truth (body ρ' k) (nx ρ'))
    (mono : ∀ ρ Q Q', (∀ d ρ', Q d ρ' → Q' d ρ') → c ρ Q → c ρ Q') : ∃ n, whileN c body nx n ρ := by
  refine ⟨n + 1, ?_⟩
  have : ∀ n m ρ, m ≤ n → Inv m ρ → whileN c body nx (n + 1) ρ := by
    intro n
    induction n with
    | zero =>
      intro m ρ hm h
      refine mono ρ _ _ (fun d ρ' h => ?_) (hs m ρ (whileN c body nx 0) h fun m' ρ' hlt _ => by omega)
      cases e : d.truth with
      | none => rw [e] at h; exact h
      | some b => rw [e] at h; cases b <;> exact h
    | succ n ih =>
      intro m ρ hm h
      refine mono ρ _ _ (fun d ρ' h => ?_) (hs m ρ (whileN c body nx (n + 1)) h fun m' ρ' hlt hi => ih m' ρ' (by omega) hi)
      cases e : d.truth with
      | none => rw [e] at h; exact h
      | some b => rw [e] at h; cases b <;> exact h
  exact this n n ρ (Nat.le_refl _) h0
theorem hts_strs {n : Nat} : ∀ {ys : List (List Nat)}, D.hts n (ys.map D.str) = true
  | [] => by simp [D.hts]
  | y :: ys => by simp [D.hts, D.ht, hts_strs (ys := ys)]
theorem hts_ints {n : Nat} : ∀ {ys : List Int}, D.hts n (ys.map D.int) = true
  | [] => by simp [D.hts]
  | y :: ys => by simp [D.hts, D.ht, hts_ints (ys := ys)]
theorem scs_strs : ∀ {ys : List (List Nat)}, (ys.map D.str).all D.sc = true
  | [] => rfl
  | y :: ys => by simp [D.sc]
theorem scs_ints : ∀ {ys : List Int}, (ys.map D.int).all D.sc = true
  | [] => rfl
  | y :: ys => by simp [D.sc]
theorem k_inTS {x : List Nat} {ys : List (List Nat)} {k} : cmpK .In (.str x) (.tup (ys.map .str)) k = k (.bl (decide (x ∈ ys))) := by
  show (_ ∧ _ ∧ k (.bl _)) = _
  rw [any_strs, scs_strs]; simp [D.sc]
theorem k_inLS {x : List Nat} {ys : List (List Nat)} {k} : cmpK .In (.str x) (.lst (ys.map .str)) k = k (.bl (decide (x ∈ ys))) := by
  show (_ ∧ _ ∧ k (.bl _)) = _
  rw [any_strs, hts_strs]; simp [D.ht]
theorem k_inLI {x : Int} {ys : List Int} {k} : cmpK .In (.int x) (.lst (ys.map .int)) k = k (.bl (decide (x ∈ ys))) := by
  show (_ ∧ _ ∧ k (.bl _)) = _
  rw [any_ints, hts_ints]; simp [D.ht]
theorem k_ninTS {x : List Nat} {ys : List (List Nat)} {k} : cmpK .NotIn (.str x) (.tup (ys.map .str)) k = k (.bl (!decide (x ∈ ys))) := by
  show (_ ∧ _ ∧ k (.bl _)) = _
  rw [any_strs, scs_strs]; simp [D.sc]
theorem k_ninLS {x : List Nat} {ys : List (List Nat)} {k} : cmpK .NotIn (.str x) (.lst (ys.map .str)) k = k (.bl (!decide (x ∈ ys))) := by
  show (_ ∧ _ ∧ k (.bl _)) = _
  rw [any_strs, hts_strs]; simp [D.ht]
theorem k_ninLI {x : Int} {ys : List Int} {k} : cmpK .NotIn (.int x) (.lst (ys.map .int)) k = k (.bl (!decide (x ∈ ys))) := by
  show (_ ∧ _ ∧ k (.bl _)) = _
  rw [any_ints, hts_ints]; simp [D.ht]
theorem small_ok {n m : Nat} (h : n ≤ m) (hm : m ≤ 1000000 := by decide) : n ≤ sizeLine := Nat.le_trans (Nat.le_trans h hm) (by decide)
/-! ends, items -/
def Ss.drop : Nat → Ss → Ss
  | 0, b => b
  | n + 1, .cons _ b => b.drop n
  | _ + 1, .nil => .nil
/-- the body of the for that stands at the n-th place -/
def Ss.at : Nat → Ss → S
  | 0, .cons s _ => s
  | n + 1, .cons _ b => b.at n
  | _, .nil => .pass
def S.body : S → Ss
  | .for_ _ _ _ b => b
  | .while_ _ _ b => b
  | .if_ _ a _ => a
  | _ => .nil
def S.els : S → Ss
  | .if_ _ _ b => b
  | _ => .nil
theorem ixN_nn {n : Nat} {i : Int} (h : 0 ≤ i) (h2 : i < n) : ixN n i = some i.toNat := by unfold ixN; rw [if_pos h, if_pos h2]
theorem atI_nn {α : Type} {xs : List α} {i : Int} (h : 0 ≤ i) : atI xs i = xs[i.toNat]? := by
  unfold atI ixN
  rw [if_pos h]
  by_cases h2 : i < xs.length
  · rw [if_pos h2]; rfl
  · rw [if_neg h2, List.getElem?_eq_none (by omega)]; rfl
theorem at0 {α : Type} {x : α} {xs : List α} : atI (x :: xs) 0 = some x := by rw [atI_nn (by decide)]; rfl
theorem at1 {α : Type} {x y : α} {xs : List α} : atI (x :: y :: xs) 1 = some y := by rw [atI_nn (by decide)]; rfl
theorem at2 {α : Type} {x y z : α} {xs : List α} : atI (x :: y :: z :: xs) 2 = some z := by rw [atI_nn (by decide)]; rfl
theorem at3 {α : Type} {x y z u : α} {xs : List α} : atI (x :: y :: z :: u :: xs) 3 = some u := by rw [atI_nn (by decide)]; rfl
theorem ix0 {n : Nat} : ixN (n + 1) 0 = some 0 := by rw [ixN_nn (by decide) (by omega)]; rfl
theorem ix1 {n : Nat} : ixN (n + 1 + 1) 1 = some 1 := by rw [ixN_nn (by decide) (by omega)]; rfl
theorem kt_rt {s : Sig} {Post : FOut → Prop} {d : D} : (ktOf s Post).rt d ρ = ∃ outs, Post (.ret d outs) ∧ outsAre (inosOf 0 s.ps) ρ outs := rfl
theorem kt_nx {s : Sig} {Post : FOut → Prop} : (ktOf s Post).nx ρ = ∃ outs, Post (.ret .non outs) ∧ outsAre (inosOf 0 s.ps) ρ outs := rfl
theorem kt_ex {s : Sig} {Post : FOut → Prop} {x : Exc} : (ktOf s Post).ex x ρ = Post (.exc x) := rfl
theorem in_nil {n} : inosOf n [] = [] := rfl
theorem in_inn {n k ps} : inosOf n (.inn k :: ps) = inosOf (n + 1) ps := rfl
theorem in_ino {n m k ps} : inosOf n (.ino m k :: ps) = (n, m, k) :: inosOf (n + 1) ps := rfl
theorem out0 {P : List D → Prop} : (∃ outs, P outs ∧ outsAre [] ρ outs) = P [] := by
  apply propext
  constructor
  · rintro ⟨outs, h, ho⟩
    cases outs with
    | nil => exact h
    | cons _ _ => exact ho.elim
  · exact fun h => ⟨[], h, trivial⟩
theorem out1 {P : List D → Prop} {p : Nat × Nat × Nat} {is : List (Nat × Nat × Nat)} : (∃ outs, P outs ∧ outsAre (p :: is) ρ outs) = varK (ρ[p.1]?) (fun x => ∃ outs, P (x :: outs) ∧ outsAre is ρ outs) := by
  apply propext
  constructor
  · rintro ⟨outs, h, ho⟩
    cases outs with
    | nil => exact ho.elim
    | cons d outs =>
      obtain ⟨h1, h2⟩ := ho
      rw [h1]
      exact ⟨outs, h, h2⟩
  · intro h
    cases e : ρ[p.1]? with
    | none => rw [e] at h; exact h.elim
    | some o =>
      cases o with
      | none => rw [e] at h; exact h.elim
      | some d =>
        rw [e] at h
        obtain ⟨outs, h1, h2⟩ := h
        exact ⟨d :: outs, h1, e, h2⟩
end Pm

namespace Pm
open PySem PySem.Spec L2
local macro_rules | `(tactic| lt_chain) => `(tactic| try simp only [v_get, v_glb, c_bool, c_true, c_false, e_var, e_non, e_bl, e_int, e_str, e_glb, e_tup, e_lst, e_bin, e_cmp, e_chn, e_neg, e_not, e_bop, e_idx, e_slc, e_call, p_ret, p_exc, e_bi, e_bm, e_mu, e_comp, es_nil, es_cons, o_none, o_some, t_none, t_some,
  a_nil, a_val, a_own, a_ino, i_low, i_val, i_rng, i_enum, s_asg, s_setI, s_expr, s_ret, s_retN, s_if, s_for, s_brk, s_cnt, s_pass, ss_n, ss_c, b_add, b_cat, b_catL, b_catT, b_sub, b_mul, b_div, b_mod, b_pow, k_lt, k_le, k_gt, k_ge, k_eqI, k_neI, k_eqS, k_neS, k_eqB, k_neB, k_inS, k_ninS, k_inTS, k_inLS, k_inLI, k_ninTS, k_ninLS, k_ninLI,
  x_lst, x_tup, x_str, l_lst, l_tup, l_str, f_lenS, f_lenL, f_lenT, f_intB, f_intI, f_listL, f_listT, f_tupL, f_tupT, f_max, f_min, f_isb, f_isi, f_iss, f_isl, f_ist, u_app, u_ext, u_clear, g_nm, g_tp2, g_tp3, g_tpo1, g_tpo2, g_tpo3, g_tpo4, pl_n, pl_b, pl_i, pl_s, pl_t, pl_l, dp_n, dp_b, dp_i, dp_s, dp_t, dp_l, dps_n, dps_c, dps_mi, dps_ms, Bool.and_true, Bool.true_and, e_dp, e_ife, w_set, r_1, r_2, n_neg, n_not, n_bool, n_items, n_some, n_chr, n_lst, n_any, n_opt, n_bop, n_chn, tr_b, tr_i, tr_n, tr_l, tr_t, it_l, it_t, it_s,
  at0, at1, at2, at3, ix0, ix1, kt_rt, kt_nx, kt_ex, rs_nm, Option.elim_some, in_nil, in_inn, in_ino, out0, out1, decide_eq_true_eq, Bool.not_eq_true', Bool.not_eq_false', Bool.not_true, Bool.not_false, decide_eq_false_iff_not, Int.not_lt, Option.map_some, As.outs, setOuts, bmO, true_and, and_true, List.getElem?_cons_zero, List.getElem?_cons_succ, List.set_cons_zero, List.set_cons_succ, List.length_cons, List.length_nil, List.map_cons, List.map_nil, not_true_eq_false, not_false_eq_true, false_implies, forall_const, decide_true, decide_false, Bool.true_eq_false, Bool.false_eq_true, reduceCtorEq])

/-! ### what all laws share: the box of draws -/
structure Box where
  a : Int
  b : Int
  h : 0 ≤ b ∧ b < 2147483630
def Box.enc (x : Box) : D := .lst [.int x.a, .int x.b]
def takeSpec (ds : List D) (Post : FOut → Prop) : Prop := ∃ (x : Box) (w : Int), (0 < w ∧ w < 1073741824) ∧ ds = [x.enc, .int w] ∧ ∀ (v : Int) (y : Box), 0 ≤ v → v < w → Post (.ret (.int v) [y.enc])
def takeB : Ss := (.cons (.if_ (.cmp .Gt (.idx true (.var 0 .bor) (.int 0)) (.int 0)) (.cons (.asg (.nm 3) (.bin false .Mod (.idx true (.var 0 .bor) (.int 0)) (.var 1 .bor))) (.cons (.setI 0 (.int 0) (.bin false .FloorDiv (.idx true (.var 0 .bor) (.int 0)) (.var 1 .bor))) (.cons (.ret (.var 3 .bor)) .nil))) .nil) (.cons (.asg (.nm 2) (.bin false .Mod (.bin false .Mult (.idx true (.var 0 .bor) (.int 1)) (.int 69623)) (.int 2147483647))) (.cons (.setI 0 (.int 1) (.bin false .Add (.bin false .Mod (.bin false .Add (.bin false .Mult (.var 2 .bor) (.int 48271)) (.int 30103)) (.int 2147483629)) (.int 1))) (.cons (.ret (.bin false .Mod (.bin false .FloorDiv (.bin false .Add (.bin false .Mult (.var 2 .bor) (.int 2147483647)) (.idx true (.var 0 .bor) (.int 1))) (.int 8191)) (.var 1 .bor))) .nil))))
def boxB : Ss := (.cons (.asg (.nm 2) (.bin false .Add (.bin false .Mult (.int 7919) (.var 1 .bor)) (.int 11))) (.cons (.if_ (.cmp .Lt (.var 1 .bor) (.bi .len (.cons (.var 0 .bor) .nil))) (.cons (.asg (.nm 2) (.idx true (.var 0 .bor) (.var 1 .bor))) .nil) (.cons (.if_ (.cmp .Gt (.bi .len (.cons (.var 0 .bor) .nil)) (.int 0)) (.cons (.asg (.nm 2) (.bin false .Add (.var 2 .bor) (.bin false .Mult (.bin false .Mod (.idx true (.var 0 .bor) (.bin false .Mod (.var 1 .bor) (.bi .len (.cons (.var 0 .bor) .nil)))) (.int 2147483629)) (.int 69623)))) .nil) .nil) .nil)) (.cons (.asg (.nm 3) (.bin false .Add (.bin false .Mod (.bin false .Add (.bin false .Mult (.bin false .Mod (.var 2 .bor) (.int 2147483629)) (.int 48271)) (.bin false .Mult (.int 40692) (.var 1 .bor))) (.int 2147483629)) (.int 1))) (.cons (.ret (.lst (.cons (.bin false .Mult (.var 2 .bor) (.bi .int (.cons (.cmp .GtE (.var 2 .bor) (.bin false .Pow (.int 10) (.int 18))) .nil))) (.cons (.var 3 .bor) .nil)))) .nil))))
theorem take_ok {C : Pm.Ctx} {ds : List D} {Post : FOut → Prop} (h : takeSpec ds Post) : evalSs C takeB (ini 4 ds) (ktOf ⟨[.ino 0 1, .inn 0], .own 0, 0⟩ Post) := by
  obtain ⟨x, w, ⟨hw, hw2⟩, rfl, hp⟩ := h
  obtain ⟨a, b, hb⟩ := x
  show evalSs C takeB [some (Box.enc ⟨a, b, hb⟩), some (.int w), none, none] _
  unfold takeB Box.enc
  lt_chain
  refine ⟨fun h => ⟨hw, ⟨hw, hw2⟩, hp _ ⟨a / w, b, hb⟩ (Int.emod_nonneg _ (by omega)) (Int.emod_lt_of_pos _ hw)⟩, fun h => ?_⟩
  refine ⟨.inl ⟨by omega, by omega⟩, by decide, .inl ⟨by omega, by omega⟩, by decide, .inl ⟨by omega, by omega⟩, ⟨by decide, by decide⟩, hw, ?_⟩
  exact hp _ ⟨a, (b * 69623 % 2147483647 * 48271 + 30103) % 2147483629 + 1, by omega⟩ (Int.emod_nonneg _ (by omega)) (Int.emod_lt_of_pos _ hw)
def boxSpec (ds : List D) (Post : FOut → Prop) : Prop := ∃ (is : List Int) (k : Nat), (is.length ≤ 63 ∧ k ≤ 63) ∧ ds = [.lst (is.map .int), .int k] ∧ ∀ y : Box, Post (.ret y.enc [])
theorem box_ok {C : Pm.Ctx} {ds : List D} {Post : FOut → Prop} (h : boxSpec ds Post) : evalSs C boxB (ini 4 ds) (ktOf ⟨[.inn 1, .inn 0], .own 0, 1⟩ Post) := by
  obtain ⟨is, k, ⟨hl, hk⟩, rfl, hp⟩ := h
  have rest : ∀ z : Int, evalSs C (boxB.drop 2) [some (.lst (is.map .int)), some (.int k), some (.int z), none] (ktOf ⟨[.inn 1, .inn 0], .own 0, 1⟩ Post) := by
    intro z
    show evalSs C (.cons _ (.cons _ .nil)) _ _
    lt_chain
    refine ⟨by decide, .inl ⟨by omega, by omega⟩, .inl ⟨by omega, by omega⟩, by decide, ⟨by decide, by decide, by decide⟩, .inr ?_, by decide, ?_⟩
    · split <;> decide
    · exact hp ⟨_, (z % 2147483629 * 48271 + 40692 * k) % 2147483629 + 1, by omega⟩
  show evalSs C (.cons _ (.cons _ (boxB.drop 2))) [some (.lst (is.map .int)), some (.int k), none, none] _
  lt_chain
  refine ⟨.inl ⟨by decide, by decide⟩, fun h => ?_, fun h => ⟨fun h2 => ?_, fun h2 => rest _⟩⟩
  · have h' : k < (is.map D.int).length := by omega
    rw [atI_nn (by omega), Int.toNat_natCast, List.getElem?_map, List.getElem?_eq_getElem (by simpa using h')]
    exact rest _
  · have h3 : 0 ≤ (k : Int) % ((is.map D.int).length : Int) := Int.emod_nonneg _ (by omega)
    have h4 : (k : Int) % ((is.map D.int).length : Int) < (is.map D.int).length := Int.emod_lt_of_pos _ h2
    refine ⟨h2, ?_⟩
    rw [atI_nn h3, List.getElem?_map, List.getElem?_eq_getElem (by simp at h4 ⊢; omega)]
    lt_chain
    exact ⟨by decide, .inr ⟨by decide, by decide⟩, rest _⟩
/-! ### at work with texts, draws, loops -/
theorem sz_lb : 16777216 ≤ sizeLine := by decide
theorem str_at {s : List Nat} {v : Int} {k : Nat → Prop} (h0 : 0 ≤ v) (h1 : v < s.length) (h : ∀ c, k c) : chrK (atI s v) k := by
  rw [atI_nn h0, List.getElem?_eq_getElem (by omega)]; exact h _
theorem lst_at {s : List D} {v : Int} {k : D → Prop} (h0 : 0 ≤ v) (h1 : v < s.length) (h : ∀ c ∈ s, k c) : glbK (atI s v) k := by
  rw [atI_nn h0, List.getElem?_eq_getElem (by omega)]; exact h _ (List.getElem_mem _)
theorem cut_len {α : Type} {s : List α} {lo hi : Option Int} : (cutL s lo hi).length ≤ s.length := by
  unfold cutL; simp; omega
theorem joinL1 {s : List Nat} : joinL [] (s.map fun c => [c]) = s := by
  induction s with
  | nil => rfl
  | cons c s ih =>
    cases s with
    | nil => rfl
    | cons d s => simp only [List.map_cons, joinL] at ih ⊢; rw [ih]; rfl
theorem m_join1 {s : List Nat} {k} (hz : s.length ≤ 16777216) (h : k (.str s)) : bmK .join (.str []) [.lst (s.map fun c => .str [c])] k := by
  have e : (s.map fun c => D.str [c]) = (s.map fun c => [c]).map .str := by simp
  rw [e]
  refine m_join ?_ (by rw [joinL1]; exact h)
  have : ((s.map fun c => [c]).map List.length).sum = s.length := by
    clear hz e h
    induction s with
    | nil => rfl
    | cons c s ih => simp only [List.map_cons, List.sum_cons, List.length_cons, List.length_nil, ih]; omega
  rw [this]; simpa using hz
theorem set_self_of {ρ : Penv} {i : Nat} {o : Option D} (h : ρ[i]? = some o) : ρ.set i o = ρ := by
  apply List.ext_getElem?
  intro j
  rw [List.getElem?_set]
  split
  · next e => subst e; split
              · rw [h]
              · next hl => rw [List.getElem?_eq_none (by omega)]
  · rfl
theorem compU {C : Pm.Ctx} {α : Type} (R : α → Penv) (P : Nat → List D → α → Prop) {i : Nat} {o : Option D} {e : E} {xs : List D} {K : List D → Penv → Prop} (a0 : α) (hR : (R a0)[i]? = some o) (h0 : P 0 [] a0)
    (hs : ∀ j x acc a (k : D → Penv → Prop), xs[j]? = some x → P j acc a → (∀ y a', P (j + 1) (acc ++ [y]) a' → k y ((R a').set i (some x))) → evalE C e ((R a).set i (some x)) k (fun _ _ => False))
    (he : ∀ acc a z, P xs.length acc a → K acc ((R a).set i z)) : compLoop (stepC C (.nm i) .none e) K xs [] (R a0) := by
  refine compL (fun j acc ρ => ∃ a z, ρ = (R a).set i z ∧ P j acc a) ⟨a0, o, (set_self_of hR).symm, h0⟩ (fun j x acc ρ k hx hI hk => ?_) (fun acc ρ hI => ?_)
  · obtain ⟨a, z, rfl, hP⟩ := hI
    show evalE C e ((((R a).set i z).set i none).set i (some x)) _ _
    rw [List.set_set, List.set_set]
    exact hs j x acc a _ hx hP fun y a' hP' => hk (some y) _ ⟨a', some x, rfl, hP'⟩
  · obtain ⟨a, z, rfl, hP⟩ := hI
    exact he acc a z hP
end Pm

namespace Pm
open PySem PySem.Spec L2
local macro_rules | `(tactic| lt_chain) => `(tactic| try simp only [v_get, v_glb, c_bool, c_true, c_false, e_var, e_non, e_bl, e_int, e_str, e_glb, e_tup, e_lst, e_bin, e_cmp, e_chn, e_neg, e_not, e_bop, e_idx, e_slc, e_call, p_ret, p_exc, e_bi, e_bm, e_mu, e_comp, es_nil, es_cons, o_none, o_some, t_none, t_some,
  a_nil, a_val, a_own, a_ino, i_low, i_val, i_rng, i_enum, s_asg, s_setI, s_expr, s_ret, s_retN, s_if, s_for, s_brk, s_cnt, s_pass, ss_n, ss_c, b_add, b_cat, b_catL, b_catT, b_sub, b_mul, b_div, b_mod, b_pow, k_lt, k_le, k_gt, k_ge, k_eqI, k_neI, k_eqS, k_neS, k_eqB, k_neB, k_inS, k_ninS, k_inTS, k_inLS, k_inLI, k_ninTS, k_ninLS, k_ninLI,
  x_lst, x_tup, x_str, l_lst, l_tup, l_str, f_lenS, f_lenL, f_lenT, f_intB, f_intI, f_listL, f_listT, f_tupL, f_tupT, f_max, f_min, f_isb, f_isi, f_iss, f_isl, f_ist, u_app, u_ext, u_clear, g_nm, g_tp2, g_tp3, g_tpo1, g_tpo2, g_tpo3, g_tpo4, pl_n, pl_b, pl_i, pl_s, pl_t, pl_l, dp_n, dp_b, dp_i, dp_s, dp_t, dp_l, dps_n, dps_c, dps_mi, dps_ms, Bool.and_true, Bool.true_and, e_dp, e_ife, w_set, r_1, r_2, n_neg, n_not, n_bool, n_items, n_some, n_chr, n_lst, n_any, n_opt, n_bop, n_chn, tr_b, tr_i, tr_n, tr_l, tr_t, it_l, it_t, it_s,
  at0, at1, at2, at3, ix0, ix1, kt_rt, kt_nx, kt_ex, rs_nm, Option.elim_some, in_nil, in_inn, in_ino, out0, out1, decide_eq_true_eq, Bool.not_eq_true', Bool.not_eq_false', Bool.not_true, Bool.not_false, decide_eq_false_iff_not, Int.not_lt, Option.map_some, As.outs, setOuts, bmO, true_and, and_true, List.getElem?_cons_zero, List.getElem?_cons_succ, List.set_cons_zero, List.set_cons_succ, List.length_cons, List.length_nil, List.map_cons, List.map_nil, not_true_eq_false, not_false_eq_true, false_implies, forall_const, decide_true, decide_false, Bool.true_eq_false, Bool.false_eq_true, reduceCtorEq])
local macro_rules | `(tactic| trivial) => `(tactic| omega)
local macro_rules | `(tactic| trivial) => `(tactic| (have := sz_lb; (try simp only [List.length_append, List.length_cons, List.length_nil, List.length_map, List.length_range, List.length_reverse]); omega))
theorem erase_map {α β : Type} (f : α → β) : ∀ (xs : List α) (i : Nat), (xs.map f).eraseIdx i = (xs.eraseIdx i).map f
  | [], _ => rfl
  | x :: xs, 0 => rfl
  | x :: xs, i + 1 => by
    show f x :: (xs.map f).eraseIdx i = f x :: (xs.eraseIdx i).map f
    rw [erase_map f xs i]
theorem erase_perm {α : Type} : ∀ (xs : List α) (i : Nat) (h : i < xs.length), (xs[i] :: xs.eraseIdx i).Perm xs
  | x :: xs, 0, _ => List.Perm.refl _
  | x :: xs, i + 1, h => by
    show (xs[i]'(by simpa using h) :: x :: xs.eraseIdx i).Perm (x :: xs)
    exact (List.Perm.swap _ _ _).trans ((erase_perm xs i (by simpa using h)).cons x)
theorem u_popAt {xs : List D} {i : Int} {k : D → D → Prop} {d : D} (h0 : 0 ≤ i) (h1 : i < xs.length) (hs : i < 2 ^ 63) (hd : xs[i.toNat]? = some d) (h : k d (.lst (xs.eraseIdx i.toNat))) : muK .popAt (.lst xs) [.int i] k := by
  show (match ixN xs.length i with
    | some j => match xs[j]? with
      | some y => (-(2 ^ 63) ≤ i ∧ i < 2 ^ 63) ∧ k y (.lst (xs.eraseIdx j))
      | none => False
    | none => False)
  have : ixN xs.length i = some i.toNat := by unfold ixN; rw [if_pos h0, if_pos h1]
  rw [this]
  show (match xs[i.toNat]? with
      | some y => (-(2 ^ 63) ≤ i ∧ i < 2 ^ 63) ∧ k y (.lst (xs.eraseIdx i.toNat))
      | none => False)
  rw [hd]
  exact ⟨⟨by omega, hs⟩, h⟩
def abc : List Nat := [97, 98, 99, 100, 101, 102, 103, 104, 105, 106, 107, 108, 109, 110, 111, 112, 113, 114, 115, 116, 117, 118, 119, 120, 121, 122]
def chs (s : List Nat) : List D := s.map fun c => .str [c]
/-- one to m unlike letters -/
def lettersSpec (ds : List D) (Post : FOut → Prop) : Prop := ∃ (x : Box) (m : Int), (1 ≤ m ∧ m ≤ 26) ∧ ds = [x.enc, .int m] ∧ ∀ (s : List Nat) (y : Box), 1 ≤ s.length → (s.length : Int) ≤ m → s.Nodup → (∀ c ∈ s, c ∈ abc) → Post (.ret (.str s) [y.enc])
def lettersB (t : Nat) : Ss := (.cons (.asg (.nm 2) (.bi (.list false) (.cons (.str [97, 98, 99, 100, 101, 102, 103, 104, 105, 106, 107, 108, 109, 110, 111, 112, 113, 114, 115, 116, 117, 118, 119, 120, 121, 122]) .nil))) (.cons (.asg (.nm 3) (.str [])) (.cons (.for_ [some ⟨.own 0, 1⟩, some ⟨.frz, 0⟩, some ⟨.own 0, 1⟩, some ⟨.frz, 0⟩, none] (.nm 4) (.rng (.cons (.bin false .Add (.int 1) (.call t (.ino 0 (.val (.var 1 .bor) .nil)))) .nil)) (.cons (.asg (.nm 3) (.bin false .Add (.var 3 .bor) (.mu .popAt 2 (.cons (.call t (.ino 0 (.val (.bi .len (.cons (.var 2 .bor) .nil)) .nil))) .nil)))) .nil)) (.cons (.ret (.var 3 .bor)) .nil))))
theorem f_listS {s : List Nat} {k} : biK (.list false) [.str s] k = (s.length ≤ sizeLine ∧ k (.lst (s.map fun c => .str [c]))) := rfl
theorem letters_ok {C : Pm.Ctx} {t : Nat} (hC : C.spec t = takeSpec) {ds : List D} {Post : FOut → Prop} (h : lettersSpec ds Post) : evalSs C (lettersB t) (ini 5 ds) (ktOf ⟨[.ino 0 1, .inn 0], .own 0, 0⟩ Post) := by
  obtain ⟨x, m, ⟨hm, hm2⟩, rfl, hp⟩ := h
  show evalSs C (lettersB t) [some x.enc, some (.int m), none, none, none] _
  unfold lettersB
  lt_chain
  simp only [f_listS, hC]
  lt_chain
  refine ⟨by decide, x, m, ⟨by omega, by omega⟩, rfl, fun v y h0 h1 => ?_⟩
  lt_chain
  refine ⟨by omega, by omega, forL (fun i ρ => ∃ (b : Box) (s p : List Nat) (z : Option D), ρ = [some b.enc, some (.int m), some (.lst (p.map fun c => .str [c])), some (.str s), z] ∧ s.length = i ∧ (s ++ p).Perm abc) ⟨y, [], abc, none, rfl, rfl, List.Perm.refl _⟩ (fun i x ρ k hx hI hk => ?_) (fun ρ hI => ?_)⟩
  · obtain ⟨b, s, p, z, rfl, hs, hq⟩ := hI
    obtain ⟨j, hj, rfl⟩ := List.mem_map.mp (List.mem_of_getElem? hx)
    have hi : i < (1 + v).toNat := by
      have := (List.getElem?_eq_some_iff.mp hx).1
      simpa using this
    have hlen := hq.length_eq
    rw [List.length_append, show abc.length = 26 from rfl] at hlen
    unfold stepF
    lt_chain
    simp only [hC]
    refine ⟨b, _, ⟨by trivial, by trivial⟩, rfl, fun w b2 h2 h3 => ?_⟩
    lt_chain
    have h3' : w.toNat < p.length := by simp at h3; omega
    refine u_popAt h2 h3 (by omega) (d := .str [p[w.toNat]]) (by rw [List.getElem?_map, List.getElem?_eq_getElem h3']; rfl) ?_
    lt_chain
    refine ⟨by trivial, hk _ ⟨b2, s ++ [p[w.toNat]], p.eraseIdx w.toNat, some (.int j), ?_, by simp [hs], ?_⟩⟩
    · rw [erase_map]
    · refine List.Perm.trans ?_ hq
      rw [List.append_assoc]
      exact List.Perm.append_left _ (erase_perm _ _ h3')
  · obtain ⟨b, s, p, z, rfl, hs, hq⟩ := hI
    lt_chain
    have hi : s.length = (1 + v).toNat := by simpa using hs
    refine hp s b (by omega) (by omega) ?_ fun c hc => hq.subset (List.mem_append_left _ hc)
    have : (s ++ p).Nodup := hq.symm.nodup (by decide)
    exact (List.nodup_append.mp this).1
end Pm

set_option maxRecDepth 100000
namespace Pm
open PySem PySem.Spec L2
theorem compV {C : Pm.Ctx} {ρ : Penv} {i : Nat} {o : Option D} (g : D → D) {e : E} {xs : List D} {K : List D → Penv → Prop} (hR : ρ[i]? = some o)
    (hs : ∀ x ∈ xs, ∀ (k : D → Penv → Prop), k (g x) (ρ.set i (some x)) → evalE C e (ρ.set i (some x)) k (fun _ _ => False)) (he : ∀ z, K (xs.map g) (ρ.set i z)) : compLoop (stepC C (.nm i) .none e) K xs [] ρ := by
  refine compU (fun _ : Unit => ρ) (fun j acc _ => acc = (xs.take j).map g) () hR (by simp) (fun j x acc a k hx hP hk => ?_) (fun acc a z hP => ?_)
  · refine hs x (List.mem_of_getElem? hx) k (hk _ () ?_)
    rw [hP, List.take_add_one, hx]; simp
  · rw [List.take_length] at hP; rw [hP]; exact he z
theorem ht_strs (n : Nat) : ∀ a : List (List Nat), D.hts n (a.map .str) = true
  | [] => by simp [D.hts]
  | x :: xs => by
    have := ht_strs n xs
    simp [D.hts, D.ht, this]
theorem eqs_strs : ∀ a b : List (List Nat), D.eqs (a.map .str) (b.map .str) = decide (a = b)
  | [], [] => by simp [D.eqs]
  | [], y :: ys => by simp [D.eqs]
  | x :: xs, [] => by simp [D.eqs]
  | x :: xs, y :: ys => by
    have := eqs_strs xs ys
    simp only [List.map_cons, D.eqs, D.eq, this]
    by_cases h1 : x = y <;> by_cases h2 : xs = ys <;> simp [h1, h2]
theorem k_eqSS {a b : List (List Nat)} {k} : cmpK .Eq (.lst (a.map .str)) (.lst (b.map .str)) k = k (.bl (decide (a = b))) := by
  show (_ ∧ _ ∧ k (.bl (D.eqs (a.map .str) (b.map .str)))) = _
  rw [eqs_strs]
  simp [D.ht, ht_strs]
theorem k_neSS {a b : List (List Nat)} {k} : cmpK .NotEq (.lst (a.map .str)) (.lst (b.map .str)) k = k (.bl (decide (a ≠ b))) := by
  show (_ ∧ _ ∧ k (.bl (!D.eqs (a.map .str) (b.map .str)))) = _
  rw [eqs_strs]
  simp [D.ht, ht_strs]
theorem k_eqSSr {a : List (List Nat)} {k} : cmpK .Eq (.lst (a.map .str)) (.lst (a.map .str)) k = k (.bl true) := by rw [k_eqSS]; simp
theorem k_neSSr {a : List (List Nat)} {k} : cmpK .NotEq (.lst (a.map .str)) (.lst (a.map .str)) k = k (.bl false) := by rw [k_neSS]; simp
theorem bo_join {s} : bmO .join (.str s) = true := rfl
theorem bo_index {s} : bmO .index (.str s) = true := rfl
theorem bo_rev {s} : bmO .rev (.str s) = true := rfl
theorem m_rev {s : List Nat} {k} : bmK .rev (.str s) [] k = (s.length ≤ sizeLine ∧ k (.str s.reverse)) := rfl
end Pm

set_option maxRecDepth 100000
namespace Pm
open PySem PySem.Spec L2
local macro_rules | `(tactic| lt_chain) => `(tactic| try simp only [v_get, v_glb, c_bool, c_true, c_false, e_var, e_non, e_bl, e_int, e_str, e_glb, e_tup, e_lst, e_bin, e_cmp, e_chn, e_neg, e_not, e_bop, e_idx, e_slc, e_call, p_ret, p_exc, e_bi, e_bm, e_mu, e_comp, es_nil, es_cons, o_none, o_some, t_none, t_some,
  a_nil, a_val, a_own, a_ino, i_low, i_val, i_rng, i_enum, i_zip, zp, it2_l, it2_s, k_leS, b_mulS, s_asg, s_setI, s_expr, s_ret, s_retN, s_if, s_for, s_brk, s_cnt, s_pass, ss_n, ss_c, b_add, b_cat, b_catL, b_catT, b_sub, b_mul, b_div, b_mod, b_pow, k_lt, k_le, k_gt, k_ge, k_eqI, k_neI, k_eqS, k_neS, k_eqB, k_neB, k_inS, k_ninS, k_inTS, k_inLS, k_inLI, k_ninTS, k_ninLS, k_ninLI,
  x_lst, x_tup, x_str, l_lst, l_tup, l_str, f_lenS, f_lenL, f_lenT, f_intB, f_intI, f_listL, f_listT, f_tupL, f_tupT, f_max, f_min, f_isb, f_isi, f_iss, f_isl, f_ist, u_app, u_ext, u_clear, g_nm, g_tp2, g_tp3, g_tpo1, g_tpo2, g_tpo3, g_tpo4, pl_n, pl_b, pl_i, pl_s, pl_t, pl_l, dp_n, dp_b, dp_i, dp_s, dp_t, dp_l, dps_n, dps_c, dps_mi, dps_ms, Bool.and_true, Bool.true_and, e_dp, e_ife, w_set, r_1, r_2, n_neg, n_not, n_bool, n_items, n_some, n_chr, n_lst, n_any, n_opt, n_bop, n_chn, tr_b, tr_i, tr_n, tr_l, tr_t, it_l, it_t, it_s,
  at0, at1, at2, at3, ix0, ix1, kt_rt, kt_nx, kt_ex, rs_nm, Option.elim_some, in_nil, in_inn, in_ino, out0, out1, decide_eq_true_eq, Bool.not_eq_true', Bool.not_eq_false', Bool.not_true, Bool.not_false, decide_eq_false_iff_not, Int.not_lt, Option.map_some, As.outs, setOuts, bo_join, bo_index, bo_rev, m_rev, k_eqSSr, k_neSSr, f_listS, true_and, and_true, List.getElem?_cons_zero, List.getElem?_cons_succ, List.set_cons_zero, List.set_cons_succ, List.length_cons, List.length_nil, List.map_cons, List.map_nil, not_true_eq_false, not_false_eq_true, false_implies, forall_const, decide_true, decide_false, Bool.true_eq_false, Bool.false_eq_true, reduceCtorEq])
local macro_rules | `(tactic| trivial) => `(tactic| omega)
local macro_rules | `(tactic| trivial) => `(tactic| (have := sz_lb; (try simp only [List.length_append, List.length_cons, List.length_nil, List.length_map, List.length_range, List.length_reverse]); omega))
/-! ### texts of letters drawn, places of letters -/
def textSpec (ds : List D) (Post : FOut → Prop) : Prop := ∃ (x : Box) (L : List Nat) (m : Int), (1 ≤ L.length ∧ L.length ≤ 100000 ∧ 0 ≤ m ∧ m ≤ 100000) ∧ ds = [x.enc, .str L, .int m] ∧ ∀ (s : List Nat) (y : Box), (s.length : Int) ≤ m → (∀ c ∈ s, c ∈ L) → Post (.ret (.str s) [y.enc])
def textB (t : Nat) : Ss := (.cons (.ret (.bm .join (.str []) (.cons (.comp (.nm 3) (.rng (.cons (.call t (.ino 0 (.val (.bin false .Add (.var 2 .bor) (.int 1)) .nil))) .nil)) .none (.idx false (.var 1 .bor) (.call t (.ino 0 (.val (.bi .len (.cons (.var 1 .bor) .nil)) .nil))))) .nil))) .nil)
theorem str_at2 {s : List Nat} {v : Int} {k : Nat → Prop} (h0 : 0 ≤ v) (h1 : v < s.length) (h : ∀ c ∈ s, k c) : chrK (atI s v) k := by
  rw [atI_nn h0, List.getElem?_eq_getElem (by omega)]; exact h _ (List.getElem_mem _)
theorem text_ok {C : Pm.Ctx} {t : Nat} (hC : C.spec t = takeSpec) {ds : List D} {Post : FOut → Prop} (h : textSpec ds Post) : evalSs C (textB t) (ini 4 ds) (ktOf ⟨[.ino 0 1, .inn 0, .inn 0], .own 0, 0⟩ Post) := by
  obtain ⟨x, L, m, ⟨h1, h2, h3, h4⟩, rfl, hp⟩ := h
  show evalSs C (textB t) [some x.enc, some (.str L), some (.int m), none] _
  unfold textB
  lt_chain
  simp only [hC]
  refine ⟨x, _, ⟨by trivial, by trivial⟩, rfl, fun v y h5 h6 => ?_⟩
  lt_chain
  refine ⟨by trivial, by trivial, by trivial, ?_⟩
  refine compU (i := 3) (fun b : Box => [some b.enc, some (.str L), some (.int m), none]) (fun j acc _ => ∃ s : List Nat, s.length = j ∧ (∀ c ∈ s, c ∈ L) ∧ acc = s.map fun c => .str [c]) y rfl ⟨[], rfl, by simp, rfl⟩ (fun j x acc b k hx hP hk => ?_) (fun acc b z hP => ?_)
  · obtain ⟨u, hu, hm, rfl⟩ := hP
    lt_chain
    simp only [hC]
    refine ⟨by trivial, b, _, ⟨by trivial, by trivial⟩, rfl, fun n y5 h7 h8 => ?_⟩
    lt_chain
    refine str_at2 h7 (by simpa using h8) fun c hc => ?_
    refine ⟨by trivial, hk (.str [c]) y5 ⟨u ++ [c], by simp [hu], fun d hd => ?_, by simp⟩⟩
    simp at hd
    rcases hd with hd | rfl
    · exact hm d hd
    · exact hc
  · obtain ⟨u, hu, hm, rfl⟩ := hP
    have hu' : (u.length : Int) ≤ m := by simp at hu; omega
    lt_chain
    refine m_join1 (by omega) ?_
    exact hp _ _ hu' hm
def ix (L : List Nat) (c : Nat) : Nat := (idxOf c L).getD 0
theorem idx_mem {L : List Nat} {c : Nat} (h : c ∈ L) : ∃ i, idxOf c L = some i ∧ L[i]? = some c := by
  induction L with
  | nil => simp at h
  | cons x L ih =>
    by_cases e : x = c
    · subst e; exact ⟨0, by simp [idxOf], rfl⟩
    · have : c ∈ L := by simp at h; rcases h with h | h
                         · exact absurd h.symm e
                         · exact h
      obtain ⟨i, h1, h2⟩ := ih this
      exact ⟨i + 1, by simp [idxOf, e, h1], by simpa using h2⟩
theorem ix_at {L : List Nat} {c : Nat} (h : c ∈ L) : L[ix L c]? = some c := by
  obtain ⟨i, h1, h2⟩ := idx_mem h
  unfold ix; rw [h1]; exact h2
theorem ix_inj {L : List Nat} {c d : Nat} (hc : c ∈ L) (hd : d ∈ L) (h : ix L c = ix L d) : c = d := by
  have a := ix_at hc
  rw [h, ix_at hd] at a
  exact (Option.some.inj a).symm
theorem m_index {L : List Nat} {c : Nat} {k} (h : c ∈ L) (hk : k (.int (ix L c))) : bmK .index (.str L) [.str [c]] k := by
  obtain ⟨i, h1, h2⟩ := idx_mem h
  show (match idxOf c L with | some i => k (.int i) | none => False)
  unfold ix at hk
  rw [h1] at hk ⊢
  exact hk
theorem cut_take {α : Type} {s : List α} {i : Nat} (h : i ≤ s.length) : cutL s none (some (i : Int)) = s.take i := by
  unfold cutL
  rw [HT.sIx_nat, HT.sIx_none, Nat.min_eq_left h]
  simp
theorem lt_cons {x y : Int} {xs ys : List Int} : listLtI (x :: xs) (y :: ys) = if x = y then listLtI xs ys else decide (x < y) := rfl
theorem lt_self : ∀ xs : List Int, listLtI xs xs = false
  | [] => rfl
  | x :: xs => by rw [lt_cons, if_pos rfl, lt_self xs]
theorem lt_app {x y : Int} {xs ys : List Int} (h : x ≠ y) : ∀ p : List Int, listLtI (p ++ x :: xs) (p ++ y :: ys) = decide (x < y)
  | [] => by rw [List.nil_append, List.nil_append, lt_cons, if_neg h]
  | q :: p => by rw [List.cons_append, List.cons_append, lt_cons, if_pos rfl, lt_app h p]
end Pm

set_option maxRecDepth 100000
namespace Pm
open PySem L2
theorem whileM {c : Penv → (D → Penv → Prop) → Prop} {body : Penv → (Penv → Prop) → Prop} {nx : Penv → Prop} (Inv : Nat → Penv → Prop) {n : Nat} {ρ : Penv} (h0 : Inv n ρ)
    (hs : ∀ m ρ k, Inv m ρ → (∀ m' ρ', m' < m → Inv m' ρ' → k ρ') → c ρ fun d ρ' => cond2 d.truth (body ρ' k) (nx ρ')) : ∃ n, whileN c body nx n ρ := by
  refine ⟨n + 1, ?_⟩
  have key : ∀ (n : Nat) (ρ : Penv), (c ρ fun d ρ' => cond2 d.truth (body ρ' (whileN c body nx n)) (nx ρ')) → whileN c body nx (n + 1) ρ := by
    intro n ρ h
    have e : (fun (d : D) (ρ' : Penv) => (match d.truth with | some true => body ρ' (whileN c body nx n) | some false => nx ρ' | none => False)) = fun d ρ' => cond2 d.truth (body ρ' (whileN c body nx n)) (nx ρ') := by
      funext d ρ'
      cases d.truth with
      | none => rfl
      | some b => cases b <;> rfl
    rw [← e] at h
    exact h
  have : ∀ n m ρ, m ≤ n → Inv m ρ → whileN c body nx (n + 1) ρ := by
    intro n
    induction n with
    | zero =>
      intro m ρ hm h
      exact key 0 ρ (hs m ρ _ h fun m' ρ' hlt _ => by omega)
    | succ n ih =>
      intro m ρ hm h
      exact key (n + 1) ρ (hs m ρ _ h fun m' ρ' hlt hi => ih m' ρ' (by omega) hi)
  exact this n n ρ (Nat.le_refl _) h0
theorem u_pop {xs : List D} {d : D} {k : D → D → Prop} (h : k d (.lst xs)) : muK .pop (.lst (xs ++ [d])) [] k := by
  show (match (xs ++ [d])[(xs ++ [d]).length - 1]? with | some y => k y (.lst (xs ++ [d]).dropLast) | none => False)
  have e : (xs ++ [d])[(xs ++ [d]).length - 1]? = some d := by simp
  rw [e]
  simpa using h
/-- a comprehension of what g tells; S: what holds of the places from turn to turn -/
theorem compFM {C : Pm.Ctx} {t : Tgt} {c : OE} {e : E} {xs : List D} {ρ : Penv} {Kn : List D → Penv → Prop} (g : D → Option D) (S : Penv → Prop) (h0 : S ρ)
    (hs : ∀ x ∈ xs, ∀ ρ k, S ρ → (∀ ρ', S ρ' → k (g x) ρ') → stepC C t c e x ρ k) (he : ∀ ρ, S ρ → Kn (xs.filterMap g) ρ) : compLoop (stepC C t c e) Kn xs [] ρ := by
  refine compL (fun j acc ρ => acc = (xs.take j).filterMap g ∧ S ρ) ⟨rfl, h0⟩ (fun j x acc ρ k hx hI hk => ?_) (fun acc ρ hI => ?_)
  · obtain ⟨rfl, hS⟩ := hI
    refine hs x (List.mem_of_getElem? hx) ρ k hS fun ρ' hS' => hk _ _ ⟨?_, hS'⟩
    rw [List.take_add_one, hx, List.filterMap_append]
    show _ = _ ++ List.filterMap g [x]
    rw [List.filterMap_cons]
    cases g x <;> rfl
  · obtain ⟨rfl, hS⟩ := hI
    rw [List.take_length]; exact he ρ hS
/-- a for; S: what holds behind the first j turns -/
theorem nodup_len {xs : List Nat} {n : Nat} (h : xs.Nodup) (hb : ∀ x ∈ xs, x < n) : xs.length ≤ n := by
  induction n generalizing xs with
  | zero => cases xs with
    | nil => simp
    | cons x xs => exact absurd (hb x List.mem_cons_self) (by omega)
  | succ n ih =>
    by_cases hn : n ∈ xs
    · have h1 := ih (xs := xs.erase n) (h.erase n) fun x hx => by
        have h2 := (h.mem_erase_iff).mp hx
        have := hb x h2.2
        have := h2.1
        omega
      rw [List.length_erase_of_mem hn] at h1
      omega
    · have := ih h fun x hx => by
        have := hb x hx
        have : x ≠ n := fun e => hn (e ▸ hx)
        omega
      omega
theorem at_last {α : Type} {xs : List α} {d : α} : atI (xs ++ [d]) (-1) = some d := by
  unfold atI ixN
  simp
  rw [if_pos (by omega)]
  have : (-1 + ((xs.length : Int) + 1)).toNat = xs.length := by omega
  simp [this]
theorem ix_last {α : Type} {xs : List α} : atI xs (-1) = xs.getLast? := by
  cases h : xs.reverse with
  | nil => have : xs = [] := by simpa using h
           subst this; rfl
  | cons d r =>
    have : xs = r.reverse ++ [d] := by have := congrArg List.reverse h; simpa using this
    rw [this, at_last]; simp
end Pm

set_option maxRecDepth 100000
namespace Pm
open PySem L2
local macro_rules | `(tactic| lt_chain) => `(tactic| try simp only [v_get, v_glb, c_bool, c_true, c_false, e_var, e_non, e_bl, e_int, e_str, e_glb, e_tup, e_lst, e_bin, e_cmp, e_chn, e_neg, e_revl, n_rev, s_dead, e_not, e_bop, e_idx, e_slc, e_call, p_ret, p_exc, e_bi, e_bm, e_mu, e_comp, es_nil, es_cons, o_none, o_some, t_none, t_some,
  a_nil, a_val, a_own, a_ino, i_low, i_val, i_rng, i_enum, i_zip, zp, it2_l, it2_s, k_leS, b_mulS, b_mulL, s_asg, s_setI, s_expr, s_ret, s_retN, s_if, s_for, s_brk, s_cnt, s_pass, ss_n, ss_c, b_add, b_cat, b_catL, b_catT, b_sub, b_mul, b_div, b_mod, b_pow, k_lt, k_le, k_gt, k_ge, k_eqI, k_neI, k_eqS, k_neS, k_eqB, k_neB, k_inS, k_ninS, k_inTS, k_inLS, k_inLI, k_ninTS, k_ninLS, k_ninLI,
  x_lst, x_tup, x_str, l_lst, l_tup, l_str, f_lenS, f_lenL, f_lenT, f_intB, f_intI, f_listL, f_listT, f_tupL, f_tupT, f_max, f_min, f_isb, f_isi, f_iss, f_isl, f_ist, u_app, u_ext, u_clear, g_nm, g_tp2, g_tp3, g_tpo1, g_tpo2, g_tpo3, g_tpo4, pl_n, pl_b, pl_i, pl_s, pl_t, pl_l, dp_n, dp_b, dp_i, dp_s, dp_t, dp_l, dps_n, dps_c, dps_mi, dps_ms, Bool.and_true, Bool.true_and, e_dp, e_ife, w_set, r_1, r_2, n_neg, n_not, n_bool, n_items, n_some, n_chr, n_lst, n_any, n_opt, n_bop, n_chn, tr_b, tr_i, tr_n, tr_l, tr_t, it_l, it_t, it_s,
  at0, at1, at2, at3, ix0, ix1, kt_rt, kt_nx, kt_ex, rs_nm, Option.elim_some, in_nil, in_inn, in_ino, out0, out1, decide_eq_true_eq, Bool.not_eq_true', Bool.not_eq_false', Bool.not_true, Bool.not_false, decide_eq_false_iff_not, Int.not_lt, Option.map_some, As.outs, setOuts, bo_join, bo_index, bo_rev, m_rev, k_eqSSr, k_neSSr, f_listS, true_and, and_true, List.getElem?_cons_zero, List.getElem?_cons_succ, List.set_cons_zero, List.set_cons_succ, List.length_cons, List.length_nil, List.map_cons, List.map_nil, not_true_eq_false, not_false_eq_true, false_implies, forall_const, decide_true, decide_false, Bool.true_eq_false, Bool.false_eq_true, reduceCtorEq])
local macro_rules | `(tactic| trivial) => `(tactic| omega)
local macro_rules | `(tactic| trivial) => `(tactic| (have := sz_lb; (try simp only [List.length_append, List.length_cons, List.length_nil, List.length_map, List.length_range, List.length_reverse]); omega))
/-! ### machines drawn -/
structure Mach where
  L : List Nat
  mv : List (List Nat)
  ys : List Bool
def iD (xs : List Nat) : List D := xs.map fun (i : Nat) => .int i
def Mach.enc (M : Mach) : D := .tup [.str M.L, .tup (M.mv.map fun r => .tup (iD r)), .tup (M.ys.map .bl)]
structure Mach.ok (M : Mach) (L : List Nat) (m : Int) : Prop where
  l : M.L = L
  n1 : 1 ≤ M.mv.length
  nm : (M.mv.length : Int) ≤ m
  rows : ∀ r ∈ M.mv, r.length = L.length ∧ ∀ i ∈ r, i < M.mv.length
  ys : M.ys.length = M.mv.length
def machSpec (ds : List D) (Post : FOut → Prop) : Prop := ∃ (x : Box) (L : List Nat) (m : Int), (1 ≤ L.length ∧ L.length ≤ 26 ∧ 1 ≤ m ∧ m ≤ 100) ∧ ds = [x.enc, .str L, .int m] ∧ ∀ (M : Mach) (y : Box), M.ok L m → Post (.ret M.enc [y.enc])
def machInner (t : Nat) : Ss := (.cons (.asg (.nm 13) (.call t (.ino 0 (.val (.var 3 .bor) .nil)))) (.cons (.if_ (.bop true (.cmp .Eq (.var 4 .bor) (.int 1)) (.cmp .Eq (.var 4 .bor) (.int 4))) (.cons (.asg (.nm 13) (.bi .max (.cons (.var 8 .bor) (.cons (.var 13 .bor) .nil)))) .nil) .nil) (.cons (.if_ (.cmp .Eq (.var 4 .bor) (.int 2)) (.cons (.asg (.nm 13) (.idx true (.lst (.cons (.var 8 .bor) (.cons (.idx true (.var 6 .bor) (.var 11 .bor)) .nil))) (.call t (.ino 0 (.val (.int 2) .nil))))) .nil) .nil) (.cons (.if_ (.bop false (.cmp .Eq (.var 4 .bor) (.int 3)) (.cmp .Eq (.var 11 .bor) (.var 5 .bor))) (.cons (.asg (.nm 13) (.bin false .Mod (.bin false .Add (.var 8 .bor) (.int 1)) (.var 3 .bor))) .nil) .nil) (.cons (.expr (.mu .append 10 (.cons (.var 13 .bor) .nil))) .nil)))))
def machB (t : Nat) : Ss := (.cons (.asg (.nm 3) (.bin false .Add (.int 1) (.call t (.ino 0 (.val (.var 2 .bor) .nil))))) (.cons (.asg (.nm 4) (.call t (.ino 0 (.val (.int 5) .nil)))) (.cons (.asg (.nm 5) (.call t (.ino 0 (.val (.bi .len (.cons (.var 1 .bor) .nil)) .nil)))) (.cons (.asg (.nm 6) (.comp (.nm 12) (.val false (.var 1 .bor)) .none (.call t (.ino 0 (.val (.var 3 .bor) .nil))))) (.cons (.asg (.nm 7) (.lst .nil)) (.cons (.for_ [some ⟨.own 0, 1⟩, some ⟨.frz, 0⟩, some ⟨.frz, 0⟩, some ⟨.frz, 0⟩, some ⟨.frz, 0⟩, some ⟨.frz, 0⟩, some ⟨.own 0, 1⟩, some ⟨.own 0, 1⟩, none, none, none, none, none, none] (.nm 8) (.rng (.cons (.var 3 .bor) .nil)) (.cons (.asg (.nm 10) (.lst .nil)) (.cons (.for_ [some ⟨.own 0, 1⟩, some ⟨.frz, 0⟩, some ⟨.frz, 0⟩, some ⟨.frz, 0⟩, some ⟨.frz, 0⟩, some ⟨.frz, 0⟩, some ⟨.own 0, 1⟩, some ⟨.own 0, 1⟩, some ⟨.frz, 0⟩, none, some ⟨.own 0, 1⟩, none, none, none] (.nm 11) (.rng (.cons (.bi .len (.cons (.var 1 .bor) .nil)) .nil)) (machInner t)) (.cons (.expr (.mu .append 7 (.cons (.bi (.tuple true) (.cons (.var 10 .bor) .nil)) .nil))) .nil)))) (.cons (.asg (.nm 9) (.comp (.nm 8) (.rng (.cons (.var 3 .bor) .nil)) .none (.cmp .Eq (.call t (.ino 0 (.val (.int 2) .nil))) (.int 1)))) (.cons (.if_ (.cmp .Eq (.call t (.ino 0 (.val (.int 8) .nil))) (.int 0)) (.cons (.asg (.nm 9) (.bin true .Mult (.lst (.cons (.idx true (.var 9 .bor) (.int 0)) .nil)) (.var 3 .bor))) .nil) .nil) (.cons (.ret (.tup (.cons (.var 1 .bor) (.cons (.bi (.tuple true) (.cons (.var 7 .bor) .nil)) (.cons (.bi (.tuple true) (.cons (.var 9 .bor) .nil)) .nil))))) .nil)))))))))
theorem iD_snoc {xs : List Nat} {g : Nat} : iD (xs ++ [g]) = iD xs ++ [.int g] := by simp [iD]
theorem inner_ok {C : Pm.Ctx} {t : Nat} (hC : C.spec t = takeSpec) {b : Box} {L : List Nat} {m : Int} {r : Nat} {kd tu : Int} {gs : List Nat} {z7 z9 z12 z13 : Option D} {room j : Nat} {row : List Nat} {K : Kt}
    (hr : 1 ≤ r ∧ r ≤ 100) (hg : gs.length = L.length) (hgs : ∀ g ∈ gs, g < r) (hroom : room < r) (hj : j < L.length) (hj2 : L.length ≤ 26) (hrow : row.length ≤ 26)
    (hk : ∀ (b : Box) (g : Nat) (z13 : Option D), g < r → K.nx [some b.enc, some (.str L), some (.int m), some (.int r), some (.int kd), some (.int tu), some (.lst (iD gs)), z7, some (.int room), z9, some (.lst (iD (row ++ [g]))), some (.int j), z12, z13]) :
    evalSs C (machInner t) [some b.enc, some (.str L), some (.int m), some (.int r), some (.int kd), some (.int tu), some (.lst (iD gs)), z7, some (.int room), z9, some (.lst (iD row)), some (.int j), z12, z13] K := by
  have s4 : ∀ (b : Box) (g : Int), 0 ≤ g → g < r → evalSs C ((machInner t).drop 4) [some b.enc, some (.str L), some (.int m), some (.int r), some (.int kd), some (.int tu), some (.lst (iD gs)), z7, some (.int room), z9, some (.lst (iD row)), some (.int j), z12, some (.int g)] K := by
    intro b g h0 h1
    show evalSs C (.cons _ .nil) _ _
    lt_chain
    have := hk b g.toNat (some (.int g)) (by omega)
    rw [iD_snoc, show ((g.toNat : Nat) : Int) = g by omega] at this
    exact ⟨by have := sz_lb; simp [iD]; omega, this⟩
  have s3 : ∀ (b : Box) (g : Int), 0 ≤ g → g < r → evalSs C ((machInner t).drop 3) [some b.enc, some (.str L), some (.int m), some (.int r), some (.int kd), some (.int tu), some (.lst (iD gs)), z7, some (.int room), z9, some (.lst (iD row)), some (.int j), z12, some (.int g)] K := by
    intro b g h0 h1
    show evalSs C (.cons _ ((machInner t).drop 4)) _ _
    lt_chain
    refine ⟨fun _ => s4 b g h0 h1, fun _ => ⟨fun _ => ⟨by omega, s4 b _ (Int.emod_nonneg _ (by omega)) (Int.emod_lt_of_pos _ (by omega))⟩, fun _ => s4 b g h0 h1⟩⟩
  have s2 : ∀ (b : Box) (g : Int), 0 ≤ g → g < r → evalSs C ((machInner t).drop 2) [some b.enc, some (.str L), some (.int m), some (.int r), some (.int kd), some (.int tu), some (.lst (iD gs)), z7, some (.int room), z9, some (.lst (iD row)), some (.int j), z12, some (.int g)] K := by
    intro b g h0 h1
    show evalSs C (.cons _ ((machInner t).drop 3)) _ _
    lt_chain
    try simp only [hC]
    have hjg : j < gs.length := by omega
    refine ⟨fun _ => ?_, fun _ => s3 b g h0 h1⟩
    have e : atI (iD gs) (j : Int) = some (.int gs[j]) := by
      rw [atI_nn (by omega), Int.toNat_natCast, iD, List.getElem?_map, List.getElem?_eq_getElem hjg]; rfl
    rw [e]
    lt_chain
    have hgj := hgs gs[j] (List.getElem_mem _)
    refine ⟨by trivial, b, 2, ⟨by omega, by omega⟩, rfl, fun w y h5 h6 => ?_⟩
    lt_chain
    rcases (show w = 0 ∨ w = 1 by omega) with rfl | rfl
    · exact s3 y _ (by omega) (by omega)
    · exact s3 y _ (by omega) (by omega)
  have s1 : ∀ (b : Box) (g : Int), 0 ≤ g → g < r → evalSs C ((machInner t).drop 1) [some b.enc, some (.str L), some (.int m), some (.int r), some (.int kd), some (.int tu), some (.lst (iD gs)), z7, some (.int room), z9, some (.lst (iD row)), some (.int j), z12, some (.int g)] K := by
    intro b g h0 h1
    show evalSs C (.cons _ ((machInner t).drop 2)) _ _
    lt_chain
    have hmx : 0 ≤ (if g > (room : Int) then g else (room : Int)) ∧ (if g > (room : Int) then g else (room : Int)) < r := by split <;> omega
    refine ⟨fun _ => s2 b _ hmx.1 hmx.2, fun _ => ⟨fun _ => s2 b _ hmx.1 hmx.2, fun _ => s2 b g h0 h1⟩⟩
  show evalSs C (.cons _ ((machInner t).drop 1)) _ _
  lt_chain
  try simp only [hC]
  refine ⟨b, r, ⟨by omega, by omega⟩, rfl, fun v y h0 h1 => ?_⟩
  lt_chain
  exact s1 y v h0 h1
theorem rep_bl {b : Bool} : ∀ n, (List.replicate n [D.bl b]).flatten = (List.replicate n b).map .bl
  | 0 => rfl
  | n + 1 => by rw [List.replicate_succ, List.flatten_cons, List.replicate_succ, List.map_cons, rep_bl n]; rfl
theorem mach_ok {C : Pm.Ctx} {t : Nat} (hC : C.spec t = takeSpec) {ds : List D} {Post : FOut → Prop} (h : machSpec ds Post) : evalSs C (machB t) (ini 14 ds) (ktOf ⟨[.ino 0 1, .inn 0, .inn 0], .own 0, 0⟩ Post) := by
  obtain ⟨x, L, m, ⟨h1, h2, h3, h4⟩, rfl, hp⟩ := h
  show evalSs C (machB t) [some x.enc, some (.str L), some (.int m), none, none, none, none, none, none, none, none, none, none, none] _
  unfold machB
  lt_chain
  try simp only [hC]
  refine ⟨x, m, ⟨by omega, by omega⟩, rfl, fun v y h5 h6 => ?_⟩
  lt_chain
  try simp only [hC]
  obtain ⟨r, hr⟩ : ∃ r : Nat, (r : Int) = 1 + v := ⟨(1 + v).toNat, by omega⟩
  rw [← hr]
  refine ⟨y, 5, ⟨by omega, by omega⟩, rfl, fun kd y2 h7 h8 => ?_⟩
  lt_chain
  refine ⟨by trivial, y2, _, ⟨by omega, by omega⟩, rfl, fun tu y3 h9 h10 => ?_⟩
  lt_chain
  refine ⟨by trivial, ?_⟩
  refine compU (i := 12) (fun b : Box => [some b.enc, some (.str L), some (.int m), some (.int r), some (.int kd), some (.int tu), none, none, none, none, none, none, none, none]) (fun j acc _ => ∃ gs : List Nat, gs.length = j ∧ (∀ g ∈ gs, g < r) ∧ acc = iD gs) y3 rfl ⟨[], rfl, by simp, rfl⟩ (fun j x acc b k hx hP hk => ?_) (fun acc b z hP => ?_)
  · obtain ⟨gs, hg, hm, rfl⟩ := hP
    lt_chain
    try simp only [hC]
    refine ⟨b, r, ⟨by omega, by omega⟩, rfl, fun g y5 h7 h8 => ?_⟩
    refine hk (.int g) y5 ⟨gs ++ [g.toNat], by simp [hg], fun q hq => ?_, by rw [iD_snoc, show ((g.toNat : Nat) : Int) = g by omega]⟩
    simp at hq
    rcases hq with hq | rfl
    · exact hm q hq
    · omega
  obtain ⟨gs, hg, hgs, rfl⟩ := hP
  have hg2 : gs.length = L.length := by simpa using hg
  lt_chain
  refine ⟨by trivial, by omega, by omega, forL (fun i ρ => ∃ (b : Box) (ms : List (List Nat)) (z8 z10 z11 z13 : Option D), ρ = [some b.enc, some (.str L), some (.int m), some (.int r), some (.int kd), some (.int tu), some (.lst (iD gs)), some (.lst (ms.map fun q => .tup (iD q))), z8, none, z10, z11, none, z13] ∧ ms.length = i ∧ ∀ q ∈ ms, q.length = L.length ∧ ∀ c ∈ q, c < r) ⟨b, [], _, _, _, _, rfl, rfl, by simp⟩ (fun i x ρ k hx hI hk => ?_) (fun ρ hI => ?_)⟩
  · obtain ⟨b, ms, z8, z10, z11, z13, rfl, hn, hm⟩ := hI
    have hi : i < r := by
      have := (List.getElem?_eq_some_iff.mp hx).1
      simp at this; omega
    have ex : x = .int i := by
      rw [List.getElem?_map, List.getElem?_range (by omega)] at hx
      cases hx; rfl
    subst ex
    unfold stepF
    lt_chain
    refine ⟨by trivial, by trivial, by trivial, by trivial, forL (fun j ρ => ∃ (b : Box) (row : List Nat) (z11 z13 : Option D), ρ = [some b.enc, some (.str L), some (.int m), some (.int r), some (.int kd), some (.int tu), some (.lst (iD gs)), some (.lst (ms.map fun q => .tup (iD q))), some (.int i), none, some (.lst (iD row)), z11, none, z13] ∧ row.length = j ∧ ∀ c ∈ row, c < r) ⟨b, [], _, _, rfl, rfl, by simp⟩ (fun j x ρ k2 hx2 hI hk2 => ?_) (fun ρ hI => ?_)⟩
    · obtain ⟨b, row, z11, z13, rfl, hrn, hrm⟩ := hI
      have hj : j < L.length := by
        have := (List.getElem?_eq_some_iff.mp hx2).1
        simpa using this
      have ex : x = .int j := by
        rw [List.getElem?_map, List.getElem?_range (by simpa using hj)] at hx2
        cases hx2; rfl
      subst ex
      unfold stepF
      lt_chain
      refine inner_ok hC ⟨by omega, by omega⟩ hg2 hgs hi hj h2 (by omega) fun b g z13 hgr => hk2 _ ⟨b, row ++ [g], some (.int j), z13, rfl, by simp [hrn], fun c hc => ?_⟩
      simp at hc
      rcases hc with hc | rfl
      · exact hrm c hc
      · exact hgr
    · obtain ⟨b, row, z11, z13, rfl, hrn, hrm⟩ := hI
      have hrn2 : row.length = L.length := by simpa using hrn
      lt_chain
      refine ⟨by have := sz_lb; rw [List.length_map]; omega, hk _ ⟨b, ms ++ [row], some (.int i), some (.lst (iD row)), z11, z13, by simp, by simp [hn], fun q hq => ?_⟩⟩
      simp at hq
      rcases hq with hq | rfl
      · exact hm q hq
      · exact ⟨hrn2, hrm⟩
  · obtain ⟨b, ms, z8, z10, z11, z13, rfl, hn, hm⟩ := hI
    have hn2 : ms.length = r := by simp at hn; omega
    lt_chain
    refine ⟨by omega, by omega, by trivial, ?_⟩
    refine compU (i := 8) (fun b : Box => [some b.enc, some (.str L), some (.int m), some (.int r), some (.int kd), some (.int tu), some (.lst (iD gs)), some (.lst (ms.map fun q => .tup (iD q))), z8, none, z10, z11, none, z13]) (fun j acc _ => ∃ ys : List Bool, ys.length = j ∧ acc = ys.map .bl) b rfl ⟨[], rfl, rfl⟩ (fun j x acc b k hx hP hk => ?_) (fun acc b z hP => ?_)
    · obtain ⟨ys, hy, rfl⟩ := hP
      lt_chain
      try simp only [hC]
      refine ⟨b, 2, ⟨by omega, by omega⟩, rfl, fun g y5 h7 h8 => ?_⟩
      lt_chain
      exact hk _ y5 ⟨ys ++ [decide (g = 1)], by simp [hy], by simp⟩
    obtain ⟨ys, hy, rfl⟩ := hP
    have hy2 : ys.length = r := by simp at hy; omega
    have fin : ∀ (b : Box) (ys : List Bool), ys.length = r → Post (.ret (Mach.enc ⟨L, ms, ys⟩) [b.enc]) := fun b ys h => hp _ b ⟨rfl, by show 1 ≤ ms.length; omega, by show (ms.length : Int) ≤ m; omega, by show ∀ q ∈ ms, q.length = L.length ∧ ∀ i ∈ q, i < ms.length; rw [hn2]; exact hm, by show ys.length = ms.length; omega⟩
    lt_chain
    try simp only [hC]
    refine ⟨b, 8, ⟨by omega, by omega⟩, rfl, fun g y5 _ _ => ?_⟩
    lt_chain
    refine ⟨fun _ => ?_, fun _ => ⟨by trivial, fin y5 ys hy2⟩⟩
    cases ys with
    | nil => simp at hy2; omega
    | cons y0 ys =>
      lt_chain
      refine ⟨by trivial, ⟨by omega, by omega, ?_⟩, by trivial, ?_⟩
      · have := sz_lb; simp; omega
      · have e : (List.replicate (r : Int).toNat [D.bl y0]).flatten = (List.replicate r y0).map .bl := by
          rw [Int.toNat_natCast, rep_bl]
        rw [e]
        exact fin y5 (List.replicate r y0) (by simp)
end Pm

set_option maxRecDepth 100000
namespace Pm
open PySem L2
/-! ### dicts with typed keys -/
/-- keys that may stand together in a dict, and are told apart -/
structure KeyEnc {α : Type} (e : α → D) : Prop where
  inj : ∀ a b, (e a).nk = (e b).nk → a = b
  one : (∀ a, (e a).flatKey = true) ∨ (∀ a, (e a).tupKey = true)
section
variable {α β : Type} [DecidableEq α] {e : α → D} {v : β → D}
theorem KeyEnc.fits (h : KeyEnc e) (ks : List α) (a : α) : fitsD (ks.map e) (e a) = true := by
  unfold fitsD
  rcases h.one with o | o
  · simp [o, List.all_eq_true]
  · simp [o, List.all_eq_true]
theorem KeyEnc.nk_iff (h : KeyEnc e) (a b : α) : (e a).nk = (e b).nk ↔ a = b := ⟨h.inj a b, fun x => by rw [x]⟩
theorem KeyEnc.at (h : KeyEnc e) (ks : List α) (a : α) : keyAt (ks.map e) (e a) = ks.findIdx? fun k => decide (k = a) := by
  unfold keyAt
  rw [List.findIdx?_map]
  congr 1
  funext k
  simp [h.nk_iff]
/-- a dict of typed keys and values -/
def dD (ep : Nat) (e : α → D) (v : β → D) (l : List (α × β)) : D := .dic ep (l.map fun p => e p.1) (l.map fun p => v p.2)
def updD (l : List (α × β)) (a : α) (b : β) : List (α × β) := match l.findIdx? fun p => decide (p.1 = a) with
  | some j => l.set j (a, b)
  | none => l ++ [(a, b)]
def getD' (l : List (α × β)) (a : α) : Option β := (l.find? fun p => decide (p.1 = a)).map Prod.snd
theorem dD_at (h : KeyEnc e) (l : List (α × β)) (a : α) : keyAt (l.map fun p => e p.1) (e a) = l.findIdx? fun p => decide (p.1 = a) := by
  have := h.at (l.map Prod.fst) a
  rw [List.map_map, List.findIdx?_map] at this
  exact this
theorem dD_fits (h : KeyEnc e) (l : List (α × β)) (a : α) : fitsD (l.map fun p => e p.1) (e a) = true := by
  have := h.fits (l.map Prod.fst) a
  rw [List.map_map] at this
  exact this
theorem k_inD {ep : Nat} (h : KeyEnc e) (l : List (α × β)) (a : α) (k : D → Prop) : cmpK .In (e a) (dD ep e v l) k ↔ k (.bl (decide (a ∈ l.map Prod.fst))) := by
  have e1 : cmpK .In (e a) (dD ep e v l) k = (fitsD (l.map fun p => e p.1) (e a) = true ∧ k (.bl (keyAt (l.map fun p => e p.1) (e a)).isSome)) := by
    cases e a <;> rfl
  rw [e1, dD_at h, List.findIdx?_isSome]
  have e2 : (l.any fun p => decide (p.1 = a)) = decide (a ∈ l.map Prod.fst) := by
    rw [Bool.eq_iff_iff]; simp [List.any_eq_true]
  rw [e2]
  exact ⟨fun x => x.2, fun x => ⟨dD_fits h l a, x⟩⟩
theorem k_ninD {ep : Nat} (h : KeyEnc e) (l : List (α × β)) (a : α) (k : D → Prop) : cmpK .NotIn (e a) (dD ep e v l) k ↔ k (.bl (!decide (a ∈ l.map Prod.fst))) := by
  have e1 : cmpK .NotIn (e a) (dD ep e v l) k = (fitsD (l.map fun p => e p.1) (e a) = true ∧ k (.bl (!(keyAt (l.map fun p => e p.1) (e a)).isSome))) := by
    cases e a <;> rfl
  rw [e1, dD_at h, List.findIdx?_isSome]
  have e2 : (l.any fun p => decide (p.1 = a)) = decide (a ∈ l.map Prod.fst) := by
    rw [Bool.eq_iff_iff]; simp [List.any_eq_true]
  rw [e2]
  exact ⟨fun x => x.2, fun x => ⟨dD_fits h l a, x⟩⟩
theorem x_dic {ep : Nat} (h : KeyEnc e) (l : List (α × β)) (a : α) (b : β) (hb : getD' l a = some b) (k : D → Prop) (hk : k (v b)) : idxK true (dD ep e v l) (e a) k := by
  have e1 : idxK true (dD ep e v l) (e a) k = (fitsD (l.map fun p => e p.1) (e a) = true ∧ match keyAt (l.map fun p => e p.1) (e a) with
    | some j => (match (l.map fun p => v p.2)[j]? with
      | some x => k x
      | none => False)
    | none => False) := by
    cases e a <;> rfl
  rw [e1, dD_at h]
  refine ⟨dD_fits h l a, ?_⟩
  unfold getD' at hb
  rw [List.find?_eq_bind_findIdx?_getElem?] at hb
  cases hj : l.findIdx? fun p => decide (p.1 = a) with
  | none => rw [hj] at hb; cases hb
  | some j =>
    rw [hj] at hb
    simp only [Option.bind_some, Option.map_eq_some_iff] at hb
    obtain ⟨p, hp, rfl⟩ := hb
    simp only [List.getElem?_map, hp, Option.map_some]
    exact hk
theorem w_setD {ep : Nat} (h : KeyEnc e) (l : List (α × β)) (a : α) (b : β) (hn : l.length < sizeLine) (k : D → Prop) (hk : ∀ ep, k (dD ep e v (updD l a b))) : setK (dD ep e v l) (e a) (v b) k := by
  have e1 : setK (dD ep e v l) (e a) (v b) k = (fitsD (l.map fun p => e p.1) (e a) = true ∧ match keyAt (l.map fun p => e p.1) (e a) with
    | some j => ∀ ep, k (.dic ep (l.map fun p => e p.1) ((l.map fun p => v p.2).set j (v b)))
    | none => (l.map fun p => e p.1).length < sizeLine ∧ ∀ ep, k (.dic ep ((l.map fun p => e p.1) ++ [e a]) ((l.map fun p => v p.2) ++ [v b]))) := by
    cases e a <;> rfl
  rw [e1, dD_at h]
  refine ⟨dD_fits h l a, ?_⟩
  unfold updD at hk
  cases hj : l.findIdx? fun p => decide (p.1 = a) with
  | none =>
    rw [hj] at hk
    refine ⟨by rw [List.length_map]; exact hn, fun ep' => ?_⟩
    simpa [dD] using hk ep'
  | some j =>
    rw [hj] at hk
    obtain ⟨hl, hp, _⟩ := List.findIdx?_eq_some_iff_getElem.mp hj
    have hp : l[j].1 = a := by simpa using hp
    have : (l.map fun p => e p.1).set j (e a) = l.map fun p => e p.1 := by
      rw [← hp]
      apply List.ext_getElem (by simp)
      intro i h1 h2
      rw [List.getElem_set]
      split
      · rename_i q; subst q; simp
      · rfl
    intro ep'
    have hk := hk ep'
    simp only [dD, List.map_set] at hk
    rw [this] at hk
    exact hk
end
/-- a pair of whole numbers as a key -/
def kpD (p : Nat × Nat) : D := .tup [.int p.1, .int p.2]
theorem kpD_key : KeyEnc kpD := by
  refine ⟨fun a b h => ?_, .inr fun a => ?_⟩
  · simp only [kpD, D.nk, D.nks, Option.map_some, Option.some.injEq, NestedKey.tup.injEq, List.cons.injEq, NestedKey.num.injEq, and_true] at h
    exact Prod.ext (by omega) (by omega)
  · rfl
/-! a comprehension with a condition, a dict of a list of pairs, at the pure level -/
theorem compFT {C : Pm.Ctx} {t : Tgt} {c : OE} {e : E} {α : Type} {f : α → D} {h : α → D} {l : List α} {ρ : Penv} {Kn : List D → Penv → Prop} (p : α → Bool) (S : Penv → Prop) (h0 : S ρ)
    (hs : ∀ a ∈ l, ∀ ρ k, S ρ → (∀ ρ', S ρ' → k (if p a = true then some (h a) else none) ρ') → stepC C t c e (f a) ρ k) (he : ∀ ρ, S ρ → Kn ((l.filter p).map h) ρ) : compLoop (stepC C t c e) Kn (l.map f) [] ρ := by
  refine compL (fun j acc ρ => acc = ((l.take j).filter p).map h ∧ S ρ) ⟨rfl, h0⟩ (fun j x acc ρ k hx hI hk => ?_) (fun acc ρ hI => ?_)
  · obtain ⟨rfl, hS⟩ := hI
    rw [List.getElem?_map] at hx
    cases ha : l[j]? with
    | none => rw [ha] at hx; cases hx
    | some a =>
      rw [ha] at hx
      cases hx
      refine hs a (List.mem_of_getElem? ha) ρ k hS fun ρ' hS' => hk _ _ ⟨?_, hS'⟩
      rw [List.take_add_one, ha, List.filter_append, List.map_append]
      cases hp : p a <;> simp [hp]
  · obtain ⟨rfl, hS⟩ := hI
    rw [List.length_map, List.take_length]; exact he ρ hS
def mergeTy {α β : Type} [DecidableEq α] (ps : List (α × β)) : List (α × β) := mergeL (·.1) (fun y x => (y.1, x.2)) ps
theorem put_mem {α κ : Type} [DecidableEq κ] {key : α → κ} {st : α → α → α} (hst : ∀ y x, key (st y x) = key y) (l : List α) (x : α) (k : κ) : k ∈ (putL key st l x).map key ↔ k ∈ l.map key ∨ k = key x := by
  rw [put_keys hst]
  split
  · rename_i h
    exact ⟨.inl, fun q => q.elim id fun e => by rw [e]; exact h⟩
  · rw [List.mem_append, List.mem_singleton]
theorem mergeTy_mem {α β : Type} [DecidableEq α] (ps : List (α × β)) (a : α) : a ∈ (mergeTy ps).map Prod.fst ↔ a ∈ ps.map Prod.fst := by
  have go : ∀ (ps l : List (α × β)), a ∈ (ps.foldl (putL (·.1) fun y x => (y.1, x.2)) l).map Prod.fst ↔ a ∈ l.map Prod.fst ∨ a ∈ ps.map Prod.fst := by
    intro ps
    induction ps with
    | nil => intro l; simp
    | cons p ps ih =>
      intro l
      have := put_mem (key := fun p : α × β => p.1) (st := fun y x => (y.1, x.2)) (fun _ _ => rfl) l p a
      rw [List.foldl_cons, ih, List.map_cons, List.mem_cons, ← or_assoc]
      exact or_congr this Iff.rfl
  have := go ps []
  simpa [mergeTy, mergeL] using this
theorem mergeTy_nodup {α β : Type} [DecidableEq α] (ps : List (α × β)) : ((mergeTy ps).map Prod.fst).Nodup := (merge_nodup (key := fun p : α × β => p.1) (st := fun y x => (y.1, x.2)) (fun _ _ => rfl) ps).1
theorem dict_typed {α β : Type} [DecidableEq α] {e : α → D} {v : β → D} (h : KeyEnc e) {ps : List (α × β)} {k : D → Prop} (hl : ps.length ≤ sizeLine) (hk : ∀ ep, k (dD ep e v (mergeTy ps))) : dictK (ps.map fun p => .tup [e p.1, v p.2]) k := by
  have e1 : ∀ ps : List (α × β), pairsOf (ps.map fun p => .tup [e p.1, v p.2]) = some (ps.map fun p => (e p.1, v p.2)) := by
    intro ps
    induction ps with
    | nil => rfl
    | cons p ps ih => rw [List.map_cons, pairsOf, ih]; rfl
  have a2 : ∀ ps : List (α × β), All2 (fun (x : D × D) (q : α × β) => x = (e q.1, v q.2)) (ps.map fun p => (e p.1, v p.2)) ps := by
    intro ps
    induction ps with
    | nil => exact .nil
    | cons p ps ih => exact .cons rfl ih
  have em : All2 (fun (x : D × D) (q : α × β) => x = (e q.1, v q.2)) (mergeD (ps.map fun p => (e p.1, v p.2))) (mergeTy ps) :=
    (a2 ps).merge (fun x q x' q' r r' => by rw [r, r']; exact h.nk_iff _ _) (fun x q x' q' r r' => by rw [r, r'])
  unfold dictK
  rw [e1]
  refine ⟨?_, by rw [List.length_map]; exact hl, fun ep => ?_⟩
  · unfold keysOk
    rw [Bool.or_eq_true, List.all_eq_true, List.all_eq_true]
    refine h.one.imp (fun o x hx => ?_) fun o x hx => ?_
    all_goals
      rw [List.map_map] at hx
      obtain ⟨p, _, rfl⟩ := List.mem_map.mp hx
      exact o p.1
  · have := hk ep
    unfold dD at this
    rw [em.mapEq (f := Prod.fst) (g := fun p => e p.1) (fun x q r => by rw [r]), em.mapEq (f := Prod.snd) (g := fun p => v p.2) (fun x q r => by rw [r])]
    exact this
end Pm

set_option maxRecDepth 100000
namespace Pm
open PySem PySem.Spec L2
/-! ### sayings: rows, their texts -/
inductive Row where | yes | is_ (x y : List Nat) | ahd (x y : List Nat) | not_ (i : Nat) | bin (o : Bool) (i j : Nat) | qu (o : Bool) (x : List Nat) (i : Nat)
def tYes : List Nat := [121, 101, 115]
def tIs : List Nat := [105, 115]
def tAhead : List Nat := [97, 104, 101, 97, 100]
def tNot : List Nat := [110, 111, 116]
def tBin (o : Bool) : List Nat := if o then [111, 114] else [97, 110, 100]
def tQu (o : Bool) : List Nat := if o then [101, 97, 99, 104] else [115, 111, 109, 101]
def Row.enc : Row → D
  | .yes => .tup [.str tYes]
  | .is_ x y => .tup [.str tIs, .str x, .str y]
  | .ahd x y => .tup [.str tAhead, .str x, .str y]
  | .not_ i => .tup [.str tNot, .int i]
  | .bin o i j => .tup [.str (tBin o), .int i, .int j]
  | .qu o x i => .tup [.str (tQu o), .str x, .int i]
def rowOk (k : Nat) : Row → Prop
  | .yes => True
  | .is_ x y => x.length ≤ 10 ∧ y.length = 1
  | .ahd x y => x.length ≤ 10 ∧ y.length ≤ 10
  | .not_ i => i < k
  | .bin _ i j => i < k ∧ j < k
  | .qu _ x i => x.length ≤ 10 ∧ i < k
def okRows (rs : List Row) : Prop := ∀ k r, rs[k]? = some r → rowOk k r
theorem okRows.nil : okRows [] := fun k r h => by simp at h
theorem okRows.snoc {rs : List Row} {r : Row} (h : okRows rs) (hr : rowOk rs.length r) : okRows (rs ++ [r]) := fun k q hq => by
  by_cases e : k < rs.length
  · rw [List.getElem?_append_left e] at hq; exact h k q hq
  · rw [List.getElem?_append_right (by omega)] at hq
    have e2 : k - rs.length = 0 := by
      cases n : k - rs.length with
      | zero => rfl
      | succ m => rw [n] at hq; simp at hq
    rw [e2] at hq
    cases hq
    have : k = rs.length := by omega
    rw [this]; exact hr
theorem okRows.init {rs : List Row} {r : Row} (h : okRows (rs ++ [r])) : okRows rs ∧ rowOk rs.length r :=
  ⟨fun k q hq => h k q (by rw [List.getElem?_append_left (List.getElem?_eq_some_iff.mp hq).1]; exact hq), h rs.length r (by simp)⟩
/-- what a row makes of what the rows ahead make -/
def scan {α : Type} (f : Row → List α → α) (rs : List Row) : List α := rs.foldl (fun acc r => acc ++ [f r acc]) []
theorem scan_snoc {α : Type} (f : Row → List α → α) (rs : List Row) (r : Row) : scan f (rs ++ [r]) = scan f rs ++ [f r (scan f rs)] := by
  unfold scan; rw [List.foldl_append]; rfl
theorem snoc_ind {P : List Row → Prop} (h0 : P []) (h1 : ∀ rs r, P rs → P (rs ++ [r])) (rs : List Row) : P rs := by
  have : ∀ n (rs : List Row), rs.length = n → P rs := by
    intro n
    induction n with
    | zero => intro rs h; rw [List.length_eq_zero_iff.mp h]; exact h0
    | succ n ih =>
      intro rs h
      have hne : rs ≠ [] := fun e => by rw [e] at h; simp at h
      rw [← List.dropLast_concat_getLast hne]
      exact h1 _ _ (ih _ (by rw [List.length_dropLast, h]; rfl))
  exact this _ rs rfl
theorem scan_len {α : Type} (f : Row → List α → α) (rs : List Row) : (scan f rs).length = rs.length := by
  induction rs using snoc_ind with
  | h0 => rfl
  | h1 rs r ih => rw [scan_snoc]; simp [ih]
def shown (r : Row) (acc : List (List Nat)) : List Nat := match r with
  | .yes => tYes
  | .is_ x y => x ++ [32, 105, 115, 32] ++ y
  | .ahd x y => x ++ [32, 60, 32] ++ y
  | .not_ i => [110, 111, 116, 32] ++ acc.getD i []
  | .bin o i j => [40] ++ acc.getD i [] ++ [32] ++ tBin o ++ [32] ++ acc.getD j [] ++ [41]
  | .qu o x i => tQu o ++ [32] ++ x ++ [32] ++ acc.getD i []
def texts (rs : List Row) : List (List Nat) := scan shown rs
theorem tBin_len (o : Bool) : (tBin o).length ≤ 3 ∧ 2 ≤ (tBin o).length := by cases o <;> decide
theorem tQu_len (o : Bool) : (tQu o).length = 4 := by cases o <;> rfl
theorem getD_app {α : Type} {xs ys : List α} {i : Nat} {d : α} (h : i < xs.length) : (xs ++ ys).getD i d = xs.getD i d := by
  simp [List.getElem?_append_left h]
theorem shown_app {r : Row} {acc more : List (List Nat)} (h : rowOk acc.length r) : shown r (acc ++ more) = shown r acc := by
  cases r with
  | yes => rfl
  | is_ x y => rfl
  | ahd x y => rfl
  | not_ i => unfold shown; simp only; rw [getD_app h]
  | bin o i j => unfold shown; simp only; rw [getD_app h.1, getD_app h.2]
  | qu o x i => unfold shown; simp only; rw [getD_app h.2]
/-- no text longer than B -/
def bnd (B : Nat) (acc : List (List Nat)) : Prop := ∀ i, (acc.getD i []).length ≤ B
theorem bnd.snoc {B B2 : Nat} {acc : List (List Nat)} {t : List Nat} (h : bnd B acc) (ht : t.length ≤ B2) (hB : B ≤ B2) : bnd B2 (acc ++ [t]) := fun i => by
  by_cases e : i < acc.length
  · rw [getD_app e]; exact Nat.le_trans (h i) hB
  · simp only [List.getD_eq_getElem?_getD]
    rw [List.getElem?_append_right (by omega)]
    cases n : i - acc.length with
    | zero => simpa using ht
    | succ m => simp
theorem shown_len {r : Row} {acc : List (List Nat)} {B k : Nat} (h : bnd B acc) (hr : rowOk k r) : (shown r acc).length ≤ 2 * B + 24 := by
  cases r with
  | yes => show 3 ≤ _; omega
  | is_ x y => have := hr.1; have := hr.2; simp [shown]; omega
  | ahd x y => have := hr.1; have := hr.2; simp [shown]; omega
  | not_ i => have := h i; simp [shown] at this ⊢; omega
  | bin o i j => have := h i; have := h j; have := tBin_len o; simp [shown] at *; omega
  | qu o x i => have := hr.1; have := h i; have := tQu_len o; simp [shown] at *; omega
theorem rows_bnd {rs : List Row} (h : okRows rs) : bnd (2 ^ rs.length * 24 - 24) (texts rs) := by
  induction rs using snoc_ind with
  | h0 => intro i; simp [texts, scan]
  | h1 rs r ih =>
    obtain ⟨h1, h2⟩ := h.init
    unfold texts
    rw [scan_snoc]
    have b := ih h1
    have hp : 1 ≤ 2 ^ rs.length := Nat.one_le_two_pow
    have e : 2 ^ (rs ++ [r]).length * 24 = 2 * (2 ^ rs.length * 24) := by rw [List.length_append, List.length_singleton, Nat.pow_succ]; omega
    rw [e]
    refine b.snoc ?_ (by omega)
    have := shown_len (B := 2 ^ rs.length * 24 - 24) b h2
    show (shown r (texts rs)).length ≤ _
    omega
def isChain : Row → Bool | .not_ _ => true | .qu _ _ _ => true | _ => false
theorem chain_bnd {rs : List Row} {r : Row} {B : Nat} (b : bnd B (texts rs)) (hr : rowOk rs.length r) (hc : isChain r = true) : bnd (B + 20) (texts (rs ++ [r])) := by
  unfold texts
  rw [scan_snoc]
  refine b.snoc ?_ (by omega)
  cases r with
  | not_ i => have := b i; simp [shown] at this ⊢; unfold texts at this; omega
  | qu o x i => have := hr.1; have := b i; have := tQu_len o; simp [shown] at *; unfold texts at *; omega
  | _ => cases hc
/-- how many pieces come up -/
def wRow (r : Row) (acc : List Nat) : Nat := match r with
  | .yes => 2
  | .is_ _ _ => 2
  | .ahd _ _ => 2
  | .not_ i => 2 + acc.getD i 0
  | .bin _ i j => 4 + acc.getD i 0 + acc.getD j 0
  | .qu _ _ i => 2 + acc.getD i 0
def wts (rs : List Row) : List Nat := scan wRow rs
theorem wRow_app {r : Row} {acc more : List Nat} (h : rowOk acc.length r) : wRow r (acc ++ more) = wRow r acc := by
  cases r with
  | not_ i => unfold wRow; simp only; rw [getD_app h]
  | bin o i j => unfold wRow; simp only; rw [getD_app h.1, getD_app h.2]
  | qu o x i => unfold wRow; simp only; rw [getD_app h.2]
  | _ => rfl
theorem ok_mono {r : Row} {k m : Nat} (h : rowOk k r) (e : k ≤ m) : rowOk m r := by
  cases r with
  | yes => trivial
  | is_ x y => exact h
  | ahd x y => exact h
  | not_ i => exact Nat.lt_of_lt_of_le h e
  | bin _ i j => exact ⟨Nat.lt_of_lt_of_le h.1 e, Nat.lt_of_lt_of_le h.2 e⟩
  | qu _ x i => exact ⟨h.1, Nat.lt_of_lt_of_le h.2 e⟩
theorem scan_at {α : Type} {f : Row → List α → α} {d : α} (happ : ∀ r acc more, rowOk acc.length r → f r (acc ++ more) = f r acc) {rs : List Row} (h : okRows rs) {k : Nat} {r : Row} (hk : rs[k]? = some r) : (scan f rs).getD k d = f r (scan f rs) := by
  induction rs using snoc_ind with
  | h0 => simp at hk
  | h1 rs q ih =>
    obtain ⟨h1, h2⟩ := h.init
    have hl : (scan f rs).length = rs.length := scan_len _ _
    rw [scan_snoc]
    by_cases e : k < rs.length
    · rw [List.getElem?_append_left e] at hk
      rw [getD_app (by rw [hl]; exact e), ih h1 hk, happ]
      rw [hl]
      exact ok_mono (h1 k r hk) (Nat.le_of_lt e)
    · have hk1 : k < (rs ++ [q]).length := (List.getElem?_eq_some_iff.mp hk).1
      have : k = rs.length := by simp at hk1; omega
      subst this
      have hq : q = r := by simpa using hk
      subst hq
      rw [happ _ _ _ (by rw [hl]; exact h2), ← hl]
      simp
theorem texts_at {rs : List Row} (h : okRows rs) {k : Nat} {r : Row} (hk : rs[k]? = some r) : (texts rs).getD k [] = shown r (texts rs) := scan_at (fun _ _ _ => shown_app) h hk
theorem wts_at {rs : List Row} (h : okRows rs) {k : Nat} {r : Row} (hk : rs[k]? = some r) : (wts rs).getD k 0 = wRow r (wts rs) := scan_at (fun _ _ _ => wRow_app) h hk
theorem wts_le {rs : List Row} (h : okRows rs) : ∀ i, (wts rs).getD i 0 ≤ 2 * ((texts rs).getD i []).length := by
  induction rs using snoc_ind with
  | h0 => intro i; simp [wts, scan]
  | h1 rs r ih =>
    obtain ⟨h1, h2⟩ := h.init
    intro i
    have hl : (wts rs).length = rs.length := scan_len _ _
    have hl2 : (texts rs).length = rs.length := scan_len _ _
    have e1 : wts (rs ++ [r]) = wts rs ++ [wRow r (wts rs)] := scan_snoc _ _ _
    have e2 : texts (rs ++ [r]) = texts rs ++ [shown r (texts rs)] := scan_snoc _ _ _
    rw [e1, e2]
    by_cases e : i < rs.length
    · rw [getD_app (by rw [hl]; exact e), getD_app (by rw [hl2]; exact e)]; exact ih h1 i
    · by_cases e3 : i = rs.length
      · subst e3
        have a1 : (wts rs ++ [wRow r (wts rs)]).getD rs.length 0 = wRow r (wts rs) := by rw [← hl]; simp
        have a2 : (texts rs ++ [shown r (texts rs)]).getD rs.length [] = shown r (texts rs) := by rw [← hl2]; simp
        rw [a1, a2]
        cases r with
        | yes => show 2 ≤ 2 * 3; omega
        | is_ x y => simp [wRow, shown]; omega
        | ahd x y => simp [wRow, shown]; omega
        | not_ i => have := ih h1 i; simp [wRow, shown] at *; omega
        | bin o i j => have := ih h1 i; have := ih h1 j; have := (tBin_len o).2; simp [wRow, shown] at *; omega
        | qu o x i => have := ih h1 i; have := tQu_len o; simp [wRow, shown] at *; omega
      · have : (wts rs ++ [wRow r (wts rs)]).getD i 0 = 0 := by
          simp only [List.getD_eq_getElem?_getD]
          rw [List.getElem?_eq_none (by simp [hl]; omega)]; rfl
        rw [this]; omega
end Pm

set_option maxRecDepth 100000
namespace Pm
/-! ### texts rising, each once -/
def Inc (xs : List (List Nat)) : Prop := xs.Pairwise (· < ·)
def ins (x : List Nat) : List (List Nat) → List (List Nat)
  | [] => [x]
  | y :: ys => if x < y then x :: y :: ys else if x = y then y :: ys else y :: ins x ys
def canon (xs : List (List Nat)) : List (List Nat) := xs.foldr ins []
theorem ins_mem {x y : List Nat} : ∀ {ys : List (List Nat)}, y ∈ ins x ys ↔ y = x ∨ y ∈ ys
  | [] => by simp [ins]
  | z :: ys => by
    unfold ins
    split
    · simp
    · split
      · rename_i h; subst h; simp
      · rw [List.mem_cons, ins_mem, List.mem_cons]
        constructor
        · rintro (h | h | h)
          · exact .inr (.inl h)
          · exact .inl h
          · exact .inr (.inr h)
        · rintro (h | h | h)
          · exact .inr (.inl h)
          · exact .inl h
          · exact .inr (.inr h)
theorem lt_of_not {x y : List Nat} (h : ¬ x < y) (hne : x ≠ y) : y < x := by
  by_cases h2 : y < x
  · exact h2
  · exact absurd (List.le_antisymm (List.not_lt.mp h2) (List.not_lt.mp h)) hne
theorem ins_inc {x : List Nat} : ∀ {ys : List (List Nat)}, Inc ys → Inc (ins x ys)
  | [], _ => List.pairwise_singleton _ _
  | y :: ys, h => by
    obtain ⟨h1, h2⟩ := List.pairwise_cons.mp h
    unfold ins
    split
    · rename_i hx
      refine List.pairwise_cons.mpr ⟨fun z hz => ?_, h⟩
      rcases List.mem_cons.mp hz with rfl | hz
      · exact hx
      · exact List.lt_trans hx (h1 z hz)
    · split
      · exact h
      · rename_i hx hne
        refine List.pairwise_cons.mpr ⟨fun z hz => ?_, ins_inc h2⟩
        rcases ins_mem.mp hz with rfl | hz
        · exact lt_of_not hx hne
        · exact h1 z hz
theorem canon_mem {t : List Nat} : ∀ {xs : List (List Nat)}, t ∈ canon xs ↔ t ∈ xs
  | [] => by simp [canon]
  | x :: xs => by
    show t ∈ ins x (canon xs) ↔ _
    rw [ins_mem, canon_mem, List.mem_cons]
theorem canon_inc : ∀ xs : List (List Nat), Inc (canon xs)
  | [] => List.Pairwise.nil
  | x :: xs => ins_inc (canon_inc xs)
theorem inc_ext : ∀ {xs ys : List (List Nat)}, Inc xs → Inc ys → (∀ t, t ∈ xs ↔ t ∈ ys) → xs = ys
  | [], [], _, _, _ => rfl
  | [], y :: ys, _, _, h => by have := (h y).mpr List.mem_cons_self; cases this
  | x :: xs, [], _, _, h => by have := (h x).mp List.mem_cons_self; cases this
  | x :: xs, y :: ys, hx, hy, h => by
    obtain ⟨x1, x2⟩ := List.pairwise_cons.mp hx
    obtain ⟨y1, y2⟩ := List.pairwise_cons.mp hy
    have e : x = y := by
      rcases List.mem_cons.mp ((h x).mp List.mem_cons_self) with e | e
      · exact e
      · rcases List.mem_cons.mp ((h y).mpr List.mem_cons_self) with e2 | e2
        · exact e2.symm
        · exact absurd (List.lt_trans (y1 x e) (x1 y e2)) (List.lt_irrefl _)
    subst e
    congr 1
    refine inc_ext x2 y2 fun t => ⟨fun ht => ?_, fun ht => ?_⟩
    · rcases List.mem_cons.mp ((h t).mp (List.mem_cons_of_mem _ ht)) with e | e
      · subst e; exact absurd (x1 t ht) (List.lt_irrefl _)
      · exact e
    · rcases List.mem_cons.mp ((h t).mpr (List.mem_cons_of_mem _ ht)) with e | e
      · subst e; exact absurd (y1 t ht) (List.lt_irrefl _)
      · exact e
theorem canon_self {xs : List (List Nat)} (h : Inc xs) : canon xs = xs := inc_ext (canon_inc xs) h fun _ => canon_mem
theorem canon_eq {xs ys : List (List Nat)} (h : Inc ys) (hm : ∀ t, t ∈ ys ↔ t ∈ xs) : ys = canon xs := inc_ext h (canon_inc xs) fun t => (hm t).trans canon_mem.symm
theorem ins_len {x : List Nat} : ∀ {ys : List (List Nat)}, (ins x ys).length ≤ ys.length + 1
  | [] => by simp [ins]
  | y :: ys => by
    unfold ins
    split
    · simp
    · split
      · simp
      · have := ins_len (x := x) (ys := ys); simp; omega
theorem canon_len : ∀ xs : List (List Nat), (canon xs).length ≤ xs.length
  | [] => Nat.le_refl _
  | x :: xs => by
    have h1 := ins_len (x := x) (ys := canon xs)
    have h2 := canon_len xs
    show (ins x (canon xs)).length ≤ _
    simp; omega
theorem inc_filter {xs : List (List Nat)} (p : List Nat → Bool) (h : Inc xs) : Inc (xs.filter p) := List.Pairwise.filter _ h
/-! ### free names, depths -/
def raw (r : Row) (acc : List (List (List Nat))) : List (List Nat) := match r with
  | .yes => []
  | .is_ x _ => [x]
  | .ahd x y => [x, y]
  | .not_ i => acc.getD i []
  | .bin _ i j => acc.getD i [] ++ acc.getD j []
  | .qu _ x i => (acc.getD i []).filter fun n => decide (n ≠ x)
def nmF (r : Row) (acc : List (List (List Nat))) : List (List Nat) := canon (raw r acc)
def frs (rs : List Row) : List (List (List Nat)) := scan nmF rs
def dpt (r : Row) (acc : List Nat) : Nat := match r with
  | .not_ i => acc.getD i 0
  | .bin _ i j => max (acc.getD i 0) (acc.getD j 0)
  | .qu _ _ i => acc.getD i 0 + 1
  | _ => 0
def dps (rs : List Row) : List Nat := scan dpt rs
theorem frs_snoc (rs : List Row) (r : Row) : frs (rs ++ [r]) = frs rs ++ [nmF r (frs rs)] := scan_snoc _ _ _
theorem dps_snoc (rs : List Row) (r : Row) : dps (rs ++ [r]) = dps rs ++ [dpt r (dps rs)] := scan_snoc _ _ _
theorem frs_len (rs : List Row) : (frs rs).length = rs.length := scan_len _ _
theorem dps_len (rs : List Row) : (dps rs).length = rs.length := scan_len _ _
theorem frs_inc (rs : List Row) : ∀ f ∈ frs rs, Inc f := by
  induction rs using snoc_ind with
  | h0 => intro f h; cases h
  | h1 rs r ih =>
    intro f h
    rw [frs_snoc] at h
    rcases List.mem_append.mp h with h | h
    · exact ih f h
    · rw [List.mem_singleton.mp h]; exact canon_inc _
theorem scan_take {α : Type} (f : Row → List α → α) (rs : List Row) (n : Nat) : (scan f rs).take n = scan f (rs.take n) := by
  induction rs using snoc_ind with
  | h0 => simp [scan]
  | h1 rs r ih =>
    by_cases h : n ≤ rs.length
    · rw [scan_snoc, List.take_append_of_le_length (by rw [scan_len]; exact h), List.take_append_of_le_length h, ih]
    · rw [List.take_of_length_le (by rw [scan_len]; simp; omega), List.take_of_length_le (by simp; omega)]
def few3 (rs : List Row) : Prop := ∀ f ∈ frs rs, f.length ≤ 3
theorem getD_mem {α : Type} {xs : List α} {i : Nat} {d : α} (h : i < xs.length) : xs.getD i d ∈ xs := by
  simp [List.getElem?_eq_getElem h]
theorem few3.snoc {rs : List Row} {r : Row} (h : few3 rs) (hr : (nmF r (frs rs)).length ≤ 3) : few3 (rs ++ [r]) := fun f hf => by
  rw [frs_snoc] at hf
  rcases List.mem_append.mp hf with hf | hf
  · exact h f hf
  · rw [List.mem_singleton.mp hf]; exact hr
theorem few3.not {rs : List Row} (h : few3 rs) {i : Nat} (hi : i < rs.length) : (nmF (.not_ i) (frs rs)).length ≤ 3 :=
  Nat.le_trans (canon_len _) (h _ (getD_mem (by rw [frs_len]; exact hi)))
theorem few3.twice {rs : List Row} (h : few3 rs) {i : Nat} {o : Bool} (hi : i < rs.length) : (nmF (.bin o i i) (frs rs)).length ≤ 3 := by
  have hm : (frs rs).getD i [] ∈ frs rs := getD_mem (by rw [frs_len]; exact hi)
  have e : nmF (.bin o i i) (frs rs) = (frs rs).getD i [] := (canon_eq (frs_inc rs _ hm) fun t => by simp [raw]).symm
  rw [e]; exact h _ hm
theorem few3.take {rs : List Row} (h : few3 rs) (n : Nat) : few3 (rs.take n) := fun f hf => by
  unfold frs at hf
  rw [← scan_take] at hf
  exact h f (List.mem_of_mem_take hf)
theorem okRows.take {rs : List Row} (h : okRows rs) (n : Nat) : okRows (rs.take n) := fun k r hk => by
  rw [List.getElem?_take] at hk
  split at hk
  · exact h k r hk
  · cases hk
theorem raw_len {r : Row} {acc : List (List (List Nat))} (hr : rowOk acc.length r) (h : ∀ f ∈ acc, f.length ≤ 3) : (raw r acc).length ≤ 6 := by
  have g : ∀ i, i < acc.length → (acc.getD i []).length ≤ 3 := fun i hi => h _ (getD_mem hi)
  cases r with
  | yes => simp [raw]
  | is_ x y => simp [raw]
  | ahd x y => simp [raw]
  | not_ i => have := g i hr; show (acc.getD i []).length ≤ 6; omega
  | bin o i j => have := g i hr.1; have := g j hr.2; show (_ ++ _ : List _).length ≤ 6; rw [List.length_append]; omega
  | qu o x i => have := g i hr.2; show (List.filter _ _).length ≤ 6; exact Nat.le_trans (List.length_filter_le _ _) (by omega)
end Pm

set_option maxRecDepth 100000
namespace Pm
open PySem PySem.Spec L2
local macro_rules | `(tactic| lt_chain) => `(tactic| try simp only [v_get, v_glb, c_bool, c_true, c_false, e_var, e_non, e_bl, e_int, e_str, e_glb, e_tup, e_lst, e_bin, e_cmp, e_chn, e_neg, e_revl, e_sset, e_lset, e_lrng, e_maxd, f_reprI, f_reprN, n_rev, s_dead, e_not, e_bop, e_idx, e_slc, e_call, p_ret, p_exc, e_bi, e_bm, e_mu, e_comp, es_nil, es_cons, o_none, o_some, t_none, t_some,
  a_nil, a_val, a_own, a_ino, i_low, i_val, i_rng, i_enum, i_zip, zp, it2_l, it2_s, itz_l, itz_t, itz_s, it_d, k_leS, b_mulS, b_mulL, s_asg, s_setI, s_expr, s_ret, s_retN, s_if, s_for, s_brk, s_cnt, s_pass, ss_n, ss_c, b_add, b_cat, b_catL, b_catT, b_sub, b_mul, b_div, b_mod, b_pow, k_lt, k_le, k_gt, k_ge, k_eqI, k_neI, k_eqS, k_neS, k_eqB, k_neB, k_inS, k_ninS, k_inTS, k_inLS, k_inLI, k_ninTS, k_ninLS, k_ninLI,
  x_lst, x_tup, x_str, l_lst, l_tup1, f_tupT1, l_tup, l_str, f_lenS, f_lenD, f_dict, f_sort, f_lenL, f_lenT, f_intB, f_intI, f_listL, f_listT, f_tupL, f_tupT, f_max, f_min, f_isb, f_isi, f_iss, f_isl, f_ist, u_app, u_ext, u_clear, g_nm, g_tp2, g_tp3, g_tpo1, g_tpo2, g_tpo3, g_tpo4, pl_n, pl_b, pl_i, pl_s, pl_t, pl_l, dp_n, dp_b, dp_i, dp_s, dp_t, dp_l, dps_n, dps_c, dps_mi, dps_ms, Bool.and_true, Bool.true_and, e_dp, e_ife, e_dnew, e_done, i_zip3, zp3, f_reprS, w_set, r_1, r_2, n_neg, n_not, n_bool, n_items, n_some, n_chr, n_lst, n_any, n_opt, n_bop, n_chn, tr_b, tr_i, tr_n, tr_l, tr_t, it_l, it_t, it_s,
  at0, at1, at2, at3, ix0, ix1, kt_rt, kt_nx, kt_ex, rs_nm, Option.elim_some, in_nil, in_inn, in_ino, out0, out1, decide_eq_true_eq, Bool.not_eq_true', Bool.not_eq_false', Bool.not_true, Bool.not_false, decide_eq_false_iff_not, Int.not_lt, Option.map_some, As.outs, setOuts, bo_join, bo_index, bo_rev, m_rev, k_eqSSr, k_neSSr, f_listS, true_and, and_true, List.getElem?_cons_zero, List.getElem?_cons_succ, List.set_cons_zero, List.set_cons_succ, List.length_cons, List.length_nil, List.map_cons, List.map_nil, not_true_eq_false, not_false_eq_true, false_implies, forall_const, decide_true, decide_false, Bool.true_eq_false, Bool.false_eq_true, reduceCtorEq])
local macro_rules | `(tactic| trivial) => `(tactic| omega)
local macro_rules | `(tactic| trivial) => `(tactic| (have := sz_lb; (try simp only [List.length_append, List.length_cons, List.length_nil, List.length_map, List.length_range, List.length_reverse]); omega))
def namesB (t : Nat) : Ss := (.cons (.asg (.nm 2) (.str [97, 98, 99, 100, 101, 102, 103, 104, 105, 106, 107, 108, 109, 110, 111, 112, 113, 114, 115, 116, 117, 118, 119, 120, 121, 122])) (.cons (.asg (.nm 3) (.bin false .Add (.int 1) (.call t (.ino 0 (.val (.int 3) .nil))))) (.cons (.asg (.nm 4) (.comp (.nm 8) (.rng (.cons (.var 3 .bor) .nil)) .none (.idx false (.var 2 .bor) (.call t (.ino 0 (.val (.int 26) .nil)))))) (.cons (.asg (.nm 5) (.call t (.ino 0 (.val (.var 3 .bor) .nil)))) (.cons (.asg (.nm 6) (.call t (.ino 0 (.val (.int 26) .nil)))) (.cons (.asg (.nm 7) (.lst .nil)) (.cons (.for_ [some ⟨.own 0, 1⟩, some ⟨.frz, 0⟩, some ⟨.frz, 0⟩, some ⟨.frz, 0⟩, some ⟨.own 0, 1⟩, some ⟨.frz, 0⟩, some ⟨.frz, 0⟩, some ⟨.own 0, 1⟩, none, none, none, none] (.nm 8) (.rng (.cons (.var 1 .bor) .nil)) (.cons (.asg (.nm 9) (.idx false (.var 2 .bor) (.bin false .Mod (.bin false .Add (.var 6 .bor) (.bin false .Mult (.int 5) (.var 8 .bor))) (.int 26)))) (.cons (.asg (.nm 10) (.bin false .Add (.bin false .Add (.bm .join (.str []) (.cons (.slc true (.var 4 .bor) .none (.some (.var 5 .bor))) .nil)) (.var 9 .bor)) (.bm .join (.str []) (.cons (.slc true (.var 4 .bor) (.some (.bin false .Add (.var 5 .bor) (.int 1))) .none) .nil)))) (.cons (.if_ (.bop false (.cmp .Eq (.bin false .Mod (.var 8 .bor) (.int 2)) (.int 1)) (.bop false (.cmp .Lt (.var 3 .bor) (.int 3)) (.cmp .Eq (.call t (.ino 0 (.val (.int 2) .nil))) (.int 0)))) (.cons (.asg (.nm 10) (.bin false .Add (.var 10 .bor) (.str [113]))) .nil) .nil) (.cons (.if_ (.cmp .In (.var 10 .bor) (.tup (.cons (.str [121, 101, 115]) (.cons (.str [105, 115]) (.cons (.str [110, 111, 116]) (.cons (.str [97, 110, 100]) (.cons (.str [111, 114]) .nil))))))) (.cons (.asg (.nm 10) (.bin false .Add (.str [113, 113]) (.var 9 .bor))) .nil) .nil) (.cons (.expr (.mu .append 7 (.cons (.var 10 .bor) .nil))) .nil)))))) (.cons (.if_ (.cmp .Eq (.call t (.ino 0 (.val (.int 6) .nil))) (.int 0)) (.cons (.asg (.nm 11) (.idx true (.lst (.cons (.str [115, 111, 109]) (.cons (.str [101, 97, 99]) (.cons (.str [110, 111]) (.cons (.str [97, 110]) (.cons (.str [111, 114, 115]) (.cons (.str [105, 115, 115]) (.cons (.str [115, 111]) (.cons (.str [121, 101]) .nil))))))))) (.call t (.ino 0 (.val (.int 8) .nil))))) (.cons (.if_ (.cmp .NotIn (.var 11 .bor) (.var 7 .bor)) (.cons (.setI 7 (.call t (.ino 0 (.val (.var 1 .bor) .nil))) (.var 11 .bor)) .nil) .nil) .nil)) .nil) (.cons (.ret (.var 7 .mov)) .nil)))))))))
def rowAtB (t : Nat) : Ss := (.cons (.ret (.idx true (.lst (.cons (.bin false .Sub (.var 1 .bor) (.int 1)) (.cons (.call t (.ino 0 (.val (.var 1 .bor) .nil))) .nil))) (.call t (.ino 0 (.val (.int 2) .nil))))) .nil)
def sayRowsB (t ra : Nat) : Ss := (.cons (.asg (.nm 4) (.lst .nil)) (.cons (.for_ [some ⟨.own 0, 1⟩, some ⟨.frz, 0⟩, some ⟨.rd, 1⟩, some ⟨.frz, 0⟩, some ⟨.own 0, 1⟩, none, none, none, none, none] (.nm 5) (.rng (.cons (.bin false .Add (.int 1) (.call t (.ino 0 (.val (.var 3 .bor) .nil)))) .nil)) (.cons (.asg (.nm 6) (.call t (.ino 0 (.val (.int 12) .nil)))) (.cons (.asg (.nm 7) (.idx true (.var 2 .bor) (.call t (.ino 0 (.val (.bi .len (.cons (.var 2 .bor) .nil)) .nil))))) (.cons (.if_ (.bop true (.cmp .Eq (.var 5 .bor) (.int 0)) (.cmp .Lt (.var 6 .bor) (.int 4))) (.cons (.asg (.nm 8) (.idx true (.var 2 .bor) (.call t (.ino 0 (.val (.bi .len (.cons (.var 2 .bor) .nil)) .nil))))) (.cons (.asg (.nm 9) (.lst (.cons (.tup (.cons (.str [105, 115]) (.cons (.var 7 .bor) (.cons (.idx false (.var 1 .bor) (.call t (.ino 0 (.val (.bi .len (.cons (.var 1 .bor) .nil)) .nil)))) .nil)))) (.cons (.tup (.cons (.str [97, 104, 101, 97, 100]) (.cons (.var 7 .bor) (.cons (.var 8 .bor) .nil)))) (.cons (.tup (.cons (.str [121, 101, 115]) .nil)) .nil))))) (.cons (.expr (.mu .append 4 (.cons (.idx true (.var 9 .bor) (.idx true (.lst (.cons (.int 0) (.cons (.int 0) (.cons (.int 0) (.cons (.int 1) (.cons (.int 1) (.cons (.int 1) (.cons (.int 2) .nil)))))))) (.call t (.ino 0 (.val (.int 7) .nil))))) .nil))) .nil))) (.cons (.if_ (.cmp .Lt (.var 6 .bor) (.int 6)) (.cons (.expr (.mu .append 4 (.cons (.tup (.cons (.str [110, 111, 116]) (.cons (.call ra (.ino 0 (.val (.var 5 .bor) .nil))) .nil))) .nil))) .nil) (.cons (.if_ (.cmp .Lt (.var 6 .bor) (.int 9)) (.cons (.expr (.mu .append 4 (.cons (.tup (.cons (.idx true (.lst (.cons (.str [97, 110, 100]) (.cons (.str [97, 110, 100]) (.cons (.str [111, 114]) .nil)))) (.bin false .Sub (.var 6 .bor) (.int 6))) (.cons (.call ra (.ino 0 (.val (.var 5 .bor) .nil))) (.cons (.call t (.ino 0 (.val (.var 5 .bor) .nil))) .nil)))) .nil))) .nil) (.cons (.expr (.mu .append 4 (.cons (.tup (.cons (.idx true (.lst (.cons (.str [115, 111, 109, 101]) (.cons (.str [115, 111, 109, 101]) (.cons (.str [101, 97, 99, 104]) .nil)))) (.bin false .Sub (.var 6 .bor) (.int 9))) (.cons (.var 7 .bor) (.cons (.call ra (.ino 0 (.val (.var 5 .bor) .nil))) .nil)))) .nil))) .nil)) .nil)) .nil)) .nil)))) (.cons (.ret (.var 4 .mov)) .nil)))
theorem cut_map {α β : Type} (f : α → β) (xs : List α) (a b : Option Int) : cutL (xs.map f) a b = (cutL xs a b).map f := by
  unfold cutL; rw [List.length_map, ← List.map_drop, ← List.map_take]
def namesSpec (ds : List D) (Post : FOut → Prop) : Prop := ∃ (x : Box) (m : Int), (1 ≤ m ∧ m ≤ 100) ∧ ds = [x.enc, .int m] ∧ ∀ (ns : List (List Nat)) (y : Box), (ns.length : Int) = m → (∀ n ∈ ns, n.length ≤ 10) → Post (.ret (.lst (ns.map .str)) [y.enc])
def rowAtSpec (ds : List D) (Post : FOut → Prop) : Prop := ∃ (x : Box) (k : Nat), (1 ≤ k ∧ k ≤ 100000) ∧ ds = [x.enc, .int k] ∧ ∀ (v : Nat) (y : Box), v < k → Post (.ret (.int v) [y.enc])
def sayRowsSpec (ds : List D) (Post : FOut → Prop) : Prop := ∃ (x : Box) (L : List Nat) (ns : List (List Nat)) (m : Int), (1 ≤ L.length ∧ L.length ≤ 26 ∧ 1 ≤ ns.length ∧ ns.length ≤ 100 ∧ (∀ n ∈ ns, n.length ≤ 10) ∧ 1 ≤ m ∧ m ≤ 1000) ∧ ds = [x.enc, .str L, .lst (ns.map .str), .int m] ∧
  ∀ (rs : List Row) (y : Box), okRows rs → 1 ≤ rs.length → (rs.length : Int) ≤ m → Post (.ret (.lst (rs.map Row.enc)) [y.enc])
theorem pair_at {a b v : Int} {k : D → Prop} (h0 : 0 ≤ v) (h1 : v < 2) (ha : k (.int a)) (hb : k (.int b)) : glbK (atI [D.int a, D.int b] v) k := by
  rcases (show v = 0 ∨ v = 1 by omega) with rfl | rfl
  · exact ha
  · exact hb
theorem row_at_ok {C : Pm.Ctx} {t : Nat} (hC : C.spec t = takeSpec) {ds : List D} {Post : FOut → Prop} (h : rowAtSpec ds Post) : evalSs C (rowAtB t) (ini 2 ds) (ktOf ⟨[.ino 0 1, .inn 0], .own 0, 0⟩ Post) := by
  obtain ⟨x, k, ⟨h1, h2⟩, rfl, hp⟩ := h
  show evalSs C (rowAtB t) [some x.enc, some (.int k)] _
  unfold rowAtB
  lt_chain
  try simp only [hC]
  refine ⟨x, k, ⟨by omega, by omega⟩, rfl, fun v y h3 h4 => ?_⟩
  lt_chain
  try simp only [hC]
  refine ⟨by trivial, y, 2, ⟨by omega, by omega⟩, rfl, fun w y2 h5 h6 => ?_⟩
  lt_chain
  refine pair_at h5 h6 ?_ ?_
  · have := hp (k - 1) y2 (by omega)
    rw [show ((k - 1 : Nat) : Int) = (k : Int) - 1 by omega] at this
    exact this
  · have := hp v.toNat y2 (by omega)
    rw [show ((v.toNat : Nat) : Int) = v by omega] at this
    exact this
def resW : List (List Nat) := [[121, 101, 115], [105, 115], [110, 111, 116], [97, 110, 100], [111, 114]]
theorem odd8 {v : Int} {k : D → Prop} (h0 : 0 ≤ v) (h1 : v < 8) (h : ∀ s : List Nat, s.length ≤ 3 → k (.str s)) : glbK (atI [D.str [115, 111, 109], D.str [101, 97, 99], D.str [110, 111], D.str [97, 110], D.str [111, 114, 115], D.str [105, 115, 115], D.str [115, 111], D.str [121, 101]] v) k := by
  refine lst_at h0 (by simpa using h1) fun c hc => ?_
  simp at hc
  rcases hc with rfl | rfl | rfl | rfl | rfl | rfl | rfl | rfl <;> exact h _ (by simp)
theorem setL_at {xs : List D} {i : Int} {v : D} {k : D → Prop} (h0 : 0 ≤ i) (h1 : i < xs.length) (h : k (.lst (xs.set i.toNat v))) : someK (ixN xs.length i) (fun j => k (.lst (xs.set j v))) := by
  have : ixN xs.length i = some i.toNat := by unfold ixN; rw [if_pos h0, if_pos h1]
  rw [this]; exact h
theorem names_ok {C : Pm.Ctx} {t : Nat} (hC : C.spec t = takeSpec) {ds : List D} {Post : FOut → Prop} (h : namesSpec ds Post) : evalSs C (namesB t) (ini 12 ds) (ktOf ⟨[.ino 0 1, .inn 0], .own 0, 1⟩ Post) := by
  obtain ⟨x, m, ⟨h1, h2⟩, rfl, hp⟩ := h
  show evalSs C (namesB t) [some x.enc, some (.int m), none, none, none, none, none, none, none, none, none, none] _
  unfold namesB
  lt_chain
  try simp only [hC]
  refine ⟨x, 3, ⟨by omega, by omega⟩, rfl, fun v y h3 h4 => ?_⟩
  lt_chain
  refine ⟨by omega, by omega, by trivial, ?_⟩
  refine compU (i := 8) (fun b : Box => [some b.enc, some (.int m), some (.str abc), some (.int (1 + v)), none, none, none, none, none, none, none, none]) (fun j acc _ => ∃ s : List Nat, s.length = j ∧ acc = s.map fun c => .str [c]) y rfl ⟨[], rfl, rfl⟩ (fun j x acc b k hx hP hk => ?_) (fun acc b z hP => ?_)
  · obtain ⟨u, hu, rfl⟩ := hP
    lt_chain
    try simp only [hC]
    refine ⟨b, _, ⟨by omega, by omega⟩, rfl, fun n y5 h7 h8 => ?_⟩
    lt_chain
    refine str_at2 h7 (by simpa [abc] using h8) fun c hc => ?_
    exact ⟨by decide, hk (.str [c]) y5 ⟨u ++ [c], by simp [hu], by simp⟩⟩
  obtain ⟨s, hs, rfl⟩ := hP
  have hs2 : s.length ≤ 3 := by simp at hs; omega
  lt_chain
  try simp only [hC]
  refine ⟨b, _, ⟨by omega, by omega⟩, rfl, fun sp y2 h5 h6 => ?_⟩
  lt_chain
  try simp only [hC]
  refine ⟨y2, _, ⟨by omega, by omega⟩, rfl, fun fi y3 h7 h8 => ?_⟩
  lt_chain
  refine ⟨by trivial, by omega, by omega, forL (fun i ρ => ∃ (b : Box) (ns : List (List Nat)) (z8 z9 z10 : Option D), ρ = [some b.enc, some (.int m), some (.str abc), some (.int (1 + v)), some (.lst (s.map fun c => .str [c])), some (.int sp), some (.int fi), some (.lst (ns.map .str)), z8, z9, z10, none] ∧ ns.length = i ∧ ∀ n ∈ ns, n.length ≤ 10) ⟨y3, [], _, _, _, rfl, rfl, by simp⟩ (fun i x ρ k hx hI hk => ?_) (fun ρ hI => ?_)⟩
  · obtain ⟨b, ns, z8, z9, z10, rfl, hn, hm⟩ := hI
    obtain ⟨j, hj, rfl⟩ := List.mem_map.mp (List.mem_of_getElem? hx)
    have hi : i < m.toNat := by
      have := (List.getElem?_eq_some_iff.mp hx).1
      simpa using this
    have c1 : (cutL s none (some sp)).length ≤ 3 := Nat.le_trans cut_len hs2
    have c2 : (cutL s (some (sp + 1)) none).length ≤ 3 := Nat.le_trans cut_len hs2
    have leaf : ∀ (b : Box) (nm : List Nat) (z9 : Option D), nm.length ≤ 10 → (ns.map D.str).length < sizeLine ∧ k [some b.enc, some (.int m), some (.str abc), some (.int (1 + v)), some (.lst (s.map fun c => .str [c])), some (.int sp), some (.int fi), some (.lst (ns.map .str ++ [.str nm])), some (.int j), z9, some (.str nm), none] := by
      intro b nm z9 hnm
      refine ⟨by have := sz_lb; simp; omega, hk _ ⟨b, ns ++ [nm], _, _, _, by simp; exact ⟨rfl, rfl, rfl⟩, by simp [hn], fun n hmem => ?_⟩⟩
      simp at hmem
      rcases hmem with hmem | rfl
      · exact hm n hmem
      · exact hnm
    unfold stepF
    lt_chain
    refine ⟨.inl ⟨by omega, by omega⟩, by decide, ?_⟩
    have e0 : 0 ≤ (fi + 5 * (j : Int)) % 26 := Int.emod_nonneg _ (by omega)
    have e1 : (fi + 5 * (j : Int)) % 26 < 26 := Int.emod_lt_of_pos _ (by omega)
    refine str_at2 e0 (by simpa [abc] using e1) fun c hc => ?_
    lt_chain
    simp only [cut_map]
    refine ⟨by trivial, m_join1 (by omega) ?_⟩
    lt_chain
    refine ⟨by trivial, m_join1 (by omega) ?_⟩
    have eW : [D.str [121, 101, 115], D.str [105, 115], D.str [110, 111, 116], D.str [97, 110, 100], D.str [111, 114]] = resW.map .str := rfl
    simp only [eW]
    lt_chain
    refine ⟨by trivial, by decide, fun _ => ⟨by trivial, fun _ => ⟨by trivial, leaf _ _ _ (by simp)⟩, fun _ => leaf _ _ _ (by simp; omega)⟩, fun _ => ⟨fun _ => ⟨by trivial, fun _ => ⟨by trivial, leaf _ _ _ (by simp)⟩, fun _ => leaf _ _ _ (by simp; omega)⟩, fun _ => ?_⟩⟩
    try simp only [hC]
    refine ⟨b, 2, ⟨by omega, by omega⟩, rfl, fun w y4 _ _ => ?_⟩
    lt_chain
    refine ⟨fun _ => ⟨by trivial, by trivial, fun _ => ⟨by trivial, leaf _ _ _ (by simp)⟩, fun _ => leaf _ _ _ (by simp; omega)⟩, fun _ => ⟨by trivial, fun _ => ⟨by trivial, leaf _ _ _ (by simp)⟩, fun _ => leaf _ _ _ (by simp; omega)⟩⟩
  · obtain ⟨b, ns, z8, z9, z10, rfl, hn, hm⟩ := hI
    have hn2 : (ns.length : Int) = m := by simp at hn; omega
    lt_chain
    try simp only [hC]
    refine ⟨b, 6, ⟨by omega, by omega⟩, rfl, fun w y4 _ _ => ?_⟩
    lt_chain
    refine ⟨fun _ => ⟨by trivial, y4, 8, ⟨by omega, by omega⟩, rfl, fun w2 y5 h9 h10 => ?_⟩, fun _ => hp ns y4 hn2 hm⟩
    lt_chain
    refine odd8 h9 h10 fun od ho => ?_
    lt_chain
    refine ⟨fun _ => ⟨y5, m, ⟨by omega, by omega⟩, rfl, fun w3 y6 h11 h12 => ?_⟩, fun _ => hp ns y5 hn2 hm⟩
    lt_chain
    refine setL_at (xs := ns.map D.str) (k := fun o => Post (FOut.ret o [y6.enc])) h11 (by rw [List.length_map]; omega) ?_
    lt_chain
    rw [← List.map_set]
    refine hp _ y6 (by simpa using hn2) fun n hmem => ?_
    rcases List.mem_or_eq_of_mem_set hmem with hmem | rfl
    · exact hm n hmem
    · omega
theorem rows3 {v : Int} {k : D → Prop} (h0 : 0 ≤ v) (h1 : v < 7) (h : ∀ w : Int, w = 0 ∨ w = 1 ∨ w = 2 → k (.int w)) : glbK (atI [D.int 0, D.int 0, D.int 0, D.int 1, D.int 1, D.int 1, D.int 2] v) k := by
  refine lst_at h0 (by simpa using h1) fun c hc => ?_
  simp at hc
  rcases hc with rfl | rfl | rfl <;> exact h _ (by simp)
theorem say_rows_ok {C : Pm.Ctx} {t ra : Nat} (hC : C.spec t = takeSpec) (hR : C.spec ra = rowAtSpec) {ds : List D} {Post : FOut → Prop} (h : sayRowsSpec ds Post) : evalSs C (sayRowsB t ra) (ini 10 ds) (ktOf ⟨[.ino 0 1, .inn 0, .inn 1, .inn 0], .own 0, 1⟩ Post) := by
  obtain ⟨x, L, ns, m, ⟨h1, h2, h3, h4, h5, h6, h7⟩, rfl, hp⟩ := h
  show evalSs C (sayRowsB t ra) [some x.enc, some (.str L), some (.lst (ns.map .str)), some (.int m), none, none, none, none, none, none] _
  unfold sayRowsB
  lt_chain
  simp only [hC, hR]
  refine ⟨by trivial, x, m, ⟨by omega, by omega⟩, rfl, fun v y h8 h9 => ?_⟩
  lt_chain
  refine ⟨by omega, by omega, forL (fun i ρ => ∃ (b : Box) (rs : List Row) (z5 z6 z7 z8 z9 : Option D), ρ = [some b.enc, some (.str L), some (.lst (ns.map .str)), some (.int m), some (.lst (rs.map Row.enc)), z5, z6, z7, z8, z9] ∧ rs.length = i ∧ okRows rs) ⟨y, [], _, _, _, _, _, rfl, rfl, okRows.nil⟩ (fun i x ρ k hx hI hk => ?_) (fun ρ hI => ?_)⟩
  · obtain ⟨b, rs, z5, z6, z7, z8, z9, rfl, hn, ho⟩ := hI
    have hi : i < (1 + v).toNat := by
      have := (List.getElem?_eq_some_iff.mp hx).1
      simpa using this
    have ex : x = .int i := by
      rw [List.getElem?_map, List.getElem?_range (by simpa using hi)] at hx
      cases hx; rfl
    subst ex
    have leaf : ∀ (b : Box) (r : Row) (z6 z7 z8 z9 : Option D), rowOk i r → (rs.map Row.enc).length < sizeLine ∧ k [some b.enc, some (.str L), some (.lst (ns.map .str)), some (.int m), some (.lst (rs.map Row.enc ++ [r.enc])), some (.int i), z6, z7, z8, z9] := by
      intro b r z6 z7 z8 z9 hr
      refine ⟨by have := sz_lb; simp; omega, hk _ ⟨b, rs ++ [r], some (.int i), z6, z7, z8, z9, by simp, by simp [hn], ho.snoc (by rw [hn]; exact hr)⟩⟩
    unfold stepF
    lt_chain
    try simp only [hC]
    refine ⟨b, 12, ⟨by omega, by omega⟩, rfl, fun kd y2 hk1 hk2 => ?_⟩
    lt_chain
    refine ⟨y2, _, ⟨by trivial, by trivial⟩, rfl, fun a y3 h10 h11 => ?_⟩
    lt_chain
    refine lst_at h10 h11 fun nx hnx => ?_
    obtain ⟨nm, hnm, rfl⟩ := List.mem_map.mp hnx
    lt_chain
    refine ⟨fun _ => ?_, fun hi0 => ⟨fun _ => ?_, fun hk4 => ⟨fun hk6 => ?_, fun hk6 => ⟨fun hk9 => ?_, fun hk9 => ?_⟩⟩⟩⟩
    · refine ⟨y3, _, ⟨by trivial, by trivial⟩, rfl, fun a2 y4 h12 h13 => ?_⟩
      lt_chain
      refine lst_at h12 h13 fun nx2 hnx2 => ?_
      obtain ⟨nm2, hnm2, rfl⟩ := List.mem_map.mp hnx2
      lt_chain
      refine ⟨by trivial, y4, _, ⟨by trivial, by trivial⟩, rfl, fun a3 y5 h14 h15 => ?_⟩
      lt_chain
      refine str_at2 h14 h15 fun c hc => ?_
      lt_chain
      refine ⟨by trivial, by trivial, by trivial, by trivial, by trivial, by trivial, y5, 7, ⟨by trivial, by trivial⟩, rfl, fun a4 y6 h16 h17 => ?_⟩
      lt_chain
      refine rows3 h16 h17 fun w hw => ?_
      rcases hw with rfl | rfl | rfl
      · exact leaf y6 (.is_ nm [c]) _ _ _ _ ⟨h5 nm hnm, by simp⟩
      · exact leaf y6 (.ahd nm nm2) _ _ _ _ ⟨h5 nm hnm, h5 nm2 hnm2⟩
      · exact leaf y6 .yes _ _ _ _ trivial
    · refine ⟨y3, _, ⟨by trivial, by trivial⟩, rfl, fun a2 y4 h12 h13 => ?_⟩
      lt_chain
      refine lst_at h12 h13 fun nx2 hnx2 => ?_
      obtain ⟨nm2, hnm2, rfl⟩ := List.mem_map.mp hnx2
      lt_chain
      refine ⟨by trivial, y4, _, ⟨by trivial, by trivial⟩, rfl, fun a3 y5 h14 h15 => ?_⟩
      lt_chain
      refine str_at2 h14 h15 fun c hc => ?_
      lt_chain
      refine ⟨by trivial, by trivial, by trivial, by trivial, by trivial, by trivial, y5, 7, ⟨by trivial, by trivial⟩, rfl, fun a4 y6 h16 h17 => ?_⟩
      lt_chain
      refine rows3 h16 h17 fun w hw => ?_
      rcases hw with rfl | rfl | rfl
      · exact leaf y6 (.is_ nm [c]) _ _ _ _ ⟨h5 nm hnm, by simp⟩
      · exact leaf y6 (.ahd nm nm2) _ _ _ _ ⟨h5 nm hnm, h5 nm2 hnm2⟩
      · exact leaf y6 .yes _ _ _ _ trivial
    · try simp only [hR]
      refine ⟨y3, i, ⟨by omega, by omega⟩, rfl, fun v2 y4 hv => ?_⟩
      lt_chain
      refine ⟨by trivial, ?_⟩
      exact leaf y4 (.not_ v2) _ _ _ _ hv
    · refine ⟨by trivial, ?_⟩
      have hkd : kd - 6 = 0 ∨ kd - 6 = 1 ∨ kd - 6 = 2 := by omega
      rcases hkd with e | e | e
      · rw [e]
        lt_chain
        try simp only [hR]
        refine ⟨y3, i, ⟨by omega, by omega⟩, rfl, fun v2 y4 hv => ?_⟩
        lt_chain
        refine ⟨y4, i, ⟨by omega, by omega⟩, rfl, fun v3 y5 h18 h19 => ?_⟩
        lt_chain
        refine ⟨by trivial, ?_⟩
        have := leaf y5 (.bin false v2 v3.toNat) (some (.int kd)) (some (.str nm)) z8 z9 ⟨hv, by omega⟩
        rw [show Row.enc (.bin false v2 v3.toNat) = .tup [.str (tBin false), .int v2, .int v3.toNat] from rfl, show ((v3.toNat : Nat) : Int) = v3 by omega] at this
        exact this
      · rw [e]
        lt_chain
        try simp only [hR]
        refine ⟨y3, i, ⟨by omega, by omega⟩, rfl, fun v2 y4 hv => ?_⟩
        lt_chain
        refine ⟨y4, i, ⟨by omega, by omega⟩, rfl, fun v3 y5 h18 h19 => ?_⟩
        lt_chain
        refine ⟨by trivial, ?_⟩
        have := leaf y5 (.bin false v2 v3.toNat) (some (.int kd)) (some (.str nm)) z8 z9 ⟨hv, by omega⟩
        rw [show Row.enc (.bin false v2 v3.toNat) = .tup [.str (tBin false), .int v2, .int v3.toNat] from rfl, show ((v3.toNat : Nat) : Int) = v3 by omega] at this
        exact this
      · rw [e]
        lt_chain
        try simp only [hR]
        refine ⟨y3, i, ⟨by omega, by omega⟩, rfl, fun v2 y4 hv => ?_⟩
        lt_chain
        refine ⟨y4, i, ⟨by omega, by omega⟩, rfl, fun v3 y5 h18 h19 => ?_⟩
        lt_chain
        refine ⟨by trivial, ?_⟩
        have := leaf y5 (.bin true v2 v3.toNat) (some (.int kd)) (some (.str nm)) z8 z9 ⟨hv, by omega⟩
        rw [show Row.enc (.bin true v2 v3.toNat) = .tup [.str (tBin true), .int v2, .int v3.toNat] from rfl, show ((v3.toNat : Nat) : Int) = v3 by omega] at this
        exact this
    · refine ⟨by trivial, ?_⟩
      have hkd : kd - 9 = 0 ∨ kd - 9 = 1 ∨ kd - 9 = 2 := by omega
      rcases hkd with e | e | e
      · rw [e]
        lt_chain
        try simp only [hR]
        refine ⟨y3, i, ⟨by omega, by omega⟩, rfl, fun v2 y4 hv => ?_⟩
        lt_chain
        refine ⟨by trivial, ?_⟩
        exact leaf y4 (.qu false nm v2) _ _ _ _ ⟨h5 nm hnm, hv⟩
      · rw [e]
        lt_chain
        try simp only [hR]
        refine ⟨y3, i, ⟨by omega, by omega⟩, rfl, fun v2 y4 hv => ?_⟩
        lt_chain
        refine ⟨by trivial, ?_⟩
        exact leaf y4 (.qu false nm v2) _ _ _ _ ⟨h5 nm hnm, hv⟩
      · rw [e]
        lt_chain
        try simp only [hR]
        refine ⟨y3, i, ⟨by omega, by omega⟩, rfl, fun v2 y4 hv => ?_⟩
        lt_chain
        refine ⟨by trivial, ?_⟩
        exact leaf y4 (.qu true nm v2) _ _ _ _ ⟨h5 nm hnm, hv⟩
  · obtain ⟨b, rs, z5, z6, z7, z8, z9, rfl, hn, ho⟩ := hI
    lt_chain
    simp at hn
    exact hp rs b ho (by omega) (by omega)
end Pm

set_option maxRecDepth 100000
namespace K33
open PySem PySem.Spec L2 Pm
def topS (i : Nat) : Stmt := PySem.Challenge.pw_calmword_k33_free_names_and_depths.main.body.getD i (.Pass ⟨0, 0, 0, 0⟩)
/-- 0: _law_box(_law_script, _law_k); places: 0 _law_script 1 _law_k 2 _law_cell 3 _law_seed -/
def b_l_box : Ss := (.cons (.asg (.nm 2) (.bin false .Add (.bin false .Mult (.int 7919) (.var 1 .bor)) (.int 11))) (.cons (.if_ (.cmp .Lt (.var 1 .bor) (.bi .len (.cons (.var 0 .bor) .nil))) (.cons (.asg (.nm 2) (.idx true (.var 0 .bor) (.var 1 .bor))) .nil) (.cons (.if_ (.cmp .Gt (.bi .len (.cons (.var 0 .bor) .nil)) (.int 0)) (.cons (.asg (.nm 2) (.bin false .Add (.var 2 .bor) (.bin false .Mult (.bin false .Mod (.idx true (.var 0 .bor) (.bin false .Mod (.var 1 .bor) (.bi .len (.cons (.var 0 .bor) .nil)))) (.int 2147483629)) (.int 69623)))) .nil) .nil) .nil)) (.cons (.asg (.nm 3) (.bin false .Add (.bin false .Mod (.bin false .Add (.bin false .Mult (.bin false .Mod (.var 2 .bor) (.int 2147483629)) (.int 48271)) (.bin false .Mult (.int 40692) (.var 1 .bor))) (.int 2147483629)) (.int 1))) (.cons (.ret (.lst (.cons (.bin false .Mult (.var 2 .bor) (.bi .int (.cons (.cmp .GtE (.var 2 .bor) (.bin false .Pow (.int 10) (.int 18))) .nil))) (.cons (.var 3 .bor) .nil)))) .nil))))
def d_l_box : DefT := ⟨"_law_box", topS 6, ["_law_script", "_law_k", "_law_cell", "_law_seed"], ["_law_script", "_law_k"], b_l_box, ⟨[.inn 1, .inn 0], .own 0, 1⟩⟩
/-- 1: _law_take(_law_box_here, _law_wide); places: 0 _law_box_here 1 _law_wide 2 _law_one 3 _law_digit -/
def b_l_take : Ss := (.cons (.if_ (.cmp .Gt (.idx true (.var 0 .bor) (.int 0)) (.int 0)) (.cons (.asg (.nm 3) (.bin false .Mod (.idx true (.var 0 .bor) (.int 0)) (.var 1 .bor))) (.cons (.setI 0 (.int 0) (.bin false .FloorDiv (.idx true (.var 0 .bor) (.int 0)) (.var 1 .bor))) (.cons (.ret (.var 3 .bor)) .nil))) .nil) (.cons (.asg (.nm 2) (.bin false .Mod (.bin false .Mult (.idx true (.var 0 .bor) (.int 1)) (.int 69623)) (.int 2147483647))) (.cons (.setI 0 (.int 1) (.bin false .Add (.bin false .Mod (.bin false .Add (.bin false .Mult (.var 2 .bor) (.int 48271)) (.int 30103)) (.int 2147483629)) (.int 1))) (.cons (.ret (.bin false .Mod (.bin false .FloorDiv (.bin false .Add (.bin false .Mult (.var 2 .bor) (.int 2147483647)) (.idx true (.var 0 .bor) (.int 1))) (.int 8191)) (.var 1 .bor))) .nil))))
def d_l_take : DefT := ⟨"_law_take", topS 7, ["_law_box_here", "_law_wide", "_law_one", "_law_digit"], ["_law_box_here", "_law_wide"], b_l_take, ⟨[.ino 0 1, .inn 0], .own 0, 0⟩⟩
/-- 2: _law_letters(_law_box_here, _law_most); places: 0 _law_box_here 1 _law_most 2 _law_pool 3 _law_found 4 _law_k -/
def b_l_letters : Ss := (.cons (.asg (.nm 2) (.bi (.list false) (.cons (.str [97, 98, 99, 100, 101, 102, 103, 104, 105, 106, 107, 108, 109, 110, 111, 112, 113, 114, 115, 116, 117, 118, 119, 120, 121, 122]) .nil))) (.cons (.asg (.nm 3) (.str [])) (.cons (.for_ [some ⟨.own 0, 1⟩, some ⟨.frz, 0⟩, some ⟨.own 0, 1⟩, some ⟨.frz, 0⟩, none] (.nm 4) (.rng (.cons (.bin false .Add (.int 1) (.call 1 (.ino 0 (.val (.var 1 .bor) .nil)))) .nil)) (.cons (.asg (.nm 3) (.bin false .Add (.var 3 .bor) (.mu .popAt 2 (.cons (.call 1 (.ino 0 (.val (.bi .len (.cons (.var 2 .bor) .nil)) .nil))) .nil)))) .nil)) (.cons (.ret (.var 3 .bor)) .nil))))
def d_l_letters : DefT := ⟨"_law_letters", topS 8, ["_law_box_here", "_law_most", "_law_pool", "_law_found", "_law_k"], ["_law_box_here", "_law_most"], b_l_letters, ⟨[.ino 0 1, .inn 0], .own 0, 0⟩⟩
/-- 3: _law_place_names(_law_box_here, _law_many); places: 0 _law_box_here 1 _law_many 2 _law_letters_here 3 _law_size 4 _law_signs 5 _law_spot 6 _law_first 7 _law_found 8 _law_k 9 _law_one 10 _law_name 11 _law_odd -/
def b_l_place_names : Ss := (.cons (.asg (.nm 2) (.str [97, 98, 99, 100, 101, 102, 103, 104, 105, 106, 107, 108, 109, 110, 111, 112, 113, 114, 115, 116, 117, 118, 119, 120, 121, 122])) (.cons (.asg (.nm 3) (.bin false .Add (.int 1) (.call 1 (.ino 0 (.val (.int 3) .nil))))) (.cons (.asg (.nm 4) (.comp (.nm 8) (.rng (.cons (.var 3 .bor) .nil)) .none (.idx false (.var 2 .bor) (.call 1 (.ino 0 (.val (.int 26) .nil)))))) (.cons (.asg (.nm 5) (.call 1 (.ino 0 (.val (.var 3 .bor) .nil)))) (.cons (.asg (.nm 6) (.call 1 (.ino 0 (.val (.int 26) .nil)))) (.cons (.asg (.nm 7) (.lst .nil)) (.cons (.for_ [some ⟨.own 0, 1⟩, some ⟨.frz, 0⟩, some ⟨.frz, 0⟩, some ⟨.frz, 0⟩, some ⟨.own 0, 1⟩, some ⟨.frz, 0⟩, some ⟨.frz, 0⟩, some ⟨.own 0, 1⟩, none, none, none, none] (.nm 8) (.rng (.cons (.var 1 .bor) .nil)) (.cons (.asg (.nm 9) (.idx false (.var 2 .bor) (.bin false .Mod (.bin false .Add (.var 6 .bor) (.bin false .Mult (.int 5) (.var 8 .bor))) (.int 26)))) (.cons (.asg (.nm 10) (.bin false .Add (.bin false .Add (.bm .join (.str []) (.cons (.slc true (.var 4 .bor) .none (.some (.var 5 .bor))) .nil)) (.var 9 .bor)) (.bm .join (.str []) (.cons (.slc true (.var 4 .bor) (.some (.bin false .Add (.var 5 .bor) (.int 1))) .none) .nil)))) (.cons (.if_ (.bop false (.cmp .Eq (.bin false .Mod (.var 8 .bor) (.int 2)) (.int 1)) (.bop false (.cmp .Lt (.var 3 .bor) (.int 3)) (.cmp .Eq (.call 1 (.ino 0 (.val (.int 2) .nil))) (.int 0)))) (.cons (.asg (.nm 10) (.bin false .Add (.var 10 .bor) (.str [113]))) .nil) .nil) (.cons (.if_ (.cmp .In (.var 10 .bor) (.tup (.cons (.str [121, 101, 115]) (.cons (.str [105, 115]) (.cons (.str [110, 111, 116]) (.cons (.str [97, 110, 100]) (.cons (.str [111, 114]) .nil))))))) (.cons (.asg (.nm 10) (.bin false .Add (.str [113, 113]) (.var 9 .bor))) .nil) .nil) (.cons (.expr (.mu .append 7 (.cons (.var 10 .bor) .nil))) .nil)))))) (.cons (.if_ (.cmp .Eq (.call 1 (.ino 0 (.val (.int 6) .nil))) (.int 0)) (.cons (.asg (.nm 11) (.idx true (.lst (.cons (.str [115, 111, 109]) (.cons (.str [101, 97, 99]) (.cons (.str [110, 111]) (.cons (.str [97, 110]) (.cons (.str [111, 114, 115]) (.cons (.str [105, 115, 115]) (.cons (.str [115, 111]) (.cons (.str [121, 101]) .nil))))))))) (.call 1 (.ino 0 (.val (.int 8) .nil))))) (.cons (.if_ (.cmp .NotIn (.var 11 .bor) (.var 7 .bor)) (.cons (.setI 7 (.call 1 (.ino 0 (.val (.var 1 .bor) .nil))) (.var 11 .bor)) .nil) .nil) .nil)) .nil) (.cons (.ret (.var 7 .mov)) .nil)))))))))
def d_l_place_names : DefT := ⟨"_law_place_names", topS 10, ["_law_box_here", "_law_many", "_law_letters_here", "_law_size", "_law_signs", "_law_spot", "_law_first", "_law_found", "_law_k", "_law_one", "_law_name", "_law_odd"], ["_law_box_here", "_law_many"], b_l_place_names, ⟨[.ino 0 1, .inn 0], .own 0, 1⟩⟩
/-- 4: _law_row_at(_law_box_here, _law_k); places: 0 _law_box_here 1 _law_k -/
def b_l_row_at : Ss := (.cons (.ret (.idx true (.lst (.cons (.bin false .Sub (.var 1 .bor) (.int 1)) (.cons (.call 1 (.ino 0 (.val (.var 1 .bor) .nil))) .nil))) (.call 1 (.ino 0 (.val (.int 2) .nil))))) .nil)
def d_l_row_at : DefT := ⟨"_law_row_at", topS 9, ["_law_box_here", "_law_k"], ["_law_box_here", "_law_k"], b_l_row_at, ⟨[.ino 0 1, .inn 0], .own 0, 0⟩⟩
/-- 5: _law_saying_rows(_law_box_here, _law_letters_here, _law_names, _law_most); places: 0 _law_box_here 1 _law_letters_here 2 _law_names 3 _law_most 4 _law_rows 5 _law_k 6 _law_kind 7 _law_x 8 _law_y 9 _law_base -/
def b_l_saying_rows : Ss := (.cons (.asg (.nm 4) (.lst .nil)) (.cons (.for_ [some ⟨.own 0, 1⟩, some ⟨.frz, 0⟩, some ⟨.rd, 1⟩, some ⟨.frz, 0⟩, some ⟨.own 0, 1⟩, none, none, none, none, none] (.nm 5) (.rng (.cons (.bin false .Add (.int 1) (.call 1 (.ino 0 (.val (.var 3 .bor) .nil)))) .nil)) (.cons (.asg (.nm 6) (.call 1 (.ino 0 (.val (.int 12) .nil)))) (.cons (.asg (.nm 7) (.idx true (.var 2 .bor) (.call 1 (.ino 0 (.val (.bi .len (.cons (.var 2 .bor) .nil)) .nil))))) (.cons (.if_ (.bop true (.cmp .Eq (.var 5 .bor) (.int 0)) (.cmp .Lt (.var 6 .bor) (.int 4))) (.cons (.asg (.nm 8) (.idx true (.var 2 .bor) (.call 1 (.ino 0 (.val (.bi .len (.cons (.var 2 .bor) .nil)) .nil))))) (.cons (.asg (.nm 9) (.lst (.cons (.tup (.cons (.str [105, 115]) (.cons (.var 7 .bor) (.cons (.idx false (.var 1 .bor) (.call 1 (.ino 0 (.val (.bi .len (.cons (.var 1 .bor) .nil)) .nil)))) .nil)))) (.cons (.tup (.cons (.str [97, 104, 101, 97, 100]) (.cons (.var 7 .bor) (.cons (.var 8 .bor) .nil)))) (.cons (.tup (.cons (.str [121, 101, 115]) .nil)) .nil))))) (.cons (.expr (.mu .append 4 (.cons (.idx true (.var 9 .bor) (.idx true (.lst (.cons (.int 0) (.cons (.int 0) (.cons (.int 0) (.cons (.int 1) (.cons (.int 1) (.cons (.int 1) (.cons (.int 2) .nil)))))))) (.call 1 (.ino 0 (.val (.int 7) .nil))))) .nil))) .nil))) (.cons (.if_ (.cmp .Lt (.var 6 .bor) (.int 6)) (.cons (.expr (.mu .append 4 (.cons (.tup (.cons (.str [110, 111, 116]) (.cons (.call 4 (.ino 0 (.val (.var 5 .bor) .nil))) .nil))) .nil))) .nil) (.cons (.if_ (.cmp .Lt (.var 6 .bor) (.int 9)) (.cons (.expr (.mu .append 4 (.cons (.tup (.cons (.idx true (.lst (.cons (.str [97, 110, 100]) (.cons (.str [97, 110, 100]) (.cons (.str [111, 114]) .nil)))) (.bin false .Sub (.var 6 .bor) (.int 6))) (.cons (.call 4 (.ino 0 (.val (.var 5 .bor) .nil))) (.cons (.call 1 (.ino 0 (.val (.var 5 .bor) .nil))) .nil)))) .nil))) .nil) (.cons (.expr (.mu .append 4 (.cons (.tup (.cons (.idx true (.lst (.cons (.str [115, 111, 109, 101]) (.cons (.str [115, 111, 109, 101]) (.cons (.str [101, 97, 99, 104]) .nil)))) (.bin false .Sub (.var 6 .bor) (.int 9))) (.cons (.var 7 .bor) (.cons (.call 4 (.ino 0 (.val (.var 5 .bor) .nil))) .nil)))) .nil))) .nil)) .nil)) .nil)) .nil)))) (.cons (.ret (.var 4 .mov)) .nil)))
def d_l_saying_rows : DefT := ⟨"_law_saying_rows", topS 11, ["_law_box_here", "_law_letters_here", "_law_names", "_law_most", "_law_rows", "_law_k", "_law_kind", "_law_x", "_law_y", "_law_base"], ["_law_box_here", "_law_letters_here", "_law_names", "_law_most"], b_l_saying_rows, ⟨[.ino 0 1, .inn 0, .inn 1, .inn 0], .own 0, 1⟩⟩
/-- 6: _law_names_of(_law_row, _law_frees_here); places: 0 _law_row 1 _law_frees_here 2 _law_some 3 _law_part 4 _law_name -/
def b_l_names_of : Ss := (.cons (.asg (.nm 2) (.lst .nil)) (.cons (.if_ (.bop true (.cmp .Eq (.idx false (.var 0 .bor) (.int 0)) (.str [105, 115])) (.cmp .Eq (.idx false (.var 0 .bor) (.int 0)) (.str [97, 104, 101, 97, 100]))) (.cons (.asg (.nm 2) (.lst (.cons (.idx false (.var 0 .bor) (.int 1)) .nil))) .nil) .nil) (.cons (.if_ (.cmp .Eq (.idx false (.var 0 .bor) (.int 0)) (.str [97, 104, 101, 97, 100])) (.cons (.asg (.nm 2) (.lst (.cons (.idx false (.var 0 .bor) (.int 1)) (.cons (.idx false (.var 0 .bor) (.int 2)) .nil)))) .nil) .nil) (.cons (.if_ (.cmp .In (.idx false (.var 0 .bor) (.int 0)) (.tup (.cons (.str [110, 111, 116]) (.cons (.str [97, 110, 100]) (.cons (.str [111, 114]) .nil))))) (.cons (.for_ [some ⟨.frz, 0⟩, some ⟨.rd, 2⟩, some ⟨.own 0, 1⟩, none, none] (.nm 3) (.val false (.slc false (.var 0 .bor) (.some (.int 1)) .none)) (.cons (.asg (.nm 2) (.bin true .Add (.var 2 .bor) (.idx true (.var 1 .shl) (.var 3 .bor)))) .nil)) .nil) .nil) (.cons (.if_ (.bop true (.cmp .Eq (.idx false (.var 0 .bor) (.int 0)) (.str [115, 111, 109, 101])) (.cmp .Eq (.idx false (.var 0 .bor) (.int 0)) (.str [101, 97, 99, 104]))) (.cons (.asg (.nm 2) (.comp (.nm 4) (.val true (.idx true (.var 1 .shl) (.idx false (.var 0 .bor) (.int 2)))) (.some (.cmp .NotEq (.var 4 .bor) (.idx false (.var 0 .bor) (.int 1)))) (.var 4 .bor))) .nil) .nil) (.cons (.ret (.sset (.var 2 .bor))) .nil))))))
def d_l_names_of : DefT := ⟨"_law_names_of", topS 12, ["_law_row", "_law_frees_here", "_law_some", "_law_part", "_law_name"], ["_law_row", "_law_frees_here"], b_l_names_of, ⟨[.inn 0, .inn 2], .own 0, 1⟩⟩
/-- 7: _law_deep(_law_row, _law_depths_here); places: 0 _law_row 1 _law_depths_here 2 _law_part -/
def b_l_deep : Ss := (.cons (.if_ (.cmp .In (.idx false (.var 0 .bor) (.int 0)) (.tup (.cons (.str [121, 101, 115]) (.cons (.str [105, 115]) (.cons (.str [97, 104, 101, 97, 100]) .nil))))) (.cons (.ret (.int 0)) .nil) .nil) (.cons (.if_ (.bop true (.cmp .Eq (.idx false (.var 0 .bor) (.int 0)) (.str [115, 111, 109, 101])) (.cmp .Eq (.idx false (.var 0 .bor) (.int 0)) (.str [101, 97, 99, 104]))) (.cons (.ret (.bin false .Add (.idx true (.var 1 .bor) (.idx false (.var 0 .bor) (.int 2))) (.int 1))) .nil) .nil) (.cons (.ret (.bi .max (.cons (.comp (.nm 2) (.val false (.slc false (.var 0 .bor) (.some (.int 1)) .none)) .none (.idx true (.var 1 .bor) (.var 2 .bor))) .nil))) .nil)))
def d_l_deep : DefT := ⟨"_law_deep", topS 14, ["_law_row", "_law_depths_here", "_law_part"], ["_law_row", "_law_depths_here"], b_l_deep, ⟨[.inn 0, .inn 1], .own 0, 0⟩⟩
/-- 8: _law_rows_to(_law_box_here, _law_letters_here, _law_names, _law_most, _law_deep_here); places: 0 _law_box_here 1 _law_letters_here 2 _law_names 3 _law_most 4 _law_deep_here 5 _law_rows 6 _law_frees_here 7 _law_depths_here 8 _law_row 9 _law_one -/
def b_l_rows_to : Ss := (.cons (.asg (.nm 5) (.lst .nil)) (.cons (.asg (.nm 6) (.lst .nil)) (.cons (.asg (.nm 7) (.lst .nil)) (.cons (.for_ [some ⟨.own 0, 1⟩, some ⟨.frz, 0⟩, some ⟨.rd, 1⟩, some ⟨.frz, 0⟩, some ⟨.frz, 0⟩, some ⟨.own 0, 1⟩, some ⟨.own 1, 2⟩, some ⟨.own 0, 1⟩, none, none] (.nm 8) (.val true (.call 5 (.ino 0 (.val (.var 1 .bor) (.val (.var 2 .bor) (.val (.var 3 .bor) .nil)))))) (.cons (.asg (.nm 9) (.var 8 .bor)) (.cons (.if_ (.bop true (.cmp .Gt (.bi .len (.cons (.call 6 (.val (.var 8 .bor) (.val (.var 6 .bor) .nil))) .nil)) (.int 3)) (.cmp .Gt (.call 7 (.val (.var 8 .bor) (.val (.var 7 .bor) .nil))) (.var 4 .bor))) (.cons (.asg (.nm 9) (.tup (.cons (.str [110, 111, 116]) (.cons (.bin false .Sub (.bi .len (.cons (.var 5 .bor) .nil)) (.int 1)) .nil)))) .nil) .nil) (.cons (.expr (.mu .append 5 (.cons (.var 9 .bor) .nil))) (.cons (.expr (.mu .append 6 (.cons (.call 6 (.val (.var 9 .bor) (.val (.var 6 .bor) .nil))) .nil))) (.cons (.expr (.mu .append 7 (.cons (.call 7 (.val (.var 9 .bor) (.val (.var 7 .bor) .nil))) .nil))) .nil)))))) (.cons (.ret (.var 5 .mov)) .nil)))))
def d_l_rows_to : DefT := ⟨"_law_rows_to", topS 16, ["_law_box_here", "_law_letters_here", "_law_names", "_law_most", "_law_deep_here", "_law_rows", "_law_frees_here", "_law_depths_here", "_law_row", "_law_one"], ["_law_box_here", "_law_letters_here", "_law_names", "_law_most", "_law_deep_here"], b_l_rows_to, ⟨[.ino 0 1, .inn 0, .inn 1, .inn 0, .inn 0], .own 0, 1⟩⟩
/-- 9: _law_frees(_law_saying); places: 0 _law_saying 1 _law_frees_here 2 _law_row -/
def b_l_frees : Ss := (.cons (.asg (.nm 1) (.lst .nil)) (.cons (.for_ [some ⟨.rd, 1⟩, some ⟨.own 1, 2⟩, none] (.nm 2) (.val true (.var 0 .bor)) (.cons (.expr (.mu .append 1 (.cons (.call 6 (.val (.var 2 .bor) (.val (.var 1 .bor) .nil))) .nil))) .nil)) (.cons (.ret (.var 1 .mov)) .nil)))
def d_l_frees : DefT := ⟨"_law_frees", topS 13, ["_law_saying", "_law_frees_here", "_law_row"], ["_law_saying"], b_l_frees, ⟨[.inn 1], .own 0, 2⟩⟩
/-- 10: _law_depths(_law_saying); places: 0 _law_saying 1 _law_depths_here 2 _law_row -/
def b_l_depths : Ss := (.cons (.asg (.nm 1) (.lst .nil)) (.cons (.for_ [some ⟨.rd, 1⟩, some ⟨.own 0, 1⟩, none] (.nm 2) (.val true (.var 0 .bor)) (.cons (.expr (.mu .append 1 (.cons (.call 7 (.val (.var 2 .bor) (.val (.var 1 .bor) .nil))) .nil))) .nil)) (.cons (.ret (.var 1 .mov)) .nil)))
def d_l_depths : DefT := ⟨"_law_depths", topS 15, ["_law_saying", "_law_depths_here", "_law_row"], ["_law_saying"], b_l_depths, ⟨[.inn 1], .own 0, 1⟩⟩
/-- 11: _law_doubled(_law_box_here, _law_rows); places: 0 _law_box_here 1 _law_rows 2 _law_found -/
def b_l_doubled : Ss := (.cons (.asg (.nm 2) (.bi (.list true) (.cons (.var 1 .bor) .nil))) (.cons (.while_ [some ⟨.own 0, 1⟩, some ⟨.rd, 1⟩, some ⟨.own 0, 1⟩] (.cmp .Lt (.bi .len (.cons (.var 2 .bor) .nil)) (.int 60)) (.cons (.expr (.mu .append 2 (.cons (.tup (.cons (.idx true (.lst (.cons (.str [97, 110, 100]) (.cons (.str [111, 114]) .nil))) (.call 1 (.ino 0 (.val (.int 2) .nil)))) (.cons (.bin false .Sub (.bi .len (.cons (.var 2 .bor) .nil)) (.int 1)) (.cons (.bin false .Sub (.bi .len (.cons (.var 2 .bor) .nil)) (.int 1)) .nil)))) .nil))) .nil)) (.cons (.ret (.bi (.tuple true) (.cons (.var 2 .bor) .nil))) .nil)))
def d_l_doubled : DefT := ⟨"_law_doubled", topS 18, ["_law_box_here", "_law_rows", "_law_found"], ["_law_box_here", "_law_rows"], b_l_doubled, ⟨[.ino 0 1, .inn 1], .own 0, 0⟩⟩
/-- 12: free_of(row, frees); places: 0 row 1 frees 2 both 3 name -/
def b_free_of : Ss := (.cons (.if_ (.cmp .Eq (.idx false (.var 0 .bor) (.int 0)) (.str [121, 101, 115])) (.cons (.ret (.tup .nil)) .nil) .nil) (.cons (.if_ (.cmp .Eq (.idx false (.var 0 .bor) (.int 0)) (.str [105, 115])) (.cons (.ret (.tup (.cons (.idx false (.var 0 .bor) (.int 1)) .nil))) .nil) .nil) (.cons (.if_ (.cmp .Eq (.idx false (.var 0 .bor) (.int 0)) (.str [110, 111, 116])) (.cons (.ret (.idx true (.var 1 .bor) (.idx false (.var 0 .bor) (.int 1)))) .nil) .nil) (.cons (.if_ (.bop true (.cmp .Eq (.idx false (.var 0 .bor) (.int 0)) (.str [115, 111, 109, 101])) (.cmp .Eq (.idx false (.var 0 .bor) (.int 0)) (.str [101, 97, 99, 104]))) (.cons (.ret (.bi (.tuple true) (.cons (.comp (.nm 3) (.val false (.idx true (.var 1 .bor) (.idx false (.var 0 .bor) (.int 2)))) (.some (.cmp .NotEq (.var 3 .bor) (.idx false (.var 0 .bor) (.int 1)))) (.var 3 .bor)) .nil))) .nil) .nil) (.cons (.asg (.nm 2) (.slc false (.var 0 .bor) (.some (.int 1)) .none)) (.cons (.if_ (.cmp .NotEq (.idx false (.var 0 .bor) (.int 0)) (.str [97, 104, 101, 97, 100])) (.cons (.asg (.nm 2) (.bin false .Add (.idx true (.var 1 .bor) (.idx false (.var 0 .bor) (.int 1))) (.idx true (.var 1 .bor) (.idx false (.var 0 .bor) (.int 2))))) .nil) .nil) (.cons (.ret (.bi (.tuple true) (.cons (.sset (.var 2 .bor)) .nil))) .nil)))))))
def d_free_of : DefT := ⟨"free_of", topS 1, ["row", "frees", "both", "name"], ["row", "frees"], b_free_of, ⟨[.inn 0, .inn 1], .own 0, 0⟩⟩
/-- 13: free_rows(saying); places: 0 saying 1 frees 2 row -/
def b_free_rows : Ss := (.cons (.asg (.nm 1) (.lst .nil)) (.cons (.for_ [some ⟨.frz, 0⟩, some ⟨.own 0, 1⟩, none] (.nm 2) (.val false (.var 0 .bor)) (.cons (.expr (.mu .append 1 (.cons (.call 12 (.val (.var 2 .bor) (.val (.var 1 .bor) .nil))) .nil))) .nil)) (.cons (.ret (.var 1 .mov)) .nil)))
def d_free_rows : DefT := ⟨"free_rows", topS 2, ["saying", "frees", "row"], ["saying"], b_free_rows, ⟨[.inn 0], .frz, 1⟩⟩
/-- 14: free_names(saying); places: 0 saying -/
def b_free_names : Ss := (.cons (.ret (.idx true (.call 13 (.val (.var 0 .bor) .nil)) (.neg (.int 1)))) .nil)
def d_free_names : DefT := ⟨"free_names", topS 3, ["saying"], ["saying"], b_free_names, ⟨[.inn 0], .own 0, 0⟩⟩
/-- 15: depth_of(saying); places: 0 saying 1 depths 2 row 3 depth -/
def b_depth_of : Ss := (.cons (.asg (.nm 1) (.lst .nil)) (.cons (.for_ [some ⟨.frz, 0⟩, some ⟨.own 0, 1⟩, none, none] (.nm 2) (.val false (.var 0 .bor)) (.cons (.asg (.nm 3) (.int 0)) (.cons (.if_ (.cmp .Eq (.idx false (.var 2 .bor) (.int 0)) (.str [110, 111, 116])) (.cons (.asg (.nm 3) (.idx true (.var 1 .bor) (.idx false (.var 2 .bor) (.int 1)))) .nil) (.cons (.if_ (.bop true (.cmp .Eq (.idx false (.var 2 .bor) (.int 0)) (.str [97, 110, 100])) (.cmp .Eq (.idx false (.var 2 .bor) (.int 0)) (.str [111, 114]))) (.cons (.asg (.nm 3) (.bi .max (.cons (.idx true (.var 1 .bor) (.idx false (.var 2 .bor) (.int 1))) (.cons (.idx true (.var 1 .bor) (.idx false (.var 2 .bor) (.int 2))) .nil)))) .nil) (.cons (.if_ (.bop true (.cmp .Eq (.idx false (.var 2 .bor) (.int 0)) (.str [115, 111, 109, 101])) (.cmp .Eq (.idx false (.var 2 .bor) (.int 0)) (.str [101, 97, 99, 104]))) (.cons (.asg (.nm 3) (.bin false .Add (.idx true (.var 1 .bor) (.idx false (.var 2 .bor) (.int 2))) (.int 1))) .nil) .nil) .nil)) .nil)) (.cons (.expr (.mu .append 1 (.cons (.var 3 .bor) .nil))) .nil)))) (.cons (.ret (.idx true (.var 1 .bor) (.neg (.int 1)))) .nil)))
def d_depth_of : DefT := ⟨"depth_of", topS 4, ["saying", "depths", "row", "depth"], ["saying"], b_depth_of, ⟨[.inn 0], .own 0, 0⟩⟩
/-- 16: _law_whole(_law_found); places: 0 _law_found -/
def b_l_whole : Ss := (.cons (.ret (.bop false (.bi .isint (.cons (.var 0 .bor) .nil)) (.not_ (.bi .isbool (.cons (.var 0 .bor) .nil))))) .nil)
def d_l_whole : DefT := ⟨"_law_whole", topS 17, ["_law_found"], ["_law_found"], b_l_whole, ⟨[.inn 0], .own 0, 0⟩⟩
/-- 17: law(_law_script); places: 0 _law_script 1 _law_box_here 2 _law_letters_here 3 _law_names 4 _law_most 5 _law_rows 6 _law_frees_here 7 _law_depths_here 8 _law_counts 9 _law_many 10 _law_free 11 _law_depth 12 _law_k -/
def b_law : Ss := (.cons (.asg (.nm 1) (.call 0 (.val (.var 0 .bor) (.val (.int 0) .nil)))) (.cons (.asg (.nm 2) (.call 2 (.ino 1 (.val (.int 4) .nil)))) (.cons (.asg (.nm 3) (.call 3 (.ino 1 (.val (.bin false .Add (.int 1) (.call 1 (.ino 1 (.val (.int 5) .nil)))) .nil)))) (.cons (.asg (.nm 4) (.idx true (.lst (.cons (.int 12) (.cons (.int 54) .nil))) (.bi .int (.cons (.cmp .Eq (.call 1 (.ino 1 (.val (.int 8) .nil))) (.int 0)) .nil)))) (.cons (.asg (.nm 5) (.call 8 (.own (.call 0 (.val (.var 0 .bor) (.val (.int 1) .nil))) (.val (.var 2 .bor) (.val (.var 3 .bor) (.val (.var 4 .bor) (.val (.int 60) .nil))))))) (.cons (.if_ (.cmp .Eq (.call 1 (.ino 1 (.val (.int 8) .nil))) (.int 0)) (.cons (.asg (.nm 5) (.call 11 (.ino 1 (.val (.slc true (.var 5 .bor) .none (.some (.int 3))) .nil)))) .nil) .nil) (.cons (.asg (.nm 6) (.call 9 (.val (.var 5 .bor) .nil))) (.cons (.asg (.nm 7) (.call 10 (.val (.var 5 .bor) .nil))) (.cons (.asg (.nm 8) (.lrng (.cons (.int 1) (.cons (.bin false .Add (.bi .len (.cons (.var 5 .bor) .nil)) (.int 1)) .nil)))) (.cons (.if_ (.cmp .Gt (.bi .len (.cons (.var 5 .bor) .nil)) (.int 14)) (.cons (.asg (.nm 8) (.bin true .Add (.comp (.nm 12) (.rng (.cons (.int 5) .nil)) .none (.bin false .Add (.int 1) (.call 1 (.ino 1 (.val (.bi .len (.cons (.var 5 .bor) .nil)) .nil))))) (.lst (.cons (.bi .len (.cons (.var 5 .bor) .nil)) .nil)))) .nil) .nil) (.cons (.for_ [some ⟨.rd, 1⟩, some ⟨.own 0, 1⟩, some ⟨.frz, 0⟩, some ⟨.own 0, 1⟩, some ⟨.frz, 0⟩, some ⟨.own 0, 1⟩, some ⟨.own 0, 2⟩, some ⟨.own 0, 1⟩, some ⟨.own 0, 1⟩, none, none, none, none] (.nm 9) (.val true (.var 8 .bor)) (.cons (.asg (.nm 10) (.call 14 (.val (.bi (.tuple true) (.cons (.slc true (.var 5 .bor) .none (.some (.var 9 .bor))) .nil)) .nil))) (.cons (.asg (.nm 11) (.call 15 (.val (.bi (.tuple true) (.cons (.slc true (.var 5 .bor) .none (.some (.var 9 .bor))) .nil)) .nil))) (.cons (.if_ (.bop true (.not_ (.bi .istup (.cons (.var 10 .bor) .nil))) (.cmp .NotEq (.var 10 .bor) (.bi (.tuple true) (.cons (.idx true (.var 6 .shl) (.bin false .Sub (.var 9 .bor) (.int 1))) .nil)))) (.cons (.ret (.bl false)) .nil) .nil) (.cons (.if_ (.bop true (.not_ (.call 16 (.val (.var 11 .bor) .nil))) (.cmp .NotEq (.var 11 .bor) (.idx true (.var 7 .bor) (.bin false .Sub (.var 9 .bor) (.int 1))))) (.cons (.ret (.bl false)) .nil) .nil) .nil))))) (.cons (.ret (.bl true)) .nil))))))))))))
def d_law : DefT := ⟨"law", topS 19, ["_law_script", "_law_box_here", "_law_letters_here", "_law_names", "_law_most", "_law_rows", "_law_frees_here", "_law_depths_here", "_law_counts", "_law_many", "_law_free", "_law_depth", "_law_k"], ["_law_script"], b_law, ⟨[.inn 1], .own 0, 0⟩⟩
def defs : List DefT := [d_l_box, d_l_take, d_l_letters, d_l_place_names, d_l_row_at, d_l_saying_rows, d_l_names_of, d_l_deep, d_l_rows_to, d_l_frees, d_l_depths, d_l_doubled, d_free_of, d_free_rows, d_free_names, d_depth_of, d_l_whole, d_law]
def gnames : List Str := []
def gks (i : Nat) : Nat := [].getD i 0
def gvals : List D := []
theorem chk : chkAll defs gnames gks = true := by decide +kernel
end K33

set_option maxRecDepth 100000
namespace K33
open PySem L2 Pm
local macro_rules | `(tactic| lt_chain) => `(tactic| try simp only [v_get, v_glb, c_bool, c_true, c_false, e_var, e_non, e_bl, e_int, e_str, e_glb, e_tup, e_lst, e_bin, e_cmp, e_chn, e_neg, e_revl, e_sset, e_lset, e_lrng, e_maxd, f_reprI, f_reprN, n_rev, s_dead, e_not, e_bop, e_idx, e_slc, e_call, p_ret, p_exc, e_bi, e_bm, e_mu, e_comp, es_nil, es_cons, o_none, o_some, t_none, t_some,
  a_nil, a_val, a_own, a_ino, i_low, i_val, i_rng, i_enum, i_zip, zp, it2_l, it2_s, itz_l, itz_t, itz_s, it_d, k_leS, b_mulS, b_mulL, s_asg, s_setI, s_expr, s_ret, s_retN, s_if, s_for, s_brk, s_cnt, s_pass, ss_n, ss_c, b_add, b_cat, b_catL, b_catT, b_sub, b_mul, b_div, b_mod, b_pow, k_lt, k_le, k_gt, k_ge, k_eqI, k_neI, k_eqS, k_neS, k_eqB, k_neB, k_inS, k_ninS, k_inTS, k_inLS, k_inLI, k_ninTS, k_ninLS, k_ninLI,
  x_lst, x_tup, x_str, l_lst, l_tup1, f_tupT1, l_tup, l_str, f_lenS, f_lenD, f_dict, f_sort, f_lenL, f_lenT, f_intB, f_intI, f_listL, f_listT, f_tupL, f_tupT, f_max, f_min, f_isb, f_isi, f_iss, f_isl, f_ist, u_app, u_ext, u_clear, g_nm, g_tp2, g_tp3, g_tpo1, g_tpo2, g_tpo3, g_tpo4, pl_n, pl_b, pl_i, pl_s, pl_t, pl_l, dp_n, dp_b, dp_i, dp_s, dp_t, dp_l, dps_n, dps_c, dps_mi, dps_ms, Bool.and_true, Bool.true_and, e_dp, e_ife, e_dnew, e_done, i_zip3, zp3, f_reprS, w_set, r_1, r_2, n_neg, n_not, n_bool, n_items, n_some, n_chr, n_lst, n_any, n_opt, n_bop, n_chn, tr_b, tr_i, tr_n, tr_l, tr_t, it_l, it_t, it_s,
  at0, at1, at2, at3, ix0, ix1, kt_rt, kt_nx, kt_ex, rs_nm, Option.elim_some, in_nil, in_inn, in_ino, out0, out1, decide_eq_true_eq, Bool.not_eq_true', Bool.not_eq_false', Bool.not_true, Bool.not_false, decide_eq_false_iff_not, Int.not_lt, Option.map_some, As.outs, setOuts, bo_join, bo_index, bo_rev, m_rev, k_eqSSr, k_neSSr, f_listS, true_and, and_true, List.getElem?_cons_zero, List.getElem?_cons_succ, List.set_cons_zero, List.set_cons_succ, List.length_cons, List.length_nil, List.map_cons, List.map_nil, not_true_eq_false, not_false_eq_true, false_implies, forall_const, decide_true, decide_false, Bool.true_eq_false, Bool.false_eq_true, reduceCtorEq])
local macro_rules | `(tactic| trivial) => `(tactic| omega)
local macro_rules | `(tactic| trivial) => `(tactic| (have := sz_lb; (try simp only [List.length_append, List.length_cons, List.length_nil, List.length_map, List.length_range, List.length_reverse]); omega))
abbrev frD (acc : List (List (List Nat))) : D := .lst (acc.map fun f => .lst (f.map .str))
abbrev ftD (acc : List (List (List Nat))) : D := .lst (acc.map fun f => .tup (f.map .str))
abbrev dpD (acc : List Nat) : D := .lst ((acc.map fun (n : Nat) => (n : Int)).map .int)
def namesOfSpec (ds : List D) (Post : FOut → Prop) : Prop := ∃ (r : Row) (acc : List (List (List Nat))), (rowOk acc.length r ∧ ∀ f ∈ acc, f.length ≤ 3) ∧ ds = [r.enc, frD acc] ∧ Post (.ret (.lst ((nmF r acc).map .str)) [])
def freeOfSpec (ds : List D) (Post : FOut → Prop) : Prop := ∃ (r : Row) (acc : List (List (List Nat))), (rowOk acc.length r ∧ (∀ f ∈ acc, f.length ≤ 3) ∧ ∀ f ∈ acc, Inc f) ∧ ds = [r.enc, ftD acc] ∧ Post (.ret (.tup ((nmF r acc).map .str)) [])
def deepSpec (ds : List D) (Post : FOut → Prop) : Prop := ∃ (r : Row) (acc : List Nat), rowOk acc.length r ∧ ds = [r.enc, dpD acc] ∧ Post (.ret (.int (dpt r acc : Nat)) [])
def rowsToSpec (ds : List D) (Post : FOut → Prop) : Prop := ∃ (x : Box) (L : List Nat) (ns : List (List Nat)) (m dm : Int), (1 ≤ L.length ∧ L.length ≤ 26 ∧ 1 ≤ ns.length ∧ ns.length ≤ 100 ∧ (∀ n ∈ ns, n.length ≤ 10) ∧ 1 ≤ m ∧ m ≤ 1000 ∧ 0 ≤ dm) ∧ ds = [x.enc, .str L, .lst (ns.map .str), .int m, .int dm] ∧
  ∀ (rs : List Row) (y : Box), okRows rs → few3 rs → 1 ≤ rs.length → (rs.length : Int) ≤ m → Post (.ret (.lst (rs.map Row.enc)) [y.enc])
def seqD (b : Bool) (xs : List D) : D := if b then .lst xs else .tup xs
def sayR (rs : List Row) : Prop := okRows rs ∧ few3 rs ∧ 1 ≤ rs.length ∧ rs.length ≤ 1000
def freesSpec (ds : List D) (Post : FOut → Prop) : Prop := ∃ (b : Bool) (rs : List Row), sayR rs ∧ ds = [seqD b (rs.map Row.enc)] ∧ Post (.ret (frD (frs rs)) [])
def depthsSpec (ds : List D) (Post : FOut → Prop) : Prop := ∃ (b : Bool) (rs : List Row), sayR rs ∧ ds = [seqD b (rs.map Row.enc)] ∧ Post (.ret (dpD (dps rs)) [])
def doubledSpec (ds : List D) (Post : FOut → Prop) : Prop := ∃ (x : Box) (rs : List Row), sayR rs ∧ ds = [x.enc, .lst (rs.map Row.enc)] ∧ ∀ (qs : List Row) (y : Box), sayR qs → Post (.ret (.tup (qs.map Row.enc)) [y.enc])
def freeRowsSpec (ds : List D) (Post : FOut → Prop) : Prop := ∃ rs : List Row, sayR rs ∧ ds = [.tup (rs.map Row.enc)] ∧ Post (.ret (ftD (frs rs)) [])
def freeNamesSpec (ds : List D) (Post : FOut → Prop) : Prop := ∃ rs : List Row, sayR rs ∧ ds = [.tup (rs.map Row.enc)] ∧ Post (.ret (.tup (((frs rs).getD (rs.length - 1) []).map .str)) [])
def depthOfSpec (ds : List D) (Post : FOut → Prop) : Prop := ∃ rs : List Row, sayR rs ∧ ds = [.tup (rs.map Row.enc)] ∧ Post (.ret (.int ((dps rs).getD (rs.length - 1) 0 : Nat)) [])
def wholeSpec (ds : List D) (Post : FOut → Prop) : Prop := ∃ i : Int, ds = [.int i] ∧ Post (.ret (.bl true) [])
def spec (f : Nat) : List D → (FOut → Prop) → Prop := match f with
  | 0 => boxSpec
  | 1 => takeSpec
  | 2 => lettersSpec
  | 3 => namesSpec
  | 4 => rowAtSpec
  | 5 => sayRowsSpec
  | 6 => namesOfSpec
  | 7 => deepSpec
  | 8 => rowsToSpec
  | 9 => freesSpec
  | 10 => depthsSpec
  | 11 => doubledSpec
  | 12 => freeOfSpec
  | 13 => freeRowsSpec
  | 14 => freeNamesSpec
  | 15 => depthOfSpec
  | 16 => wholeSpec
  | 17 => lawSpec 63
  | _ => fun _ _ => False
def ctx : Pm.Ctx := ⟨spec, fun g => gvals[g]?⟩
def XR : XRel := fun _ _ _ _ => False
/-! ### steps -/
theorem sset_S {ss : List (List Nat)} {k : D → Prop} (h : ss.length < 4096) (hk : k (.lst ((canon ss).map .str))) : ssetK (.lst (ss.map .str)) k :=
  ⟨by rw [List.length_map]; exact h, .inr ⟨ss, rfl, fun ts hi hm => by rw [canon_eq hi hm]; exact hk⟩⟩
theorem sset_T {ss : List (List Nat)} {k : D → Prop} (h : ss.length < 4096) (hk : k (.lst ((canon ss).map .str))) : ssetK (.tup (ss.map .str)) k :=
  ⟨by rw [List.length_map]; exact h, .inr ⟨ss, rfl, fun ts hi hm => by rw [canon_eq hi hm]; exact hk⟩⟩
theorem cut1 {x : D} {xs : List D} : cutL (x :: xs) (some 1) none = xs := by
  unfold cutL
  rw [show (1 : Int) = ((1 : Nat) : Int) from rfl, HT.sIx_nat, HT.sIx_none]
  have : min 1 (x :: xs).length = 1 := by simp
  rw [this]; simp
theorem for_cons {step : D → Penv → (Penv → Prop) → Prop} {K : Penv → Prop} {x : D} {xs : List D} {ρ : Penv} : forLoop step K (x :: xs) ρ = step x ρ (forLoop step K xs) := rfl
theorem for_nil {step : D → Penv → (Penv → Prop) → Prop} {K : Penv → Prop} {ρ : Penv} : forLoop step K [] ρ = K ρ := rfl
theorem fr_at {acc : List (List (List Nat))} {i : Nat} {k : D → Prop} (h : i < acc.length) (hk : k (.lst ((acc.getD i []).map .str))) : glbK (atI (acc.map fun f => D.lst (f.map D.str)) (i : Int)) k := by
  rw [atI_nn (by omega), Int.toNat_natCast, List.getElem?_map, List.getElem?_eq_getElem h]
  have e : acc.getD i [] = acc[i] := by simp [List.getElem?_eq_getElem h]
  rw [e] at hk; exact hk
theorem ft_at {acc : List (List (List Nat))} {i : Nat} {k : D → Prop} (h : i < acc.length) (hk : k (.tup ((acc.getD i []).map .str))) : glbK (atI (acc.map fun f => D.tup (f.map D.str)) (i : Int)) k := by
  rw [atI_nn (by omega), Int.toNat_natCast, List.getElem?_map, List.getElem?_eq_getElem h]
  have e : acc.getD i [] = acc[i] := by simp [List.getElem?_eq_getElem h]
  rw [e] at hk; exact hk
theorem dp_at {acc : List Nat} {i : Nat} {k : D → Prop} (h : i < acc.length) (hk : k (.int (acc.getD i 0 : Nat))) : glbK (atI ((acc.map fun (n : Nat) => (n : Int)).map D.int) (i : Int)) k := by
  rw [atI_nn (by omega), Int.toNat_natCast, List.getElem?_map, List.getElem?_map, List.getElem?_eq_getElem h]
  have e : acc.getD i 0 = acc[i] := by simp [List.getElem?_eq_getElem h]
  rw [e] at hk; exact hk
theorem wp_nm {i : Nat} {ρ : Penv} : wipeP (Tgt.nm i).slots ρ = ρ.set i none := rfl
def wNAO : List (List Nat) := [[110, 111, 116], [97, 110, 100], [111, 114]]
def wYIA : List (List Nat) := [[121, 101, 115], [105, 115], [97, 104, 101, 97, 100]]
theorem eNAO : [D.str [110, 111, 116], D.str [97, 110, 100], D.str [111, 114]] = wNAO.map .str := rfl
theorem eYIA : [D.str [121, 101, 115], D.str [105, 115], D.str [97, 104, 101, 97, 100]] = wYIA.map .str := rfl
theorem names_of_ok {ds : List D} {Post : FOut → Prop} (h : namesOfSpec ds Post) : evalSs ctx b_l_names_of (ini 5 ds) (ktOf ⟨[.inn 0, .inn 2], .own 0, 1⟩ Post) := by
  obtain ⟨r, acc, ⟨h1, h2⟩, rfl, hp⟩ := h
  show evalSs ctx b_l_names_of [some r.enc, some (frD acc), none, none, none] _
  unfold b_l_names_of
  cases r with
  | yes =>
    unfold Row.enc Pm.tYes
    lt_chain
    simp only [eNAO]
    lt_chain
    simp +decide only [false_implies, not_true_eq_false, not_false_eq_true, forall_const, true_and, and_true, implies_true]
    exact sset_S (ss := []) (by decide) hp
  | is_ x y =>
    unfold Row.enc tIs
    lt_chain
    simp only [eNAO]
    lt_chain
    simp +decide only [false_implies, not_true_eq_false, not_false_eq_true, forall_const, true_and, and_true, implies_true]
    exact sset_S (ss := [x]) (by simp) hp
  | ahd x y =>
    unfold Row.enc tAhead
    lt_chain
    simp only [eNAO]
    lt_chain
    simp +decide only [false_implies, not_true_eq_false, not_false_eq_true, forall_const, true_and, and_true, implies_true]
    exact sset_S (ss := [x, y]) (by simp) hp
  | not_ i =>
    have h1 : i < acc.length := h1
    have hl := h2 _ (getD_mem (d := []) h1)
    unfold Row.enc Pm.tNot
    lt_chain
    simp only [eNAO]
    lt_chain
    simp +decide only [false_implies, not_true_eq_false, not_false_eq_true, forall_const, true_and, and_true, implies_true]
    rw [cut1, for_cons]
    unfold Pm.stepF
    lt_chain
    refine fr_at h1 ?_
    lt_chain
    refine ⟨by trivial, ?_⟩
    rw [for_nil]
    lt_chain
    simp +decide only [false_implies, not_true_eq_false, not_false_eq_true, forall_const, true_and, and_true, implies_true]
    exact sset_S (ss := acc.getD i []) (by omega) hp
  | bin o i j =>
    have h1 : i < acc.length ∧ j < acc.length := h1
    have hl := h2 _ (getD_mem (d := []) h1.1)
    have hl2 := h2 _ (getD_mem (d := []) h1.2)
    cases o
    all_goals
      unfold Row.enc
      simp only [tBin, Bool.false_eq_true, if_false, if_true]
      lt_chain
      simp only [eNAO]
      lt_chain
      simp +decide only [false_implies, not_true_eq_false, not_false_eq_true, forall_const, true_and, and_true, implies_true]
      rw [cut1, for_cons]
      unfold Pm.stepF
      lt_chain
      refine fr_at h1.1 ?_
      lt_chain
      refine ⟨by trivial, ?_⟩
      rw [for_cons]
      lt_chain
      refine fr_at h1.2 ?_
      lt_chain
      refine ⟨by trivial, ?_⟩
      rw [for_nil]
      lt_chain
      simp +decide only [false_implies, not_true_eq_false, not_false_eq_true, forall_const, true_and, and_true, implies_true]
      rw [List.nil_append, ← List.map_append]
      exact sset_S (ss := acc.getD i [] ++ acc.getD j []) (by rw [List.length_append]; omega) hp
  | qu o x i =>
    have h1 : x.length ≤ 10 ∧ i < acc.length := h1
    have hl := h2 _ (getD_mem (d := []) h1.2)
    cases o with
    | false =>
      unfold Row.enc
      simp only [tQu, Bool.false_eq_true, if_false, if_true]
      lt_chain
      simp only [eNAO]
      lt_chain
      simp +decide only [false_implies, not_true_eq_false, not_false_eq_true, forall_const, true_and, and_true, implies_true]
      refine fr_at h1.2 ?_
      lt_chain
      refine ⟨by trivial, compFT (f := D.str) (h := D.str) (fun n => decide (n ≠ x)) (fun ρ => ∃ z4, ρ = [some (.tup [.str [115, 111, 109, 101], .str x, .int i]), some (frD acc), some (.lst []), none, z4]) ⟨none, rfl⟩ (fun a ha ρ k hS hk => ?_) (fun ρ hS => ?_)⟩
      · obtain ⟨z4, rfl⟩ := hS
        unfold stepC
        simp only [wp_nm]
        lt_chain
        by_cases h : a = x
        · subst h
          rw [if_neg (by simp)]
          simp only [ne_eq, not_true_eq_false, decide_false, Bool.false_eq_true, if_false] at hk
          exact hk _ ⟨_, rfl⟩
        · rw [if_pos (by simpa using h)]
          simp only [ne_eq, h, not_false_eq_true, decide_true, if_true] at hk
          exact hk _ ⟨_, rfl⟩
      · obtain ⟨z4, rfl⟩ := hS
        lt_chain
        exact sset_S (ss := raw (.qu false x i) acc) (Nat.lt_of_le_of_lt (raw_len (r := .qu false x i) h1 h2) (by decide)) hp
    | true =>
      unfold Row.enc
      simp only [tQu, Bool.false_eq_true, if_false, if_true]
      lt_chain
      simp only [eNAO]
      lt_chain
      simp +decide only [false_implies, not_true_eq_false, not_false_eq_true, forall_const, true_and, and_true, implies_true]
      refine fr_at h1.2 ?_
      lt_chain
      refine ⟨by trivial, compFT (f := D.str) (h := D.str) (fun n => decide (n ≠ x)) (fun ρ => ∃ z4, ρ = [some (.tup [.str [101, 97, 99, 104], .str x, .int i]), some (frD acc), some (.lst []), none, z4]) ⟨none, rfl⟩ (fun a ha ρ k hS hk => ?_) (fun ρ hS => ?_)⟩
      · obtain ⟨z4, rfl⟩ := hS
        unfold stepC
        simp only [wp_nm]
        lt_chain
        by_cases h : a = x
        · subst h
          rw [if_neg (by simp)]
          simp only [ne_eq, not_true_eq_false, decide_false, Bool.false_eq_true, if_false] at hk
          exact hk _ ⟨_, rfl⟩
        · rw [if_pos (by simpa using h)]
          simp only [ne_eq, h, not_false_eq_true, decide_true, if_true] at hk
          exact hk _ ⟨_, rfl⟩
      · obtain ⟨z4, rfl⟩ := hS
        lt_chain
        exact sset_S (ss := raw (.qu true x i) acc) (Nat.lt_of_le_of_lt (raw_len (r := .qu true x i) h1 h2) (by decide)) hp
theorem free_of_ok {ds : List D} {Post : FOut → Prop} (h : freeOfSpec ds Post) : evalSs ctx b_free_of (ini 4 ds) (ktOf ⟨[.inn 0, .inn 1], .own 0, 0⟩ Post) := by
  obtain ⟨r, acc, ⟨h1, h2, h3⟩, rfl, hp⟩ := h
  show evalSs ctx b_free_of [some r.enc, some (ftD acc), none, none] _
  unfold b_free_of
  cases r with
  | yes =>
    unfold Row.enc Pm.tYes
    lt_chain
    exact ⟨by trivial, hp⟩
  | is_ x y =>
    unfold Row.enc tIs
    lt_chain
    simp +decide only [false_implies, not_true_eq_false, not_false_eq_true, forall_const, true_and, and_true, implies_true]
    have e : nmF (.is_ x y) acc = [x] := canon_self (List.pairwise_singleton _ _)
    rw [e] at hp
    first | exact hp | exact ⟨by trivial, hp⟩
  | ahd x y =>
    unfold Row.enc tAhead
    lt_chain
    simp +decide only [false_implies, not_true_eq_false, not_false_eq_true, forall_const, true_and, and_true, implies_true]
    rw [cut1]
    refine sset_T (ss := [x, y]) (by simp) ?_
    lt_chain
    exact hp
  | not_ i =>
    have h1 : i < acc.length := h1
    have hm := getD_mem (d := []) h1
    have e : nmF (.not_ i) acc = acc.getD i [] := canon_self (h3 _ hm)
    rw [e] at hp
    unfold Row.enc Pm.tNot
    lt_chain
    simp +decide only [false_implies, not_true_eq_false, not_false_eq_true, forall_const, true_and, and_true, implies_true]
    exact ft_at h1 hp
  | bin o i j =>
    have h1 : i < acc.length ∧ j < acc.length := h1
    have hl := h2 _ (getD_mem (d := []) h1.1)
    have hl2 := h2 _ (getD_mem (d := []) h1.2)
    cases o
    all_goals
      unfold Row.enc
      simp only [tBin, Bool.false_eq_true, if_false, if_true]
      lt_chain
      simp +decide only [false_implies, not_true_eq_false, not_false_eq_true, forall_const, true_and, and_true, implies_true]
      refine ft_at h1.1 ?_
      lt_chain
      refine ft_at h1.2 ?_
      lt_chain
      refine ⟨by trivial, ?_⟩
      rw [← List.map_append]
      refine sset_T (ss := acc.getD i [] ++ acc.getD j []) (by rw [List.length_append]; omega) ?_
      lt_chain
      exact hp
  | qu o x i =>
    have h1 : x.length ≤ 10 ∧ i < acc.length := h1
    have hm := getD_mem (d := []) h1.2
    have hl := h2 _ hm
    have e : nmF (.qu o x i) acc = (acc.getD i []).filter fun n => decide (n ≠ x) := canon_self (inc_filter _ (h3 _ hm))
    rw [e] at hp
    cases o with
    | false =>
      unfold Row.enc
      simp only [tQu, Bool.false_eq_true, if_false, if_true]
      lt_chain
      simp +decide only [false_implies, not_true_eq_false, not_false_eq_true, forall_const, true_and, and_true, implies_true]
      refine ft_at h1.2 ?_
      lt_chain
      refine ⟨by trivial, compFT (f := D.str) (h := D.str) (fun n => decide (n ≠ x)) (fun ρ => ∃ z3, ρ = [some (.tup [.str [115, 111, 109, 101], .str x, .int i]), some (ftD acc), none, z3]) ⟨none, rfl⟩ (fun a ha ρ k hS hk => ?_) (fun ρ hS => ?_)⟩
      · obtain ⟨z3, rfl⟩ := hS
        unfold stepC
        simp only [wp_nm]
        lt_chain
        by_cases h : a = x
        · subst h
          rw [if_neg (by simp)]
          simp only [ne_eq, not_true_eq_false, decide_false, Bool.false_eq_true, if_false] at hk
          exact hk _ ⟨_, rfl⟩
        · rw [if_pos (by simpa using h)]
          simp only [ne_eq, h, not_false_eq_true, decide_true, if_true] at hk
          exact hk _ ⟨_, rfl⟩
      · obtain ⟨z3, rfl⟩ := hS
        lt_chain
        exact hp
    | true =>
      unfold Row.enc
      simp only [tQu, Bool.false_eq_true, if_false, if_true]
      lt_chain
      simp +decide only [false_implies, not_true_eq_false, not_false_eq_true, forall_const, true_and, and_true, implies_true]
      refine ft_at h1.2 ?_
      lt_chain
      refine ⟨by trivial, compFT (f := D.str) (h := D.str) (fun n => decide (n ≠ x)) (fun ρ => ∃ z3, ρ = [some (.tup [.str [101, 97, 99, 104], .str x, .int i]), some (ftD acc), none, z3]) ⟨none, rfl⟩ (fun a ha ρ k hS hk => ?_) (fun ρ hS => ?_)⟩
      · obtain ⟨z3, rfl⟩ := hS
        unfold stepC
        simp only [wp_nm]
        lt_chain
        by_cases h : a = x
        · subst h
          rw [if_neg (by simp)]
          simp only [ne_eq, not_true_eq_false, decide_false, Bool.false_eq_true, if_false] at hk
          exact hk _ ⟨_, rfl⟩
        · rw [if_pos (by simpa using h)]
          simp only [ne_eq, h, not_false_eq_true, decide_true, if_true] at hk
          exact hk _ ⟨_, rfl⟩
      · obtain ⟨z3, rfl⟩ := hS
        lt_chain
        exact hp
end K33

set_option maxRecDepth 100000
namespace K33
open PySem L2 Pm
local macro_rules | `(tactic| lt_chain) => `(tactic| try simp only [v_get, v_glb, c_bool, c_true, c_false, e_var, e_non, e_bl, e_int, e_str, e_glb, e_tup, e_lst, e_bin, e_cmp, e_chn, e_neg, e_revl, e_sset, e_lset, e_lrng, e_maxd, f_reprI, f_reprN, n_rev, s_dead, e_not, e_bop, e_idx, e_slc, e_call, p_ret, p_exc, e_bi, e_bm, e_mu, e_comp, es_nil, es_cons, o_none, o_some, t_none, t_some,
  a_nil, a_val, a_own, a_ino, i_low, i_val, i_rng, i_enum, i_zip, zp, it2_l, it2_s, itz_l, itz_t, itz_s, it_d, k_leS, b_mulS, b_mulL, s_asg, s_setI, s_expr, s_ret, s_retN, s_if, s_for, s_brk, s_cnt, s_pass, ss_n, ss_c, b_add, b_cat, b_catL, b_catT, b_sub, b_mul, b_div, b_mod, b_pow, k_lt, k_le, k_gt, k_ge, k_eqI, k_neI, k_eqS, k_neS, k_eqB, k_neB, k_inS, k_ninS, k_inTS, k_inLS, k_inLI, k_ninTS, k_ninLS, k_ninLI,
  x_lst, x_tup, x_str, l_lst, l_tup1, f_tupT1, l_tup, l_str, f_lenS, f_lenD, f_dict, f_sort, f_lenL, f_lenT, f_intB, f_intI, f_listL, f_listT, f_tupL, f_tupT, f_max, f_min, f_isb, f_isi, f_iss, f_isl, f_ist, u_app, u_ext, u_clear, g_nm, g_tp2, g_tp3, g_tpo1, g_tpo2, g_tpo3, g_tpo4, pl_n, pl_b, pl_i, pl_s, pl_t, pl_l, dp_n, dp_b, dp_i, dp_s, dp_t, dp_l, dps_n, dps_c, dps_mi, dps_ms, Bool.and_true, Bool.true_and, e_dp, e_ife, e_dnew, e_done, i_zip3, zp3, f_reprS, w_set, r_1, r_2, n_neg, n_not, n_bool, n_items, n_some, n_chr, n_lst, n_any, n_opt, n_bop, n_chn, tr_b, tr_i, tr_n, tr_l, tr_t, it_l, it_t, it_s,
  at0, at1, at2, at3, ix0, ix1, kt_rt, kt_nx, kt_ex, rs_nm, Option.elim_some, in_nil, in_inn, in_ino, out0, out1, decide_eq_true_eq, Bool.not_eq_true', Bool.not_eq_false', Bool.not_true, Bool.not_false, decide_eq_false_iff_not, Int.not_lt, Option.map_some, As.outs, setOuts, bo_join, bo_index, bo_rev, m_rev, k_eqSSr, k_neSSr, f_listS, true_and, and_true, List.getElem?_cons_zero, List.getElem?_cons_succ, List.set_cons_zero, List.set_cons_succ, List.length_cons, List.length_nil, List.map_cons, List.map_nil, not_true_eq_false, not_false_eq_true, false_implies, forall_const, decide_true, decide_false, Bool.true_eq_false, Bool.false_eq_true, reduceCtorEq])
local macro_rules | `(tactic| trivial) => `(tactic| omega)
local macro_rules | `(tactic| trivial) => `(tactic| (have := sz_lb; (try simp only [List.length_append, List.length_cons, List.length_nil, List.length_map, List.length_range, List.length_reverse]); omega))
theorem mx2 {a b : Nat} {m : Int} (h1 : m = a ∨ m = b) (h2 : (a : Int) ≤ m) (h3 : (b : Int) ≤ m) : m = ((max a b : Nat) : Int) := by omega
theorem deep_ok {ds : List D} {Post : FOut → Prop} (h : deepSpec ds Post) : evalSs ctx b_l_deep (ini 3 ds) (ktOf ⟨[.inn 0, .inn 1], .own 0, 0⟩ Post) := by
  obtain ⟨r, acc, h1, rfl, hp⟩ := h
  show evalSs ctx b_l_deep [some r.enc, some (dpD acc), none] _
  unfold b_l_deep
  have eg : ∀ i : Nat, i < acc.length → ∀ (d0 : D) (k : D → Penv → Prop), k (.int (acc.getD i 0 : Nat)) [some d0, some (dpD acc), some (.int i)] → evalE ctx (.idx true (.var 1 .bor) (.var 2 .bor)) [some d0, some (dpD acc), some (.int i)] k (fun _ _ => False) := by
    intro i hi d0 k hk
    lt_chain
    exact dp_at hi hk
  cases r with
  | yes =>
    unfold Row.enc Pm.tYes
    lt_chain
    simp only [eYIA]
    lt_chain
    simp +decide only [false_implies, not_true_eq_false, not_false_eq_true, forall_const, true_and, and_true, implies_true]
    exact hp
  | is_ x y =>
    unfold Row.enc tIs
    lt_chain
    simp only [eYIA]
    lt_chain
    simp +decide only [false_implies, not_true_eq_false, not_false_eq_true, forall_const, true_and, and_true, implies_true]
    exact hp
  | ahd x y =>
    unfold Row.enc tAhead
    lt_chain
    simp only [eYIA]
    lt_chain
    simp +decide only [false_implies, not_true_eq_false, not_false_eq_true, forall_const, true_and, and_true, implies_true]
    exact hp
  | not_ i =>
    have h1 : i < acc.length := h1
    unfold Row.enc Pm.tNot
    lt_chain
    simp only [eYIA]
    lt_chain
    simp +decide only [false_implies, not_true_eq_false, not_false_eq_true, forall_const, true_and, and_true, implies_true]
    rw [cut1]
    refine ⟨by trivial, compV (i := 2) (fun x => match x with | .int j => .int (acc.getD j.toNat 0 : Nat) | d => d) rfl (fun x hx k hk => ?_) (fun z => ?_)⟩
    · rw [List.mem_singleton.mp hx] at hk ⊢
      exact eg i h1 _ k hk
    · lt_chain
      refine f_maxL (is := [((acc.getD i 0 : Nat) : Int)]) (by simp) fun m hm _ => ?_
      rw [List.mem_singleton.mp hm]
      lt_chain
      exact hp
  | bin o i j =>
    have h1 : i < acc.length ∧ j < acc.length := h1
    cases o
    all_goals
      unfold Row.enc
      simp only [tBin, Bool.false_eq_true, if_false, if_true]
      lt_chain
      simp only [eYIA]
      lt_chain
      simp +decide only [false_implies, not_true_eq_false, not_false_eq_true, forall_const, true_and, and_true, implies_true]
      rw [cut1]
      refine ⟨by trivial, compV (i := 2) (fun x => match x with | .int j => .int (acc.getD j.toNat 0 : Nat) | d => d) rfl (fun x hx k hk => ?_) (fun z => ?_)⟩
      · rcases List.mem_cons.mp hx with rfl | hx
        · exact eg i h1.1 _ k hk
        · rw [List.mem_singleton.mp hx] at hk ⊢
          exact eg j h1.2 _ k hk
      · lt_chain
        refine f_maxL (is := [((acc.getD i 0 : Nat) : Int), ((acc.getD j 0 : Nat) : Int)]) (by simp) fun m hm hy => ?_
        have e := mx2 (by simpa using hm) (hy _ (by simp)) (hy _ (by simp))
        rw [e]
        lt_chain
        exact hp
  | qu o x i =>
    have h1 : x.length ≤ 10 ∧ i < acc.length := h1
    cases o
    all_goals
      unfold Row.enc
      simp only [tQu, Bool.false_eq_true, if_false, if_true]
      lt_chain
      simp only [eYIA]
      lt_chain
      simp +decide only [false_implies, not_true_eq_false, not_false_eq_true, forall_const, true_and, and_true, implies_true]
      refine dp_at h1.2 ?_
      lt_chain
      have e : ((acc.getD i 0 : Nat) : Int) + 1 = ((acc.getD i 0 + 1 : Nat) : Int) := by omega
      rw [e]
      exact hp
theorem rows_deps (rs : List Row) : D.deps 0 (rs.map Row.enc) = true := dps_m fun r _ => by cases r <;> rfl
theorem items_seq {b : Bool} {rs : List Row} {k : List D → Prop} (h : k (rs.map Row.enc)) : itemsK (D.items true (seqD b (rs.map Row.enc))) k := by
  cases b with
  | true => exact h
  | false =>
    show itemsK (D.items true (.tup (rs.map Row.enc))) k
    rw [it_t1 (rows_deps rs)]; exact h
theorem row_i {rs : List Row} {i : Nat} {x : D} (hx : (rs.map Row.enc)[i]? = some x) : ∃ r, rs[i]? = some r ∧ x = r.enc ∧ rs.take (i + 1) = rs.take i ++ [r] := by
  rw [List.getElem?_map] at hx
  cases e : rs[i]? with
  | none => rw [e] at hx; cases hx
  | some r => rw [e] at hx; cases hx; exact ⟨r, rfl, rfl, by rw [List.take_add_one, e]; rfl⟩
theorem frees_ok {ds : List D} {Post : FOut → Prop} (h : freesSpec ds Post) : evalSs ctx b_l_frees (ini 3 ds) (ktOf ⟨[.inn 1], .own 0, 2⟩ Post) := by
  obtain ⟨b, rs, ⟨h1, h2, h3, h4⟩, rfl, hp⟩ := h
  show evalSs ctx b_l_frees [some (seqD b (rs.map Row.enc)), none, none] _
  unfold b_l_frees
  lt_chain
  refine ⟨by trivial, items_seq (forL (fun i ρ => ∃ z2, ρ = [some (seqD b (rs.map Row.enc)), some (frD (frs (rs.take i))), z2]) ⟨none, rfl⟩ (fun i x ρ k hx hI hk => ?_) (fun ρ hI => ?_))⟩
  · obtain ⟨z2, rfl⟩ := hI
    obtain ⟨r, hr, rfl, eT⟩ := row_i hx
    have hi : i < rs.length := (List.getElem?_eq_some_iff.mp hr).1
    have hl : (frs (rs.take i)).length = i := by rw [frs_len, List.length_take]; omega
    unfold Pm.stepF
    lt_chain
    refine ⟨r, frs (rs.take i), ⟨by rw [hl]; exact h1 i r hr, h2.take i⟩, rfl, ?_⟩
    lt_chain
    refine ⟨by rw [List.length_map, hl]; have := sz_lb; omega, ?_⟩
    have := hk _ ⟨some r.enc, rfl⟩
    rw [eT, frs_snoc] at this
    rw [frD, List.map_append] at this
    exact this
  · obtain ⟨z2, rfl⟩ := hI
    rw [List.length_map, List.take_length]
    lt_chain
    exact hp
theorem depths_ok {ds : List D} {Post : FOut → Prop} (h : depthsSpec ds Post) : evalSs ctx b_l_depths (ini 3 ds) (ktOf ⟨[.inn 1], .own 0, 1⟩ Post) := by
  obtain ⟨b, rs, ⟨h1, h2, h3, h4⟩, rfl, hp⟩ := h
  show evalSs ctx b_l_depths [some (seqD b (rs.map Row.enc)), none, none] _
  unfold b_l_depths
  lt_chain
  refine ⟨by trivial, items_seq (forL (fun i ρ => ∃ z2, ρ = [some (seqD b (rs.map Row.enc)), some (dpD (dps (rs.take i))), z2]) ⟨none, rfl⟩ (fun i x ρ k hx hI hk => ?_) (fun ρ hI => ?_))⟩
  · obtain ⟨z2, rfl⟩ := hI
    obtain ⟨r, hr, rfl, eT⟩ := row_i hx
    have hi : i < rs.length := (List.getElem?_eq_some_iff.mp hr).1
    have hl : (dps (rs.take i)).length = i := by rw [dps_len, List.length_take]; omega
    unfold Pm.stepF
    lt_chain
    refine ⟨r, dps (rs.take i), by rw [hl]; exact h1 i r hr, rfl, ?_⟩
    lt_chain
    refine ⟨by rw [List.length_map, List.length_map, hl]; have := sz_lb; omega, ?_⟩
    have := hk _ ⟨some r.enc, rfl⟩
    rw [eT, dps_snoc] at this
    rw [dpD, List.map_append, List.map_append] at this
    exact this
  · obtain ⟨z2, rfl⟩ := hI
    rw [List.length_map, List.take_length]
    lt_chain
    exact hp
theorem free_rows_ok {ds : List D} {Post : FOut → Prop} (h : freeRowsSpec ds Post) : evalSs ctx b_free_rows (ini 3 ds) (ktOf ⟨[.inn 0], .frz, 1⟩ Post) := by
  obtain ⟨rs, ⟨h1, h2, h3, h4⟩, rfl, hp⟩ := h
  show evalSs ctx b_free_rows [some (.tup (rs.map Row.enc)), none, none] _
  unfold b_free_rows
  lt_chain
  refine ⟨by trivial, forL (fun i ρ => ∃ z2, ρ = [some (.tup (rs.map Row.enc)), some (ftD (frs (rs.take i))), z2]) ⟨none, rfl⟩ (fun i x ρ k hx hI hk => ?_) (fun ρ hI => ?_)⟩
  · obtain ⟨z2, rfl⟩ := hI
    obtain ⟨r, hr, rfl, eT⟩ := row_i hx
    have hi : i < rs.length := (List.getElem?_eq_some_iff.mp hr).1
    have hl : (frs (rs.take i)).length = i := by rw [frs_len, List.length_take]; omega
    unfold Pm.stepF
    lt_chain
    refine ⟨r, frs (rs.take i), ⟨by rw [hl]; exact h1 i r hr, h2.take i, frs_inc _⟩, rfl, ?_⟩
    lt_chain
    refine ⟨by rw [List.length_map, hl]; have := sz_lb; omega, ?_⟩
    have := hk _ ⟨some r.enc, rfl⟩
    rw [eT, frs_snoc] at this
    rw [ftD, List.map_append] at this
    exact this
  · obtain ⟨z2, rfl⟩ := hI
    rw [List.length_map, List.take_length]
    lt_chain
    exact hp
theorem last_at {α : Type} {xs : List α} {f : α → D} {d : α} {n : Nat} {k : D → Prop} (hn : xs.length = n) (h : 1 ≤ n) (hk : k (f (xs.getD (n - 1) d))) : glbK (atI (xs.map f) (-1)) k := by
  rw [ix_last, List.getLast?_map, List.getLast?_eq_getElem?, hn, List.getElem?_eq_getElem (by omega)]
  have e : xs.getD (n - 1) d = xs[n - 1]'(by omega) := by simp [List.getElem?_eq_getElem (show n - 1 < xs.length by omega)]
  rw [e] at hk; exact hk
theorem free_names_ok {ds : List D} {Post : FOut → Prop} (h : freeNamesSpec ds Post) : evalSs ctx b_free_names (ini 1 ds) (ktOf ⟨[.inn 0], .own 0, 0⟩ Post) := by
  obtain ⟨rs, hs, rfl, hp⟩ := h
  show evalSs ctx b_free_names [some (.tup (rs.map Row.enc))] _
  unfold b_free_names
  lt_chain
  refine ⟨rs, hs, rfl, ?_⟩
  lt_chain
  exact last_at (f := fun f : List (List Nat) => D.tup (f.map .str)) (d := []) (frs_len rs) hs.2.2.1 hp
end K33

set_option maxRecDepth 100000
namespace K33
open PySem L2 Pm
local macro_rules | `(tactic| lt_chain) => `(tactic| try simp only [v_get, v_glb, c_bool, c_true, c_false, e_var, e_non, e_bl, e_int, e_str, e_glb, e_tup, e_lst, e_bin, e_cmp, e_chn, e_neg, e_revl, e_sset, e_lset, e_lrng, e_maxd, f_reprI, f_reprN, n_rev, s_dead, e_not, e_bop, e_idx, e_slc, e_call, p_ret, p_exc, e_bi, e_bm, e_mu, e_comp, es_nil, es_cons, o_none, o_some, t_none, t_some,
  a_nil, a_val, a_own, a_ino, i_low, i_val, i_rng, i_enum, i_zip, zp, it2_l, it2_s, itz_l, itz_t, itz_s, it_d, k_leS, b_mulS, b_mulL, s_asg, s_setI, s_expr, s_ret, s_retN, s_if, s_for, s_brk, s_cnt, s_pass, ss_n, ss_c, b_add, b_cat, b_catL, b_catT, b_sub, b_mul, b_div, b_mod, b_pow, k_lt, k_le, k_gt, k_ge, k_eqI, k_neI, k_eqS, k_neS, k_eqB, k_neB, k_inS, k_ninS, k_inTS, k_inLS, k_inLI, k_ninTS, k_ninLS, k_ninLI,
  x_lst, x_tup, x_str, l_lst, l_tup1, f_tupT1, l_tup, l_str, f_lenS, f_lenD, f_dict, f_sort, f_lenL, f_lenT, f_intB, f_intI, f_listL, f_listT, f_tupL, f_tupT, f_max, f_min, f_isb, f_isi, f_iss, f_isl, f_ist, u_app, u_ext, u_clear, g_nm, g_tp2, g_tp3, g_tpo1, g_tpo2, g_tpo3, g_tpo4, pl_n, pl_b, pl_i, pl_s, pl_t, pl_l, dp_n, dp_b, dp_i, dp_s, dp_t, dp_l, dps_n, dps_c, dps_mi, dps_ms, Bool.and_true, Bool.true_and, e_dp, e_ife, e_dnew, e_done, i_zip3, zp3, f_reprS, w_set, r_1, r_2, n_neg, n_not, n_bool, n_items, n_some, n_chr, n_lst, n_any, n_opt, n_bop, n_chn, tr_b, tr_i, tr_n, tr_l, tr_t, it_l, it_t, it_s,
  at0, at1, at2, at3, ix0, ix1, kt_rt, kt_nx, kt_ex, rs_nm, Option.elim_some, in_nil, in_inn, in_ino, out0, out1, decide_eq_true_eq, Bool.not_eq_true', Bool.not_eq_false', Bool.not_true, Bool.not_false, decide_eq_false_iff_not, Int.not_lt, Option.map_some, As.outs, setOuts, bo_join, bo_index, bo_rev, m_rev, k_eqSSr, k_neSSr, f_listS, true_and, and_true, List.getElem?_cons_zero, List.getElem?_cons_succ, List.set_cons_zero, List.set_cons_succ, List.length_cons, List.length_nil, List.map_cons, List.map_nil, not_true_eq_false, not_false_eq_true, false_implies, forall_const, decide_true, decide_false, Bool.true_eq_false, Bool.false_eq_true, reduceCtorEq])
local macro_rules | `(tactic| trivial) => `(tactic| omega)
local macro_rules | `(tactic| trivial) => `(tactic| (have := sz_lb; (try simp only [List.length_append, List.length_cons, List.length_nil, List.length_map, List.length_range, List.length_reverse]); omega))
theorem whole_ok {ds : List D} {Post : FOut → Prop} (h : wholeSpec ds Post) : evalSs ctx b_l_whole (ini 1 ds) (ktOf ⟨[.inn 0], .own 0, 0⟩ Post) := by
  obtain ⟨i, rfl, hp⟩ := h
  show evalSs ctx b_l_whole [some (.int i)] _
  unfold b_l_whole
  lt_chain
  exact hp
theorem maxI (a b : Nat) : (if (b : Int) > (a : Int) then (b : Int) else (a : Int)) = ((max a b : Nat) : Int) := by split <;> omega
theorem depth_of_ok {ds : List D} {Post : FOut → Prop} (h : depthOfSpec ds Post) : evalSs ctx b_depth_of (ini 4 ds) (ktOf ⟨[.inn 0], .own 0, 0⟩ Post) := by
  obtain ⟨rs, ⟨h1, h2, h3, h4⟩, rfl, hp⟩ := h
  show evalSs ctx b_depth_of [some (.tup (rs.map Row.enc)), none, none, none] _
  unfold b_depth_of
  lt_chain
  refine ⟨by trivial, forL (fun i ρ => ∃ z2 z3, ρ = [some (.tup (rs.map Row.enc)), some (dpD (dps (rs.take i))), z2, z3]) ⟨none, none, rfl⟩ (fun i x ρ k hx hI hk => ?_) (fun ρ hI => ?_)⟩
  · obtain ⟨z2, z3, rfl⟩ := hI
    obtain ⟨r, hr, rfl, eT⟩ := row_i hx
    have hi : i < rs.length := (List.getElem?_eq_some_iff.mp hr).1
    have hl : (dps (rs.take i)).length = i := by rw [dps_len, List.length_take]; omega
    have hro := h1 i r hr
    have hk2 := hk [some (.tup (rs.map Row.enc)), some (dpD (dps (rs.take (i + 1)))), some r.enc, some (.int (dpt r (dps (rs.take i)) : Nat))] ⟨_, _, rfl⟩
    rw [eT, dps_snoc, dpD, List.map_append, List.map_append] at hk2
    have hz : (((dps (rs.take i)).map fun (n : Nat) => (n : Int)).map D.int).length < sizeLine := by
      rw [List.length_map, List.length_map, hl]; have := sz_lb; omega
    generalize dps (rs.take i) = acc at *
    unfold Pm.stepF
    cases r with
    | yes =>
      unfold Row.enc Pm.tYes at *
      lt_chain
      simp +decide only [false_implies, not_true_eq_false, not_false_eq_true, forall_const, true_and, and_true, implies_true]
      exact ⟨hz, hk2⟩
    | is_ x y =>
      unfold Row.enc tIs at *
      lt_chain
      simp +decide only [false_implies, not_true_eq_false, not_false_eq_true, forall_const, true_and, and_true, implies_true]
      exact ⟨hz, hk2⟩
    | ahd x y =>
      unfold Row.enc tAhead at *
      lt_chain
      simp +decide only [false_implies, not_true_eq_false, not_false_eq_true, forall_const, true_and, and_true, implies_true]
      exact ⟨hz, hk2⟩
    | not_ j =>
      have hro : j < i := hro
      unfold Row.enc Pm.tNot at *
      lt_chain
      refine dp_at (by omega) ?_
      lt_chain
      exact ⟨hz, hk2⟩
    | bin o j j2 =>
      have hro : j < i ∧ j2 < i := hro
      cases o
      all_goals
        unfold Row.enc at *
        try simp only [tBin, Bool.false_eq_true, if_false, if_true] at hk2
        simp only [tBin, Bool.false_eq_true, if_false, if_true]
        lt_chain
        simp +decide only [false_implies, not_true_eq_false, not_false_eq_true, forall_const, true_and, and_true, implies_true]
        refine dp_at (by omega) ?_
        lt_chain
        refine dp_at (by omega) ?_
        lt_chain
        rw [maxI]
        exact ⟨hz, hk2⟩
    | qu o x j =>
      have hro : x.length ≤ 10 ∧ j < i := hro
      cases o
      all_goals
        unfold Row.enc at *
        try simp only [tQu, Bool.false_eq_true, if_false, if_true] at hk2
        simp only [tQu, Bool.false_eq_true, if_false, if_true]
        lt_chain
        simp +decide only [false_implies, not_true_eq_false, not_false_eq_true, forall_const, true_and, and_true, implies_true]
        refine dp_at (by omega) ?_
        lt_chain
        have e : ((acc.getD j 0 : Nat) : Int) + 1 = ((acc.getD j 0 + 1 : Nat) : Int) := by omega
        rw [e]
        exact ⟨hz, hk2⟩
  · obtain ⟨z2, z3, rfl⟩ := hI
    rw [List.length_map, List.take_length]
    lt_chain
    have eL : ((dps rs).map fun (n : Nat) => (n : Int)).map D.int = (dps rs).map fun (n : Nat) => D.int (n : Int) := by rw [List.map_map]; rfl
    rw [eL]
    exact last_at (f := fun n : Nat => D.int (n : Int)) (d := 0) (dps_len rs) h3 hp
theorem base0 {r : Row} {k : Nat} (h : rowOk k r) (h0 : k = 0) (acc : List (List (List Nat))) (ad : List Nat) : (nmF r acc).length ≤ 3 ∧ dpt r ad = 0 := by
  subst h0
  cases r with
  | yes => exact ⟨by simp [nmF, raw, canon], rfl⟩
  | is_ x y => exact ⟨by simp [nmF, raw, canon, ins], rfl⟩
  | ahd x y => exact ⟨Nat.le_trans (canon_len _) (by simp [raw]), rfl⟩
  | not_ i => exact absurd h (Nat.not_lt_zero _)
  | bin o i j => exact absurd h.1 (Nat.not_lt_zero _)
  | qu o x i => exact absurd h.2 (Nat.not_lt_zero _)
theorem rows_to_ok {ds : List D} {Post : FOut → Prop} (h : rowsToSpec ds Post) : evalSs ctx b_l_rows_to (ini 10 ds) (ktOf ⟨[.ino 0 1, .inn 0, .inn 1, .inn 0, .inn 0], .own 0, 1⟩ Post) := by
  obtain ⟨x, L, ns, m, dm, ⟨h1, h2, h3, h4, h5, h6, h7, h8⟩, rfl, hp⟩ := h
  have sz := sz_lb
  show evalSs ctx b_l_rows_to [some x.enc, some (.str L), some (.lst (ns.map .str)), some (.int m), some (.int dm), none, none, none, none, none] _
  unfold b_l_rows_to
  lt_chain
  refine ⟨by trivial, by trivial, by trivial, x, L, ns, m, ⟨h1, h2, h3, h4, h5, h6, h7⟩, rfl, fun rs y ho hn1 hn2 => ?_⟩
  lt_chain
  refine forL (fun i ρ => ∃ (qs : List Row) (z8 z9 : Option D), ρ = [some y.enc, some (.str L), some (.lst (ns.map .str)), some (.int m), some (.int dm), some (.lst (qs.map Row.enc)), some (frD (frs qs)), some (dpD (dps qs)), z8, z9] ∧ qs.length = i ∧ okRows qs ∧ few3 qs) ⟨[], none, none, rfl, rfl, okRows.nil, fun f hf => by cases hf⟩ (fun i x ρ k hx hI hk => ?_) (fun ρ hI => ?_)
  · obtain ⟨qs, z8, z9, rfl, hq, hqo, hqf⟩ := hI
    obtain ⟨r, hr, rfl, _⟩ := row_i hx
    have hi : i < rs.length := (List.getElem?_eq_some_iff.mp hr).1
    have hro := ho i r hr
    have hl1 : (frs qs).length = i := by rw [frs_len, hq]
    have hl2 : (dps qs).length = i := by rw [dps_len, hq]
    -- what goes in at last
    have put : ∀ o : Row, rowOk i o → (nmF o (frs qs)).length ≤ 3 → evalSs ctx (.cons (.expr (.mu .append 5 (.cons (.var 9 .bor) .nil))) (.cons (.expr (.mu .append 6 (.cons (.call 6 (.val (.var 9 .bor) (.val (.var 6 .bor) .nil))) .nil))) (.cons (.expr (.mu .append 7 (.cons (.call 7 (.val (.var 9 .bor) (.val (.var 7 .bor) .nil))) .nil))) .nil)))
        [some y.enc, some (.str L), some (.lst (ns.map .str)), some (.int m), some (.int dm), some (.lst (qs.map Row.enc)), some (frD (frs qs)), some (dpD (dps qs)), some r.enc, some o.enc] ⟨k, (ktOf ⟨[.ino 0 1, .inn 0, .inn 1, .inn 0, .inn 0], .own 0, 1⟩ Post).rt, fun ρ => evalSs ctx (.cons (.ret (.var 5 .mov)) .nil) ρ (ktOf ⟨[.ino 0 1, .inn 0, .inn 1, .inn 0, .inn 0], .own 0, 1⟩ Post), k, (ktOf ⟨[.ino 0 1, .inn 0, .inn 1, .inn 0, .inn 0], .own 0, 1⟩ Post).ex⟩ := by
      intro o hoo hof
      lt_chain
      refine ⟨by rw [List.length_map]; omega, o, frs qs, ⟨by rw [hl1]; exact hoo, hqf⟩, rfl, ?_⟩
      lt_chain
      refine ⟨by rw [List.length_map]; omega, o, dps qs, by rw [hl2]; exact hoo, rfl, ?_⟩
      lt_chain
      refine ⟨by rw [List.length_map, List.length_map]; omega, ?_⟩
      have := hk _ ⟨qs ++ [o], some r.enc, some o.enc, rfl, by simp [hq], hqo.snoc (by rw [hq]; exact hoo), hqf.snoc hof⟩
      rw [frs_snoc, dps_snoc, frD, dpD, List.map_append, List.map_append, List.map_append, List.map_append] at this
      exact this
    unfold Pm.stepF
    lt_chain
    refine ⟨r, frs qs, ⟨by rw [hl1]; exact hro, hqf⟩, rfl, ?_⟩
    lt_chain
    have notr : 1 ≤ i → rowOk i (.not_ (i - 1)) ∧ (nmF (.not_ (i - 1)) (frs qs)).length ≤ 3 := fun h => ⟨by show i - 1 < i; omega, hqf.not (by omega)⟩
    have en : 1 ≤ i → D.tup [D.str [110, 111, 116], D.int (((qs.map Row.enc).length : Int) - 1)] = Row.enc (.not_ (i - 1)) := fun h => by
      show _ = D.tup [.str Pm.tNot, .int ((i - 1 : Nat) : Int)]
      have : ((qs.map Row.enc).length : Int) - 1 = ((i - 1 : Nat) : Int) := by rw [List.length_map, hq]; omega
      rw [this]; rfl
    refine ⟨fun hgt => ?_, fun hle => ?_⟩
    · rw [List.length_map] at hgt
      have h1i : 1 ≤ i := by
        rcases Nat.eq_zero_or_pos i with e | e
        · have := (base0 hro e (frs qs) []).1; omega
        · exact e
      rw [en h1i]
      exact ⟨by trivial, put _ (notr h1i).1 (notr h1i).2⟩
    · rw [List.length_map] at hle
      refine ⟨r, dps qs, by rw [hl2]; exact hro, rfl, ?_⟩
      lt_chain
      refine ⟨fun hgt => ?_, fun _ => put r hro (by omega)⟩
      have h1i : 1 ≤ i := by
        rcases Nat.eq_zero_or_pos i with e | e
        · have := (base0 hro e [] (dps qs)).2; omega
        · exact e
      rw [en h1i]
      exact ⟨by trivial, put _ (notr h1i).1 (notr h1i).2⟩
  · obtain ⟨qs, z8, z9, rfl, hq, hqo, hqf⟩ := hI
    rw [List.length_map] at hq
    lt_chain
    exact hp qs y hqo hqf (by omega) (by omega)
theorem doubled_ok {ds : List D} {Post : FOut → Prop} (h : doubledSpec ds Post) : evalSs ctx b_l_doubled (ini 3 ds) (ktOf ⟨[.ino 0 1, .inn 1], .own 0, 0⟩ Post) := by
  obtain ⟨x, rs, hs, rfl, hp⟩ := h
  have sz := sz_lb
  show evalSs ctx b_l_doubled [some x.enc, some (.lst (rs.map Row.enc)), none] _
  unfold b_l_doubled
  lt_chain
  rw [s_while]
  refine whileM (fun n ρ => ∃ (y : Box) (qs : List Row), n = 1000 - qs.length ∧ sayR qs ∧ ρ = [some y.enc, some (.lst (rs.map Row.enc)), some (.lst (qs.map Row.enc))]) (n := 1000 - rs.length) ⟨x, rs, rfl, hs, rfl⟩ (fun n ρ k hI hk => ?_)
  obtain ⟨y, qs, rfl, ⟨h1, h2, h3, h4⟩, rfl⟩ := hI
  lt_chain
  have hl : (qs.map Row.enc).length = qs.length := List.length_map _
  rw [hl]
  refine ⟨fun hlt => ?_, fun _ => hp qs y ⟨h1, h2, h3, h4⟩⟩
  refine ⟨by trivial, y, 2, ⟨by omega, by omega⟩, rfl, fun v y2 h5 h6 => ?_⟩
  have e : ((qs.length : Int) - 1) = ((qs.length - 1 : Nat) : Int) := by omega
  have put : ∀ o : Bool, k [some y2.enc, some (.lst (rs.map Row.enc)), some (.lst (qs.map Row.enc ++ [.tup [.str (tBin o), .int (qs.length - 1 : Nat), .int (qs.length - 1 : Nat)]]))] := fun o => by
    have := hk (1000 - (qs.length + 1)) _ (by omega) ⟨y2, qs ++ [.bin o (qs.length - 1) (qs.length - 1)], by simp, ⟨h1.snoc (show rowOk qs.length (.bin o (qs.length - 1) (qs.length - 1)) from ⟨by omega, by omega⟩), h2.snoc (h2.twice (by omega)), by simp, by simp; omega⟩, rfl⟩
    rw [List.map_append] at this
    exact this
  lt_chain
  rcases (show v = 0 ∨ v = 1 by omega) with rfl | rfl
  · lt_chain
    refine ⟨by trivial, by rw [hl]; omega, ?_⟩
    rw [hl, e]
    exact put false
  · lt_chain
    refine ⟨by trivial, by rw [hl]; omega, ?_⟩
    rw [hl, e]
    exact put true
/-! ### the law -/
theorem slc_seq {b : Bool} {rs : List Row} {c : Nat} {k : D → Prop} (h : c ≤ rs.length) (hk : k (seqD b ((rs.take c).map Row.enc))) : slcK true (seqD b (rs.map Row.enc)) none (some (c : Int)) k := by
  cases b with
  | true =>
    show k (.lst (cutL (rs.map Row.enc) none (some (c : Int))))
    rw [cut_take (by rw [List.length_map]; exact h), ← List.map_take]
    exact hk
  | false =>
    show D.deps 0 (rs.map Row.enc) = true ∧ k (.tup (cutL (rs.map Row.enc) none (some (c : Int))))
    rw [cut_take (by rw [List.length_map]; exact h), ← List.map_take]
    exact ⟨rows_deps rs, hk⟩
theorem tup_seq {b : Bool} {rs : List Row} {k : D → Prop} (hk : k (.tup (rs.map Row.enc))) : biK (.tuple true) [seqD b (rs.map Row.enc)] k := by
  cases b with
  | true => exact hk
  | false => exact ⟨rows_deps rs, hk⟩
theorem len_seq {b : Bool} {rs : List Row} {k : D → Prop} (hk : k (.int rs.length)) : biK .len [seqD b (rs.map Row.enc)] k := by
  cases b <;> (show k (.int (rs.map Row.enc).length); rw [List.length_map]; exact hk)
theorem k_neTS {a : List (List Nat)} {k : D → Prop} (hk : k (.bl false)) : cmpK .NotEq (.tup (a.map .str)) (.tup (a.map .str)) k := by
  show D.ht 60 _ = true ∧ D.ht 60 _ = true ∧ k (.bl (!D.eqs (a.map .str) (a.map .str)))
  rw [eqs_strs]
  refine ⟨ht_strs _ _, ht_strs _ _, ?_⟩
  simpa using hk
theorem frs_at {rs : List Row} {c : Nat} (h : 1 ≤ c) (h2 : c ≤ rs.length) : (frs (rs.take c)).getD ((rs.take c).length - 1) [] = (frs rs).getD (c - 1) [] := by
  have e : frs (rs.take c) = (frs rs).take c := (scan_take _ _ _).symm
  have e2 : (rs.take c).length = c := by rw [List.length_take]; omega
  rw [e, e2]
  simp [List.getElem?_take, show c - 1 < c by omega]
theorem dps_at {rs : List Row} {c : Nat} (h : 1 ≤ c) (h2 : c ≤ rs.length) : (dps (rs.take c)).getD ((rs.take c).length - 1) 0 = (dps rs).getD (c - 1) 0 := by
  have e : dps (rs.take c) = (dps rs).take c := (scan_take _ _ _).symm
  have e2 : (rs.take c).length = c := by rw [List.length_take]; omega
  rw [e, e2]
  simp [List.getElem?_take, show c - 1 < c by omega]
theorem sayR.take {rs : List Row} (h : sayR rs) {c : Nat} (h1 : 1 ≤ c) (h2 : c ≤ rs.length) : sayR (rs.take c) := ⟨h.1.take c, h.2.1.take c, by rw [List.length_take]; omega, by rw [List.length_take]; have := h.2.2.2; omega⟩
theorem most_at {c : Prop} [Decidable c] {k : D → Prop} (h : ∀ z : Int, 1 ≤ z → z ≤ 54 → k (.int z)) : glbK (atI [D.int 12, D.int 54] (if c then 1 else 0)) k := by
  by_cases e : c
  · rw [if_pos e]; exact h 54 (by decide) (by decide)
  · rw [if_neg e]; exact h 12 (by decide) (by decide)
theorem law_ok {ds : List D} {Post : FOut → Prop} (h : lawSpec 63 ds Post) : evalSs ctx b_law (ini 13 ds) (ktOf ⟨[.inn 1], .own 0, 0⟩ Post) := by
  obtain ⟨is, hl, rfl, hp⟩ := h
  have sz := sz_lb
  -- from the counts on
  have loop : ∀ (b : Bool) (rs : List Row) (bx : Box) (cs : List Nat) (z2 z3 z4 z9 z10 z11 z12 : Option D), sayR rs → (∀ c ∈ cs, 1 ≤ c ∧ c ≤ rs.length) → evalSs ctx (b_law.drop 10) [some (.lst (is.map .int)), some bx.enc, z2, z3, z4, some (seqD b (rs.map Row.enc)), some (frD (frs rs)), some (dpD (dps rs)), some (.lst ((cs.map fun (n : Nat) => (n : Int)).map .int)), z9, z10, z11, z12] (ktOf ⟨[.inn 1], .own 0, 0⟩ Post) := by
    intro b rs bx cs z2 z3 z4 z9 z10 z11 z12 hs hc
    show evalSs ctx (.cons _ (.cons _ .nil)) _ _
    lt_chain
    refine forL (fun i ρ => ∃ z9 z10 z11, ρ = [some (.lst (is.map .int)), some bx.enc, z2, z3, z4, some (seqD b (rs.map Row.enc)), some (frD (frs rs)), some (dpD (dps rs)), some (.lst ((cs.map fun (n : Nat) => (n : Int)).map .int)), z9, z10, z11, z12]) ⟨z9, z10, z11, rfl⟩ (fun i x ρ k hx hI hk => ?_) (fun ρ hI => ?_)
    · obtain ⟨z9, z10, z11, rfl⟩ := hI
      obtain ⟨n, hn, rfl⟩ := List.mem_map.mp (List.mem_of_getElem? hx)
      obtain ⟨c, hcm, rfl⟩ := List.mem_map.mp hn
      obtain ⟨hc1, hc2⟩ := hc c hcm
      have hcf : c - 1 < (frs rs).length := by rw [frs_len]; omega
      have hcd : c - 1 < (dps rs).length := by rw [dps_len]; omega
      have e1 : (c : Int) - 1 = ((c - 1 : Nat) : Int) := by omega
      unfold Pm.stepF
      lt_chain
      refine slc_seq hc2 (tup_seq ⟨rs.take c, hs.take hc1 hc2, rfl, ?_⟩)
      lt_chain
      refine slc_seq hc2 (tup_seq ⟨rs.take c, hs.take hc1 hc2, rfl, ?_⟩)
      lt_chain
      rw [e1, frs_at hc1 hc2, dps_at hc1 hc2]
      refine fr_at hcf ?_
      lt_chain
      refine k_neTS ?_
      lt_chain
      refine ⟨_, rfl, ?_⟩
      lt_chain
      rw [e1]
      refine dp_at hcd ?_
      lt_chain
      exact hk _ ⟨_, _, _, rfl⟩
    · obtain ⟨z9, z10, z11, rfl⟩ := hI
      lt_chain
      exact hp
  -- from the rows on
  have rest : ∀ (b : Bool) (rs : List Row) (bx : Box) (z2 z3 z4 : Option D), sayR rs → evalSs ctx (b_law.drop 6) [some (.lst (is.map .int)), some bx.enc, z2, z3, z4, some (seqD b (rs.map Row.enc)), none, none, none, none, none, none, none] (ktOf ⟨[.inn 1], .own 0, 0⟩ Post) := by
    intro b rs bx z2 z3 z4 hs
    have hs4 := hs.2.2.2
    have hs3 := hs.2.2.1
    show evalSs ctx (.cons _ (.cons _ (.cons _ (.cons _ (b_law.drop 10))))) _ _
    lt_chain
    refine ⟨b, rs, hs, rfl, ?_⟩
    lt_chain
    refine ⟨b, rs, hs, rfl, ?_⟩
    lt_chain
    refine len_seq ?_
    lt_chain
    refine ⟨⟨by omega, by omega, by omega, by omega⟩, by rw [List.length_map, List.length_range]; omega, len_seq ?_⟩
    lt_chain
    have eC : ((List.range ((rs.length : Int) + 1 - 1).toNat).map fun (t : Nat) => D.int (1 + (t : Int))) = (((List.range rs.length).map (· + 1)).map fun (n : Nat) => (n : Int)).map .int := by
      rw [show ((rs.length : Int) + 1 - 1).toNat = rs.length by omega, List.map_map, List.map_map]
      exact List.map_congr_left fun t _ => by show D.int _ = D.int _; congr 1; show (1 : Int) + t = ((t + 1 : Nat) : Int); omega
    refine ⟨fun hgt => ?_, fun hle => ?_⟩
    · refine ⟨by omega, by omega, by trivial, ?_⟩
      rw [eC]
      refine compU (i := 12) (o := none) (fun b1 : Box => [some (.lst (is.map .int)), some b1.enc, z2, z3, z4, some (seqD b (rs.map Row.enc)), some (frD (frs rs)), some (dpD (dps rs)), some (.lst ((((List.range rs.length).map (· + 1)).map fun (n : Nat) => (n : Int)).map .int)), none, none, none, none]) (fun j acc _ => ∃ cs : List Nat, (∀ c ∈ cs, 1 ≤ c ∧ c ≤ rs.length) ∧ cs.length = j ∧ acc = (cs.map fun (n : Nat) => (n : Int)).map .int) bx ?_ ⟨[], by simp, rfl, rfl⟩ (fun j x acc b1 k hx hP hk => ?_) (fun acc b1 z hP => ?_)
      · rfl
      · obtain ⟨cs, hc, hj, rfl⟩ := hP
        lt_chain
        refine len_seq ?_
        lt_chain
        refine ⟨b1, rs.length, ⟨by omega, by omega⟩, rfl, fun v y h1 h2 => ?_⟩
        lt_chain
        refine hk _ y ⟨cs ++ [v.toNat + 1], fun c hc2 => ?_, by simp [hj], ?_⟩
        · rcases List.mem_append.mp hc2 with h | h
          · exact hc c h
          · rw [List.mem_singleton.mp h]; omega
        · rw [List.map_append, List.map_append]
          show _ = _ ++ [D.int ((v.toNat + 1 : Nat) : Int)]
          rw [show ((v.toNat + 1 : Nat) : Int) = 1 + v by omega]
      · obtain ⟨cs, hc, hj, rfl⟩ := hP
        have hj : cs.length = 5 := by simpa using hj
        lt_chain
        refine len_seq ?_
        lt_chain
        refine ⟨by trivial, by rw [List.length_map, List.length_map]; simp; omega, ?_⟩
        have := loop b rs b1 (cs ++ [rs.length]) z2 z3 z4 none none none none hs fun c hc2 => by
          rcases List.mem_append.mp hc2 with h | h
          · exact hc c h
          · rw [List.mem_singleton.mp h]; omega
        rw [List.map_append, List.map_append] at this
        exact this
    · rw [eC]
      refine loop b rs bx _ z2 z3 z4 _ _ _ _ hs fun c hc => ?_
      obtain ⟨t, ht, rfl⟩ := List.mem_map.mp hc
      have := List.mem_range.mp ht
      omega
  show evalSs ctx (.cons _ (.cons _ (.cons _ (.cons _ (.cons _ (.cons _ (b_law.drop 6))))))) [some (.lst (is.map .int)), none, none, none, none, none, none, none, none, none, none, none, none] _
  lt_chain
  refine ⟨is, 0, ⟨hl, by omega⟩, rfl, fun y => ?_⟩
  lt_chain
  refine ⟨y, 4, ⟨by omega, by omega⟩, rfl, fun L y2 hL1 hL2 _ hL3 => ?_⟩
  lt_chain
  refine ⟨y2, 5, ⟨by omega, by omega⟩, rfl, fun v y3 h3 h4 => ?_⟩
  lt_chain
  refine ⟨y3, 1 + v, ⟨by omega, by omega⟩, rfl, fun ns y4 hn1 hn2 => ?_⟩
  lt_chain
  refine ⟨by trivial, y4, 8, ⟨by omega, by omega⟩, rfl, fun u y5 h5 h6 => ?_⟩
  lt_chain
  refine most_at fun z hz1 hz2 => ?_
  lt_chain
  refine ⟨is, 1, ⟨hl, by omega⟩, rfl, fun b1 => ?_⟩
  lt_chain
  refine ⟨b1, L, ns, z, 60, ⟨hL1, by omega, by omega, by omega, hn2, hz1, by omega, by omega⟩, rfl, fun rs b2 ho hf hr1 hr2 => ?_⟩
  lt_chain
  refine ⟨y5, 8, ⟨by omega, by omega⟩, rfl, fun w y6 h7 h8 => ?_⟩
  lt_chain
  have hs : sayR rs := ⟨ho, hf, hr1, by omega⟩
  refine ⟨fun _ => ?_, fun _ => rest true rs y6 _ _ _ hs⟩
  by_cases h3 : 3 ≤ rs.length
  · rw [show (3 : Int) = ((3 : Nat) : Int) from rfl, cut_take (by rw [List.length_map]; exact h3), ← List.map_take]
    refine ⟨y6, rs.take 3, hs.take (by omega) h3, rfl, fun qs y7 hq => ?_⟩
    lt_chain
    exact rest false qs y7 _ _ _ hq
  · have e : cutL (rs.map Row.enc) none (some 3) = rs.map Row.enc := by
      unfold cutL
      rw [show (3 : Int) = ((3 : Nat) : Int) from rfl, HT.sIx_nat, HT.sIx_none]
      rw [Nat.min_eq_right (by rw [List.length_map]; omega)]
      simp
      exact List.take_of_length_le (by rw [List.length_map]; exact Nat.le_refl _)
    rw [e]
    refine ⟨y6, rs, hs, rfl, fun qs y7 hq => ?_⟩
    lt_chain
    exact rest false qs y7 _ _ _ hq
end K33

set_option maxRecDepth 100000
namespace K33
open PySem PySem.Spec L2 Pm
theorem pure (i : Nat) (d : DefT) (h : defs[i]? = some d) (ds : List D) (Post : FOut → Prop) (hl : ds.length = d.s.ps.length) (hs : ctx.spec i ds Post) : evalSs ctx d.b (ini d.N.length ds) (ktOf d.s Post) := by
  match i, h with
  | 0, h => cases h; exact box_ok hs
  | 1, h => cases h; exact take_ok hs
  | 2, h => cases h; exact letters_ok (t := 1) rfl hs
  | 3, h => cases h; exact names_ok (t := 1) rfl hs
  | 4, h => cases h; exact row_at_ok (t := 1) rfl hs
  | 5, h => cases h; exact say_rows_ok (t := 1) (ra := 4) rfl rfl hs
  | 6, h => cases h; exact names_of_ok hs
  | 7, h => cases h; exact deep_ok hs
  | 8, h => cases h; exact rows_to_ok hs
  | 9, h => cases h; exact frees_ok hs
  | 10, h => cases h; exact depths_ok hs
  | 11, h => cases h; exact doubled_ok hs
  | 12, h => cases h; exact free_of_ok hs
  | 13, h => cases h; exact free_rows_ok hs
  | 14, h => cases h; exact free_names_ok hs
  | 15, h => cases h; exact depth_of_ok hs
  | 16, h => cases h; exact whole_ok hs
  | 17, h => cases h; exact law_ok hs
  | (n + 18), h => cases h
end K33

set_option maxRecDepth 100000
namespace K33
open PySem PySem.Spec L2 Pm
theorem all_mk {l : PySem.W.OpenLaw} {w : World} {K : PySem.W.Frag} {h : Heap} {mg : Str → Option Value} {fa : Addr} (X : K.In h) (G : h.Ns mainGlobals mg) (hfa : mg "law" = some (.ref fa))
    {f0 : Addr} {od0 an0 : Option Addr} {sl0 : Array (Option Value)} {oc0 kV0 dc0 pm0 cd0 ct0 : Value}
    {f1 : Addr} {od1 an1 : Option Addr} {sl1 : Array (Option Value)} {oc1 kV1 dc1 pm1 cd1 ct1 : Value}
    {f2 : Addr} {od2 an2 : Option Addr} {sl2 : Array (Option Value)} {oc2 kV2 dc2 pm2 cd2 ct2 : Value}
    {f3 : Addr} {od3 an3 : Option Addr} {sl3 : Array (Option Value)} {oc3 kV3 dc3 pm3 cd3 ct3 : Value}
    {f4 : Addr} {od4 an4 : Option Addr} {sl4 : Array (Option Value)} {oc4 kV4 dc4 pm4 cd4 ct4 : Value}
    {f5 : Addr} {od5 an5 : Option Addr} {sl5 : Array (Option Value)} {oc5 kV5 dc5 pm5 cd5 ct5 : Value}
    {f6 : Addr} {od6 an6 : Option Addr} {sl6 : Array (Option Value)} {oc6 kV6 dc6 pm6 cd6 ct6 : Value}
    {f7 : Addr} {od7 an7 : Option Addr} {sl7 : Array (Option Value)} {oc7 kV7 dc7 pm7 cd7 ct7 : Value}
    {f8 : Addr} {od8 an8 : Option Addr} {sl8 : Array (Option Value)} {oc8 kV8 dc8 pm8 cd8 ct8 : Value}
    {f9 : Addr} {od9 an9 : Option Addr} {sl9 : Array (Option Value)} {oc9 kV9 dc9 pm9 cd9 ct9 : Value}
    {f10 : Addr} {od10 an10 : Option Addr} {sl10 : Array (Option Value)} {oc10 kV10 dc10 pm10 cd10 ct10 : Value}
    {f11 : Addr} {od11 an11 : Option Addr} {sl11 : Array (Option Value)} {oc11 kV11 dc11 pm11 cd11 ct11 : Value}
    {f12 : Addr} {od12 an12 : Option Addr} {sl12 : Array (Option Value)} {oc12 kV12 dc12 pm12 cd12 ct12 : Value}
    {f13 : Addr} {od13 an13 : Option Addr} {sl13 : Array (Option Value)} {oc13 kV13 dc13 pm13 cd13 ct13 : Value}
    {f14 : Addr} {od14 an14 : Option Addr} {sl14 : Array (Option Value)} {oc14 kV14 dc14 pm14 cd14 ct14 : Value}
    {f15 : Addr} {od15 an15 : Option Addr} {sl15 : Array (Option Value)} {oc15 kV15 dc15 pm15 cd15 ct15 : Value}
    {f16 : Addr} {od16 an16 : Option Addr} {sl16 : Array (Option Value)} {oc16 kV16 dc16 pm16 cd16 ct16 : Value}
    {f17 : Addr} {od17 an17 : Option Addr} {sl17 : Array (Option Value)} {oc17 kV17 dc17 pm17 cd17 ct17 : Value}
    (a0 : PySem.W.nsIn K mainGlobals "_law_box" = some (some (.ref f0))) (l0 : K.lookup f0 = some ⟨oc0, od0, .func (PySem.W.fnOf "_law_box" "_law_box" (defArgs (topS 6)) (defBody (topS 6)) (defScope (topS 6)) .none kV0 dc0 pm0 an0 cd0 ct0), sl0⟩) (c0 : PySem.W.codeIn K cd0 "_law_box" = true) (k0 : PySem.W.keepIn K (.ref f0) = true)
    (a1 : PySem.W.nsIn K mainGlobals "_law_take" = some (some (.ref f1))) (l1 : K.lookup f1 = some ⟨oc1, od1, .func (PySem.W.fnOf "_law_take" "_law_take" (defArgs (topS 7)) (defBody (topS 7)) (defScope (topS 7)) .none kV1 dc1 pm1 an1 cd1 ct1), sl1⟩) (c1 : PySem.W.codeIn K cd1 "_law_take" = true) (k1 : PySem.W.keepIn K (.ref f1) = true)
    (a2 : PySem.W.nsIn K mainGlobals "_law_letters" = some (some (.ref f2))) (l2 : K.lookup f2 = some ⟨oc2, od2, .func (PySem.W.fnOf "_law_letters" "_law_letters" (defArgs (topS 8)) (defBody (topS 8)) (defScope (topS 8)) .none kV2 dc2 pm2 an2 cd2 ct2), sl2⟩) (c2 : PySem.W.codeIn K cd2 "_law_letters" = true) (k2 : PySem.W.keepIn K (.ref f2) = true)
    (a3 : PySem.W.nsIn K mainGlobals "_law_place_names" = some (some (.ref f3))) (l3 : K.lookup f3 = some ⟨oc3, od3, .func (PySem.W.fnOf "_law_place_names" "_law_place_names" (defArgs (topS 10)) (defBody (topS 10)) (defScope (topS 10)) .none kV3 dc3 pm3 an3 cd3 ct3), sl3⟩) (c3 : PySem.W.codeIn K cd3 "_law_place_names" = true) (k3 : PySem.W.keepIn K (.ref f3) = true)
    (a4 : PySem.W.nsIn K mainGlobals "_law_row_at" = some (some (.ref f4))) (l4 : K.lookup f4 = some ⟨oc4, od4, .func (PySem.W.fnOf "_law_row_at" "_law_row_at" (defArgs (topS 9)) (defBody (topS 9)) (defScope (topS 9)) .none kV4 dc4 pm4 an4 cd4 ct4), sl4⟩) (c4 : PySem.W.codeIn K cd4 "_law_row_at" = true) (k4 : PySem.W.keepIn K (.ref f4) = true)
    (a5 : PySem.W.nsIn K mainGlobals "_law_saying_rows" = some (some (.ref f5))) (l5 : K.lookup f5 = some ⟨oc5, od5, .func (PySem.W.fnOf "_law_saying_rows" "_law_saying_rows" (defArgs (topS 11)) (defBody (topS 11)) (defScope (topS 11)) .none kV5 dc5 pm5 an5 cd5 ct5), sl5⟩) (c5 : PySem.W.codeIn K cd5 "_law_saying_rows" = true) (k5 : PySem.W.keepIn K (.ref f5) = true)
    (a6 : PySem.W.nsIn K mainGlobals "_law_names_of" = some (some (.ref f6))) (l6 : K.lookup f6 = some ⟨oc6, od6, .func (PySem.W.fnOf "_law_names_of" "_law_names_of" (defArgs (topS 12)) (defBody (topS 12)) (defScope (topS 12)) .none kV6 dc6 pm6 an6 cd6 ct6), sl6⟩) (c6 : PySem.W.codeIn K cd6 "_law_names_of" = true) (k6 : PySem.W.keepIn K (.ref f6) = true)
    (a7 : PySem.W.nsIn K mainGlobals "_law_deep" = some (some (.ref f7))) (l7 : K.lookup f7 = some ⟨oc7, od7, .func (PySem.W.fnOf "_law_deep" "_law_deep" (defArgs (topS 14)) (defBody (topS 14)) (defScope (topS 14)) .none kV7 dc7 pm7 an7 cd7 ct7), sl7⟩) (c7 : PySem.W.codeIn K cd7 "_law_deep" = true) (k7 : PySem.W.keepIn K (.ref f7) = true)
    (a8 : PySem.W.nsIn K mainGlobals "_law_rows_to" = some (some (.ref f8))) (l8 : K.lookup f8 = some ⟨oc8, od8, .func (PySem.W.fnOf "_law_rows_to" "_law_rows_to" (defArgs (topS 16)) (defBody (topS 16)) (defScope (topS 16)) .none kV8 dc8 pm8 an8 cd8 ct8), sl8⟩) (c8 : PySem.W.codeIn K cd8 "_law_rows_to" = true) (k8 : PySem.W.keepIn K (.ref f8) = true)
    (a9 : PySem.W.nsIn K mainGlobals "_law_frees" = some (some (.ref f9))) (l9 : K.lookup f9 = some ⟨oc9, od9, .func (PySem.W.fnOf "_law_frees" "_law_frees" (defArgs (topS 13)) (defBody (topS 13)) (defScope (topS 13)) .none kV9 dc9 pm9 an9 cd9 ct9), sl9⟩) (c9 : PySem.W.codeIn K cd9 "_law_frees" = true) (k9 : PySem.W.keepIn K (.ref f9) = true)
    (a10 : PySem.W.nsIn K mainGlobals "_law_depths" = some (some (.ref f10))) (l10 : K.lookup f10 = some ⟨oc10, od10, .func (PySem.W.fnOf "_law_depths" "_law_depths" (defArgs (topS 15)) (defBody (topS 15)) (defScope (topS 15)) .none kV10 dc10 pm10 an10 cd10 ct10), sl10⟩) (c10 : PySem.W.codeIn K cd10 "_law_depths" = true) (k10 : PySem.W.keepIn K (.ref f10) = true)
    (a11 : PySem.W.nsIn K mainGlobals "_law_doubled" = some (some (.ref f11))) (l11 : K.lookup f11 = some ⟨oc11, od11, .func (PySem.W.fnOf "_law_doubled" "_law_doubled" (defArgs (topS 18)) (defBody (topS 18)) (defScope (topS 18)) .none kV11 dc11 pm11 an11 cd11 ct11), sl11⟩) (c11 : PySem.W.codeIn K cd11 "_law_doubled" = true) (k11 : PySem.W.keepIn K (.ref f11) = true)
    (a12 : PySem.W.nsIn K mainGlobals "free_of" = some (some (.ref f12))) (l12 : K.lookup f12 = some ⟨oc12, od12, .func (PySem.W.fnOf "free_of" "free_of" (defArgs (topS 1)) (defBody (topS 1)) (defScope (topS 1)) .none kV12 dc12 pm12 an12 cd12 ct12), sl12⟩) (c12 : PySem.W.codeIn K cd12 "free_of" = true) (k12 : PySem.W.keepIn K (.ref f12) = true)
    (a13 : PySem.W.nsIn K mainGlobals "free_rows" = some (some (.ref f13))) (l13 : K.lookup f13 = some ⟨oc13, od13, .func (PySem.W.fnOf "free_rows" "free_rows" (defArgs (topS 2)) (defBody (topS 2)) (defScope (topS 2)) .none kV13 dc13 pm13 an13 cd13 ct13), sl13⟩) (c13 : PySem.W.codeIn K cd13 "free_rows" = true) (k13 : PySem.W.keepIn K (.ref f13) = true)
    (a14 : PySem.W.nsIn K mainGlobals "free_names" = some (some (.ref f14))) (l14 : K.lookup f14 = some ⟨oc14, od14, .func (PySem.W.fnOf "free_names" "free_names" (defArgs (topS 3)) (defBody (topS 3)) (defScope (topS 3)) .none kV14 dc14 pm14 an14 cd14 ct14), sl14⟩) (c14 : PySem.W.codeIn K cd14 "free_names" = true) (k14 : PySem.W.keepIn K (.ref f14) = true)
    (a15 : PySem.W.nsIn K mainGlobals "depth_of" = some (some (.ref f15))) (l15 : K.lookup f15 = some ⟨oc15, od15, .func (PySem.W.fnOf "depth_of" "depth_of" (defArgs (topS 4)) (defBody (topS 4)) (defScope (topS 4)) .none kV15 dc15 pm15 an15 cd15 ct15), sl15⟩) (c15 : PySem.W.codeIn K cd15 "depth_of" = true) (k15 : PySem.W.keepIn K (.ref f15) = true)
    (a16 : PySem.W.nsIn K mainGlobals "_law_whole" = some (some (.ref f16))) (l16 : K.lookup f16 = some ⟨oc16, od16, .func (PySem.W.fnOf "_law_whole" "_law_whole" (defArgs (topS 17)) (defBody (topS 17)) (defScope (topS 17)) .none kV16 dc16 pm16 an16 cd16 ct16), sl16⟩) (c16 : PySem.W.codeIn K cd16 "_law_whole" = true) (k16 : PySem.W.keepIn K (.ref f16) = true)
    (a17 : PySem.W.nsIn K mainGlobals "law" = some (some (.ref f17))) (l17 : K.lookup f17 = some ⟨oc17, od17, .func (PySem.W.fnOf "law" "law" (defArgs (topS 19)) (defBody (topS 19)) (defScope (topS 19)) .none kV17 dc17 pm17 an17 cd17 ct17), sl17⟩) (c17 : PySem.W.codeIn K cd17 "law" = true) (k17 : PySem.W.keepIn K (.ref f17) = true)
    (z0 : PySem.W.nsIn K mainGlobals "len" = some none)
    (z1 : PySem.W.nsIn K mainGlobals "int" = some none)
    (z2 : PySem.W.nsIn K mainGlobals "str" = some none)
    (z3 : PySem.W.nsIn K mainGlobals "list" = some none)
    (z4 : PySem.W.nsIn K mainGlobals "tuple" = some none)
    (z5 : PySem.W.nsIn K mainGlobals "max" = some none)
    (z6 : PySem.W.nsIn K mainGlobals "min" = some none)
    (z7 : PySem.W.nsIn K mainGlobals "sum" = some none)
    (z8 : PySem.W.nsIn K mainGlobals "all" = some none)
    (z9 : PySem.W.nsIn K mainGlobals "any" = some none)
    (z10 : PySem.W.nsIn K mainGlobals "isinstance" = some none)
    (z11 : PySem.W.nsIn K mainGlobals "bool" = some none)
    (z12 : PySem.W.nsIn K mainGlobals "range" = some none)
    (z13 : PySem.W.nsIn K mainGlobals "enumerate" = some none)
    (z14 : PySem.W.nsIn K mainGlobals "zip" = some none)
    (z15 : PySem.W.nsIn K mainGlobals "repr" = some none)
    (z16 : PySem.W.nsIn K mainGlobals "dict" = some none)
    (z17 : PySem.W.nsIn K mainGlobals "sorted" = some none)
    (z18 : PySem.W.nsIn K mainGlobals "set" = some none) :
    ∃ fd : FuncData, (∀ (s : Shared) (v : Value), BindsTo s fd ⟨[v], []⟩ [("_law_script", v)]) ∧ ∀ base : Heap, K.In base → base.Ns mainGlobals mg → FnOk l.prog w K mg base (L2.CX l.prog w) 18 fa fd ["_law_script"] (@spOf (wd l.prog w) K XR ⟨[.inn 1], .own 0, 0⟩ (spec 17)) := by
  letI : Wd := wd l.prog w
  have e := hfa.symm.trans (PySem.W.mg_of X G a17)
  cases e
  have F0 := fun_mk (st := topS 6) l0 c0 k0
  have B0 := F0.binds (ps := d_l_box.ps) fun _ _ _ _ _ _ us hl => match us, hl with | [_, _], _ => rfl
  have F1 := fun_mk (st := topS 7) l1 c1 k1
  have B1 := F1.binds (ps := d_l_take.ps) fun _ _ _ _ _ _ us hl => match us, hl with | [_, _], _ => rfl
  have F2 := fun_mk (st := topS 8) l2 c2 k2
  have B2 := F2.binds (ps := d_l_letters.ps) fun _ _ _ _ _ _ us hl => match us, hl with | [_, _], _ => rfl
  have F3 := fun_mk (st := topS 10) l3 c3 k3
  have B3 := F3.binds (ps := d_l_place_names.ps) fun _ _ _ _ _ _ us hl => match us, hl with | [_, _], _ => rfl
  have F4 := fun_mk (st := topS 9) l4 c4 k4
  have B4 := F4.binds (ps := d_l_row_at.ps) fun _ _ _ _ _ _ us hl => match us, hl with | [_, _], _ => rfl
  have F5 := fun_mk (st := topS 11) l5 c5 k5
  have B5 := F5.binds (ps := d_l_saying_rows.ps) fun _ _ _ _ _ _ us hl => match us, hl with | [_, _, _, _], _ => rfl
  have F6 := fun_mk (st := topS 12) l6 c6 k6
  have B6 := F6.binds (ps := d_l_names_of.ps) fun _ _ _ _ _ _ us hl => match us, hl with | [_, _], _ => rfl
  have F7 := fun_mk (st := topS 14) l7 c7 k7
  have B7 := F7.binds (ps := d_l_deep.ps) fun _ _ _ _ _ _ us hl => match us, hl with | [_, _], _ => rfl
  have F8 := fun_mk (st := topS 16) l8 c8 k8
  have B8 := F8.binds (ps := d_l_rows_to.ps) fun _ _ _ _ _ _ us hl => match us, hl with | [_, _, _, _, _], _ => rfl
  have F9 := fun_mk (st := topS 13) l9 c9 k9
  have B9 := F9.binds (ps := d_l_frees.ps) fun _ _ _ _ _ _ us hl => match us, hl with | [_], _ => rfl
  have F10 := fun_mk (st := topS 15) l10 c10 k10
  have B10 := F10.binds (ps := d_l_depths.ps) fun _ _ _ _ _ _ us hl => match us, hl with | [_], _ => rfl
  have F11 := fun_mk (st := topS 18) l11 c11 k11
  have B11 := F11.binds (ps := d_l_doubled.ps) fun _ _ _ _ _ _ us hl => match us, hl with | [_, _], _ => rfl
  have F12 := fun_mk (st := topS 1) l12 c12 k12
  have B12 := F12.binds (ps := d_free_of.ps) fun _ _ _ _ _ _ us hl => match us, hl with | [_, _], _ => rfl
  have F13 := fun_mk (st := topS 2) l13 c13 k13
  have B13 := F13.binds (ps := d_free_rows.ps) fun _ _ _ _ _ _ us hl => match us, hl with | [_], _ => rfl
  have F14 := fun_mk (st := topS 3) l14 c14 k14
  have B14 := F14.binds (ps := d_free_names.ps) fun _ _ _ _ _ _ us hl => match us, hl with | [_], _ => rfl
  have F15 := fun_mk (st := topS 4) l15 c15 k15
  have B15 := F15.binds (ps := d_depth_of.ps) fun _ _ _ _ _ _ us hl => match us, hl with | [_], _ => rfl
  have F16 := fun_mk (st := topS 17) l16 c16 k16
  have B16 := F16.binds (ps := d_l_whole.ps) fun _ _ _ _ _ _ us hl => match us, hl with | [_], _ => rfl
  have F17 := fun_mk (st := topS 19) l17 c17 k17
  have B17 := F17.binds (ps := d_law.ps) fun _ _ _ _ _ _ us hl => match us, hl with | [_], _ => rfl
  have left : ∀ d ∈ defs, Left K mg d := by
    intro d hd
    simp only [defs, List.mem_cons, List.not_mem_nil, or_false] at hd
    rcases hd with rfl | rfl | rfl | rfl | rfl | rfl | rfl | rfl | rfl | rfl | rfl | rfl | rfl | rfl | rfl | rfl | rfl | rfl
    · exact ⟨_, _, PySem.W.mg_of X G a0, F0, B0⟩
    · exact ⟨_, _, PySem.W.mg_of X G a1, F1, B1⟩
    · exact ⟨_, _, PySem.W.mg_of X G a2, F2, B2⟩
    · exact ⟨_, _, PySem.W.mg_of X G a3, F3, B3⟩
    · exact ⟨_, _, PySem.W.mg_of X G a4, F4, B4⟩
    · exact ⟨_, _, PySem.W.mg_of X G a5, F5, B5⟩
    · exact ⟨_, _, PySem.W.mg_of X G a6, F6, B6⟩
    · exact ⟨_, _, PySem.W.mg_of X G a7, F7, B7⟩
    · exact ⟨_, _, PySem.W.mg_of X G a8, F8, B8⟩
    · exact ⟨_, _, PySem.W.mg_of X G a9, F9, B9⟩
    · exact ⟨_, _, PySem.W.mg_of X G a10, F10, B10⟩
    · exact ⟨_, _, PySem.W.mg_of X G a11, F11, B11⟩
    · exact ⟨_, _, PySem.W.mg_of X G a12, F12, B12⟩
    · exact ⟨_, _, PySem.W.mg_of X G a13, F13, B13⟩
    · exact ⟨_, _, PySem.W.mg_of X G a14, F14, B14⟩
    · exact ⟨_, _, PySem.W.mg_of X G a15, F15, B15⟩
    · exact ⟨_, _, PySem.W.mg_of X G a16, F16, B16⟩
    · exact ⟨_, _, PySem.W.mg_of X G a17, F17, B17⟩
  have outer : Outer l.prog w K mg ctx gnames gks := by
    refine ⟨rfl, rfl, fun g d x h1 h2 => ?_, fun b => ?_, fun T hT => ?_, PySem.W.mg_none_of X G z12, PySem.W.mg_none_of X G z13, PySem.W.mg_none_of X G z14⟩
    · have hg : g < 0 := by
        have := (List.getElem?_eq_some_iff.mp h2).1
        simpa [gnames] using this
      omega
    · cases b with
      | len => exact PySem.W.mg_none_of X G z0
      | int => exact PySem.W.mg_none_of X G z1
      | str => exact PySem.W.mg_none_of X G z2
      | list _ => exact PySem.W.mg_none_of X G z3
      | tuple _ => exact PySem.W.mg_none_of X G z4
      | max => exact PySem.W.mg_none_of X G z5
      | min => exact PySem.W.mg_none_of X G z6
      | sum => exact PySem.W.mg_none_of X G z7
      | all => exact PySem.W.mg_none_of X G z8
      | any => exact PySem.W.mg_none_of X G z9
      | repr => exact PySem.W.mg_none_of X G z15
      | dict => exact PySem.W.mg_none_of X G z16
      | sorted => exact PySem.W.mg_none_of X G z17
      | _ => exact PySem.W.mg_none_of X G z10
    · simp only [List.mem_cons, List.not_mem_nil, or_false] at hT
      rcases hT with rfl | rfl | rfl | rfl | rfl | rfl
      · exact PySem.W.mg_none_of X G z11
      · exact PySem.W.mg_none_of X G z1
      · exact PySem.W.mg_none_of X G z2
      · exact PySem.W.mg_none_of X G z3
      · exact PySem.W.mg_none_of X G z4
      · exact PySem.W.mg_none_of X G z18
  refine ⟨PySem.W.fnOf "law" "law" (defArgs (topS 19)) (defBody (topS 19)) (defScope (topS 19)) .none kV17 dc17 pm17 an17 cd17 ct17, fun s v => .of_eq rfl, fun base _ _ => ?_⟩
  obtain ⟨f, fd, h1, _, _, h2, h3⟩ := all_ok (P := l.prog) (w := w) (base := base) (XR := XR) chk left outer pure 18 17 (by decide) d_law rfl
  have h1 : mg "law" = some (.ref f) := h1
  rw [hfa] at h1
  cases h1
  obtain ⟨_, _, _, _, _, _, _, _, _, rfl, lk, _⟩ := h2.ex
  rw [l17] at lk
  cases lk
  exact h3
theorem walk {l : PySem.W.OpenLaw} {q : Program} {loose : List Str} {XP : (Str → Option Value) → Heap → Prop} {YP : World → Heap → Prop} {d : DefRec} {K : Params → PySem.W.Frag} (hn : l.most = some 63) (hdf : d.params.defaults = [])
    (hY : ∀ (w : World) (h : Heap), YP w h → (K w.params).In h)
    (F : ∀ (w : World) (mg : Str → Option Value) (fa : Addr) (h : Heap), (K w.params).In h → h.Ns mainGlobals mg → mg d.name = some (.ref fa) →
      ∃ fd : FuncData, (∀ (s : Shared) (u : Value), BindsTo s fd ⟨[u], []⟩ [("_law_script", u)]) ∧ ∀ base : Heap, (K w.params).In base → base.Ns mainGlobals mg → FnOk l.prog w (K w.params) mg base (L2.CX l.prog w) 18 fa fd ["_law_script"] (@spOf (wd l.prog w) (K w.params) XR ⟨[.inn 1], .own 0, 0⟩ (spec 17))) :
    PySem.W.WalkO q loose XP YP l.row.toRowW d [] (fun f vs => PySem.call f vs) :=
  L2.walk_of (n := 63) (k := 18) (x := "_law_script") (CX := fun w => L2.CX l.prog w) (sp := fun w => @spOf (wd l.prog w) (K w.params) XR ⟨[.inn 1], .own 0, 0⟩ (spec 17)) hn (by decide) hdf ⟨rfl, by decide, by decide⟩ hY F (fun w _ a ns hl _ hS => law_in (W := wd l.prog w) hl hS) fun _ _ _ _ _ z => no_exc _ _ _ _ z
end K33
open PySem PySem.W PyProof.Rows
set_option maxRecDepth 100000 in
set_option maxHeartbeats 0 in
theorem PySem.Challenge.cw_calmword_k33_free_names_and_depths_holds : PySem.Challenge.rw_calmword_k33_free_names_and_depths.Holds := by
  w_on; o_law; k_head; (case hw => w_witness2)
  k_fill
  refine K33.walk (l := PySem.Challenge.rw_calmword_k33_free_names_and_depths) rfl rfl (fun w h Y => PySem.W.kIn_of Y) ?F
  case F =>
    intro w mg fa h KX G hmg
    refine' K33.all_mk KX G hmg ?a0 ?l0 ?c0 ?k0 ?a1 ?l1 ?c1 ?k1 ?a2 ?l2 ?c2 ?k2 ?a3 ?l3 ?c3 ?k3 ?a4 ?l4 ?c4 ?k4 ?a5 ?l5 ?c5 ?k5 ?a6 ?l6 ?c6 ?k6 ?a7 ?l7 ?c7 ?k7 ?a8 ?l8 ?c8 ?k8 ?a9 ?l9 ?c9 ?k9 ?a10 ?l10 ?c10 ?k10 ?a11 ?l11 ?c11 ?k11 ?a12 ?l12 ?c12 ?k12 ?a13 ?l13 ?c13 ?k13 ?a14 ?l14 ?c14 ?k14 ?a15 ?l15 ?c15 ?k15 ?a16 ?l16 ?c16 ?k16 ?a17 ?l17 ?c17 ?k17 ?z0 ?z1 ?z2 ?z3 ?z4 ?z5 ?z6 ?z7 ?z8 ?z9 ?z10 ?z11 ?z12 ?z13 ?z14 ?z15 ?z16 ?z17 ?z18
    (case a0 => k_is)
    (case l0 => k_is)
    (case c0 => k_is)
    (case k0 => k_is)
    (case a1 => k_is)
    (case l1 => k_is)
    (case c1 => k_is)
    (case k1 => k_is)
    (case a2 => k_is)
    (case l2 => k_is)
    (case c2 => k_is)
    (case k2 => k_is)
    (case a3 => k_is)
    (case l3 => k_is)
    (case c3 => k_is)
    (case k3 => k_is)
    (case a4 => k_is)
    (case l4 => k_is)
    (case c4 => k_is)
    (case k4 => k_is)
    (case a5 => k_is)
    (case l5 => k_is)
    (case c5 => k_is)
    (case k5 => k_is)
    (case a6 => k_is)
    (case l6 => k_is)
    (case c6 => k_is)
    (case k6 => k_is)
    (case a7 => k_is)
    (case l7 => k_is)
    (case c7 => k_is)
    (case k7 => k_is)
    (case a8 => k_is)
    (case l8 => k_is)
    (case c8 => k_is)
    (case k8 => k_is)
    (case a9 => k_is)
    (case l9 => k_is)
    (case c9 => k_is)
    (case k9 => k_is)
    (case a10 => k_is)
    (case l10 => k_is)
    (case c10 => k_is)
    (case k10 => k_is)
    (case a11 => k_is)
    (case l11 => k_is)
    (case c11 => k_is)
    (case k11 => k_is)
    (case a12 => k_is)
    (case l12 => k_is)
    (case c12 => k_is)
    (case k12 => k_is)
    (case a13 => k_is)
    (case l13 => k_is)
    (case c13 => k_is)
    (case k13 => k_is)
    (case a14 => k_is)
    (case l14 => k_is)
    (case c14 => k_is)
    (case k14 => k_is)
    (case a15 => k_is)
    (case l15 => k_is)
    (case c15 => k_is)
    (case k15 => k_is)
    (case a16 => k_is)
    (case l16 => k_is)
    (case c16 => k_is)
    (case k16 => k_is)
    (case a17 => k_is)
    (case l17 => k_is)
    (case c17 => k_is)
    (case k17 => k_is)
    (case z0 => k_is)
    (case z1 => k_is)
    (case z2 => k_is)
    (case z3 => k_is)
    (case z4 => k_is)
    (case z5 => k_is)
    (case z6 => k_is)
    (case z7 => k_is)
    (case z8 => k_is)
    (case z9 => k_is)
    (case z10 => k_is)
    (case z11 => k_is)
    (case z12 => k_is)
    (case z13 => k_is)
    (case z14 => k_is)
    (case z15 => k_is)
    (case z16 => k_is)
    (case z17 => k_is)
    (case z18 => k_is)